import PyProof.Rows.All
import Wide.All
import OpenK.AllK
import Wide.FinOn
import HandS.ForMost
import HandS.ForExc
import HandS.Flow
import HandS.IsInst
import HandS.TryOnly
import HandS.Wide
import KE.DataCmp
import HandS.Conv
import HandS.CallSlots
import HandS.Star
import HandS.Ends
import HandS.ExcIs
import KE.SortData
import HandS.Style
import HandS.Defaults
import HandS.Head0
import HandS.Head1
import HandS.Head2
import HandS.HeadEnd
import HandS.HeadHook1
import HandS.HeadHook2
import KE.KExcIs
import HandS.ExcField
import PySem.Challenge.RW_promiseshapes_k26_promise_parts
set_option Elab.async false
set_option linter.all false
set_option maxRecDepth 100000
set_option maxHeartbeats 0
namespace DL
open PySem PySem.Spec PyProof.Rows L2

/-- the classes: where they stand, the names of their instances' attributes in the order of the stores -/
abbrev CEnv := Nat → Addr × List Str
/-- data: immutable trees; cell k: the k-th mutable object -/
inductive D where
  | non | bl (b : Bool) | int (i : Int) | str (x : Str)
  | tup (xs : List D) | lst (xs : List D)
  | ins (C : Nat) (xs : List D)
  | cell (k : Nat) | cls (C : Nat) | ty (n : String)
  | rol (xs : List D)
  | exn (a : Addr) (dx : Option Addr) (C : Nat) (xs : List D)

inductive Cell where
  | lst (xs : List D) | ins (C : Nat) (xs : List D) | dead
abbrev Cells := List Cell

inductive Out (α : Type) where
  | ok (a : α) (c : Cells)
  | exc (C : Nat) (xs : List D) (c : Cells)
  | bad
abbrev M (α : Type) := Cells → Out α
def ret {α : Type} (a : α) : M α := fun c => .ok a c
def stuck {α : Type} : M α := fun _ => .bad
def Out.bnd {α β : Type} (o : Out α) (f : α → M β) : Out β := match o with
  | .ok a c => f a c
  | .exc C xs c => .exc C xs c
  | .bad => .bad
def bnd {α β : Type} (m : M α) (f : α → M β) : M β := fun c => (m c).bnd f

/-- a name's slot: unknown; a value; an object of one's own that nobody else knows; the object that an __init__ makes -/
inductive Slot where
  | un | sh (d : D) | own (o : Cell) | slf (a : Addr) (C : Nat) (xs : List D)
def Slot.hid : Slot → Option Cell
  | .own o => some o
  | .slf _ C xs => some (.ins C xs)
  | _ => none
abbrev Ev' := List Slot
abbrev EM := Ev' → M D
abbrev TM := Ev' → M Bool

inductive Res where
  | nx (δ : Ev') (c : Cells) | rt (d : D) (c : Cells) | bk (δ : Ev') (c : Cells) | ct (δ : Ev') (c : Cells)
  | exc (C : Nat) (xs : List D) (δ : Ev') (c : Cells)
  | bad
abbrev SM := Ev' → Cells → Res

/-- ghosts: what is frozen; where the cells stand -/
structure Gh where
  F : Addr → Prop
  am : List Addr

section
variable (CE : CEnv) (K : PySem.W.Frag)

mutual
def Rep (g : Gh) (H : Hp) : D → V → Prop
  | .non, v => v = .non
  | .bl b, v => v = .bl b
  | .int i, v => v = .int i
  | .str x, v => v = .str x
  | .tup ds, v => ∃ a vs, v = .ref a ∧ SqT K H a vs ∧ ds.length ≤ sizeLine ∧ Reps g H ds vs
  | .lst ds, v => ∃ a vs, v = .ref a ∧ g.F a ∧ H a = some (.lst vs) ∧ ds.length ≤ sizeLine ∧ Reps g H ds vs
  | .rol ds, v => ∃ a vs, v = .ref a ∧ ((∃ o, H a = some (.frz o (.lst vs))) ∨ (∀ H', SqL K H' a vs)) ∧ ds.length ≤ sizeLine ∧ Reps g H ds vs
  | .ins C ds, v => ∃ a dx vs, v = .ref a ∧ g.F a ∧ H a = some (.ins (CE C).1 dx ((CE C).2.zip vs)) ∧ ds.length ≤ (CE C).2.length ∧ Reps g H ds vs
  | .cell k, v => ∃ a, v = .ref a ∧ g.am[k]? = some a
  | .exn a dx C ds, v => v = .ref a ∧ ∃ vs, (dx = none ∧ ds = [] ∨ ∃ d, dx = some d ∧ g.F d ∧ H d = some (.xd ((CE C).2.zip vs)) ∧ ds.length ≤ (CE C).2.length) ∧ Reps g H ds vs
  | .cls C, v => v = .ref (CE C).1
  | .ty n, v => v = .ty n
def Reps (g : Gh) (H : Hp) : List D → List V → Prop
  | [], vs => vs = []
  | d :: ds, vs => ∃ v r, vs = v :: r ∧ Rep g H d v ∧ Reps g H ds r
end

/-- a mutable object -/
def CellAt (g : Gh) (H : Hp) (a : Addr) : Cell → Prop
  | .lst ds => ∃ vs, H a = some (.lst vs) ∧ ds.length ≤ sizeLine ∧ Reps CE K g H ds vs
  | .ins C ds => ∃ dx vs, H a = some (.ins (CE C).1 dx ((CE C).2.zip vs)) ∧ ds.length ≤ (CE C).2.length ∧ Reps CE K g H ds vs
  | .dead => True

/-- a cell that lives at a -/
def Live (g : Gh) (c : Cells) (a : Addr) : Prop := ∃ (k : Nat) (x : Cell), g.am[k]? = some a ∧ c[k]? = some x ∧ x ≠ Cell.dead

structure SOk (g : Gh) (H : Hp) (c : Cells) : Prop where
  len : g.am.length = c.length
  nd : g.am.Nodup
  nF : ∀ a, Live g c a → ¬ g.F a
  cl : ∀ (k : Nat) (a : Addr) (x : Cell), g.am[k]? = some a → c[k]? = some x → CellAt CE K g H a x
  tr : ∀ a, g.F a → H a ≠ none
  tA : ∀ a ∈ g.am, H a ≠ none

structure Ext (g : Gh) (H : Hp) (c : Cells) (g' : Gh) (H' : Hp) (c' : Cells) : Prop where
  fr : ∀ a, g.F a → g'.F a
  am : ∃ t, g'.am = g.am ++ t
  keep : ∀ a o, H a = some o → ¬ Live g c a → H' a = some o
  newF : ∀ a, g'.F a → g.F a ∨ H a = none ∨ a ∈ g.am
  newA : ∀ a, a ∈ g'.am → a ∈ g.am ∨ H a = none
  thr : ∀ a, H a ≠ none → H' a ≠ none
  dd : ∀ a, Live g' c' a → Live g c a ∨ H a = none

structure Post (g : Gh) (H : Hp) (c : Cells) (g' : Gh) (H' : Hp) (c' : Cells) : Prop where
  ext : Ext g H c g' H' c'
  ok : SOk CE K g' H' c'
end

section
variable {CE : CEnv} {K : PySem.W.Frag} {g g' g'' : Gh} {H H' H'' : Hp} {c c' c'' : Cells}

theorem Ext.refl : Ext g H c g H c := ⟨fun _ h => h, ⟨[], (List.append_nil _).symm⟩, fun _ _ h _ => h, fun _ h => .inl h, fun _ h => .inl h, fun _ h => h, fun _ h => .inl h⟩
theorem Ext.trans (a : Ext g H c g' H' c') (b : Ext g' H' c' g'' H'' c'') : Ext g H c g'' H'' c'' where
  fr := fun x h => b.fr x (a.fr x h)
  am := by
    obtain ⟨t, e⟩ := a.am
    obtain ⟨u, e'⟩ := b.am
    exact ⟨t ++ u, by rw [e', e, List.append_assoc]⟩
  keep := fun x o h n => b.keep x o (a.keep x o h n) fun l => by
    rcases a.dd x l with l | l
    · exact n l
    · rw [h] at l; cases l
  newF := fun x h => by
    rcases b.newF x h with h | h | h
    · exact a.newF x h
    · cases e : H x with
      | none => exact .inr (.inl rfl)
      | some o => exact absurd h (a.thr x (by rw [e]; simp))
    · rcases a.newA x h with h | h
      · exact .inr (.inr h)
      · exact .inr (.inl h)
  newA := fun x h => by
    rcases b.newA x h with h | h
    · exact a.newA x h
    · cases e : H x with
      | none => exact .inr rfl
      | some o => exact absurd h (a.thr x (by rw [e]; simp))
  thr := fun x h => b.thr x (a.thr x h)
  dd := fun x l => by
    rcases b.dd x l with l | l
    · exact a.dd x l
    · cases e : H x with
      | none => exact .inr rfl
      | some o => exact absurd l (a.thr x (by rw [e]; simp))
theorem Post.trans (a : Post CE K g H c g' H' c') (b : Post CE K g' H' c' g'' H'' c'') : Post CE K g H c g'' H'' c'' := ⟨a.ext.trans b.ext, b.ok⟩
theorem Post.refl (h : SOk CE K g H c) : Post CE K g H c g H c := ⟨Ext.refl, h⟩

theorem am_get (h : Ext g H c g' H' c') {k : Nat} {a : Addr} (e : g.am[k]? = some a) : g'.am[k]? = some a := by
  obtain ⟨t, e'⟩ := h.am
  rw [e', List.getElem?_append_left (List.getElem?_eq_some_iff.mp e).1]
  exact e

/-- a frozen object is no living cell -/
theorem SOk.notLive (s : SOk CE K g H c) {a : Addr} (h : g.F a) : ¬ Live g c a := fun l => s.nF a l h
theorem SOk.live_lst (s : SOk CE K g H c) {a : Addr} (l : Live g c a) : (∃ vs, H a = some (.lst vs)) ∨ ∃ C dx fs, H a = some (.ins C dx fs) := by
  obtain ⟨k, x, h1, h2, h3⟩ := l
  have q := s.cl k a x h1 h2
  cases x with
  | lst ds => obtain ⟨vs, e, _⟩ := q; exact .inl ⟨vs, e⟩
  | ins C ds => obtain ⟨dx, vs, e, _⟩ := q; exact .inr ⟨_, _, _, e⟩
  | dead => exact absurd rfl h3
/-- what data lean on stays -/
structure RK (g : Gh) (H : Hp) (g' : Gh) (H' : Hp) : Prop where
  fr : ∀ a, g.F a → g'.F a
  am : ∀ (k : Nat) (a : Addr), g.am[k]? = some a → g'.am[k]? = some a
  F : ∀ a, g.F a → H' a = H a
  tup : ∀ a xs, H a = some (.tup xs) → H' a = some (.tup xs)
  frz : ∀ a o u, H a = some (.frz o u) → H' a = some (.frz o u)
theorem Ext.rk (s : SOk CE K g H c) (x : Ext g H c g' H' c') : RK g H g' H' := ⟨x.fr, fun _ _ e => am_get x e, fun a h => by
    cases e : H a with
    | none => exact absurd e (s.tr a h)
    | some o => exact x.keep a o e (s.notLive h),
  fun a xs h => x.keep a _ h fun l => by rcases s.live_lst l with ⟨_, e⟩ | ⟨_, _, _, e⟩ <;> (rw [h] at e; cases e),
  fun a o u h => x.keep a _ h fun l => by rcases s.live_lst l with ⟨_, e⟩ | ⟨_, _, _, e⟩ <;> (rw [h] at e; cases e)⟩
theorem SqT.rk (x : RK g H g' H') {a : Addr} {vs : List V} (h : SqT K H a vs) : SqT K H' a vs := by
  rcases h with (h | ⟨o, h⟩) | h
  · exact .inl (.inl (x.tup a _ h))
  · exact .inl (.inr ⟨o, x.frz a _ _ h⟩)
  · exact .inr h
theorem SqT.keep (s : SOk CE K g H c) (x : Ext g H c g' H' c') {a : Addr} {vs : List V} (h : SqT K H a vs) : SqT K H' a vs := SqT.rk (x.rk s) h
mutual
theorem Rep.rk (x : RK g H g' H') : ∀ {d : D} {v : V}, Rep CE K g H d v → Rep CE K g' H' d v
  | .non, _, h => by simpa only [Rep] using h
  | .bl _, _, h => by simpa only [Rep] using h
  | .int _, _, h => by simpa only [Rep] using h
  | .str _, _, h => by simpa only [Rep] using h
  | .cls _, _, h => by simpa only [Rep] using h
  | .ty _, _, h => by simpa only [Rep] using h
  | .tup ds, _, h => by
    simp only [Rep] at h ⊢
    obtain ⟨a, vs, rfl, q, z, r⟩ := h
    exact ⟨a, vs, rfl, SqT.rk x q, z, Reps.rk x r⟩
  | .lst ds, _, h => by
    simp only [Rep] at h ⊢
    obtain ⟨a, vs, rfl, f, q, z, r⟩ := h
    exact ⟨a, vs, rfl, x.fr a f, (x.F a f).trans q, z, Reps.rk x r⟩
  | .rol ds, _, h => by
    simp only [Rep] at h ⊢
    obtain ⟨a, vs, rfl, q, z, r⟩ := h
    exact ⟨a, vs, rfl, q.elim (fun ⟨o, q⟩ => .inl ⟨o, x.frz a _ _ q⟩) .inr, z, Reps.rk x r⟩
  | .ins C ds, _, h => by
    simp only [Rep] at h ⊢
    obtain ⟨a, dx, vs, rfl, f, q, hl, r⟩ := h
    exact ⟨a, dx, vs, rfl, x.fr a f, (x.F a f).trans q, hl, Reps.rk x r⟩
  | .cell k, _, h => by
    simp only [Rep] at h ⊢
    obtain ⟨a, rfl, e⟩ := h
    exact ⟨a, rfl, x.am k a e⟩
  | .exn a dx C ds, _, h => by
    simp only [Rep] at h ⊢
    obtain ⟨e, vs, q, r⟩ := h
    exact ⟨e, vs, q.elim .inl fun ⟨d, e1, f, e2, l⟩ => .inr ⟨d, e1, x.fr d f, (x.F d f).trans e2, l⟩, Reps.rk x r⟩
theorem Reps.rk (x : RK g H g' H') : ∀ {ds : List D} {vs : List V}, Reps CE K g H ds vs → Reps CE K g' H' ds vs
  | [], _, h => by simpa only [Reps] using h
  | d :: ds, _, h => by
    simp only [Reps] at h ⊢
    obtain ⟨v, r, rfl, h1, h2⟩ := h
    exact ⟨v, r, rfl, Rep.rk x h1, Reps.rk x h2⟩
end
theorem Rep.mono (s : SOk CE K g H c) (x : Ext g H c g' H' c') {d : D} {v : V} (h : Rep CE K g H d v) : Rep CE K g' H' d v := Rep.rk (x.rk s) h
theorem Reps.mono (s : SOk CE K g H c) (x : Ext g H c g' H' c') {ds : List D} {vs : List V} (h : Reps CE K g H ds vs) : Reps CE K g' H' ds vs := Reps.rk (x.rk s) h
/-- an object that nobody knows is changed -/
theorem RK.hid {a : Addr} {xs ys : List V} (h : H a = some (.lst xs)) (n : ¬ g.F a) : RK g H g (upd H a (.lst ys)) := ⟨fun _ h => h, fun _ _ h => h,
  fun b hb => upd_ne fun e => n (e ▸ hb), fun b zs e => by rw [upd_ne (fun z => by rw [z, h] at e; cases e)]; exact e, fun b o u e => by rw [upd_ne (fun z => by rw [z, h] at e; cases e)]; exact e⟩
theorem RK.hidI {a C dx : Addr} {fs gs : List (Str × V)} (h : H a = some (.ins C dx fs)) (n : ¬ g.F a) : RK g H g (upd H a (.ins C dx gs)) := ⟨fun _ h => h, fun _ _ h => h,
  fun b hb => upd_ne fun e => n (e ▸ hb), fun b zs e => by rw [upd_ne (fun z => by rw [z, h] at e; cases e)]; exact e, fun b o u e => by rw [upd_ne (fun z => by rw [z, h] at e; cases e)]; exact e⟩
/-- a state behind the change of what nobody knows -/
theorem SOk.hid (s : SOk CE K g H c) {a : Addr} {o : HO} (x : RK g H g (upd H a o)) (na : a ∉ g.am) : SOk CE K g (upd H a o) c where
  len := s.len
  nd := s.nd
  nF := s.nF
  cl := fun k b y h1 h2 => by
    have q := s.cl k b y h1 h2
    have ne : b ≠ a := fun e => na (e ▸ List.mem_of_getElem? h1)
    cases y with
    | lst ds =>
      obtain ⟨vs, e, z, r⟩ := q
      exact ⟨vs, (upd_ne ne).trans e, z, Reps.rk x r⟩
    | ins C ds =>
      obtain ⟨dx, vs, e, z, r⟩ := q
      exact ⟨dx, vs, (upd_ne ne).trans e, z, Reps.rk x r⟩
    | dead => trivial
  tr := fun b h => by
    unfold upd; split
    · simp
    · exact s.tr b h
  tA := fun b h => by
    unfold upd; split
    · simp
    · exact s.tA b h
theorem Reps.length : ∀ {ds : List D} {vs : List V}, Reps CE K g H ds vs → vs.length = ds.length
  | [], _, h => by simp only [Reps] at h; rw [h]; rfl
  | d :: ds, _, h => by
    simp only [Reps] at h
    obtain ⟨v, r, rfl, _, h2⟩ := h
    rw [List.length_cons, List.length_cons, Reps.length h2]
theorem Reps.get : ∀ {ds : List D} {vs : List V} {i : Nat} {d : D}, Reps CE K g H ds vs → ds[i]? = some d → ∃ v, vs[i]? = some v ∧ Rep CE K g H d v
  | [], _, _, _, _, e => by simp at e
  | d :: ds, _, 0, _, h, e => by
    simp only [Reps] at h
    obtain ⟨v, r, rfl, h1, h2⟩ := h
    cases e
    exact ⟨v, rfl, h1⟩
  | d :: ds, _, i + 1, _, h, e => by
    simp only [Reps] at h
    obtain ⟨v, r, rfl, h1, h2⟩ := h
    obtain ⟨u, e1, e2⟩ := Reps.get (i := i) h2 (by simpa using e)
    exact ⟨u, by simpa using e1, e2⟩
theorem Reps.append : ∀ {ds es : List D} {vs ws : List V}, Reps CE K g H ds vs → Reps CE K g H es ws → Reps CE K g H (ds ++ es) (vs ++ ws)
  | [], _, _, _, h, h' => by simp only [Reps] at h; subst h; simpa using h'
  | d :: ds, _, _, _, h, h' => by
    simp only [Reps, List.cons_append] at h ⊢
    obtain ⟨v, r, rfl, h1, h2⟩ := h
    exact ⟨v, r ++ _, rfl, h1, Reps.append h2 h'⟩
theorem Reps.one {d : D} {v : V} (h : Rep CE K g H d v) : Reps CE K g H [d] [v] := by simp only [Reps]; exact ⟨v, [], rfl, h, rfl⟩
theorem Reps.cons {d : D} {v : V} {ds : List D} {vs : List V} (h : Rep CE K g H d v) (t : Reps CE K g H ds vs) : Reps CE K g H (d :: ds) (v :: vs) := by simp only [Reps]; exact ⟨v, vs, rfl, h, t⟩
theorem Reps.nil : Reps CE K g H [] [] := by simp only [Reps]
theorem Reps.set : ∀ {ds : List D} {vs : List V} {d : D} {v : V} (i : Nat), Reps CE K g H ds vs → Rep CE K g H d v → Reps CE K g H (ds.set i d) (vs.set i v)
  | [], _, _, _, _, h, _ => by simp only [Reps] at h; subst h; simp [Reps]
  | d :: ds, _, _, _, 0, h, h' => by
    simp only [Reps, List.set_cons_zero] at h ⊢
    obtain ⟨v, r, rfl, h1, h2⟩ := h
    exact ⟨_, r, rfl, h', h2⟩
  | d :: ds, _, _, _, i + 1, h, h' => by
    simp only [Reps, List.set_cons_succ] at h ⊢
    obtain ⟨v, r, rfl, h1, h2⟩ := h
    exact ⟨v, _, rfl, h1, Reps.set i h2 h'⟩
theorem Reps.drop : ∀ {ds : List D} {vs : List V} (n : Nat), Reps CE K g H ds vs → Reps CE K g H (ds.drop n) (vs.drop n)
  | _, _, 0, h => by simpa using h
  | [], _, n + 1, h => by simp only [Reps] at h; subst h; simp [Reps]
  | d :: ds, _, n + 1, h => by
    simp only [Reps] at h
    obtain ⟨v, r, rfl, h1, h2⟩ := h
    simpa using Reps.drop n h2
theorem Reps.take : ∀ {ds : List D} {vs : List V} (n : Nat), Reps CE K g H ds vs → Reps CE K g H (ds.take n) (vs.take n)
  | _, _, 0, h => by simp [Reps]
  | [], _, n + 1, h => by simp only [Reps] at h; subst h; simp [Reps]
  | d :: ds, _, n + 1, h => by
    simp only [Reps] at h
    obtain ⟨v, r, rfl, h1, h2⟩ := h
    simpa using Reps.cons h1 (Reps.take n h2)
theorem CellAt.mono (s : SOk CE K g H c) (x : Ext g H c g' H' c') {a : Addr} {o : Cell} (h : CellAt CE K g H a o) (n : ¬ Live g c a) : CellAt CE K g' H' a o := by
  cases o with
  | lst ds => obtain ⟨vs, e, z, r⟩ := h; exact ⟨vs, x.keep a _ e n, z, Reps.mono s x r⟩
  | ins C ds => obtain ⟨dx, vs, e, l, r⟩ := h; exact ⟨dx, vs, x.keep a _ e n, l, Reps.mono s x r⟩
  | dead => trivial

/-- the slots -/
structure EnvR (CE : CEnv) (K : PySem.W.Frag) (g : Gh) (H : Hp) (σ : L2.St) (δ : Ev') : Prop where
  len : σ.length = δ.length
  sh : ∀ (i : Nat) (d : D), δ[i]? = some (Slot.sh d) → ∃ v, σ[i]? = some (some v) ∧ Rep CE K g H d v
  own : ∀ (i : Nat) (s : Slot) (o : Cell), δ[i]? = some s → s.hid = some o → ∃ a : Addr, σ[i]? = some (some (V.ref a)) ∧ ¬ g.F a ∧ a ∉ g.am ∧ o ≠ .dead ∧ CellAt CE K g H a o ∧
    ∀ (j : Nat) (s' : Slot) (o' : Cell), δ[j]? = some s' → s'.hid = some o' → σ[j]? = some (some (V.ref a)) → j = i
  slf : ∀ (i : Nat) (a : Addr) (C : Nat) (xs : List D), δ[i]? = some (Slot.slf a C xs) → σ[i]? = some (some (V.ref a))
theorem cell_there {a : Addr} {o : Cell} (h : CellAt CE K g H a o) (n : o ≠ .dead) : H a ≠ none := by
  cases o with
  | lst ds => obtain ⟨vs, e, r⟩ := h; rw [e]; simp
  | ins C ds => obtain ⟨dx, vs, e, l, r⟩ := h; rw [e]; simp
  | dead => exact absurd rfl n
theorem EnvR.mono (s : SOk CE K g H c) (x : Ext g H c g' H' c') {σ : L2.St} {δ : Ev'} (h : EnvR CE K g H σ δ) : EnvR CE K g' H' σ δ where
  len := h.len
  sh := fun i d e => let ⟨v, e1, r⟩ := h.sh i d e; ⟨v, e1, Rep.mono s x r⟩
  own := fun i t o e eo => by
    obtain ⟨a, e1, nf, na, nd, ca, un⟩ := h.own i t o e eo
    have ht := cell_there ca nd
    refine ⟨a, e1, fun z => ?_, fun z => ?_, nd, CellAt.mono s x ca fun ⟨k, y, h1, _⟩ => na (List.mem_of_getElem? h1), un⟩
    · rcases x.newF a z with z | z | z
      · exact nf z
      · exact ht z
      · exact na z
    · rcases x.newA a z with z | z
      · exact na z
      · exact ht z
  slf := h.slf

theorem mem_am_ne (s : SOk CE K g H c) {p : Addr} (hp : H p = none) : p ∉ g.am := fun h => s.tA p h hp
theorem SOk.of (s : SOk CE K g H c) (x : Ext g H c g' H' c) (ha : g'.am = g.am) (hF : ∀ a, Live g c a → ¬ g'.F a) (hl : ∀ a, Live g c a → H' a = H a) (tr : ∀ a, g'.F a → H' a ≠ none) : SOk CE K g' H' c where
  len := by rw [ha]; exact s.len
  nd := by rw [ha]; exact s.nd
  nF := fun a l => hF a (by
    obtain ⟨k, y, h1, h2, h3⟩ := l
    exact ⟨k, y, by rw [ha] at h1; exact h1, h2, h3⟩)
  cl := fun k a y h1 h2 => by
    rw [ha] at h1
    have q := s.cl k a y h1 h2
    cases y with
    | lst ds =>
      obtain ⟨vs, e, z, r⟩ := q
      exact ⟨vs, (hl a ⟨k, _, h1, h2, by simp⟩).trans e, z, Reps.mono s x r⟩
    | ins C ds =>
      obtain ⟨dx, vs, e, z, r⟩ := q
      exact ⟨dx, vs, (hl a ⟨k, _, h1, h2, by simp⟩).trans e, z, Reps.mono s x r⟩
    | dead => trivial
  tr := tr
  tA := fun a h => by rw [ha] at h; exact x.thr a (s.tA a h)
theorem live_ne (s : SOk CE K g H c) {p a : Addr} (hp : H p = none) (l : Live g c a) : a ≠ p := fun e => by
  obtain ⟨k, y, h1, _⟩ := l
  exact s.tA a (List.mem_of_getElem? h1) (e ▸ hp)
theorem upd_thr {p : Addr} {o : HO} {a : Addr} (h : H a ≠ none) : upd H p o a ≠ none := by
  unfold upd; split
  · simp
  · exact h
/-- a new object that stays as it is: a tuple, or whatever is frozen at once (F tells which) -/
theorem Post.new (s : SOk CE K g H c) {p : Addr} (hp : H p = none) (o : HO) : Post CE K g H c ⟨fun a => g.F a ∨ a = p, g.am⟩ (upd H p o) c := by
  have x : Ext g H c ⟨fun a => g.F a ∨ a = p, g.am⟩ (upd H p o) c := ⟨fun _ h => .inl h, ⟨[], (List.append_nil _).symm⟩, fun a o' h _ => by rw [upd_ne (ne_of_none h hp)]; exact h,
    fun a h => h.elim .inl fun e => .inr (.inl (e ▸ hp)), fun _ h => .inl h, fun a h => upd_thr h, fun a l => .inl l⟩
  refine ⟨x, s.of x rfl (fun a l h => ?_) (fun a l => upd_ne (live_ne s hp l)) fun a h => ?_⟩
  · rcases h with h | h
    · exact s.nF a l h
    · exact live_ne s hp l h
  · rcases h with h | h
    · exact upd_thr (s.tr a h)
    · rw [h, upd_same]; simp
/-- a new object that nobody may freeze (one's own) -/
theorem Post.hid (s : SOk CE K g H c) {p : Addr} (hp : H p = none) (o : HO) : Post CE K g H c g (upd H p o) c := by
  have x : Ext g H c g (upd H p o) c := ⟨fun _ h => h, ⟨[], (List.append_nil _).symm⟩, fun a o' h _ => by rw [upd_ne (ne_of_none h hp)]; exact h,
    fun a h => .inl h, fun _ h => .inl h, fun a h => upd_thr h, fun a l => .inl l⟩
  exact ⟨x, s.of x rfl (fun a l h => s.nF a l h) (fun a l => upd_ne (live_ne s hp l)) fun a h => upd_thr (s.tr a h)⟩
theorem nodup_get : ∀ {l : List Addr}, l.Nodup → ∀ {i j : Nat} {a : Addr}, l[i]? = some a → l[j]? = some a → i = j
  | [], _, i, _, _, h, _ => by simp at h
  | x :: l, hn, 0, 0, _, _, _ => rfl
  | x :: l, hn, 0, j + 1, a, h1, h2 => by
    simp at h1 h2
    subst h1
    exact absurd (List.mem_of_getElem? h2) (List.nodup_cons.mp hn).1
  | x :: l, hn, i + 1, 0, a, h1, h2 => by
    simp at h1 h2
    subst h2
    exact absurd (List.mem_of_getElem? h1) (List.nodup_cons.mp hn).1
  | x :: l, hn, i + 1, j + 1, a, h1, h2 => by
    simp at h1 h2
    rw [nodup_get (List.nodup_cons.mp hn).2 h1 h2]
/-- a new cell -/
theorem Post.newCell (s : SOk CE K g H c) {p : Addr} (hp : H p = none) {o : HO} {x : Cell} (q : ∀ g' H' , Ext g H c g' H' (c ++ [x]) → H' p = some o → CellAt CE K g' H' p x) : Post CE K g H c ⟨g.F, g.am ++ [p]⟩ (upd H p o) (c ++ [x]) := by
  have lv : ∀ a, Live ⟨g.F, g.am ++ [p]⟩ (c ++ [x]) a → Live g c a ∨ a = p := fun a ⟨k, y, h1, h2, h3⟩ => by
    by_cases hk : k < g.am.length
    · rw [List.getElem?_append_left hk] at h1
      rw [List.getElem?_append_left (by rw [← s.len]; exact hk)] at h2
      exact .inl ⟨k, y, h1, h2, h3⟩
    · rw [List.getElem?_append_right (by omega)] at h1
      have := List.getElem?_eq_some_iff.mp h1
      obtain ⟨hh, e⟩ := this
      simp only [List.length_singleton, Nat.lt_one_iff] at hh
      simp only [hh, List.getElem_cons_zero] at e
      exact .inr e.symm
  have xt : Ext g H c ⟨g.F, g.am ++ [p]⟩ (upd H p o) (c ++ [x]) := ⟨fun _ h => h, ⟨[p], rfl⟩, fun a o' h _ => by rw [upd_ne (ne_of_none h hp)]; exact h,
    fun a h => .inl h, fun a h => (List.mem_append.mp h).elim .inl fun h => .inr (by simp at h; rw [h]; exact hp), fun a h => upd_thr h, fun a l => (lv a l).imp id fun e => by rw [e]; exact hp⟩
  refine ⟨xt, ⟨by simp [s.len], ?_, fun a l h => ?_, fun k a y h1 h2 => ?_, fun a h => upd_thr (s.tr a h), fun a h => ?_⟩⟩
  · refine List.nodup_append.mpr ⟨s.nd, by simp, fun a ha b hb e => ?_⟩
    simp at hb
    exact mem_am_ne s hp (hb ▸ e ▸ ha)
  · rcases lv a l with l | e
    · exact s.nF a l h
    · exact s.tr a h (e ▸ hp)
  · by_cases hk : k < g.am.length
    · simp only [List.getElem?_append_left hk] at h1
      rw [List.getElem?_append_left (by rw [← s.len]; exact hk)] at h2
      have q' := s.cl k a y h1 h2
      have ne : a ≠ p := fun e => mem_am_ne s hp (e ▸ List.mem_of_getElem? h1)
      cases y with
      | lst ds =>
        obtain ⟨vs, e, z, r⟩ := q'
        exact ⟨vs, by rw [upd_ne ne]; exact e, z, Reps.mono s xt r⟩
      | ins C ds =>
        obtain ⟨dx, vs, e, z, r⟩ := q'
        exact ⟨dx, vs, by rw [upd_ne ne]; exact e, z, Reps.mono s xt r⟩
      | dead => trivial
    · simp only [List.getElem?_append_right (show g.am.length ≤ k by omega)] at h1
      rw [List.getElem?_append_right (by have := s.len; omega), ← s.len] at h2
      obtain ⟨hh, e⟩ := List.getElem?_eq_some_iff.mp h1
      simp only [List.length_singleton, Nat.lt_one_iff] at hh
      simp only [hh, List.getElem_cons_zero] at e
      simp only [hh] at h2
      cases h2
      subst e
      exact q _ _ xt upd_same
  · rcases List.mem_append.mp h with h | h
    · exact upd_thr (s.tA a h)
    · simp at h
      rw [h, upd_same]; simp
/-- a cell is changed -/
theorem Post.setCell (s : SOk CE K g H c) {k : Nat} {a : Addr} {y x : Cell} {o : HO} (h1 : g.am[k]? = some a) (h2 : c[k]? = some y) (h3 : y ≠ .dead) (h4 : x ≠ .dead)
    (q : ∀ H', Ext g H c g H' (c.set k x) → H' a = some o → CellAt CE K g H' a x) : Post CE K g H c g (upd H a o) (c.set k x) := by
  have la : Live g c a := ⟨k, y, h1, h2, h3⟩
  have hk : k < c.length := (List.getElem?_eq_some_iff.mp h2).1
  have lv : ∀ b, Live g (c.set k x) b → Live g c b := fun b ⟨j, z, e1, e2, e3⟩ => by
    by_cases hj : j = k
    · subst hj
      rw [h1] at e1; cases e1
      exact la
    · rw [List.getElem?_set_ne (Ne.symm hj)] at e2
      exact ⟨j, z, e1, e2, e3⟩
  have xt : Ext g H c g (upd H a o) (c.set k x) := ⟨fun _ h => h, ⟨[], (List.append_nil _).symm⟩, fun b o' h n => by rw [upd_ne (fun e => n (by rw [e]; exact la))]; exact h,
    fun a h => .inl h, fun a h => .inl h, fun a h => upd_thr h, fun b l => .inl (lv b l)⟩
  refine ⟨xt, ⟨by simp [s.len], s.nd, fun b l h => s.nF b (lv b l) h, fun j b z e1 e2 => ?_, fun b h => upd_thr (s.tr b h), fun b h => upd_thr (s.tA b h)⟩⟩
  by_cases hj : j = k
  · subst hj
    rw [h1] at e1; cases e1
    rw [List.getElem?_set_self hk] at e2
    cases e2
    exact q _ xt upd_same
  · rw [List.getElem?_set_ne (Ne.symm hj)] at e2
    have ne : b ≠ a := fun e => hj (nodup_get s.nd e1 (e ▸ h1))
    have q' := s.cl j b z e1 e2
    cases z with
    | lst ds =>
      obtain ⟨vs, e, z, r⟩ := q'
      exact ⟨vs, by rw [upd_ne ne]; exact e, z, Reps.mono s xt r⟩
    | ins C ds =>
      obtain ⟨dx, vs, e, z, r⟩ := q'
      exact ⟨dx, vs, by rw [upd_ne ne]; exact e, z, Reps.mono s xt r⟩
    | dead => trivial
/-- the addresses of the frame's own objects -/
def Own (σ : L2.St) (δ : Ev') (a : Addr) : Prop := ∃ (i : Nat) (t : Slot) (o : Cell), δ[i]? = some t ∧ t.hid = some o ∧ σ[i]? = some (some (V.ref a))
structure ExtO (O : Addr → Prop) (g : Gh) (H : Hp) (c : Cells) (g' : Gh) (H' : Hp) (c' : Cells) : Prop where
  fr : ∀ a, g.F a → g'.F a
  am : ∃ t, g'.am = g.am ++ t
  keep : ∀ a o, H a = some o → ¬ Live g c a → ¬ O a → H' a = some o
  tup : ∀ a xs, H a = some (.tup xs) → H' a = some (.tup xs)
  frz : ∀ a o u, H a = some (.frz o u) → H' a = some (.frz o u)
  newF : ∀ a, g'.F a → g.F a ∨ H a = none ∨ a ∈ g.am ∨ O a
  newA : ∀ a, a ∈ g'.am → a ∈ g.am ∨ H a = none ∨ O a
  thr : ∀ a, H a ≠ none → H' a ≠ none
  dd : ∀ a, Live g' c' a → Live g c a ∨ H a = none ∨ O a
theorem Ext.o {O : Addr → Prop} (s : SOk CE K g H c) (x : Ext g H c g' H' c') : ExtO O g H c g' H' c' :=
  ⟨x.fr, x.am, fun a o h n _ => x.keep a o h n, (x.rk s).tup, (x.rk s).frz, fun a h => (x.newF a h).imp id fun h => h.imp id .inl, fun a h => (x.newA a h).imp id .inl, x.thr, fun a h => (x.dd a h).imp id .inl⟩
theorem ExtO.trans {O O' : Addr → Prop} (x : ExtO O g H c g' H' c') (y : ExtO O' g' H' c' g'' H'' c'') (h : ∀ a, O' a → O a ∨ H a = none) : ExtO O g H c g'' H'' c'' where
  fr := fun a h => y.fr a (x.fr a h)
  am := by
    obtain ⟨t, e⟩ := x.am
    obtain ⟨u, e'⟩ := y.am
    exact ⟨t ++ u, by rw [e', e, List.append_assoc]⟩
  keep := fun a o e n no => y.keep a o (x.keep a o e n no) (fun l => by
    rcases x.dd a l with l | l | l
    · exact n l
    · rw [e] at l; cases l
    · exact no l) fun z => by
    rcases h a z with z | z
    · exact no z
    · rw [e] at z; cases z
  tup := fun a xs e => y.tup a xs (x.tup a xs e)
  frz := fun a o u e => y.frz a o u (x.frz a o u e)
  newF := fun a z => by
    rcases y.newF a z with z | z | z | z
    · exact x.newF a z
    · cases e : H a with
      | none => exact .inr (.inl rfl)
      | some o => exact absurd z (x.thr a (by rw [e]; simp))
    · rcases x.newA a z with z | z | z
      · exact .inr (.inr (.inl z))
      · exact .inr (.inl z)
      · exact .inr (.inr (.inr z))
    · rcases h a z with z | z
      · exact .inr (.inr (.inr z))
      · exact .inr (.inl z)
  newA := fun a z => by
    rcases y.newA a z with z | z | z
    · exact x.newA a z
    · cases e : H a with
      | none => exact .inr (.inl rfl)
      | some o => exact absurd z (x.thr a (by rw [e]; simp))
    · rcases h a z with z | z
      · exact .inr (.inr z)
      · exact .inr (.inl z)
  thr := fun a e => y.thr a (x.thr a e)
  dd := fun a l => by
    rcases y.dd a l with l | l | l
    · exact x.dd a l
    · cases e : H a with
      | none => exact .inr (.inl rfl)
      | some o => exact absurd l (x.thr a (by rw [e]; simp))
    · rcases h a l with z | z
      · exact .inr (.inr z)
      · exact .inr (.inl z)
theorem ExtO.none {O : Addr → Prop} (x : ExtO O g H c g' H' c') (h : ∀ a, ¬ O a) : Ext g H c g' H' c' :=
  ⟨x.fr, x.am, fun a o e n => x.keep a o e n (h a), fun a z => by
    rcases x.newF a z with z | z | z | z
    · exact .inl z
    · exact .inr (.inl z)
    · exact .inr (.inr z)
    · exact absurd z (h a), fun a z => by
    rcases x.newA a z with z | z | z
    · exact .inl z
    · exact .inr z
    · exact absurd z (h a), x.thr, fun a z => by
    rcases x.dd a z with z | z | z
    · exact .inl z
    · exact .inr z
    · exact absurd z (h a)⟩
/-- the data that are no object of the frame's own stay -/
theorem ExtO.rk {O : Addr → Prop} (s : SOk CE K g H c) (nO : ∀ a, O a → ¬ g.F a) (x : ExtO O g H c g' H' c') : RK g H g' H' := ⟨x.fr, fun k a e => by
    obtain ⟨t, e'⟩ := x.am
    rw [e', List.getElem?_append_left (List.getElem?_eq_some_iff.mp e).1]
    exact e, fun a h => by
    cases e : H a with
    | none => exact absurd e (s.tr a h)
    | some o => exact x.keep a o e (s.notLive h) fun z => nO a z h, x.tup, x.frz⟩
theorem EnvR.ownF {σ : L2.St} {δ : Ev'} (er : EnvR CE K g H σ δ) {a : Addr} (h : Own σ δ a) : ¬ g.F a ∧ a ∉ g.am ∧ H a ≠ none := by
  obtain ⟨i, t, o, h1, h2, h3⟩ := h
  obtain ⟨a', e1, n1, n2, n3, n4, _⟩ := er.own i t o h1 h2
  rw [e1] at h3; cases h3
  exact ⟨n1, n2, cell_there n4 n3⟩
/-- the state behind a statement, seen from the one ahead of it -/
structure XS (CE : CEnv) (K : PySem.W.Frag) (g : Gh) (H : Hp) (c : Cells) (σ : L2.St) (δ : Ev') (g' : Gh) (H' : Hp) (c' : Cells) (σ' : L2.St) (δ' : Ev') : Prop where
  x : ExtO (Own σ δ) g H c g' H' c'
  ok : SOk CE K g' H' c'
  er : EnvR CE K g' H' σ' δ'
  sub : ∀ a, Own σ' δ' a → Own σ δ a ∨ H a = none
/-- .. behind a return -/
structure XR (CE : CEnv) (K : PySem.W.Frag) (g : Gh) (H : Hp) (c : Cells) (σ : L2.St) (δ : Ev') (g' : Gh) (H' : Hp) (c' : Cells) : Prop where
  x : ExtO (Own σ δ) g H c g' H' c'
  ok : SOk CE K g' H' c'
section
variable {σ σ' σ'' : L2.St} {δ δ' δ'' : Ev'}
theorem XS.of (ok : SOk CE K g H c) (er : EnvR CE K g H σ δ) (p : Post CE K g H c g' H' c') : XS CE K g H c σ δ g' H' c' σ δ := ⟨p.ext.o ok, p.ok, er.mono ok p.ext, fun _ h => .inl h⟩
theorem XR.of (ok : SOk CE K g H c) (p : Post CE K g H c g' H' c') : XR CE K g H c σ δ g' H' c' := ⟨p.ext.o ok, p.ok⟩
theorem XS.trans (a : XS CE K g H c σ δ g' H' c' σ' δ') (b : XS CE K g' H' c' σ' δ' g'' H'' c'' σ'' δ'') : XS CE K g H c σ δ g'' H'' c'' σ'' δ'' :=
  ⟨a.x.trans b.x a.sub, b.ok, b.er, fun z h => by
    rcases b.sub z h with h | h
    · exact a.sub z h
    · cases e : H z with
      | none => exact .inr rfl
      | some o => exact absurd h (a.x.thr z (by rw [e]; simp))⟩
theorem XS.ret (a : XS CE K g H c σ δ g' H' c' σ' δ') (b : XR CE K g' H' c' σ' δ' g'' H'' c'') : XR CE K g H c σ δ g'' H'' c'' := ⟨a.x.trans b.x a.sub, b.ok⟩
theorem XS.rep (ok : SOk CE K g H c) (er : EnvR CE K g H σ δ) (a : XS CE K g H c σ δ g' H' c' σ' δ') {d : D} {v : V} (h : Rep CE K g H d v) : Rep CE K g' H' d v := Rep.rk (a.x.rk ok fun _ z => (er.ownF z).1) h
theorem Own.set {i : Nat} {d : D} {v : Option V} {a : Addr} (h : Own (σ.set i v) (δ.set i (.sh d)) a) : Own σ δ a := by
  obtain ⟨j, t, o, h1, h2, h3⟩ := h
  by_cases hj : j = i
  · subst hj
    have hl : j < δ.length := by
      have := (List.getElem?_eq_some_iff.mp h1).1
      simpa using this
    rw [List.getElem?_set_self hl] at h1
    cases h1
    cases h2
  · rw [List.getElem?_set_ne (Ne.symm hj)] at h1 h3
    exact ⟨j, t, o, h1, h2, h3⟩
end
end
end DL

namespace DL
open PySem PySem.Spec PyProof.Rows L2

def wpo {α : Type} (o : Out α) (P : α → Cells → Prop) (E : Nat → List D → Cells → Prop) : Prop := match o with
  | .ok a c => P a c
  | .exc C xs c => E C xs c
  | .bad => False
theorem wpo_bnd {α β : Type} {o : Out α} {f : α → M β} {P : β → Cells → Prop} {E : Nat → List D → Cells → Prop} : wpo (o.bnd f) P E ↔ wpo o (fun a c => wpo (f a c) P E) E := by
  cases o <;> rfl
theorem wpo_mono {α : Type} {o : Out α} {P P' : α → Cells → Prop} {E E' : Nat → List D → Cells → Prop} (h : wpo o P E) (hp : ∀ a c, P a c → P' a c) (he : ∀ C xs c, E C xs c → E' C xs c) : wpo o P' E' := by
  cases o with
  | ok a c => exact hp a c h
  | exc C xs c => exact he C xs c h
  | bad => exact h

/-- an exception's fields: none without a dict of its own -/
def ExcAt (CE : CEnv) (K : PySem.W.Frag) (g : Gh) (H : Hp) (C : Nat) (xs : List D) : Option Addr → Prop
  | none => (CE C).2 = [] ∧ xs = []
  | some d => (CE C).2 ≠ [] ∧ g.F d ∧ ∃ vs, H d = some (.xd ((CE C).2.zip vs)) ∧ xs.length ≤ (CE C).2.length ∧ Reps CE K g H xs vs

section
variable (CE : CEnv) (K : PySem.W.Frag) (W : WX)
def EK (g : Gh) (H : Hp) (c : Cells) (σ : L2.St) : Nat → List D → Cells → Prop := fun C xs c' =>
  ∀ g' H' dx, Post CE K g H c g' H' c' → ExcAt CE K g' H' C xs dx → W (.ref (CE C).1) dx σ H'
/-- the reading of an expression by its mirror -/
def tD (m : EM) : TE := fun σ H Q => ∃ g c δ, SOk CE K g H c ∧ EnvR CE K g H σ δ ∧
  wpo (m δ c) (fun d c' => ∀ g' H' v, Post CE K g H c g' H' c' → Rep CE K g' H' d v → Q v H') (EK CE K W g H c σ)
def tDT (m : TM) : TT := fun σ H Q => ∃ g c δ, SOk CE K g H c ∧ EnvR CE K g H σ δ ∧
  wpo (m δ c) (fun b c' => ∀ g' H', Post CE K g H c g' H' c' → Q b H') (EK CE K W g H c σ)
def tDA (m : Ev' → M (List D)) : TA := fun σ H Q => ∃ g c δ, SOk CE K g H c ∧ EnvR CE K g H σ δ ∧
  wpo (m δ c) (fun ds c' => ∀ g' H' vs, Post CE K g H c g' H' c' → Reps CE K g' H' ds vs → Q vs H') (EK CE K W g H c σ)
end
def PD (X : Cx) (CE : CEnv) (W : WX) (e : Expr) (m : EM) : Prop := PE X e (tD CE X.K W m)
def PDT (X : Cx) (CE : CEnv) (W : WX) (e : Expr) (m : TM) : Prop := PT X e (tDT CE X.K W m)
def PDA (X : Cx) (CE : CEnv) (W : WX) (es : List Expr) (m : Ev' → M (List D)) : Prop := PA X es (tDA CE X.K W m)

theorem _root_.L2.PE.wk {X : Cx} {e : Expr} {t t' : TE} (h : PE X e t) (hw : ∀ σ H Q, t' σ H Q → t σ H Q) : PE X e t' := ⟨fun pins s σ H Q I q => h.run pins s σ H Q I (hw _ _ _ q)⟩
theorem _root_.L2.PT.wk {X : Cx} {e : Expr} {t t' : TT} (h : PT X e t) (hw : ∀ σ H Q, t' σ H Q → t σ H Q) : PT X e t' := ⟨fun pins s σ H Q I q => h.run pins s σ H Q I (hw _ _ _ q)⟩
theorem _root_.L2.PA.wk {X : Cx} {e : List Expr} {t t' : TA} (h : PA X e t) (hw : ∀ σ H Q, t' σ H Q → t σ H Q) : PA X e t' := ⟨fun pos pins s σ H Q I q => h.run pos pins s σ H Q I (hw _ _ _ q)⟩

section
variable {CE : CEnv} {K : PySem.W.Frag} {W : WX} {g : Gh} {H : Hp} {c : Cells} {δ : Ev'} {σ : L2.St}
theorem use {m : EM} {R : VK} {P : D → Cells → Prop} {E' : Nat → List D → Cells → Prop} (ok : SOk CE K g H c) (er : EnvR CE K g H σ δ) (h : wpo (m δ c) P E')
    (hP : ∀ d c', P d c' → ∀ g' H' v, Post CE K g H c g' H' c' → Rep CE K g' H' d v → R v H') (hE : ∀ C xs c', E' C xs c' → EK CE K W g H c σ C xs c') : tD CE K W m σ H R :=
  ⟨g, c, δ, ok, er, wpo_mono h hP hE⟩
theorem useT {m : TM} {R : Bool → Hp → Prop} {P : Bool → Cells → Prop} {E' : Nat → List D → Cells → Prop} (ok : SOk CE K g H c) (er : EnvR CE K g H σ δ) (h : wpo (m δ c) P E')
    (hP : ∀ b c', P b c' → ∀ g' H', Post CE K g H c g' H' c' → R b H') (hE : ∀ C xs c', E' C xs c' → EK CE K W g H c σ C xs c') : tDT CE K W m σ H R :=
  ⟨g, c, δ, ok, er, wpo_mono h hP hE⟩
theorem useA {m : Ev' → M (List D)} {R : List V → Hp → Prop} {P : List D → Cells → Prop} {E' : Nat → List D → Cells → Prop} (ok : SOk CE K g H c) (er : EnvR CE K g H σ δ) (h : wpo (m δ c) P E')
    (hP : ∀ ds c', P ds c' → ∀ g' H' vs, Post CE K g H c g' H' c' → Reps CE K g' H' ds vs → R vs H') (hE : ∀ C xs c', E' C xs c' → EK CE K W g H c σ C xs c') : tDA CE K W m σ H R :=
  ⟨g, c, δ, ok, er, wpo_mono h hP hE⟩
/-- an exception's wish, seen from an earlier state -/
theorem EK.back {g1 : Gh} {H1 : Hp} {c1 : Cells} (p : Post CE K g H c g1 H1 c1) {C : Nat} {xs : List D} {c' : Cells} (h : EK CE K W g H c σ C xs c') : EK CE K W g1 H1 c1 σ C xs c' :=
  fun g' H' dx p' x => h g' H' dx (p.trans p') x
end

def varE (i : Nat) : EM := fun δ c => match δ[i]? with | some (Slot.sh d) => .ok d c | _ => .bad
def litE (d : D) : EM := fun _ c => .ok d c
section
variable {X : Cx} {CE : CEnv} {W : WX} {pos : Pos} {a b e : Expr} {es : List Expr} {ma mb : EM}
theorem pd_var (i : Nat) {x : PySem.Str} (h : PE X (.Name x pos) (tVar i)) : PD X CE W (.Name x pos) (varE i) := h.wk fun σ H Q ⟨g, c, δ, ok, er, h⟩ => by
  unfold varE at h
  cases e : δ[i]? with
  | none => rw [e] at h; exact h.elim
  | some s =>
    rw [e] at h
    cases s with
    | sh d =>
      obtain ⟨v, e1, r⟩ := er.sh i d e
      exact ⟨v, e1, h g H v (Post.refl ok) r⟩
    | un => exact h.elim
    | own o => exact h.elim
    | slf a C xs => exact h.elim
theorem pd_c {v : V} {d : D} (h : PE X e (tC v)) (r : ∀ g H, Rep CE X.K g H d v) : PD X CE W e (litE d) := h.wk fun σ H Q ⟨g, c, δ, ok, er, h⟩ => h g H v (Post.refl ok) (r g H)
theorem pd_int {i j pos} : PD X CE W (.Constant (.int i) j pos) (litE (.int i)) := pd_c pe_int fun _ _ => by simp only [Rep]
theorem pd_bl {i j pos} : PD X CE W (.Constant (.bool i) j pos) (litE (.bl i)) := pd_c pe_bl fun _ _ => by simp only [Rep]
theorem pd_non {j pos} : PD X CE W (.Constant .none j pos) (litE .non) := pd_c pe_non fun _ _ => by simp only [Rep]
theorem pd_str {x j pos} : PD X CE W (.Constant (.str x) j pos) (litE (.str x)) := pd_c pe_str fun _ _ => by simp only [Rep]

def nilA : Ev' → M (List D) := fun _ c => .ok [] c
def consA (m : EM) (ms : Ev' → M (List D)) : Ev' → M (List D) := fun δ => bnd (m δ) fun d => bnd (ms δ) fun ds => DL.ret (d :: ds)
theorem pda_nil : PDA X CE W [] nilA := pa_nil.wk fun σ H Q ⟨g, c, δ, ok, er, h⟩ => h g H [] (Post.refl ok) Reps.nil
theorem pda_cons {ms : Ev' → M (List D)} (ha : PD X CE W e ma) (hr : PDA X CE W es ms) (hs : starEach (e :: es) X.env = (false, eval e X.env) :: starEach es X.env := by rfl) : PDA X CE W (e :: es) (consA ma ms) :=
  (pa_cons ha hr hs).wk fun σ H Q ⟨g, c, δ, ok, er, h⟩ => by
    replace h := wpo_bnd.mp h
    refine use ok er h (fun d c1 h g1 H1 v p1 r1 => ?_) fun _ _ _ z => z
    replace h := wpo_bnd.mp h
    refine useA p1.ok (er.mono ok p1.ext) h (fun ds c2 h g2 H2 vs p2 r2 => ?_) fun _ _ _ z => EK.back p1 z
    exact h g2 H2 _ (p1.trans p2) (Reps.cons (Rep.mono p1.ok p2.ext r1) r2)

def opt {α : Type} (o : Option α) : M α := fun c => match o with
  | some a => .ok a c
  | none => .bad
/-- an operation's rule by a mirror: it raises nothing and leaves the cells -/
def rD (CE : CEnv) (K : PySem.W.Frag) (r : D → D → Cells → Option D) : R2 := fun x y H Q => ∃ g c d e z, SOk CE K g H c ∧ Rep CE K g H d x ∧ Rep CE K g H e y ∧
  r d e c = some z ∧ ∀ g' H' v, Post CE K g H c g' H' c → Rep CE K g' H' z v → Q v H'
def bin (r : D → D → Cells → Option D) (ma mb : EM) : EM := fun δ => bnd (ma δ) fun x => bnd (mb δ) fun y => fun c => opt (r x y c) c
theorem opt_ok {α : Type} {o : Option α} {c : Cells} {P : α → Cells → Prop} {E : Nat → List D → Cells → Prop} (h : wpo (opt o c) P E) : ∃ z, o = some z ∧ P z c := by
  cases o with
  | some z => exact ⟨z, rfl, h⟩
  | none => exact h.elim
theorem use2 {K : PySem.W.Frag} {r : D → D → Cells → Option D} {σ : L2.St} {H : Hp} {Q : VK} {g : Gh} {c : Cells} {δ : Ev'} (ok : SOk CE K g H c) (er : EnvR CE K g H σ δ)
    (h : wpo (bin r ma mb δ c) (fun d c' => ∀ g' H' v, Post CE K g H c g' H' c' → Rep CE K g' H' d v → Q v H') (EK CE K W g H c σ)) : tOp (rD CE K r) (tD CE K W ma) (tD CE K W mb) σ H Q := by
  replace h := wpo_bnd.mp h
  refine use ok er h (fun d c1 h g1 H1 v p1 r1 => ?_) fun _ _ _ z => z
  replace h := wpo_bnd.mp h
  refine use p1.ok (er.mono ok p1.ext) h (fun d2 c2 h g2 H2 v2 p2 r2 => ?_) fun _ _ _ z => EK.back p1 z
  obtain ⟨z, e, h⟩ := opt_ok h
  exact ⟨g2, c2, d, d2, z, p2.ok, Rep.mono p1.ok p2.ext r1, r2, e, fun g3 H3 v3 p3 r3 => h g3 H3 v3 ((p1.trans p2).trans p3) r3⟩
theorem pd_bin {op : Operator} {r : D → D → Cells → Option D} (ho : OpR X (binaryOp op) (rD CE X.K r)) (ha : PD X CE W a ma) (hb : PD X CE W b mb) : PD X CE W (.BinOp a op b pos) (bin r ma mb) :=
  (pe_op ho ha hb).wk fun σ H Q ⟨g, c, δ, ok, er, h⟩ => use2 ok er h
theorem pd_cmp {op : CmpOp} {r : D → D → Cells → Option D} (ho : OpR X (compareOp op) (rD CE X.K r)) (ha : PD X CE W a ma) (hb : PD X CE W b mb) (hm : behindInMarks op b = false) : PD X CE W (.Compare a [op] [b] pos) (bin r ma mb) :=
  (pe_cmpR ho ha hb hm).wk fun σ H Q ⟨g, c, δ, ok, er, h⟩ => use2 ok er h
/-- a one-place operation -/
def rD1 (CE : CEnv) (K : PySem.W.Frag) (r : D → Cells → Option D) : V → Hp → VK → Prop := fun x H Q => ∃ g c d z, SOk CE K g H c ∧ Rep CE K g H d x ∧
  r d c = some z ∧ ∀ g' H' v, Post CE K g H c g' H' c → Rep CE K g' H' z v → Q v H'
def un1 (r : D → Cells → Option D) (ma : EM) : EM := fun δ => bnd (ma δ) fun x => fun c => opt (r x c) c
theorem use1 {K : PySem.W.Frag} {r : D → Cells → Option D} {σ : L2.St} {H : Hp} {Q : VK} {g : Gh} {c : Cells} {δ : Ev'} (ok : SOk CE K g H c) (er : EnvR CE K g H σ δ)
    (h : wpo (un1 r ma δ c) (fun d c' => ∀ g' H' v, Post CE K g H c g' H' c' → Rep CE K g' H' d v → Q v H') (EK CE K W g H c σ)) : tUn (rD1 CE K r) (tD CE K W ma) σ H Q := by
  replace h := wpo_bnd.mp h
  refine use ok er h (fun d c1 h g1 H1 v p1 r1 => ?_) fun _ _ _ z => z
  obtain ⟨z, e, h⟩ := opt_ok h
  exact ⟨g1, c1, d, z, p1.ok, r1, e, fun g3 H3 v3 p3 r3 => h g3 H3 v3 (p1.trans p3) r3⟩
theorem pd_un {op : UnaryOp} {r : D → Cells → Option D} (ho : UnR X (unaryOp op) (rD1 CE X.K r)) (ha : PD X CE W a ma) : PD X CE W (.UnaryOp op a pos) (un1 r ma) :=
  (pe_un ho ha).wk fun σ H Q ⟨g, c, δ, ok, er, h⟩ => use1 ok er h
/-- a built-in's or a type's call -/
def rDA (CE : CEnv) (K : PySem.W.Frag) (r : List D → Cells → Option D) : List V → Hp → VK → Prop := fun xs H Q => ∃ g c ds z, SOk CE K g H c ∧ Reps CE K g H ds xs ∧
  r ds c = some z ∧ ∀ g' H' v, Post CE K g H c g' H' c → Rep CE K g' H' z v → Q v H'
def callB (r : List D → Cells → Option D) (ms : Ev' → M (List D)) : EM := fun δ => bnd (ms δ) fun xs => fun c => opt (r xs c) c
theorem useB {K : PySem.W.Frag} {ms : Ev' → M (List D)} {r : List D → Cells → Option D} {σ : L2.St} {H : Hp} {Q : VK} {g : Gh} {c : Cells} {δ : Ev'} (ok : SOk CE K g H c) (er : EnvR CE K g H σ δ)
    (h : wpo (callB r ms δ c) (fun d c' => ∀ g' H' v, Post CE K g H c g' H' c' → Rep CE K g' H' d v → Q v H') (EK CE K W g H c σ)) : tCB (rDA CE K r) (tDA CE K W ms) σ H Q := by
  replace h := wpo_bnd.mp h
  refine useA ok er h (fun d c1 h g1 H1 v p1 r1 => ?_) fun _ _ _ z => z
  obtain ⟨z, e, h⟩ := opt_ok h
  exact ⟨g1, c1, d, z, p1.ok, r1, e, fun g3 H3 v3 p3 r3 => h g3 H3 v3 (p1.trans p3) r3⟩
theorem pd_callB {x : PySem.Str} {id : String} {p : Pos} {ms : Ev' → M (List D)} {r : List D → Cells → Option D} (hc : CallR X (.builtin id) (rDA CE X.K r)) (hg : Gl X x) (hm : X.mg x = none) (hv : bootBuiltins x = some (.builtin id)) (ha : PDA X CE W (e :: es) ms)
    (hn : x ≠ "__name__" := by decide) (hdb : (x == ("__debug__" : PySem.Str)) = false := by decide) (he : starEach (e :: es) X.env = (false, eval e X.env) :: starEach es X.env := by rfl) (hpl : (backTo pos (starEach es X.env)).any (·.1) = false := by rfl) :
    PD X CE W (.Call (.Name x p) (e :: es) [] pos) (callB r ms) :=
  (pe_callB hc hg hm hv ha hn hdb he hpl).wk fun σ H Q ⟨g, c, δ, ok, er, h⟩ => useB ok er h
theorem pd_callTy {x : PySem.Str} {T : String} {p : Pos} {ms : Ev' → M (List D)} {r : List D → Cells → Option D} (hc : CallR X (.type T) (rDA CE X.K r)) (hg : Gl X x) (hm : X.mg x = none) (hv : bootBuiltins x = some (.type T)) (ha : PDA X CE W (e :: es) ms)
    (hn : x ≠ "__name__" := by decide) (hdb : (x == ("__debug__" : PySem.Str)) = false := by decide) (he : starEach (e :: es) X.env = (false, eval e X.env) :: starEach es X.env := by rfl) (hpl : (backTo pos (starEach es X.env)).any (·.1) = false := by rfl) :
    PD X CE W (.Call (.Name x p) (e :: es) [] pos) (callB r ms) :=
  (pe_callTy hc hg hm hv ha hn hdb he hpl).wk fun σ H Q ⟨g, c, δ, ok, er, h⟩ => useB ok er h
end
end DL

namespace DL
open PySem PySem.Spec PyProof.Rows L2

def listOf (d : D) (c : Cells) : Option (List D) := match d with
  | .lst xs => some xs
  | .cell k => match c[k]? with
    | some (Cell.lst xs) => some xs
    | _ => none
  | _ => none
def rlistOf (d : D) (c : Cells) : Option (List D) := match d with
  | .rol xs => some xs
  | d => listOf d c
def seqOf (d : D) (c : Cells) : Option (List D) := match d with
  | .tup xs => some xs
  | d => rlistOf d c
section
variable {CE : CEnv} {K : PySem.W.Frag} {g : Gh} {H : Hp} {c : Cells} {d : D} {v : V} {xs : List D}
theorem listOf_at (ok : SOk CE K g H c) (r : Rep CE K g H d v) (e : listOf d c = some xs) : ∃ a vs, v = .ref a ∧ H a = some (.lst vs) ∧ xs.length ≤ sizeLine ∧ Reps CE K g H xs vs := by
  cases d <;> try (simp [listOf] at e; done)
  case lst ds =>
    simp only [listOf, Option.some.injEq] at e
    subst e
    simp only [Rep] at r
    obtain ⟨a, vs, rfl, _, h, z, q⟩ := r
    exact ⟨a, vs, rfl, h, z, q⟩
  case cell k =>
    simp only [Rep] at r
    obtain ⟨a, rfl, h⟩ := r
    simp only [listOf] at e
    split at e
    · rename_i ys he
      cases e
      obtain ⟨vs, h1, z, q⟩ := ok.cl k a _ h he
      exact ⟨a, vs, rfl, h1, z, q⟩
    · cases e
theorem rlistOf_at (ok : SOk CE K g H c) (r : Rep CE K g H d v) (e : rlistOf d c = some xs) : ∃ a vs, v = .ref a ∧ SqL K H a vs ∧ xs.length ≤ sizeLine ∧ Reps CE K g H xs vs := by
  have gen : listOf d c = some xs → ∃ a vs, v = .ref a ∧ SqL K H a vs ∧ xs.length ≤ sizeLine ∧ Reps CE K g H xs vs := fun e =>
    let ⟨a, vs, h1, h2, h3, h4⟩ := listOf_at ok r e
    ⟨a, vs, h1, .of h2, h3, h4⟩
  cases d <;> try exact gen e
  case rol ds =>
    simp only [rlistOf, Option.some.injEq] at e
    subst e
    simp only [Rep] at r
    obtain ⟨a, vs, rfl, h, z, q⟩ := r
    exact ⟨a, vs, rfl, h.elim (fun ⟨o, h⟩ => .inl (.inr ⟨o, h⟩)) fun h => h H, z, q⟩
theorem seqOf_at (ok : SOk CE K g H c) (r : Rep CE K g H d v) (e : seqOf d c = some xs) : ∃ a vs, v = .ref a ∧ (SqL K H a vs ∨ SqT K H a vs) ∧ xs.length ≤ sizeLine ∧ Reps CE K g H xs vs := by
  have gen : rlistOf d c = some xs → ∃ a vs, v = .ref a ∧ (SqL K H a vs ∨ SqT K H a vs) ∧ xs.length ≤ sizeLine ∧ Reps CE K g H xs vs := fun e =>
    let ⟨a, vs, h1, h2, h3, h4⟩ := rlistOf_at ok r e
    ⟨a, vs, h1, .inl h2, h3, h4⟩
  cases d <;> try exact gen e
  case tup ds =>
    simp only [seqOf, Option.some.injEq] at e
    subst e
    simp only [Rep] at r
    obtain ⟨a, vs, rfl, h, z, q⟩ := r
    exact ⟨a, vs, rfl, .inr h, z, q⟩
theorem rep_int {i : Int} : Rep CE K g H (.int i) (.int i) := by simp only [Rep]
theorem rep_bl {i : Bool} : Rep CE K g H (.bl i) (.bl i) := by simp only [Rep]
theorem rep_str {i : PySem.Str} : Rep CE K g H (.str i) (.str i) := by simp only [Rep]
theorem rep_non : Rep CE K g H .non .non := by simp only [Rep]
/-- a new frozen list -/
theorem new_lst {vs : List V} {Q : VK} {p : Addr} (ok : SOk CE K g H c) (hp : H p = none) (r : Reps CE K g H xs vs) (z : xs.length ≤ sizeLine)
    (q : ∀ g' H' v, Post CE K g H c g' H' c → Rep CE K g' H' (.lst xs) v → Q v H') : Q (.ref p) (upd H p (.lst vs)) := by
  have P := Post.new ok hp (.lst vs)
  refine q _ _ _ P ?_
  simp only [Rep]
  exact ⟨p, vs, rfl, .inr rfl, upd_same, z, Reps.mono ok P.ext r⟩
theorem new_tup {vs : List V} {Q : VK} {p : Addr} (ok : SOk CE K g H c) (hp : H p = none) (r : Reps CE K g H xs vs) (z : xs.length ≤ sizeLine)
    (q : ∀ g' H' v, Post CE K g H c g' H' c → Rep CE K g' H' (.tup xs) v → Q v H') : Q (.ref p) (upd H p (.tup vs)) := by
  have P := Post.new ok hp (.tup vs)
  refine q _ _ _ P ?_
  simp only [Rep]
  exact ⟨p, vs, rfl, .of upd_same, z, Reps.mono ok P.ext r⟩
end

def smallI (i : Int) : Bool := decide (-(2 ^ 64) < i) && decide (i < 2 ^ 64)
def addP (x y : D) (c : Cells) : Option D := match x with
  | .int i => match y with
    | .int j => some (.int (i + j))
    | _ => none
  | .str i => match y with
    | .str j => if i.length + j.length ≤ sizeLine then some (.str (i ++ j)) else none
    | _ => none
  | .tup xs => match y with
    | .tup ys => if xs.length + ys.length ≤ sizeLine then some (.tup (xs ++ ys)) else none
    | _ => none
  | x => match listOf x c, listOf y c with
    | some xs, some ys => if xs.length + ys.length ≤ sizeLine then some (.lst (xs ++ ys)) else none
    | _, _ => none
def intP (f : Int → Int → Option D) (x y : D) (_ : Cells) : Option D := match x, y with
  | .int i, .int j => f i j
  | _, _ => none
def subP : D → D → Cells → Option D := intP fun i j => some (.int (i - j))
def mulP : D → D → Cells → Option D := intP fun i j => if smallI i || smallI j then some (.int (i * j)) else none
def modP : D → D → Cells → Option D := intP fun i j => if 0 < j then some (.int (i % j)) else none
def fdivP : D → D → Cells → Option D := intP fun i j => if 0 < j ∧ j.natAbs.log2 < 9000 then some (.int (i / j)) else none
def powP : D → D → Cells → Option D := intP fun i j => if 0 ≤ j ∧ j ≤ 1000000 ∧ i.natAbs < 2 ^ 64 then some (.int (i ^ j.toNat)) else none
def negP : D → Cells → Option D := fun x _ => match x with
  | .int i => some (.int (-i))
  | _ => none
section
variable {X : Cx} {CE : CEnv}
theorem opr_int {f : Value → Value → Sem Value} {r : Int → Int → Option D} {rr : R2} (h : OpR X f rr) (hr : ∀ i j z H Q, r i j = some z → (∀ v, Rep CE X.K ⟨fun _ => False, []⟩ H z v → Q v H) → (∀ g g' : Gh, ∀ H v, Rep CE X.K g H z v → Rep CE X.K g' H z v) → rr (.int i) (.int j) H Q)
    (hz : ∀ i j z, r i j = some z → ∀ (g g' : Gh) H v, Rep CE X.K g H z v → Rep CE X.K g' H z v) : OpR X f (rD CE X.K (intP r)) := by
  intro pins s σ H x y v u Q I rx ry ⟨g, c, d, e, z, ok, r1, r2, ez, q⟩
  cases d <;> cases e <;> try (simp [intP] at ez; done)
  rename_i i j
  simp only [intP] at ez
  simp only [Rep] at r1 r2
  subst r1; subst r2
  exact h pins s σ H _ _ v u Q I rx ry (hr i j z H Q ez (fun v rv => q g H v (Post.refl ok) (hz i j z ez _ _ _ _ rv)) (hz i j z ez))
theorem mono_int {i : Int} {K : PySem.W.Frag} : ∀ (g g' : Gh) H v, Rep CE K g H (.int i) v → Rep CE K g' H (.int i) v := fun _ _ _ _ h => by simpa only [Rep] using h
theorem mono_bl {i : Bool} {K : PySem.W.Frag} : ∀ (g g' : Gh) H v, Rep CE K g H (.bl i) v → Rep CE K g' H (.bl i) v := fun _ _ _ _ h => by simpa only [Rep] using h
theorem od_sub : OpR X (binaryOp .Sub) (rD CE X.K subP) := opr_int op_sub (fun i j z H Q e q _ => by cases e; exact ⟨i, j, rfl, rfl, q _ rep_int⟩) fun i j z e => by cases e; exact mono_int
theorem od_mul : OpR X (binaryOp .Mult) (rD CE X.K mulP) := opr_int op_mul (fun i j z H Q e q _ => by
    split at e
    · rename_i h
      cases e
      refine ⟨i, j, rfl, rfl, ?_, q _ rep_int⟩
      simpa [smallI, CMul] using h
    · cases e) fun i j z e => by
    split at e
    · cases e; exact mono_int
    · cases e
theorem od_mod : OpR X (binaryOp .Mod) (rD CE X.K modP) := opr_int op_mod (fun i j z H Q e q _ => by
    split at e
    · rename_i h
      cases e
      exact ⟨i, j, rfl, rfl, h, q _ rep_int⟩
    · cases e) fun i j z e => by
    split at e
    · cases e; exact mono_int
    · cases e
theorem od_fdiv : OpR X (binaryOp .FloorDiv) (rD CE X.K fdivP) := opr_int op_fdivW (fun i j z H Q e q _ => by
    split at e
    · rename_i h
      cases e
      exact ⟨i, j, rfl, rfl, h, q _ rep_int⟩
    · cases e) fun i j z e => by
    split at e
    · cases e; exact mono_int
    · cases e
theorem od_pow : OpR X (binaryOp .Pow) (rD CE X.K powP) := opr_int op_pow (fun i j z H Q e q _ => by
    split at e
    · rename_i h
      cases e
      exact ⟨i, j, rfl, rfl, h, q _ rep_int⟩
    · cases e) fun i j z e => by
    split at e
    · cases e; exact mono_int
    · cases e
theorem ud_neg : UnR X (unaryOp .USub) (rD1 CE X.K negP) := by
  intro pins s σ H x v Q I rx ⟨g, c, d, z, ok, r1, ez, q⟩
  cases d <;> try (simp [negP] at ez; done)
  simp only [negP, Option.some.injEq] at ez
  subst ez
  simp only [Rep] at r1
  subst r1
  exact un_neg pins s σ H _ v Q I rx ⟨_, rfl, q g H _ (Post.refl ok) rep_int⟩
theorem od_add_list {pins : List (Addr × Obj)} {s : Shared} {σ : L2.St} {H : Hp} {x y : V} {v u : Value} {Q : VK} (I : Inv X pins σ H s) (rx : RelV x v) (ry : RelV y u) {g : Gh} {c : Cells} {d e z : D} (ok : SOk CE X.K g H c) (r1 : Rep CE X.K g H d x) (r2 : Rep CE X.K g H e y)
    (ez : (match listOf d c, listOf e c with | some xs, some ys => if xs.length + ys.length ≤ sizeLine then some (D.lst (xs ++ ys)) else none | _, _ => none) = some z) (q : ∀ g' H' v, Post CE X.K g H c g' H' c → Rep CE X.K g' H' z v → Q v H') :
    wpAny (model X.prog X.w) X.A (binaryOp .Add v u) (EP X pins σ Q) X.xe s := by
  split at ez
  · rename_i xs ys e1 e2
    split at ez
    · rename_i hz
      cases ez
      obtain ⟨a, vs, rfl, h1, z1, q1⟩ := listOf_at ok r1 e1
      obtain ⟨b, ws, rfl, h2, z2, q2⟩ := listOf_at ok r2 e2
      refine op_cat pins s σ H _ _ v u Q I rx ry ⟨a, b, vs, ws, rfl, rfl, h1, h2, by rw [Reps.length q1, Reps.length q2]; exact hz, fun p hp => ?_⟩
      exact new_lst ok hp (Reps.append q1 q2) (by rw [List.length_append]; exact hz) q
    · cases ez
  · cases ez
theorem catT_nil : OpR X (binaryOp .Add) (fun x y H Q => ∃ a b ys, x = .ref a ∧ y = .ref b ∧ SqT X.K H a [] ∧ SqT X.K H b ys ∧ Q (.ref b) H) := by
  intro pins s σ H x y v u Q I rx ry h
  obtain ⟨a, b, ys, rfl, rfl, ha, hb, q⟩ := h
  cases rx
  cases ry
  obtain ⟨its, r1, p1, _⟩ := I.tuple ha
  obtain ⟨its2, r2, p2, _⟩ := I.tuple hb
  cases r1
  obtain ⟨⟨cls, dd, data, sl⟩, ho, hc, n, hd⟩ := id p1
  obtain ⟨⟨cls2, dd2, data2, sl2⟩, ho2, hc2, n2, hd2⟩ := id p2
  simp only at hc hd hc2 hd2
  subst hc hd hc2 hd2
  exact concat_meets ⟨_, ho, rfl⟩ ⟨_, ho2, rfl⟩ noFill_tuple_add seq_tuple_add PySem.F.slot_tuple_add PySem.F.entry_tuple_add (PySem.F.args_tuple_add_2 _ _)
      (tuple_addW0 a b _ _ n n2 dd dd2 sl sl2 rfl) ⟨ho, ho2, ⟨.ref b, H, I, rfl, q⟩⟩
theorem od_add : OpR X (binaryOp .Add) (rD CE X.K addP) := by
  intro pins s σ H x y v u Q I rx ry ⟨g, c, d, e, z, ok, r1, r2, ez, q⟩
  cases d with
  | int i =>
    cases e <;> try (simp [addP] at ez; done)
    simp only [addP, Option.some.injEq] at ez
    subst ez
    simp only [Rep] at r1 r2
    subst r1; subst r2
    exact op_add pins s σ H _ _ v u Q I rx ry ⟨_, _, rfl, rfl, q g H _ (Post.refl ok) rep_int⟩
  | str i =>
    cases e <;> try (simp [addP] at ez; done)
    simp only [addP] at ez
    split at ez
    · rename_i hz
      cases ez
      simp only [Rep] at r1 r2
      subst r1; subst r2
      exact op_add_str pins s σ H _ _ v u Q I rx ry ⟨_, _, rfl, rfl, hz, q g H _ (Post.refl ok) rep_str⟩
    · cases ez
  | tup xs =>
    cases e <;> try (simp [addP] at ez; done)
    rename_i ys
    simp only [addP] at ez
    split at ez
    · rename_i hl
      cases ez
      simp only [Rep] at r1 r2
      obtain ⟨a, vs, rfl, h1, z1, q1⟩ := r1
      obtain ⟨b, ws, rfl, h2, z2, q2⟩ := r2
      have l1 := Reps.length q1
      have l2 := Reps.length q2
      by_cases hxs : xs = []
      · subst hxs
        have : vs = [] := List.length_eq_zero_iff.mp l1
        subst this
        refine catT_nil pins s σ H _ _ v u Q I rx ry ⟨a, b, ws, rfl, rfl, h1, h2, ?_⟩
        refine q g H _ (Post.refl ok) ?_
        simp only [Rep, List.nil_append]
        exact ⟨b, ws, rfl, h2, z2, q2⟩
      refine op_catT pins s σ H _ _ v u Q I rx ry ⟨a, b, vs, ws, rfl, rfl, h1, h2, ?_, by rw [l1, l2]; exact hl, ?_, fun _ p hp => ?_⟩
      · intro e
        rw [e] at l1
        exact hxs (List.length_eq_zero_iff.mp l1.symm)
      · intro e
        subst e
        have : ys = [] := List.length_eq_zero_iff.mp l2.symm
        subst this
        refine q g H _ (Post.refl ok) ?_
        simp only [Rep, List.append_nil]
        exact ⟨a, vs, rfl, h1, z1, q1⟩
      · exact new_tup ok hp (Reps.append q1 q2) (by rw [List.length_append]; exact hl) q
    · cases ez
  | non => exact od_add_list I rx ry ok r1 r2 ez q
  | bl b => exact od_add_list I rx ry ok r1 r2 ez q
  | lst xs => exact od_add_list I rx ry ok r1 r2 ez q
  | ins C xs => exact od_add_list I rx ry ok r1 r2 ez q
  | cell k => exact od_add_list I rx ry ok r1 r2 ez q
  | cls C => exact od_add_list I rx ry ok r1 r2 ez q
  | ty n => exact od_add_list I rx ry ok r1 r2 ez q
  | rol xs => exact od_add_list I rx ry ok r1 r2 ez q
  | exn a dx C xs => exact od_add_list I rx ry ok r1 r2 ez q
end
end DL

namespace DL
open PySem PySem.Spec PyProof.Rows L2

mutual
def toP : D → Option PyData
  | .non => some .none
  | .bl b => some (.bool b)
  | .int i => some (.int i)
  | .str x => some (.str x)
  | .tup xs => (toPs xs).map .tuple
  | .lst xs => (toPs xs).map .list
  | .rol xs => (toPs xs).map .list
  | _ => none
def toPs : List D → Option (List PyData)
  | [] => some []
  | d :: ds => match toP d, toPs ds with
    | some p, some ps => some (p :: ps)
    | _, _ => none
end
/-- a cell's list, at the top -/
def der (d : D) (c : Cells) : D := match d with
  | .cell k => match c[k]? with
    | some (Cell.lst xs) => .lst xs
    | _ => d
  | _ => d
section
variable {CE : CEnv} {K : PySem.W.Frag} {g : Gh} {H : Hp} {c : Cells}
mutual
theorem Rep.dp : ∀ {d : D} {v : V} {p : PyData}, Rep CE K g H d v → toP d = some p → Dp K H v p
  | .non, _, _, h, e => by simp only [toP, Option.some.injEq] at e; simp only [Rep] at h; subst e; subst h; exact .non
  | .bl _, _, _, h, e => by simp only [toP, Option.some.injEq] at e; simp only [Rep] at h; subst e; subst h; exact .bl _
  | .int _, _, _, h, e => by simp only [toP, Option.some.injEq] at e; simp only [Rep] at h; subst e; subst h; exact .int _
  | .str _, _, _, h, e => by simp only [toP, Option.some.injEq] at e; simp only [Rep] at h; subst e; subst h; exact .str _
  | .tup xs, _, _, h, e => by
    simp only [toP, Option.map_eq_some_iff] at e
    obtain ⟨ps, e, rfl⟩ := e
    simp only [Rep] at h
    obtain ⟨a, vs, rfl, q, z, r⟩ := h
    exact .tup q (Reps.dp r e)
  | .lst xs, _, _, h, e => by
    simp only [toP, Option.map_eq_some_iff] at e
    obtain ⟨ps, e, rfl⟩ := e
    simp only [Rep] at h
    obtain ⟨a, vs, rfl, f, q, z, r⟩ := h
    exact .lst (.of q) (Reps.dp r e)
  | .rol xs, _, _, h, e => by
    simp only [toP, Option.map_eq_some_iff] at e
    obtain ⟨ps, e, rfl⟩ := e
    simp only [Rep] at h
    obtain ⟨a, vs, rfl, q, z, r⟩ := h
    exact .lst (q.elim (fun ⟨o, h⟩ => .inl (.inr ⟨o, h⟩)) fun h => h H) (Reps.dp r e)
  | .ins _ _, _, _, _, e => by simp [toP] at e
  | .cell _, _, _, _, e => by simp [toP] at e
  | .cls _, _, _, _, e => by simp [toP] at e
  | .ty _, _, _, _, e => by simp [toP] at e
theorem Reps.dp : ∀ {ds : List D} {vs : List V} {ps : List PyData}, Reps CE K g H ds vs → toPs ds = some ps → DpAll K H vs ps
  | [], _, _, h, e => by simp only [toPs, Option.some.injEq] at e; simp only [Reps] at h; subst e; subst h; exact .nil
  | d :: ds, _, _, h, e => by
    simp only [Reps] at h
    obtain ⟨v, r, rfl, h1, h2⟩ := h
    simp only [toPs] at e
    split at e
    · rename_i p ps e1 e2
      cases e
      exact .cons (Rep.dp h1 e1) (Reps.dp h2 e2)
    · cases e
end
theorem Rep.dpc (ok : SOk CE K g H c) {d : D} {v : V} {p : PyData} (h : Rep CE K g H d v) (e : toP (der d c) = some p) : Dp K H v p := by
  cases d <;> try exact Rep.dp h e
  case cell k =>
    simp only [der] at e
    split at e
    · rename_i xs he
      simp only [Rep] at h
      obtain ⟨a, rfl, ha⟩ := h
      obtain ⟨vs, h1, z, r⟩ := ok.cl k a _ ha he
      simp only [toP, Option.map_eq_some_iff] at e
      obtain ⟨ps, e, rfl⟩ := e
      exact .lst (.of h1) (Reps.dp r e)
    · simp [toP] at e
end
/-- == of scalars that the layer's scal tells -/
def eqS (d e : D) : Option Bool := match d, e with
  | .int i, .int j => some (decide (i = j))
  | .str i, .str j => some (decide (i = j))
  | .bl i, .bl j => some (decide (i = j))
  | .non, .non => some true
  | .non, .int _ => some false
  | .int _, .non => some false
  | .non, .bl _ => some false
  | .bl _, .non => some false
  | .non, .str _ => some false
  | .str _, .non => some false
  | .int _, .str _ => some false
  | .str _, .int _ => some false
  | .bl _, .str _ => some false
  | .str _, .bl _ => some false
  | _, _ => none
def eqB (d e : D) (c : Cells) : Option Bool := match eqS d e with
  | some b => some b
  | none => match toP (der d c), toP (der e c) with
    | some p, some q => if SeqAt.shaped p && SeqAt.shaped q then some (PyData.eqv p q) else none
    | _, _ => none
def eqP (d e : D) (c : Cells) : Option D := (eqB d e c).map .bl
def neP (d e : D) (c : Cells) : Option D := (eqB d e c).map fun b => .bl (!b)
theorem eqS_scal {CE : CEnv} {K : PySem.W.Frag} {g : Gh} {H : Hp} {d e : D} {x y : V} {b : Bool} (h1 : Rep CE K g H d x) (h2 : Rep CE K g H e y) (h : eqS d e = some b) : scal x y = true ∧ decide (x = y) = b := by
  cases d <;> cases e <;> simp only [eqS, Option.some.injEq, reduceCtorEq] at h <;> simp only [Rep] at h1 h2 <;> subst h1 <;> subst h2 <;> subst h <;> refine ⟨rfl, ?_⟩ <;> simp
/-- < of ints, texts, data of one shape -/
def ltB (d e : D) : Option Bool := match d with
  | .int i => match e with
    | .int j => some (decide (i < j))
    | _ => none
  | .str i => match e with
    | .str j => some (decide (i.cps.toList < j.cps.toList))
    | _ => none
  | .tup xs => match e with
    | .tup ys => match toPs xs, toPs ys with
      | some ps, some qs => if PySem.W.alikeAll ps qs && (decide (PyData.depthAll ps < 60) && decide (PyData.depthAll qs < 60)) then some (PySem.W.dataLt (.tuple ps) (.tuple qs)) else none
      | _, _ => none
    | _ => none
  | _ => none
def ltP (d e : D) (_ : Cells) : Option D := (ltB d e).map .bl
def gtP (d e : D) (_ : Cells) : Option D := (ltB e d).map .bl
def leP (d e : D) (_ : Cells) : Option D := (ltB e d).map fun b => .bl (!b)
def geP (d e : D) (_ : Cells) : Option D := (ltB d e).map fun b => .bl (!b)
def isNon : D → Bool
  | .non => true
  | _ => false
def isNP (d e : D) (_ : Cells) : Option D := if isNon e then some (.bl (isNon d)) else none
def notNP (d e : D) (_ : Cells) : Option D := if isNon e then some (.bl (!isNon d)) else none
def strIn (i j : PySem.Str) : Bool := !(Builtin.Str.occurrences j i 0 j.length 1).isEmpty
def inB (x y : D) (c : Cells) : Option Bool := match y with
  | .str j => match x with
    | .str i => some (strIn i j)
    | _ => none
  | y => match seqOf y c with
    | some ys => match toPs ys, toP x with
      | some qs, some p => if PyData.canLayAll0 qs && PyData.canLay0 p && decide (p.depth < 60) then some (qs.any fun q => PyData.eqv q p) else none
      | _, _ => none
    | none => none
def inP (x y : D) (c : Cells) : Option D := (inB x y c).map .bl
def notInP (x y : D) (c : Cells) : Option D := (inB x y c).map fun b => .bl (!b)
section
variable {X : Cx} {CE : CEnv}
theorem od_eq (hu : X.A.units + 64 < cLine) : OpR X (compareOp .Eq) (rD CE X.K eqP) := by
  intro pins s σ H x y v u Q I rx ry ⟨g, c, d, e, z, ok, r1, r2, ez, q⟩
  simp only [eqP, Option.map_eq_some_iff] at ez
  obtain ⟨b, ez, rfl⟩ := ez
  simp only [eqB] at ez
  split at ez
  · rename_i b' eb
    cases ez
    obtain ⟨h1, h2⟩ := eqS_scal r1 r2 eb
    refine op_eq pins s σ H x y v u Q I rx ry ⟨h1, ?_⟩
    rw [h2]
    exact q g H _ (Post.refl ok) rep_bl
  · split at ez
    · rename_i p p' e1 e2
      split at ez
      · rename_i hs
        cases ez
        rw [Bool.and_eq_true] at hs
        exact op_eqD hu pins s σ H x y v u Q I rx ry ⟨p, p', Rep.dpc ok r1 e1, Rep.dpc ok r2 e2, hs.1, hs.2, q g H _ (Post.refl ok) rep_bl⟩
      · cases ez
    · cases ez
theorem od_ne (hu : X.A.units + 64 < cLine) : OpR X (compareOp .NotEq) (rD CE X.K neP) := by
  intro pins s σ H x y v u Q I rx ry ⟨g, c, d, e, z, ok, r1, r2, ez, q⟩
  simp only [neP, Option.map_eq_some_iff] at ez
  obtain ⟨b, ez, rfl⟩ := ez
  simp only [eqB] at ez
  split at ez
  · rename_i b' eb
    cases ez
    obtain ⟨h1, h2⟩ := eqS_scal r1 r2 eb
    refine op_ne pins s σ H x y v u Q I rx ry ⟨h1, ?_⟩
    rw [h2]
    exact q g H _ (Post.refl ok) rep_bl
  · split at ez
    · rename_i p p' e1 e2
      split at ez
      · rename_i hs
        cases ez
        rw [Bool.and_eq_true] at hs
        exact op_neD hu pins s σ H x y v u Q I rx ry ⟨p, p', Rep.dpc ok r1 e1, Rep.dpc ok r2 e2, hs.1, hs.2, q g H _ (Post.refl ok) rep_bl⟩
      · cases ez
    · cases ez
theorem ltB_key {a a' : D} {b : Bool} (h : ltB a a' = some b) : (∃ i j, a = .int i ∧ a' = .int j ∧ b = decide (i < j)) ∨ (∃ i j, a = .str i ∧ a' = .str j ∧ b = decide (i.cps.toList < j.cps.toList)) ∨
      ∃ xs ys ps qs, a = .tup xs ∧ a' = .tup ys ∧ toPs xs = some ps ∧ toPs ys = some qs ∧ PySem.W.alike (.tuple ps) (.tuple qs) = true ∧ (PyData.tuple ps).depth ≤ 60 ∧ (PyData.tuple qs).depth ≤ 60 ∧ b = PySem.W.dataLt (.tuple ps) (.tuple qs) := by
  cases a <;> try (simp [ltB] at h; done)
  · cases a' <;> simp only [ltB, Option.some.injEq, reduceCtorEq] at h
    exact .inl ⟨_, _, rfl, rfl, h.symm⟩
  · cases a' <;> simp only [ltB, Option.some.injEq, reduceCtorEq] at h
    exact .inr (.inl ⟨_, _, rfl, rfl, h.symm⟩)
  · cases a' <;> simp only [ltB, reduceCtorEq] at h
    rename_i xs ys
    split at h
    · rename_i ps qs e1 e2
      split at h
      · rename_i hh
        cases h
        simp only [Bool.and_eq_true, decide_eq_true_eq] at hh
        exact .inr (.inr ⟨xs, ys, ps, qs, rfl, rfl, e1, e2, by simpa only [PySem.W.alike] using hh.1, by simp only [PyData.depth]; omega, by simp only [PyData.depth]; omega, rfl⟩)
      · cases h
    · cases h
/-- an order by its three kinds; f: the two in the order that ltB takes, p: the answer -/
theorem ord_ok {op : CmpOp} {p : Bool → Bool} {sw : Bool}
    (hi : ∀ {pins : List (Addr × Obj)} {s : Shared} {σ : L2.St} {H : Hp} {i j : Int} {v u : Value} {Q : VK}, Inv X pins σ H s → RelV (.int i) v → RelV (.int j) u → Q (.bl (p (if sw then decide (j < i) else decide (i < j)))) H → wpAny (model X.prog X.w) X.A (compareOp op v u) (EP X pins σ Q) X.xe s)
    (hs : ∀ {pins : List (Addr × Obj)} {s : Shared} {σ : L2.St} {H : Hp} {i j : PySem.Str} {v u : Value} {Q : VK}, Inv X pins σ H s → RelV (.str i) v → RelV (.str j) u → Q (.bl (p (if sw then decide (j.cps.toList < i.cps.toList) else decide (i.cps.toList < j.cps.toList)))) H → wpAny (model X.prog X.w) X.A (compareOp op v u) (EP X pins σ Q) X.xe s)
    (hd : ∀ {pins : List (Addr × Obj)} {s : Shared} {σ : L2.St} {H : Hp} {v u : Value} {Q : VK} {da db : PyData} {as bs : List Addr}, Inv X pins σ H s → Reads s.heap v da as → Reads s.heap u db bs → PySem.W.alike da db = true → da ≠ .none → da.depth ≤ 60 →
      Q (.bl (p (if sw then PySem.W.dataLt db da else PySem.W.dataLt da db))) H → wpAny (model X.prog X.w) X.A (compareOp op v u) (EP X pins σ Q) X.xe s) :
    OpR X (compareOp op) (rD CE X.K fun d e _ => (if sw then ltB e d else ltB d e).map fun b => .bl (p b)) := by
  intro pins s σ H x y v u Q I rx ry ⟨g, c, d, e, z, ok, r1, r2, ez, q⟩
  simp only [Option.map_eq_some_iff] at ez
  obtain ⟨b, ez, rfl⟩ := ez
  have qq := q g H _ (Post.refl ok) rep_bl
  cases sw with
  | false =>
    simp only [Bool.false_eq_true, if_false] at ez hi hs hd
    rcases ltB_key ez with ⟨i, j, rfl, rfl, rfl⟩ | ⟨i, j, rfl, rfl, rfl⟩ | ⟨xs, ys, ps, qs, rfl, rfl, e1, e2, ha, hdp, hdq, rfl⟩
    · simp only [Rep] at r1 r2
      subst r1; subst r2
      exact hi I rx ry qq
    · simp only [Rep] at r1 r2
      subst r1; subst r2
      exact hs I rx ry qq
    · obtain ⟨as, ra⟩ := Dp.reads I _ x v (Rep.dp r1 (p := .tuple ps) (by simp [toP, e1])) rx
      obtain ⟨bs, rb⟩ := Dp.reads I _ y u (Rep.dp r2 (p := .tuple qs) (by simp [toP, e2])) ry
      exact hd I ra rb ha (by simp) hdp qq
  | true =>
    simp only [if_true] at ez hi hs hd
    rcases ltB_key ez with ⟨i, j, rfl, rfl, rfl⟩ | ⟨i, j, rfl, rfl, rfl⟩ | ⟨xs, ys, ps, qs, rfl, rfl, e1, e2, ha, hdp, hdq, rfl⟩
    · simp only [Rep] at r1 r2
      subst r1; subst r2
      exact hi I rx ry qq
    · simp only [Rep] at r1 r2
      subst r1; subst r2
      exact hs I rx ry qq
    · obtain ⟨as, ra⟩ := Dp.reads I _ x v (Rep.dp r1 (p := .tuple qs) (by simp [toP, e2])) rx
      obtain ⟨bs, rb⟩ := Dp.reads I _ y u (Rep.dp r2 (p := .tuple ps) (by simp [toP, e1])) ry
      exact hd I ra rb (by rw [PySem.W.alike_comm]; exact ha) (by simp) hdq qq
theorem not_lt_dec (i j : Int) : (!decide (j < i)) = decide (i ≤ j) := by
  by_cases h : j < i
  · simp [h]
  · simp [h]; omega
theorem od_lt (hu : X.A.units + 64 < cLine) : OpR X (compareOp .Lt) (rD CE X.K ltP) := by
  have := ord_ok (X := X) (CE := CE) (op := .Lt) (p := id) (sw := false)
    (fun {pins s σ H i j v u Q} I rx ry q => op_lt pins s σ H _ _ v u Q I rx ry ⟨i, j, rfl, rfl, q⟩)
    (fun {pins s σ H i j v u Q} I rx ry q => op_lt_str pins s σ H _ _ v u Q I rx ry ⟨i, j, rfl, rfl, q⟩)
    (fun {pins s σ H v u Q da db as bs} I ra rb ha hn hdp q => PySem.W.lt_data ra rb ha hn (by omega) ⟨.bl _, H, I, rfl, q⟩)
  exact this
theorem od_gt (hu : X.A.units + 64 < cLine) : OpR X (compareOp .Gt) (rD CE X.K gtP) := by
  have := ord_ok (X := X) (CE := CE) (op := .Gt) (p := id) (sw := true)
    (fun {pins s σ H i j v u Q} I rx ry q => op_gt pins s σ H _ _ v u Q I rx ry ⟨i, j, rfl, rfl, q⟩)
    (fun {pins s σ H i j v u Q} I rx ry q => op_gt_str pins s σ H _ _ v u Q I rx ry ⟨i, j, rfl, rfl, q⟩)
    (fun {pins s σ H v u Q da db as bs} I ra rb ha hn hdp q => PySem.W.gt_data ra rb ha hn (by omega) ⟨.bl _, H, I, rfl, q⟩)
  exact this
theorem od_le (hu : X.A.units + 64 < cLine) : OpR X (compareOp .LtE) (rD CE X.K leP) := by
  have := ord_ok (X := X) (CE := CE) (op := .LtE) (p := not) (sw := true)
    (fun {pins s σ H i j v u Q} I rx ry q => op_le pins s σ H _ _ v u Q I rx ry ⟨i, j, rfl, rfl, by simp only [if_true, not_lt_dec] at q; exact q⟩)
    (fun {pins s σ H i j v u Q} I rx ry q => op_le_str pins s σ H _ _ v u Q I rx ry ⟨i, j, rfl, rfl, by simpa using q⟩)
    (fun {pins s σ H v u Q da db as bs} I ra rb ha hn hdp q => PySem.W.le_data ra rb ha hn (by omega) ⟨.bl _, H, I, rfl, q⟩)
  exact this
theorem od_ge (hu : X.A.units + 64 < cLine) : OpR X (compareOp .GtE) (rD CE X.K geP) := by
  have := ord_ok (X := X) (CE := CE) (op := .GtE) (p := not) (sw := false)
    (fun {pins s σ H i j v u Q} I rx ry q => op_ge pins s σ H _ _ v u Q I rx ry ⟨i, j, rfl, rfl, by simp only [Bool.false_eq_true, if_false, not_lt_dec] at q; exact q⟩)
    (fun {pins s σ H i j v u Q} I rx ry q => op_ge_str pins s σ H _ _ v u Q I rx ry ⟨i, j, rfl, rfl, by simpa using q⟩)
    (fun {pins s σ H v u Q da db as bs} I ra rb ha hn hdp q => PySem.W.ge_data ra rb ha hn (by omega) ⟨.bl _, H, I, rfl, q⟩)
  exact this
theorem rep_non_iff {K : PySem.W.Frag} {g : Gh} {H : Hp} {d : D} {v : V} (h : Rep CE K g H d v) : decide (v = .non) = isNon d := by
  cases d <;> simp only [Rep] at h
  case non => subst h; rfl
  case bl => subst h; rfl
  case int => subst h; rfl
  case str => subst h; rfl
  case cls => subst h; rfl
  case ty => subst h; rfl
  case tup => obtain ⟨a, _, rfl, _⟩ := h; rfl
  case lst => obtain ⟨a, _, rfl, _⟩ := h; rfl
  case rol => obtain ⟨a, _, rfl, _⟩ := h; rfl
  case ins => obtain ⟨a, _, _, rfl, _⟩ := h; rfl
  case cell => obtain ⟨a, rfl, _⟩ := h; rfl
  case exn => obtain ⟨rfl, _⟩ := h; rfl
theorem isNon_eq {K : PySem.W.Frag} {g : Gh} {H : Hp} {d : D} {v : V} (h : Rep CE K g H d v) (e : isNon d = true) : v = .non := by
  cases d <;> try (simp [isNon] at e; done)
  simpa only [Rep] using h
theorem od_isN : OpR X (compareOp .Is) (rD CE X.K isNP) := by
  intro pins s σ H x y v u Q I rx ry ⟨g, c, d, e, z, ok, r1, r2, ez, q⟩
  unfold isNP at ez
  split at ez
  · rename_i he
    cases ez
    refine op_isN pins s σ H x y v u Q I rx ry ⟨isNon_eq r2 he, ?_⟩
    rw [rep_non_iff r1]
    exact q g H _ (Post.refl ok) rep_bl
  · cases ez
theorem od_notN : OpR X (compareOp .IsNot) (rD CE X.K notNP) := by
  intro pins s σ H x y v u Q I rx ry ⟨g, c, d, e, z, ok, r1, r2, ez, q⟩
  unfold notNP at ez
  split at ez
  · rename_i he
    cases ez
    refine op_notN pins s σ H x y v u Q I rx ry ⟨isNon_eq r2 he, ?_⟩
    rw [rep_non_iff r1]
    exact q g H _ (Post.refl ok) rep_bl
  · cases ez
theorem dp_list_of {pins : List (Addr × Obj)} {s : Shared} {σ : L2.St} {H : Hp} {g : Gh} {c : Cells} (I : Inv X pins σ H s) (ok : SOk CE X.K g H c) {d : D} {v : V} {u : Value} {ys : List D} {qs : List PyData} (rx : RelV v u) (r : Rep CE X.K g H d v) (e : seqOf d c = some ys) (e2 : toPs ys = some qs) :
    (∃ as, Reads s.heap u (.list qs) as) ∨ ∃ as, Reads s.heap u (.tuple qs) as := by
  obtain ⟨a, vs, rfl, h, z, q⟩ := seqOf_at ok r e
  rcases h with h | h
  · exact .inl (Dp.reads I _ _ u (.lst h (Reps.dp q e2)) rx)
  · exact .inr (Dp.reads I _ _ u (.tup h (Reps.dp q e2)) rx)
theorem inB_key {x y : D} {c : Cells} {b : Bool} (h : inB x y c = some b) : (∃ i j, x = .str i ∧ y = .str j ∧ b = strIn i j) ∨
    ∃ ys qs p, seqOf y c = some ys ∧ toPs ys = some qs ∧ toP x = some p ∧ PyData.canLayAll0 qs = true ∧ PyData.canLay0 p = true ∧ p.depth < 60 ∧ b = qs.any fun q => PyData.eqv q p := by
  have gen : (match seqOf y c with
    | some ys => match toPs ys, toP x with
      | some qs, some p => if PyData.canLayAll0 qs && PyData.canLay0 p && decide (p.depth < 60) then some (qs.any fun q => PyData.eqv q p) else none
      | _, _ => none
    | none => none) = some b → ∃ ys qs p, seqOf y c = some ys ∧ toPs ys = some qs ∧ toP x = some p ∧ PyData.canLayAll0 qs = true ∧ PyData.canLay0 p = true ∧ p.depth < 60 ∧ b = qs.any fun q => PyData.eqv q p := by
    intro h
    split at h
    · rename_i ys ey
      split at h
      · rename_i qs p e1 e2
        split at h
        · rename_i hh
          cases h
          simp only [Bool.and_eq_true, decide_eq_true_eq] at hh
          exact ⟨ys, qs, p, ey, e1, e2, hh.1.1, hh.1.2, hh.2, rfl⟩
        · cases h
      · cases h
    · cases h
  cases y <;> try exact .inr (gen h)
  case str j =>
    cases x <;> simp only [inB, Option.some.injEq, reduceCtorEq] at h
    exact .inl ⟨_, _, rfl, rfl, h.symm⟩
theorem od_in (hu : X.A.units + 65 < cLine) : OpR X (compareOp .In) (rD CE X.K inP) := by
  intro pins s σ H x y v u Q I rx ry ⟨g, c, d, e, z, ok, r1, r2, ez, q⟩
  simp only [inP, Option.map_eq_some_iff] at ez
  obtain ⟨b, ez, rfl⟩ := ez
  have qq := q g H _ (Post.refl ok) rep_bl
  rcases inB_key ez with ⟨i, j, rfl, rfl, rfl⟩ | ⟨ys, qs, p, e1, e2, e3, c1, c2, hdp, rfl⟩
  · simp only [Rep] at r1 r2
    subst r1; subst r2
    exact op_in_str pins s σ H _ _ v u Q I rx ry ⟨i, j, rfl, rfl, qq⟩
  · obtain ⟨bs, rb⟩ := Dp.reads I _ x v (Rep.dp r1 e3) rx
    rcases dp_list_of I ok ry r2 e1 e2 with ⟨as, ra⟩ | ⟨as, ra⟩
    · exact SeqAt.in_list_reads ra rb c1 c2 (by omega) ⟨.bl _, H, I, rfl, qq⟩
    · exact SeqAt.in_tuple_reads ra rb c1 c2 (by omega) ⟨.bl _, H, I, rfl, qq⟩
theorem od_notIn (hu : X.A.units + 65 < cLine) : OpR X (compareOp .NotIn) (rD CE X.K notInP) := by
  intro pins s σ H x y v u Q I rx ry ⟨g, c, d, e, z, ok, r1, r2, ez, q⟩
  simp only [notInP, Option.map_eq_some_iff] at ez
  obtain ⟨b, ez, rfl⟩ := ez
  have qq := q g H _ (Post.refl ok) rep_bl
  rcases inB_key ez with ⟨i, j, rfl, rfl, rfl⟩ | ⟨ys, qs, p, e1, e2, e3, c1, c2, hdp, rfl⟩
  · simp only [Rep] at r1 r2
    subst r1; subst r2
    exact op_notIn_str pins s σ H _ _ v u Q I rx ry ⟨i, j, rfl, rfl, qq⟩
  · obtain ⟨bs, rb⟩ := Dp.reads I _ x v (Rep.dp r1 e3) rx
    rcases dp_list_of I ok ry r2 e1 e2 with ⟨as, ra⟩ | ⟨as, ra⟩
    · exact SeqAt.notIn_list_reads ra rb c1 c2 (by omega) ⟨.bl _, H, I, rfl, qq⟩
    · exact SeqAt.notIn_tuple_reads ra rb c1 c2 (by omega) ⟨.bl _, H, I, rfl, qq⟩
end
end DL

namespace DL
open PySem PySem.Spec PyProof.Rows L2

/-- truth -/
def truB (d : D) (c : Cells) : Option Bool := match d with
  | .non => some false
  | .bl b => some b
  | .int i => some (i != 0)
  | .str y => if y.length ≤ sizeLine then some ((y.length : Int) != 0) else none
  | d => (seqOf d c).map fun xs => !xs.isEmpty
theorem Reps.isEmpty {CE : CEnv} {K : PySem.W.Frag} {g : Gh} {H : Hp} {xs : List D} {vs : List V} (r : Reps CE K g H xs vs) : vs.isEmpty = xs.isEmpty := by
  have := Reps.length r
  cases xs <;> cases vs <;> simp_all
theorem truB_ok {CE : CEnv} {K : PySem.W.Frag} {g : Gh} {H : Hp} {c : Cells} {d : D} {v : V} {b : Bool} (ok : SOk CE K g H c) (r : Rep CE K g H d v) (e : truB d c = some b) : TruV K v H b := by
  have gen : (seqOf d c).map (fun xs => !xs.isEmpty) = some b → TruV K v H b := by
    intro e
    obtain ⟨xs, e1, rfl⟩ := Option.map_eq_some_iff.mp e
    obtain ⟨a, vs, rfl, h, z, q⟩ := seqOf_at ok r e1
    rcases h with h | h
    · exact .inl ⟨vs, h, by rw [Reps.isEmpty q]⟩
    · exact .inr (.inl ⟨vs, h, by rw [Reps.isEmpty q]⟩)
  cases d <;> try exact gen e
  case non => simp only [Rep] at r; subst r; simp only [truB, Option.some.injEq] at e; exact e.symm
  case bl => simp only [Rep] at r; subst r; simp only [truB, Option.some.injEq] at e; exact e.symm
  case int => simp only [Rep] at r; subst r; simp only [truB, Option.some.injEq] at e; exact e.symm
  case str => 
    simp only [Rep] at r; subst r
    simp only [truB] at e
    split at e
    · rename_i hz
      simp only [Option.some.injEq] at e
      exact ⟨hz, e.symm⟩
    · cases e
def tstE (ma : EM) : TM := fun δ => bnd (ma δ) fun d => fun c => opt (truB d c) c
/-- the value is a bool -/
def boolE (ma : EM) : TM := fun δ => bnd (ma δ) fun d => fun c => match d with
  | .bl b => .ok b c
  | _ => .bad
def andT (a b : TM) : TM := fun δ => bnd (a δ) fun k => if k then b δ else DL.ret false
def orT (a b : TM) : TM := fun δ => bnd (a δ) fun k => if k then DL.ret true else b δ
def notT (a : TM) : TM := fun δ => bnd (a δ) fun k => DL.ret (!k)
def andE (a b : EM) : EM := fun δ => bnd (a δ) fun d => fun c => match truB d c with
  | some true => b δ c
  | some false => .ok d c
  | none => .bad
def orE (a b : EM) : EM := fun δ => bnd (a δ) fun d => fun c => match truB d c with
  | some true => .ok d c
  | some false => b δ c
  | none => .bad
def notE (a : EM) : EM := fun δ => bnd (a δ) fun d => fun c => match truB d c with
  | some b => .ok (.bl (!b)) c
  | none => .bad
def ifE (t : TM) (a b : EM) : EM := fun δ => bnd (t δ) fun k => if k then a δ else b δ
def chainE (r r' : D → D → Cells → Option D) (ma mb mc : EM) : EM := fun δ => bnd (ma δ) fun x => bnd (mb δ) fun y => fun c => match r x y c with
  | some (.bl true) => (bnd (mc δ) fun z => fun c => opt (r' y z c) c) c
  | some (.bl false) => .ok (.bl false) c
  | _ => .bad
section
variable {X : Cx} {CE : CEnv} {W : WX} {pos : Pos} {a b e : Expr} {es : List Expr} {ma mb mc : EM} {ta tb : TM}
theorem pt_tru (ha : PD X CE W a ma) (he : ∀ whole, isTrue a X.env whole = (do let v ← whole; standAt a.pos; holding [v] (truthy v)) := by intro _; rfl) : PDT X CE W a (tstE ma) :=
  (pt_truth ha he).wk fun σ H Q ⟨g, c, δ, ok, er, h⟩ => by
    replace h := wpo_bnd.mp h
    refine use ok er h (fun d c1 h g1 H1 v p1 r1 => ?_) fun _ _ _ z => z
    obtain ⟨k, e, h⟩ := opt_ok h
    exact ⟨k, truB_ok p1.ok r1 e, h g1 H1 p1⟩
theorem rep_bool {K : PySem.W.Frag} {g : Gh} {H : Hp} {i : Bool} {v : V} (h : Rep CE K g H (.bl i) v) : v = .bl i := by simpa only [Rep] using h
theorem useBool {K : PySem.W.Frag} {t : TE} {σ : L2.St} {H : Hp} {Q : Bool → Hp → Prop} {m : EM} (ht : ∀ Q, tD CE K W m σ H Q → t σ H Q) {g : Gh} {c : Cells} {δ : Ev'} (ok : SOk CE K g H c) (er : EnvR CE K g H σ δ)
    (h : wpo (boolE m δ c) (fun b c' => ∀ g' H', Post CE K g H c g' H' c' → Q b H') (EK CE K W g H c σ)) : tTest t σ H Q := by
  replace h := wpo_bnd.mp h
  refine ht _ (use ok er h (fun d c1 h g1 H1 v p1 r1 => ?_) fun _ _ _ z => z)
  cases d <;> try exact h.elim
  case bl k => exact ⟨k, rep_bool r1, h g1 H1 p1⟩
theorem pt_cmp {op : CmpOp} {r : D → D → Cells → Option D} (ho : OpR X (compareOp op) (rD CE X.K r)) (ha : PD X CE W a ma) (hb : PD X CE W b mb) (hm : behindInMarks op b = false) : PDT X CE W (.Compare a [op] [b] pos) (boolE (bin r ma mb)) :=
  (pt_cmpR ho ha hb hm).wk fun σ H Q ⟨g, c, δ, ok, er, h⟩ => useBool (fun Q ⟨g, c, δ, ok, er, h⟩ => use2 ok er h) ok er h
theorem use3 {K : PySem.W.Frag} {r r' : D → D → Cells → Option D} {σ : L2.St} {H : Hp} {Q : VK} {g : Gh} {c : Cells} {δ : Ev'} (ok : SOk CE K g H c) (er : EnvR CE K g H σ δ)
    (h : wpo (chainE r r' ma mb mc δ c) (fun d c' => ∀ g' H' v, Post CE K g H c g' H' c' → Rep CE K g' H' d v → Q v H') (EK CE K W g H c σ)) : tChain (rD CE K r) (rD CE K r') (tD CE K W ma) (tD CE K W mb) (tD CE K W mc) σ H Q := by
  replace h := wpo_bnd.mp h
  refine use ok er h (fun d c1 h g1 H1 v p1 r1 => ?_) fun _ _ _ z => z
  replace h := wpo_bnd.mp h
  refine use p1.ok (er.mono ok p1.ext) h (fun d2 c2 h g2 H2 v2 p2 r2 => ?_) fun _ _ _ z => EK.back p1 z
  cases e : r d d2 c2 with
  | none => rw [e] at h; exact h.elim
  | some z =>
    rw [e] at h
    refine ⟨g2, c2, d, d2, z, p2.ok, Rep.mono p1.ok p2.ext r1, r2, e, fun g3 H3 v3 p3 r3 => ?_⟩
    cases z <;> try exact h.elim
    case bl k =>
      refine ⟨k, rep_bool r3, ?_⟩
      cases k with
      | false =>
        rw [if_neg (by simp)]
        exact h g3 H3 (.bl false) ((p1.trans p2).trans p3) rep_bl
      | true =>
        rw [if_pos rfl]
        replace h := wpo_bnd.mp h
        have p13 := (p1.trans p2).trans p3
        refine use p13.ok (er.mono ok p13.ext) h (fun d4 c4 h g4 H4 v4 p4 r4 => ?_) fun _ _ _ z => EK.back p13 z
        obtain ⟨z, e, h⟩ := opt_ok h
        exact ⟨g4, c4, d2, d4, z, p4.ok, Rep.mono p2.ok (p3.trans p4).ext r2, r4, e, fun g5 H5 v5 p5 r5 => h g5 H5 v5 ((p13.trans p4).trans p5) r5⟩
theorem pd_chain {c : Expr} {op op' : CmpOp} {r r' : D → D → Cells → Option D} (ho : OpR X (compareOp op) (rD CE X.K r)) (ho' : OpR X (compareOp op') (rD CE X.K r')) (ha : PD X CE W a ma) (hb : PD X CE W b mb) (hc : PD X CE W c mc)
    (hm : lastMarks [op, op'] [b, c] = false := by with_unfolding_all rfl) : PD X CE W (.Compare a [op, op'] [b, c] pos) (chainE r r' ma mb mc) :=
  (pe_chain ho ho' ha hb hc hm).wk fun σ H Q ⟨g, c, δ, ok, er, h⟩ => use3 ok er h
theorem pt_chainD {c : Expr} {op op' : CmpOp} {r r' : D → D → Cells → Option D} (ho : OpR X (compareOp op) (rD CE X.K r)) (ho' : OpR X (compareOp op') (rD CE X.K r')) (ha : PD X CE W a ma) (hb : PD X CE W b mb) (hc : PD X CE W c mc)
    (hm : lastMarks [op, op'] [b, c] = false := by with_unfolding_all rfl) : PDT X CE W (.Compare a [op, op'] [b, c] pos) (boolE (chainE r r' ma mb mc)) :=
  (pt_chain ho ho' ha hb hc hm).wk fun σ H Q ⟨g, c, δ, ok, er, h⟩ => useBool (fun Q ⟨g, c, δ, ok, er, h⟩ => use3 ok er h) ok er h
/-- a test whatever its whole is -/
def PDW (X : Cx) (CE : CEnv) (W : WX) (e : Expr) (m : TM) : Prop := PW X e (tDT CE X.K W m)
theorem _root_.L2.PW.wk {X : Cx} {e : Expr} {t t' : TT} (h : PW X e t) (hw : ∀ σ H Q, t' σ H Q → t σ H Q) : PW X e t' := ⟨fun whole pins s σ H Q I q => h.run whole pins s σ H Q I (hw _ _ _ q)⟩
theorem pdw_and1 (ha : PDT X CE W a ta) : PDW X CE W (.BoolOp .And [a] pos) ta := pw_and1 ha
theorem pdw_or1 (ha : PDT X CE W a ta) : PDW X CE W (.BoolOp .Or [a] pos) ta := pw_or1 ha
theorem pdw_and {rest : List Expr} (ha : PDT X CE W a ta) (hb : PDW X CE W (.BoolOp .And (b :: rest) pos) tb) : PDW X CE W (.BoolOp .And (a :: b :: rest) pos) (andT ta tb) :=
  (pw_and ha hb).wk fun σ H Q ⟨g, c, δ, ok, er, h⟩ => by
    replace h := wpo_bnd.mp h
    refine useT ok er h (fun k c1 h g1 H1 p1 => ?_) fun _ _ _ z => z
    cases k with
    | true =>
      rw [if_pos rfl] at h ⊢
      exact useT p1.ok (er.mono ok p1.ext) h (fun k2 c2 h g2 H2 p2 => h g2 H2 (p1.trans p2)) fun _ _ _ z => EK.back p1 z
    | false =>
      rw [if_neg (by simp)] at h ⊢
      exact h g1 H1 p1
theorem pdw_or {rest : List Expr} (ha : PDT X CE W a ta) (hb : PDW X CE W (.BoolOp .Or (b :: rest) pos) tb) : PDW X CE W (.BoolOp .Or (a :: b :: rest) pos) (orT ta tb) :=
  (pw_or ha hb).wk fun σ H Q ⟨g, c, δ, ok, er, h⟩ => by
    replace h := wpo_bnd.mp h
    refine useT ok er h (fun k c1 h g1 H1 p1 => ?_) fun _ _ _ z => z
    cases k with
    | false =>
      rw [if_neg (by simp)] at h ⊢
      exact useT p1.ok (er.mono ok p1.ext) h (fun k2 c2 h g2 H2 p2 => h g2 H2 (p1.trans p2)) fun _ _ _ z => EK.back p1 z
    | true =>
      rw [if_pos rfl] at h ⊢
      exact h g1 H1 p1
theorem pdw_pt (h : PDW X CE W e ta) : PDT X CE W e ta := PW.pt h
theorem pdt_not (ha : PDT X CE W a ta) : PDT X CE W (.UnaryOp .Not a pos) (notT ta) :=
  (pt_not ha).wk fun σ H Q ⟨g, c, δ, ok, er, h⟩ => by
    replace h := wpo_bnd.mp h
    exact useT ok er h (fun k c1 h g1 H1 p1 => h g1 H1 p1) fun _ _ _ z => z
theorem pd_one {op : BoolOp} (h : PD X CE W a ma) : PD X CE W (.BoolOp op [a] pos) ma := pe_one h
theorem pd_and {rest : List Expr} (ha : PD X CE W a ma) (hb : PD X CE W (.BoolOp .And (b :: rest) pos) mb) : PD X CE W (.BoolOp .And (a :: b :: rest) pos) (andE ma mb) :=
  (pe_andT ha hb).wk fun σ H Q ⟨g, c, δ, ok, er, h⟩ => by
    replace h := wpo_bnd.mp h
    refine use ok er h (fun d c1 h g1 H1 v p1 r1 => ?_) fun _ _ _ z => z
    cases e : truB d c1 with
    | none => rw [e] at h; exact h.elim
    | some k =>
      rw [e] at h
      refine ⟨k, truB_ok p1.ok r1 e, ?_⟩
      cases k with
      | true =>
        rw [if_pos rfl]
        exact use p1.ok (er.mono ok p1.ext) h (fun d2 c2 h g2 H2 v2 p2 r2 => h g2 H2 v2 (p1.trans p2) r2) fun _ _ _ z => EK.back p1 z
      | false =>
        rw [if_neg (by simp)]
        exact h g1 H1 v p1 r1
theorem pd_or {rest : List Expr} (ha : PD X CE W a ma) (hb : PD X CE W (.BoolOp .Or (b :: rest) pos) mb) : PD X CE W (.BoolOp .Or (a :: b :: rest) pos) (orE ma mb) :=
  (pe_orT ha hb).wk fun σ H Q ⟨g, c, δ, ok, er, h⟩ => by
    replace h := wpo_bnd.mp h
    refine use ok er h (fun d c1 h g1 H1 v p1 r1 => ?_) fun _ _ _ z => z
    cases e : truB d c1 with
    | none => rw [e] at h; exact h.elim
    | some k =>
      rw [e] at h
      refine ⟨k, truB_ok p1.ok r1 e, ?_⟩
      cases k with
      | false =>
        rw [if_neg (by simp)]
        exact use p1.ok (er.mono ok p1.ext) h (fun d2 c2 h g2 H2 v2 p2 r2 => h g2 H2 v2 (p1.trans p2) r2) fun _ _ _ z => EK.back p1 z
      | true =>
        rw [if_pos rfl]
        exact h g1 H1 v p1 r1
theorem pd_not (ha : PD X CE W a ma) : PD X CE W (.UnaryOp .Not a pos) (notE ma) :=
  (pe_notT ha).wk fun σ H Q ⟨g, c, δ, ok, er, h⟩ => by
    replace h := wpo_bnd.mp h
    refine use ok er h (fun d c1 h g1 H1 v p1 r1 => ?_) fun _ _ _ z => z
    cases e : truB d c1 with
    | none => rw [e] at h; exact h.elim
    | some k =>
      rw [e] at h
      exact ⟨k, truB_ok p1.ok r1 e, h g1 H1 _ p1 rep_bl⟩
theorem pd_if (ht : PDT X CE W e ta) (ha : PD X CE W a ma) (hb : PD X CE W b mb) : PD X CE W (.IfExp e a b pos) (ifE ta ma mb) :=
  (pe_ifExp ht ha hb).wk fun σ H Q ⟨g, c, δ, ok, er, h⟩ => by
    replace h := wpo_bnd.mp h
    refine useT ok er h (fun k c1 h g1 H1 p1 => ?_) fun _ _ _ z => z
    cases k with
    | false =>
      rw [if_neg (by simp)] at h ⊢
      exact use p1.ok (er.mono ok p1.ext) h (fun d2 c2 h g2 H2 v2 p2 r2 => h g2 H2 v2 (p1.trans p2) r2) fun _ _ _ z => EK.back p1 z
    | true =>
      rw [if_pos rfl] at h ⊢
      exact use p1.ok (er.mono ok p1.ext) h (fun d2 c2 h g2 H2 v2 p2 r2 => h g2 H2 v2 (p1.trans p2) r2) fun _ _ _ z => EK.back p1 z
end

def tupE (ms : Ev' → M (List D)) : EM := fun δ => bnd (ms δ) fun xs => fun c => if xs.length ≤ sizeLine then .ok (.tup xs) c else .bad
def lstE (ms : Ev' → M (List D)) : EM := fun δ => bnd (ms δ) fun xs => fun c => if xs.length ≤ sizeLine then .ok (.lst xs) c else .bad
/-- a list that will be changed: a cell -/
def lstC (ms : Ev' → M (List D)) : EM := fun δ => bnd (ms δ) fun xs => fun c => if xs.length ≤ sizeLine then .ok (.cell c.length) (c ++ [Cell.lst xs]) else .bad
section
variable {X : Cx} {CE : CEnv} {W : WX} {pos : Pos} {a b e : Expr} {es : List Expr} {ma mb mc : EM} {ms : Ev' → M (List D)}
theorem pd_tup {x1} (h : PDA X CE W es ms) : PD X CE W (.Tuple es x1 pos) (tupE ms) :=
  (pe_tup h).wk fun σ H Q ⟨g, c, δ, ok, er, h⟩ => by
    replace h := wpo_bnd.mp h
    refine useA ok er h (fun ds c1 h g1 H1 vs p1 r1 => ?_) fun _ _ _ z => z
    split at h
    · rename_i hz
      refine ⟨by rw [Reps.length r1]; exact hz, fun p hp => ?_⟩
      exact new_tup p1.ok hp r1 hz fun g2 H2 v p2 r2 => h g2 H2 v (p1.trans p2) r2
    · exact h.elim
theorem pd_lst (h : PDA X CE W es ms) : PD X CE W (.List es pos) (lstE ms) :=
  (pe_lst h).wk fun σ H Q ⟨g, c, δ, ok, er, h⟩ => by
    replace h := wpo_bnd.mp h
    refine useA ok er h (fun ds c1 h g1 H1 vs p1 r1 => ?_) fun _ _ _ z => z
    split at h
    · rename_i hz
      refine ⟨by rw [Reps.length r1]; exact hz, fun p hp => ?_⟩
      exact new_lst p1.ok hp r1 hz fun g2 H2 v p2 r2 => h g2 H2 v (p1.trans p2) r2
    · exact h.elim
theorem pd_lstC (h : PDA X CE W es ms) : PD X CE W (.List es pos) (lstC ms) :=
  (pe_lst h).wk fun σ H Q ⟨g, c, δ, ok, er, h⟩ => by
    replace h := wpo_bnd.mp h
    refine useA ok er h (fun ds c1 h g1 H1 vs p1 r1 => ?_) fun _ _ _ z => z
    split at h
    · rename_i hz
      refine ⟨by rw [Reps.length r1]; exact hz, fun p hp => ?_⟩
      have P := Post.newCell (x := Cell.lst ds) (o := .lst vs) p1.ok hp fun g' H' x q => ⟨vs, q, hz, Reps.mono p1.ok x r1⟩
      refine h _ _ _ (p1.trans P) ?_
      simp only [Rep]
      exact ⟨p, rfl, by rw [← p1.ok.len]; simp⟩
    · exact h.elim
end

def ixP (x y : D) (c : Cells) : Option D := match y with
  | .int i => match x with
    | .str z => if z.length ≤ sizeLine then (atI z.cps.toList i).map fun n => .str ⟨#[n]⟩ else none
    | x => match seqOf x c with
      | some xs => atI xs i
      | none => none
  | _ => none
theorem Reps.atI {CE : CEnv} {K : PySem.W.Frag} {g : Gh} {H : Hp} {xs : List D} {vs : List V} {i : Int} {d : D} (r : Reps CE K g H xs vs) (h : L2.atI xs i = some d) : ∃ v, L2.atI vs i = some v ∧ Rep CE K g H d v := by
  unfold L2.atI at h ⊢
  rw [Reps.length r]
  cases e : ixN xs.length i with
  | none => rw [e] at h; cases h
  | some j =>
    rw [e] at h
    exact Reps.get r h
section
variable {X : Cx} {CE : CEnv} {W : WX} {pos : Pos} {a b e : Expr} {es : List Expr} {ma mb mc : EM} {ms : Ev' → M (List D)}
theorem ixr : IxR X (rD CE X.K ixP) := by
  intro value slice pins s σ H x y v u Q I rx ry ⟨g, c, d, e, z, ok, r1, r2, ez, q⟩ hs
  cases e <;> try (simp [ixP] at ez; done)
  rename_i i
  simp only [Rep] at r2
  subst r2
  have gen : (match seqOf d c with | some xs => L2.atI xs i | none => none) = some z → rIx X.K x (.int i) H Q := by
    intro ez
    split at ez
    · rename_i xs e1
      obtain ⟨a, vs, rfl, h, hz, rr⟩ := seqOf_at ok r1 e1
      obtain ⟨w, e2, rw'⟩ := Reps.atI rr ez
      have qq := q g H w (Post.refl ok) rw'
      rcases h with h | h
      · exact .inl ⟨a, vs, i, w, rfl, rfl, h, e2, qq⟩
      · exact .inr (.inl ⟨a, vs, i, w, rfl, rfl, h, e2, qq⟩)
    · cases ez
  have fin : rIx X.K x (.int i) H Q → wpAny (model X.prog X.w) X.A (subscriptTail value slice v u) (EP X pins σ Q) X.xe s := fun h => ix_seq value slice pins s σ H _ _ v u Q I rx ry h hs
  cases d <;> try exact fin (gen ez)
  case str zz =>
    simp only [ixP] at ez
    split at ez
    · rename_i hz
      obtain ⟨n, e1, rfl⟩ := Option.map_eq_some_iff.mp ez
      simp only [Rep] at r1
      subst r1
      exact fin (.inr (.inr ⟨zz, i, n, rfl, rfl, hz, e1, q g H _ (Post.refl ok) rep_str⟩))
    · cases ez
theorem pd_ix (ha : PD X CE W a ma) (hb : PD X CE W b mb) (hs : PlainIx b := by exact fun _ _ => rfl) : PD X CE W (.Subscript a b pos) (bin ixP ma mb) :=
  (pe_ix ixr ha hb hs).wk fun σ H Q ⟨g, c, δ, ok, er, h⟩ => use2 ok er h
/-- an own list -/
def ownL (i : Nat) (δ : Ev') : Option (List D) := match δ[i]? with
  | some (Slot.own (Cell.lst xs)) => some xs
  | _ => none
theorem ownL_at {K : PySem.W.Frag} {g : Gh} {H : Hp} {σ : L2.St} {δ : Ev'} {i : Nat} {xs : List D} (er : EnvR CE K g H σ δ) (e : ownL i δ = some xs) :
    δ[i]? = some (Slot.own (Cell.lst xs)) ∧ ∃ a vs, σ[i]? = some (some (V.ref a)) ∧ H a = some (.lst vs) ∧ xs.length ≤ sizeLine ∧ Reps CE K g H xs vs := by
  unfold ownL at e
  split at e
  · rename_i ys he
    cases e
    obtain ⟨a, e1, _, _, _, ⟨vs, h1, z, r⟩, _⟩ := er.own i _ _ he rfl
    exact ⟨he, a, vs, e1, h1, z, r⟩
  · cases e
/-- an own list's item -/
def ixO (i : Nat) (mb : EM) : EM := fun δ => match ownL i δ with
  | some xs => bnd (mb δ) fun y => fun c => match y with
    | .int k => opt (L2.atI xs k) c
    | _ => .bad
  | none => stuck
theorem pd_ixO (i : Nat) (ha : PE X a (tVar i)) (hb : PD X CE W b mb) (hs : PlainIx b := by exact fun _ _ => rfl) : PD X CE W (.Subscript a b pos) (ixO i mb) :=
  (pe_ix ix_list ha hb hs).wk fun σ H Q ⟨g, c, δ, ok, er, h⟩ => by
    unfold ixO at h
    cases e : ownL i δ with
    | none => rw [e] at h; exact h.elim
    | some xs =>
      rw [e] at h
      obtain ⟨e0, a, _, e1, _⟩ := ownL_at er e
      refine ⟨.ref a, e1, ?_⟩
      replace h := wpo_bnd.mp h
      refine use ok er h (fun d c1 h g1 H1 v p1 r1 => ?_) fun _ _ _ z => z
      obtain ⟨_, a', vs, e1', h1, z, r⟩ := ownL_at (er.mono ok p1.ext) e
      rw [e1] at e1'; cases e1'
      cases d <;> try exact h.elim
      rename_i k
      obtain ⟨zz, ez, h⟩ := opt_ok h
      simp only [Rep] at r1
      subst r1
      obtain ⟨w, e2, rw'⟩ := Reps.atI r ez
      exact ⟨a, vs, k, w, rfl, rfl, .of h1, e2, h g1 H1 w p1 rw'⟩
end
end DL

namespace DL
open PySem PySem.Spec PyProof.Rows L2

structure KS where
  nx : Ev' → Cells → Prop
  rt : D → Cells → Prop
  bk : Ev' → Cells → Prop
  ct : Ev' → Cells → Prop
  ex : Nat → List D → Ev' → Cells → Prop
def wps (r : Res) (k : KS) : Prop := match r with
  | .nx δ c => k.nx δ c
  | .rt d c => k.rt d c
  | .bk δ c => k.bk δ c
  | .ct δ c => k.ct δ c
  | .exc C xs δ c => k.ex C xs δ c
  | .bad => False
theorem wps_mono {r : Res} {k k' : KS} (h : wps r k) (h1 : ∀ δ c, k.nx δ c → k'.nx δ c) (h2 : ∀ d c, k.rt d c → k'.rt d c) (h3 : ∀ δ c, k.bk δ c → k'.bk δ c) (h4 : ∀ δ c, k.ct δ c → k'.ct δ c) (h5 : ∀ C xs δ c, k.ex C xs δ c → k'.ex C xs δ c) : wps r k' := by
  cases r with
  | nx δ c => exact h1 _ _ h
  | rt d c => exact h2 _ _ h
  | bk δ c => exact h3 _ _ h
  | ct δ c => exact h4 _ _ h
  | exc C xs δ c => exact h5 _ _ _ _ h
  | bad => exact h
section
variable (CE : CEnv) (K : PySem.W.Frag) (W : WX)
/-- what a state's ends want -/
def ks (D : Ends) (g : Gh) (H : Hp) (c : Cells) (σ : L2.St) (δ : Ev') : KS where
  nx := fun δ' c' => ∀ g' H' σ', XS CE K g H c σ δ g' H' c' σ' δ' → D.nx σ' H'
  rt := fun d c' => ∀ g' H' v, XR CE K g H c σ δ g' H' c' → Rep CE K g' H' d v → D.rt v H'
  bk := fun δ' c' => ∀ g' H' σ', XS CE K g H c σ δ g' H' c' σ' δ' → D.bk σ' H'
  ct := fun δ' c' => ∀ g' H' σ', XS CE K g H c σ δ g' H' c' σ' δ' → D.ct σ' H'
  ex := fun C xs δ' c' => ∀ g' H' σ' dx, XS CE K g H c σ δ g' H' c' σ' δ' → ExcAt CE K g' H' C xs dx → W (.ref (CE C).1) dx σ' H'
def tSD (m : SM) : TS := fun D σ H => ∃ g c δ, SOk CE K g H c ∧ EnvR CE K g H σ δ ∧ wps (m δ c) (ks CE K W D g H c σ δ)
end
def SD (X : Cx) (CE : CEnv) (W : WX) (st : Stmt) (m : SM) : Prop := PS X st (tSD CE X.K W m)
def SDs (X : Cx) (CE : CEnv) (W : WX) (st : List Stmt) (m : SM) : Prop := PSs X st (tSD CE X.K W m)
theorem _root_.L2.PS.wk {X : Cx} {e : Stmt} {t t' : TS} (h : PS X e t) (hw : ∀ D σ H, t' D σ H → t D σ H) : PS X e t' := ⟨fun pins s σ H D I q => h.run pins s σ H D I (hw _ _ _ q)⟩
theorem _root_.L2.PSs.wk {X : Cx} {e : List Stmt} {t t' : TS} (h : PSs X e t) (hw : ∀ D σ H, t' D σ H → t D σ H) : PSs X e t' := ⟨fun pins s σ H D I q => h.run pins s σ H D I (hw _ _ _ q)⟩
section
variable {CE : CEnv} {K : PySem.W.Frag} {W : WX} {D : Ends} {g g1 : Gh} {H H1 : Hp} {c c1 : Cells} {δ δ1 : Ev'} {σ σ1 : L2.St} {r : Res}
/-- from a later state -/
theorem ks.back (p : XS CE K g H c σ δ g1 H1 c1 σ1 δ1) (h : wps r (ks CE K W D g H c σ δ)) : wps r (ks CE K W D g1 H1 c1 σ1 δ1) :=
  wps_mono h (fun δ c q g' H' σ' x => q g' H' σ' (p.trans x)) (fun d c q g' H' v x => q g' H' v (p.ret x)) (fun δ c q g' H' σ' x => q g' H' σ' (p.trans x))
    (fun δ c q g' H' σ' x => q g' H' σ' (p.trans x)) (fun C xs δ c q g' H' σ' dx x => q g' H' σ' dx (p.trans x))
/-- an expression first -/
def Out.thenS {α : Type} (o : Out α) (δ : Ev') (f : α → Cells → Res) : Res := match o with
  | .ok a c => f a c
  | .exc C xs c => .exc C xs δ c
  | .bad => .bad
theorem useS {m : EM} {R : VK} {f : DL.D → Cells → Res} (ok : SOk CE K g H c) (er : EnvR CE K g H σ δ) (h : wps ((m δ c).thenS δ f) (ks CE K W D g H c σ δ))
    (hP : ∀ d c', wps (f d c') (ks CE K W D g H c σ δ) → ∀ g' H' v, Post CE K g H c g' H' c' → Rep CE K g' H' d v → R v H') : tD CE K W m σ H R := by
  refine ⟨g, c, δ, ok, er, ?_⟩
  cases e : m δ c with
  | ok a c' => rw [e] at h; exact hP a c' h
  | exc C xs c' => rw [e] at h; exact fun g' H' dx p x => h g' H' σ dx (XS.of ok er p) x
  | bad => rw [e] at h; exact h
theorem useST {m : TM} {R : Bool → Hp → Prop} {f : Bool → Cells → Res} (ok : SOk CE K g H c) (er : EnvR CE K g H σ δ) (h : wps ((m δ c).thenS δ f) (ks CE K W D g H c σ δ))
    (hP : ∀ d c', wps (f d c') (ks CE K W D g H c σ δ) → ∀ g' H', Post CE K g H c g' H' c' → R d H') : tDT CE K W m σ H R := by
  refine ⟨g, c, δ, ok, er, ?_⟩
  cases e : m δ c with
  | ok a c' => rw [e] at h; exact hP a c' h
  | exc C xs c' => rw [e] at h; exact fun g' H' dx p x => h g' H' σ dx (XS.of ok er p) x
  | bad => rw [e] at h; exact h
/-- a slot is stored -/
theorem EnvR.set {i : Nat} {d : DL.D} {v : V} (er : EnvR CE K g H σ δ) (r : Rep CE K g H d v) : EnvR CE K g H (σ.set i (some v)) (δ.set i (.sh d)) where
  len := by simpa using er.len
  sh := fun j e h => by
    by_cases hj : j = i
    · subst hj
      have hl : j < δ.length := by
        have := (List.getElem?_eq_some_iff.mp h).1
        simpa using this
      rw [List.getElem?_set_self hl] at h
      cases h
      exact ⟨v, List.getElem?_set_self (by rw [er.len]; exact hl), r⟩
    · rw [List.getElem?_set_ne (Ne.symm hj)] at h ⊢
      exact er.sh j e h
  own := fun j t o h ho => by
    by_cases hj : j = i
    · subst hj
      have hl : j < δ.length := by
        have := (List.getElem?_eq_some_iff.mp h).1
        simpa using this
      rw [List.getElem?_set_self hl] at h
      cases h
      cases ho
    · rw [List.getElem?_set_ne (Ne.symm hj)] at h ⊢
      obtain ⟨a, e1, n1, n2, n3, n4, n5⟩ := er.own j t o h ho
      refine ⟨a, e1, n1, n2, n3, n4, fun k t' o' h1 h1' h2 => ?_⟩
      by_cases hk : k = i
      · subst hk
        have hl : k < δ.length := by
          have := (List.getElem?_eq_some_iff.mp h1).1
          simpa using this
        rw [List.getElem?_set_self hl] at h1
        cases h1
        cases h1'
      · rw [List.getElem?_set_ne (Ne.symm hk)] at h1 h2
        exact n5 k t' o' h1 h1' h2
  slf := fun j a C xs h => by
    by_cases hj : j = i
    · subst hj
      have hl : j < δ.length := by
        have := (List.getElem?_eq_some_iff.mp h).1
        simpa using this
      rw [List.getElem?_set_self hl] at h
      cases h
    · rw [List.getElem?_set_ne (Ne.symm hj)] at h ⊢
      exact er.slf j a C xs h
end
theorem XS.set {CE : CEnv} {K : PySem.W.Frag} {g g' : Gh} {H H' : Hp} {c c' : Cells} {σ σ' : L2.St} {δ δ' : Ev'} {i : Nat} {d : DL.D} {v : V} (x : XS CE K g H c σ δ g' H' c' σ' δ') (r : Rep CE K g' H' d v) : XS CE K g H c σ δ g' H' c' (σ'.set i (some v)) (δ'.set i (.sh d)) :=
  ⟨x.x, x.ok, x.er.set r, fun a h => x.sub a h.set⟩
def nilS : SM := fun δ c => .nx δ c
def Res.seq (r : Res) (f : Ev' → Cells → Res) : Res := match r with
  | .nx δ c => f δ c
  | r => r
def seqS (a b : SM) : SM := fun δ c => (a δ c).seq b
def exprS (m : EM) : SM := fun δ c => (m δ c).thenS δ fun _ c => .nx δ c
def retS (m : EM) : SM := fun δ c => (m δ c).thenS δ fun d c => .rt d c
def retN : SM := fun _ c => .rt .non c
def setS (i : Nat) (m : EM) : SM := fun δ c => (m δ c).thenS δ fun d c => .nx (δ.set i (.sh d)) c
def ifS (t : TM) (a b : SM) : SM := fun δ c => (t δ c).thenS δ fun k c => if k then a δ c else b δ c
def brkS : SM := fun δ c => .bk δ c
def cntS : SM := fun δ c => .ct δ c
section
variable {X : Cx} {CE : CEnv} {W : WX} {pos : Pos} {e : Expr} {st : Stmt} {sts : List Stmt} {m : EM} {a b : SM} {t : TM}
theorem sd_nil : SDs X CE W [] nilS := pss_nil.wk fun D σ H ⟨g, c, δ, ok, er, h⟩ => h g H σ (XS.of ok er (Post.refl ok))
theorem sd_cons (h1 : SD X CE W st a) (h2 : SDs X CE W sts b) : SDs X CE W (st :: sts) (seqS a b) :=
  (pss_cons h1 h2).wk fun D σ H ⟨g, c, δ, ok, er, h⟩ => by
    refine ⟨g, c, δ, ok, er, ?_⟩
    unfold seqS at h
    cases e : a δ c with
    | nx δ' c' =>
      rw [e] at h
      exact fun g' H' σ' x => ⟨g', c', δ', x.ok, x.er, ks.back x h⟩
    | rt d c' => rw [e] at h; exact h
    | bk δ' c' => rw [e] at h; exact h
    | ct δ' c' => rw [e] at h; exact h
    | exc C xs δ' c' => rw [e] at h; exact h
    | bad => rw [e] at h; exact h
theorem sd_one (h : SD X CE W st a) : SDs X CE W [st] a := pss_one h
theorem sd_pass : SD X CE W (.Pass pos) nilS := ps_pass.wk fun D σ H ⟨g, c, δ, ok, er, h⟩ => h g H σ (XS.of ok er (Post.refl ok))
theorem sd_brk : SD X CE W (.Break pos) brkS := ps_break.wk fun D σ H ⟨g, c, δ, ok, er, h⟩ => h g H σ (XS.of ok er (Post.refl ok))
theorem sd_cnt : SD X CE W (.Continue pos) cntS := ps_continue.wk fun D σ H ⟨g, c, δ, ok, er, h⟩ => h g H σ (XS.of ok er (Post.refl ok))
theorem sd_doc {x j pos pos'} : SD X CE W (.Expr (.Constant (.str x) j pos) pos') nilS := ps_doc.wk fun D σ H ⟨g, c, δ, ok, er, h⟩ => h g H σ (XS.of ok er (Post.refl ok))
theorem sd_expr (he : PD X CE W e m) (hs : swapsWith e none pos.line X.env = pure false := by rfl) : SD X CE W (.Expr e pos) (exprS m) :=
  (ps_expr he hs).wk fun D σ H ⟨g, c, δ, ok, er, h⟩ => useS ok er h fun d c' h g' H' v p r => h g' H' σ (XS.of ok er p)
theorem sd_ret (he : PD X CE W e m) : SD X CE W (.Return (some e) pos) (retS m) :=
  (ps_ret he).wk fun D σ H ⟨g, c, δ, ok, er, h⟩ => useS ok er h fun d c' h g' H' v p r => h g' H' v (XR.of ok p) r
theorem sd_retN : SD X CE W (.Return none pos) retN := ps_retN.wk fun D σ H ⟨g, c, δ, ok, er, h⟩ => h g H .non (XR.of ok (Post.refl ok)) rep_non
theorem sd_set (i : Nat) {x : PySem.Str} {pos' : Pos} (hN : X.N.Nodup) (hi : X.N[i]? = some x) (hx : Loc X.env.scope x) (he : PD X CE W e m) (hs : swapsWith e (some (.Name x pos')) pos.line X.env = pure false := by rfl)
    (hf : X.fn x = true ∨ X.env.scope.names.lookup x = some .local := by first | exact .inl rfl | exact .inr rfl | assumption) : SD X CE W (.Assign [.Name x pos'] e pos) (setS i m) :=
  (ps_set hN hi hx he hs hf).wk fun D σ H ⟨g, c, δ, ok, er, h⟩ => useS ok er h fun d c' h g' H' v p r => h g' H' _ (XS.set (XS.of ok er p) r)
theorem sd_if {aa bb : List Stmt} (hc : PDT X CE W e t) (ha : SDs X CE W aa a) (hb : SDs X CE W bb b) : SD X CE W (.If e aa bb pos) (ifS t a b) :=
  (ps_if hc ha hb).wk fun D σ H ⟨g, c, δ, ok, er, h⟩ => useST ok er h fun k c' h g' H' p => by
    cases k with
    | true =>
      rw [if_pos rfl] at h ⊢
      exact ⟨g', c', δ, p.ok, er.mono ok p.ext, ks.back (XS.of ok er p) h⟩
    | false =>
      rw [if_neg (by simp)] at h ⊢
      exact ⟨g', c', δ, p.ok, er.mono ok p.ext, ks.back (XS.of ok er p) h⟩
end

/-- o[i] = e, o a list that is a cell -/
def setItem (o i d : D) (c : Cells) : Option Cells := match o with
  | .cell k => match c[k]? with
    | some (Cell.lst xs) => match i with
      | .int j => (ixN xs.length j).map fun n => c.set k (Cell.lst (xs.set n d))
      | _ => none
    | _ => none
  | _ => none
def setIxS (mo mi me : EM) : SM := fun δ c => (me δ c).thenS δ fun d c => (mo δ c).thenS δ fun o c => (mi δ c).thenS δ fun i c => match setItem o i d c with
  | some c' => .nx δ c'
  | none => .bad
section
variable {X : Cx} {CE : CEnv} {W : WX} {pos : Pos} {e o i : Expr} {st : Stmt} {sts : List Stmt} {m mo mi me : EM} {a b : SM} {t : TM}
theorem setItem_ok {K : PySem.W.Frag} {g : Gh} {H : Hp} {c c' : Cells} {o i d : D} {x y v : V} {Q : Hp → Prop} (ok : SOk CE K g H c) (r1 : Rep CE K g H o x) (r2 : Rep CE K g H i y) (r3 : Rep CE K g H d v) (e : setItem o i d c = some c')
    (q : ∀ g' H', Post CE K g H c g' H' c' → Q H') : rSetL x y v H Q := by
  unfold setItem at e
  split at e
  · rename_i k
    split at e
    · rename_i xs hk
      split at e
      · rename_i j
        obtain ⟨n, e1, rfl⟩ := Option.map_eq_some_iff.mp e
        simp only [Rep] at r1 r2
        obtain ⟨a, rfl, ha⟩ := r1
        subst r2
        obtain ⟨vs, h1, z, r⟩ := ok.cl k a _ ha hk
        refine ⟨a, vs, j, n, rfl, rfl, h1, by rw [Reps.length r]; exact e1, q g _ ?_⟩
        exact Post.setCell ok ha hk (by simp) (by simp) fun H' x hx => ⟨_, hx, by simpa using z, Reps.mono ok x (Reps.set n r r3)⟩
      · cases e
    · cases e
  · cases e
theorem sd_setIx {tpos : Pos} (ho : PD X CE W o mo) (hi : PD X CE W i mi) (he : PD X CE W e me) (hs : swapsWithSole [.Subscript o i tpos] e pos.line X.env = pure false := by rfl) (hw : swappedStores [.Subscript o i tpos] e X.env = pure none := by rfl)
    (hga : ∀ v, assign (.Subscript o i tpos) X.env v = (do
      let ov ← holding [v] (eval o X.env)
      let iv ← holding [v, ov] (eval i X.env)
      standAt tpos
      holding [v, ov, iv] (PySem.setItem ov iv v)
      release [v, ov, iv] []) := by intro _; rfl) :
    SD X CE W (.Assign [.Subscript o i tpos] e pos) (setIxS mo mi me) := by
  exact (ps_asg he (pg_sub ho hi set_list hga) hs hw).wk fun D σ H ⟨g, c, δ, ok, er, h⟩ => useS ok er h fun d c1 h g1 H1 v p1 r1 => by
    have x1 := XS.of ok er p1
    replace h := ks.back x1 h
    refine useS p1.ok x1.er h fun d2 c2 h g2 H2 v2 p2 r2 => ?_
    have x2 := XS.of p1.ok x1.er p2
    replace h := ks.back x2 h
    refine useS p2.ok x2.er h fun d3 c3 h g3 H3 v3 p3 r3 => ?_
    have x3 := XS.of p2.ok x2.er p3
    replace h := ks.back x3 h
    split at h
    · rename_i c' ec
      exact setItem_ok p3.ok (Rep.mono p2.ok p3.ext r2) r3 (Rep.mono p1.ok (p2.trans p3).ext r1) ec fun g4 H4 p4 => h g4 H4 σ (XS.of p3.ok x3.er p4)
    · exact h.elim
end
end DL

namespace DL
open PySem PySem.Spec PyProof.Rows L2

/-- J walks the data xs from the state (g, H, c) on -/
structure DWalk (CE : CEnv) (K : PySem.W.Frag) (J : It) (xs : List D) (g : Gh) (H : Hp) (c : Cells) : Prop where
  sz : xs.length ≤ sizeLine
  go : ∀ g1 H1 c1, RK g H g1 H1 → SOk CE K g1 H1 c1 → ∀ i, i < xs.length → J.go i H1
  stop : ∀ g1 H1 c1, RK g H g1 H1 → SOk CE K g1 H1 c1 → J.stop xs.length H1
  yld : ∀ g1 H1 c1, RK g H g1 H1 → SOk CE K g1 H1 c1 → ∀ i d x H2, xs[i]? = some d → J.yld i H1 x H2 → ∃ g2, Post CE K g1 H1 c1 g2 H2 c1 ∧ Rep CE K g2 H2 d x
theorem RK.trans {g g' g'' : Gh} {H H' H'' : Hp} (a : RK g H g' H') (b : RK g' H' g'' H'') : RK g H g'' H'' := ⟨fun x h => b.fr x (a.fr x h), fun k x h => b.am k x (a.am k x h), fun x h => (b.F x (a.fr x h)).trans (a.F x h), fun x xs h => b.tup x xs (a.tup x xs h), fun x o u h => b.frz x o u (a.frz x o u h)⟩
theorem DWalk.mono {CE : CEnv} {K : PySem.W.Frag} {J : It} {xs : List D} {g g' : Gh} {H H' : Hp} {c c' : Cells} (w : DWalk CE K J xs g H c) (r : RK g H g' H') : DWalk CE K J xs g' H' c' :=
  ⟨w.sz, fun g1 H1 c1 x => w.go g1 H1 c1 (r.trans x), fun g1 H1 c1 x => w.stop g1 H1 c1 (r.trans x), fun g1 H1 c1 x => w.yld g1 H1 c1 (r.trans x)⟩
theorem RK.refl {g : Gh} {H : Hp} : RK g H g H := ⟨fun _ h => h, fun _ _ h => h, fun _ _ => rfl, fun _ _ h => h, fun _ _ _ h => h⟩
section
variable (CE : CEnv) (K : PySem.W.Frag) (W : WX)
def tI (mi : Ev' → M (List D)) : TI := fun σ H R => ∃ g c δ, SOk CE K g H c ∧ EnvR CE K g H σ δ ∧
  wpo (mi δ c) (fun xs c' => ∀ g' H' J, Post CE K g H c g' H' c' → DWalk CE K J xs g' H' c' → R J H') (EK CE K W g H c σ)
def gD (js : List Nat) (tg : D → Ev' → Option Ev') : TG := fun v σ H Q => ∃ g c δ d δ', SOk CE K g H c ∧ EnvR CE K g H σ δ ∧ Rep CE K g H d v ∧ tg d δ = some δ' ∧ ∀ σ', EnvR CE K g H σ' δ' → wipe σ' js = wipe σ js → (∀ a, Own σ' δ' a → Own σ δ a) → Q σ' H
def gDs (js : List Nat) (tg : List D → Ev' → Option Ev') : TGs := fun vs σ H Q => ∃ g c δ ds δ', SOk CE K g H c ∧ EnvR CE K g H σ δ ∧ Reps CE K g H ds vs ∧ tg ds δ = some δ' ∧ ∀ σ', EnvR CE K g H σ' δ' → wipe σ' js = wipe σ js → (∀ a, Own σ' δ' a → Own σ δ a) → Q σ' H
end
def PID (X : Cx) (CE : CEnv) (W : WX) (tg iter : Expr) (mi : Ev' → M (List D)) : Prop := PI X tg iter (tI CE X.K W mi)
def PGD (X : Cx) (CE : CEnv) (js : List Nat) (tg : Expr) (t : D → Ev' → Option Ev') : Prop := PG X tg (gD CE X.K js t)
def PGDs (X : Cx) (CE : CEnv) (js : List Nat) (tg : List Expr) (t : List D → Ev' → Option Ev') : Prop := PGs X tg (gDs CE X.K js t)
theorem _root_.L2.PI.wk {X : Cx} {tg e : Expr} {t t' : TI} (h : PI X tg e t) (hw : ∀ σ H R, t' σ H R → t σ H R) : PI X tg e t' := ⟨fun pins s σ H R I q => h.run pins s σ H R I (hw _ _ _ q)⟩
theorem _root_.L2.PG.wk {X : Cx} {tg : Expr} {t t' : TG} (h : PG X tg t) (hw : ∀ v σ H Q, t' v σ H Q → t v σ H Q) : PG X tg t' := ⟨fun pins s σ H v u Q I r q => h.run pins s σ H v u Q I r (hw _ _ _ _ q)⟩
theorem _root_.L2.PGs.wk {X : Cx} {tg : List Expr} {t t' : TGs} (h : PGs X tg t) (hw : ∀ v σ H Q, t' v σ H Q → t v σ H Q) : PGs X tg t' := ⟨fun pins s σ H v u Q I r q => h.run pins s σ H v u Q I r (hw _ _ _ _ q)⟩

theorem wipe_set {i : Nat} {x : Option V} : ∀ {js : List Nat} {σ : L2.St}, i ∈ js → wipe (σ.set i x) js = wipe σ js
  | j :: js, σ, h => by
    unfold wipe
    by_cases hj : i ∈ js
    · rw [wipe_set hj]
    · have e : i = j := (List.mem_cons.mp h).resolve_right hj
      subst e
      have : wipe (σ.set i x) js = (wipe σ js).set i x := wipe_set_out hj
      rw [this, List.set_set]
where
  wipe_set_out {i : Nat} {x : Option V} : ∀ {js : List Nat} {σ : L2.St}, i ∉ js → wipe (σ.set i x) js = (wipe σ js).set i x
    | [], _, _ => rfl
    | j :: js, σ, h => by
      have h1 : i ≠ j := fun e => h (e ▸ List.mem_cons_self)
      have h2 : i ∉ js := fun e => h (List.mem_cons_of_mem _ e)
      unfold wipe
      rw [wipe_set_out h2, List.set_comm _ _ h1]
def tgN (i : Nat) : D → Ev' → Option Ev' := fun d δ => some (δ.set i (.sh d))
def tgNil : List D → Ev' → Option Ev' := fun ds δ => match ds with
  | [] => some δ
  | _ => none
def tgCons (t : D → Ev' → Option Ev') (u : List D → Ev' → Option Ev') : List D → Ev' → Option Ev' := fun ds δ => match ds with
  | d :: r => match t d δ with
    | some δ' => u r δ'
    | none => none
  | [] => none
def tgT (n : Nat) (u : List D → Ev' → Option Ev') : D → Ev' → Option Ev' := fun d δ => match d with
  | .tup ds => if ds.length = n then u ds δ else none
  | _ => none
section
variable {X : Cx} {CE : CEnv} {W : WX} {pos : Pos} {e : Expr} {es : List Expr} {t : D → Ev' → Option Ev'} {u : List D → Ev' → Option Ev'} {js : List Nat}
theorem pgd_name (i : Nat) {x : PySem.Str} (hN : X.N.Nodup) (hi : X.N[i]? = some x) (hx : Loc X.env.scope x) (hj : i ∈ js := by decide) (hf : X.fn x = true ∨ X.env.scope.names.lookup x = some .local := by first | exact .inl rfl | exact .inr rfl | assumption) : PGD X CE js (.Name x pos) (tgN i) :=
  (pg_name hN hi hx hf).wk fun v σ H Q ⟨g, c, δ, d, δ', ok, er, r, e, q⟩ => by
    cases e
    exact q _ (er.set r) (wipe_set hj) fun a h => h.set
theorem pgds_nil : PGDs X CE js [] tgNil := pgs_nil.wk fun v σ H Q ⟨g, c, δ, ds, δ', ok, er, r, e, q⟩ => by
  cases ds with
  | nil =>
    cases e
    simp only [Reps] at r
    exact ⟨r, q σ er rfl fun _ h => h⟩
  | cons d ds => cases e
theorem pgds_cons (h1 : PGD X CE js e t) (h2 : PGDs X CE js es u) (hs : (assignEach (e :: es) X.env).map (fun q => q.2) = assign e X.env :: (assignEach es X.env).map (fun q => q.2) := by rfl) : PGDs X CE js (e :: es) (tgCons t u) :=
  (pgs_cons h1 h2 hs).wk fun v σ H Q ⟨g, c, δ, ds, δ', ok, er, r, e, q⟩ => by
    cases ds with
    | nil => cases e
    | cons d ds =>
      simp only [Reps] at r
      obtain ⟨w, ws, rfl, r1, r2⟩ := r
      simp only [tgCons] at e
      split at e
      · rename_i δ1 e1
        exact ⟨w, ws, rfl, g, c, δ, d, δ1, ok, er, r1, e1, fun σ1 er1 w1 o1 => ⟨g, c, δ1, ds, δ', ok, er1, r2, e, fun σ2 er2 w2 o2 => q σ2 er2 (w2.trans w1) fun a h => o1 a (o2 a h)⟩⟩
      · cases e
theorem pgd_tup {k n : Nat} (hc : X.calm = true) (h : PGDs X CE js es u) (hn : (assignEach es X.env).length = n := by rfl) (hst : (assignEach es X.env).findIdx? (·.1) = none := by rfl) : PGD X CE js (.Tuple es k pos) (tgT n u) :=
  (pg_tup hc h hn hst).wk fun v σ H Q ⟨g, c, δ, d, δ', ok, er, r, e, q⟩ => by
    cases d <;> try (simp [tgT] at e; done)
    rename_i ds
    simp only [tgT] at e
    split at e
    · rename_i hl
      simp only [Rep] at r
      obtain ⟨a, vs, rfl, h1, z, r⟩ := r
      exact ⟨a, vs, rfl, h1, by rw [Reps.length r]; exact hl, g, c, δ, ds, δ', ok, er, r, e, q⟩
    · cases e
end

/-- data that never change -/
def seqF : D → Option (List D)
  | .tup xs => some xs
  | .lst xs => some xs
  | .rol xs => some xs
  | _ => none
def itE (m : EM) : Ev' → M (List D) := fun δ => bnd (m δ) fun d => fun c => opt (seqF d) c
def rangeD (lo : Int) (n : Nat) : List D := (List.range n).map fun (i : Nat) => D.int (lo + i)
def rng1 (ds : List D) : Option (List D) := match ds with
  | [.int j] => if -(2 ^ 62) ≤ j ∧ j ≤ 16777216 then some (rangeD 0 j.toNat) else none
  | _ => none
def rng2 (ds : List D) : Option (List D) := match ds with
  | [.int i, .int j] => if -16777216 ≤ i ∧ i < 2 ^ 62 ∧ -(2 ^ 62) ≤ j ∧ j ≤ 16777216 ∧ j - i ≤ 16777216 then some (rangeD i (j - i).toNat) else none
  | _ => none
def itR (r : List D → Option (List D)) (ms : Ev' → M (List D)) : Ev' → M (List D) := fun δ => bnd (ms δ) fun ds => fun c => opt (r ds) c
theorem rangeD_get {lo : Int} {n i : Nat} {d : D} (h : (rangeD lo n)[i]? = some d) : d = .int (lo + i) := by
  unfold rangeD at h
  rw [List.getElem?_map] at h
  obtain ⟨j, e, rfl⟩ := Option.map_eq_some_iff.mp h
  obtain ⟨hl, e⟩ := List.getElem?_eq_some_iff.mp e
  simp at e
  rw [← e]
theorem rangeD_length {lo : Int} {n : Nat} : (rangeD lo n).length = n := by simp [rangeD]
section
variable {CE : CEnv} {K : PySem.W.Frag} {g : Gh} {H : Hp} {c : Cells}
theorem dwalk_range {lo : Int} {n : Nat} (hn : n ≤ sizeLine) : DWalk CE K (Itr lo n) (rangeD lo n) g H c where
  sz := by rw [rangeD_length]; exact hn
  go := fun g1 H1 c1 p _ i h => by rw [rangeD_length] at h; exact h
  stop := fun g1 H1 c1 p _ => by rw [rangeD_length]; exact Nat.le_refl _
  yld := fun g1 H1 c1 p ok i d x H2 h ⟨e1, e2⟩ => by
    subst e1; subst e2
    rw [rangeD_get h]
    exact ⟨g1, Post.refl ok, rep_int⟩
theorem dwalk_list {a : Addr} {vs : List V} {xs : List D} (hk : ∀ g1 H1, RK g H g1 H1 → SqL K H1 a vs) (r : Reps CE K g H xs vs) (hz : xs.length ≤ sizeLine) : DWalk CE K (Itl K a) xs g H c where
  sz := hz
  go := fun g1 H1 c1 p _ i h => ⟨vs, vs[i]'(by rw [Reps.length r]; exact h), hk _ _ p, by simp [Reps.length r, h]⟩
  stop := fun g1 H1 c1 p _ => ⟨vs, hk _ _ p, by rw [Reps.length r]; exact Nat.le_refl _⟩
  yld := fun g1 H1 c1 p ok i d x H2 h ⟨e1, e2⟩ => by
    subst e1
    obtain ⟨v, e3, r3⟩ := Reps.get (Reps.rk p r) h
    have e4 := e2 vs (hk _ _ p)
    rw [e3] at e4; cases e4
    exact ⟨g1, Post.refl ok, r3⟩
theorem dwalk_tup {a : Addr} {vs : List V} {xs : List D} (hk : SqT K H a vs) (r : Reps CE K g H xs vs) (hz : xs.length ≤ sizeLine) : DWalk CE K (Itt K a) xs g H c where
  sz := hz
  go := fun g1 H1 c1 p _ i h => ⟨vs, vs[i]'(by rw [Reps.length r]; exact h), SqT.rk p hk, by simp [Reps.length r, h]⟩
  stop := fun g1 H1 c1 p _ => ⟨vs, SqT.rk p hk, by rw [Reps.length r]; exact Nat.le_refl _⟩
  yld := fun g1 H1 c1 p ok i d x H2 h ⟨e1, e2⟩ => by
    subst e1
    obtain ⟨v, e3, r3⟩ := Reps.get (Reps.rk p r) h
    have e4 := e2 vs (SqT.rk p hk)
    rw [e3] at e4; cases e4
    exact ⟨g1, Post.refl ok, r3⟩
end
section
variable {X : Cx} {CE : CEnv} {W : WX} {pos : Pos} {tg e a b : Expr} {es : List Expr} {m : EM} {ms : Ev' → M (List D)}
theorem pid_seq (he : PD X CE W e m) : PID X CE W tg e (itE m) := by
  have base : PI X tg e (fun σ H R => tD CE X.K W m σ H fun x H1 => ∃ a, x = .ref a ∧ (((∃ xs, SqL X.K H1 a xs) ∧ R (Itl X.K a) H1) ∨ ((∃ xs, SqT X.K H1 a xs) ∧ R (Itt X.K a) H1))) := by
    refine ⟨fun pins s σ H R I h => ?_⟩
    have hr := PE.run he pins s σ H _ I h
    refine thn hr fun v s1 ⟨x, H1, I1, r1, q1⟩ => ?_
    obtain ⟨a, e, ⟨⟨xs, hq⟩, q⟩ | ⟨⟨xs, hq⟩, q⟩⟩ := q1
    · subst e
      cases r1
      obtain ⟨its, rv, p, hz⟩ := I1.list hq
      refine wpAny_pyIter_list p.isList ?_
      refine ⟨s1.heap.objs.size, [s1.heap.objs.size], _, _, H1, rfl, I1.kept (t' := s1.toks) fun b o e => Heap.get?_push_of_some _ e, turn_list a _, ⟨_, Heap.get?_push_size _ rfl, rfl, rfl⟩, fun b hb => ?_, q⟩
      have e : b = s1.heap.objs.size := by simpa using hb
      rw [e]
      exact I1.fpOk (Nat.le_refl _) (I1.hok.fresh (Nat.le_refl _))
    · subst e
      cases r1
      obtain ⟨its, rv, p, hz⟩ := I1.tuple hq
      refine wpAny_pyIter_tuple (show s1.heap.IsTuple a its.toArray from p) ?_
      refine ⟨s1.heap.objs.size, [s1.heap.objs.size], _, _, H1, rfl, I1.kept (t' := s1.toks) fun b o e => Heap.get?_push_of_some _ e, turn_tuple a _, ⟨_, Heap.get?_push_size _ rfl, rfl, rfl⟩, fun b hb => ?_, q⟩
      have e : b = s1.heap.objs.size := by simpa using hb
      rw [e]
      exact I1.fpOk (Nat.le_refl _) (I1.hok.fresh (Nat.le_refl _))
  refine base.wk fun σ H R ⟨g, c, δ, ok, er, h⟩ => ?_
  replace h := wpo_bnd.mp h
  refine use ok er h (fun d c1 h g1 H1 v p1 r1 => ?_) fun _ _ _ z => z
  obtain ⟨xs, ex, h⟩ := opt_ok h
  cases d <;> try (simp [seqF] at ex; done)
  · simp only [seqF, Option.some.injEq] at ex
    subst ex
    simp only [Rep] at r1
    obtain ⟨a, vs, rfl, hq, z, r⟩ := r1
    exact ⟨a, rfl, .inr ⟨⟨vs, hq⟩, h g1 H1 _ p1 (dwalk_tup hq r z)⟩⟩
  · simp only [seqF, Option.some.injEq] at ex
    subst ex
    simp only [Rep] at r1
    obtain ⟨a, vs, rfl, hf, hq, z, r⟩ := r1
    exact ⟨a, rfl, .inl ⟨⟨vs, .of hq⟩, h g1 H1 _ p1 (dwalk_list (fun g2 H2 p2 => .of ((p2.F a hf).trans hq)) r z)⟩⟩
  · simp only [seqF, Option.some.injEq] at ex
    subst ex
    have r1' := r1
    simp only [Rep] at r1
    obtain ⟨a, vs, rfl, hq, z, r⟩ := r1
    have hk : ∀ g2 H2, RK g1 H1 g2 H2 → SqL X.K H2 a vs := fun g2 H2 p2 => by
      rcases hq with ⟨o, hq⟩ | hq
      · exact .inl (.inr ⟨o, p2.frz a _ _ hq⟩)
      · exact hq H2
    exact ⟨a, rfl, .inl ⟨⟨vs, hk g1 H1 RK.refl⟩, h g1 H1 _ p1 (dwalk_list hk r z)⟩⟩
theorem pid_range1 {p : Pos} (hg : Gl X "range") (hm : X.mg "range" = none) (ha : PDA X CE W [a] ms) (hs : starEach [a] X.env = [(false, eval a X.env)] := by rfl) : PID X CE W tg (.Call (.Name "range" p) [a] [] pos) (itR rng1 ms) :=
  (pi_range1 hg hm ha hs).wk fun σ H R ⟨g, c, δ, ok, er, h⟩ => by
    replace h := wpo_bnd.mp h
    refine useA ok er h (fun ds c1 h g1 H1 vs p1 r1 => ?_) fun _ _ _ z => z
    obtain ⟨xs, ex, h⟩ := opt_ok h
    unfold rng1 at ex
    split at ex
    · rename_i j
      split at ex
      · rename_i hb
        cases ex
        simp only [Reps, Rep] at r1
        obtain ⟨_, _, rfl, rfl, rfl⟩ := r1
        exact ⟨j, rfl, hb.1, by omega, h g1 H1 _ p1 (dwalk_range (by rw [sizeLine_eq]; omega))⟩
      · cases ex
    · cases ex
theorem pid_range2 {p : Pos} (hg : Gl X "range") (hm : X.mg "range" = none) (ha : PDA X CE W [a, b] ms) (hs : starEach [a, b] X.env = [(false, eval a X.env), (false, eval b X.env)] := by rfl) (hs2 : starEach [b] X.env = [(false, eval b X.env)] := by rfl) : PID X CE W tg (.Call (.Name "range" p) [a, b] [] pos) (itR rng2 ms) :=
  (pi_range2 hg hm ha hs hs2).wk fun σ H R ⟨g, c, δ, ok, er, h⟩ => by
    replace h := wpo_bnd.mp h
    refine useA ok er h (fun ds c1 h g1 H1 vs p1 r1 => ?_) fun _ _ _ z => z
    obtain ⟨xs, ex, h⟩ := opt_ok h
    unfold rng2 at ex
    split at ex
    · rename_i i j
      split at ex
      · rename_i hb
        cases ex
        simp only [Reps, Rep] at r1
        obtain ⟨_, _, rfl, rfl, _, _, rfl, rfl, rfl⟩ := r1
        exact ⟨i, j, rfl, ⟨by omega, hb.2.1, hb.2.2.1, by omega⟩, h g1 H1 _ p1 (dwalk_range (by rw [sizeLine_eq]; omega))⟩
      · cases ex
    · cases ex
end

def forL (tg : D → Ev' → Option Ev') (b : SM) : List D → Ev' → Cells → Res
  | [], δ, c => .nx δ c
  | x :: xs, δ, c => match tg x δ with
    | none => .bad
    | some δ1 => match b δ1 c with
      | .nx δ2 c2 => forL tg b xs δ2 c2
      | .ct δ2 c2 => forL tg b xs δ2 c2
      | .bk δ2 c2 => .nx δ2 c2
      | r => r
def forS (mi : Ev' → M (List D)) (tg : D → Ev' → Option Ev') (b : SM) : SM := fun δ c => (mi δ c).thenS δ fun xs c => forL tg b xs δ c
section
variable {X : Cx} {CE : CEnv} {W : WX} {pos : Pos} {tg iter e : Expr} {body : List Stmt} {mi : Ev' → M (List D)} {t : D → Ev' → Option Ev'} {b : SM} {js : List Nat}
theorem for_ok {K : PySem.W.Frag} {J : It} {D : Ends} {g0 : Gh} {H0 : Hp} {c0 : Cells} {xs : List DL.D} (ok0 : SOk CE K g0 H0 c0) {δ0 : Ev'} {σ0 : L2.St} (dw : DWalk CE K J xs g0 H0 c0) (er0 : EnvR CE K g0 H0 σ0 δ0) (h : wps (forL t b xs δ0 c0) (ks CE K W D g0 H0 c0 σ0 δ0)) :
    ∃ Wv : Nat → Nat → L2.St → Hp → Prop, (∃ m, Wv 0 m σ0 H0) ∧ ∀ i m σ H, Wv i m σ H →
      (J.stop i H ∧ D.nx σ H) ∨ (J.go i H ∧ ∃ N : L2.St → Hp → Prop, (∀ σ' H', N σ' H' → ∃ m', m' < m ∧ Wv (i + 1) m' σ' H') ∧ ∀ x H', J.yld i H x H' → gD CE K js t x σ H' fun σ2 H2 => tSD CE K W b { D with nx := N, ct := N, bk := D.nx } σ2 H2) := by
  refine ⟨fun i m σ H => m = xs.length - i ∧ i ≤ xs.length ∧ ∃ g c δ, XS CE K g0 H0 c0 σ0 δ0 g H c σ δ ∧ wps (forL t b (xs.drop i) δ c) (ks CE K W D g H c σ δ), ⟨xs.length, by simp, Nat.zero_le _, g0, c0, δ0, XS.of ok0 er0 (Post.refl ok0), by simpa using h⟩, ?_⟩
  rintro i m σ H ⟨rfl, hi, g, c, δ, p, h⟩
  have dw1 : DWalk CE K J xs g H c := dw.mono (p.x.rk ok0 fun _ z => (er0.ownF z).1)
  by_cases hlt : i < xs.length
  · refine .inr ⟨dw1.go _ _ _ RK.refl p.ok i hlt, fun σ H => i + 1 ≤ xs.length ∧ ∃ g c δ, XS CE K g0 H0 c0 σ0 δ0 g H c σ δ ∧ wps (forL t b (xs.drop (i + 1)) δ c) (ks CE K W D g H c σ δ), fun σ' H' ⟨h1, h2⟩ => ⟨xs.length - (i + 1), by omega, rfl, h1, h2⟩, fun x H' y => ?_⟩
    obtain ⟨g1, p1, r1⟩ := dw1.yld _ _ _ RK.refl p.ok i xs[i] x H' (by simp [hlt]) y
    have hd : xs.drop i = xs[i] :: xs.drop (i + 1) := List.drop_eq_getElem_cons hlt
    rw [hd] at h
    simp only [forL] at h
    cases e1 : t xs[i] δ with
    | none => rw [e1] at h; exact h.elim
    | some δ1 =>
      rw [e1] at h
      dsimp only at h
      have x1 := XS.of p.ok p.er p1
      refine ⟨g1, c, δ, xs[i], δ1, p1.ok, x1.er, r1, e1, fun σ1 er1 _ o1 => ?_⟩
      have x2 : XS CE K g H c σ δ g1 H' c σ1 δ1 := ⟨x1.x, x1.ok, er1, fun a h => .inl (o1 a h)⟩
      replace h := ks.back x2 h
      have p2 := p.trans x2
      refine ⟨g1, c, δ1, p1.ok, er1, ?_⟩
      cases e2 : b δ1 c with
      | nx δ2 c2 =>
        rw [e2] at h
        exact fun g' H' σ' x' => ⟨hlt, g', c2, δ2, p2.trans x', ks.back x' h⟩
      | ct δ2 c2 =>
        rw [e2] at h
        exact fun g' H' σ' x' => ⟨hlt, g', c2, δ2, p2.trans x', ks.back x' h⟩
      | bk δ2 c2 =>
        rw [e2] at h
        exact fun g' H' σ' x' => h g' H' σ' x'
      | rt d c2 => rw [e2] at h; exact h
      | exc C ys δ2 c2 => rw [e2] at h; exact h
      | bad => rw [e2] at h; exact h
  · have e : i = xs.length := by omega
    subst e
    simp only [List.drop_length, forL] at h
    exact .inl ⟨dw1.stop _ _ _ RK.refl p.ok, h g H σ (XS.of p.ok p.er (Post.refl p.ok))⟩
theorem sd_for (hp : PassesOwn (model X.prog X.w) X.A X.env X.xe) (hc : X.calm = true) (hi : PID X CE W tg iter mi) (hg : PGD X CE js tg t) (hb : SDs X CE W body b) (hs : ∀ x, foldedSetIterable iter X.env x = pure x := by intro _; rfl) : SD X CE W (.For tg iter body [] pos) (forS mi t b) :=
  (ps_for hp hc hi hg hb hs).wk fun D σ H ⟨g, c, δ, ok, er, h⟩ => by
    refine ⟨g, c, δ, ok, er, ?_⟩
    unfold forS at h
    cases e : mi δ c with
    | ok xs c' =>
      rw [e] at h
      intro g' H' J p dw
      exact for_ok p.ok dw (er.mono ok p.ext) (ks.back (XS.of ok er p) h)
    | exc C xs c' => rw [e] at h; exact fun g' H' dx p x => h g' H' σ dx (XS.of ok er p) x
    | bad => rw [e] at h; exact h
end

def whileL (t : TM) (b : SM) : Nat → Ev' → Cells → Res
  | 0, _, _ => .bad
  | n + 1, δ, c => (t δ c).thenS δ fun k c => if k then (match b δ c with
      | .nx δ2 c2 => whileL t b n δ2 c2
      | .ct δ2 c2 => whileL t b n δ2 c2
      | .bk δ2 c2 => .nx δ2 c2
      | r => r) else .nx δ c
def whileS (n : Nat) (t : TM) (b : SM) : SM := fun δ c => whileL t b n δ c
section
variable {X : Cx} {CE : CEnv} {W : WX} {pos : Pos} {e : Expr} {body : List Stmt} {t : TM} {b : SM}
theorem sd_while (n : Nat) (hp : PassesOwn (model X.prog X.w) X.A X.env X.xe) (ht : PDT X CE W e t) (hb : SDs X CE W body b) : SD X CE W (.While e body [] pos) (whileS n t b) :=
  (ps_while hp ht hb).wk fun D σ0 H0 ⟨g0, c0, δ0, ok0, er0, h⟩ => by
    refine ⟨fun m σ H => ∃ g c δ, SOk CE X.K g H c ∧ EnvR CE X.K g H σ δ ∧ wps (whileL t b m δ c) (ks CE X.K W D g H c σ δ), ⟨n, g0, c0, δ0, ok0, er0, h⟩, ?_⟩
    rintro m σ H ⟨g, c, δ, ok, er, h⟩
    cases m with
    | zero => exact h.elim
    | succ m =>
      simp only [whileL] at h
      refine useST ok er h fun k c1 h g1 H1 p1 => ?_
      have x1 := XS.of ok er p1
      cases k with
      | false =>
        rw [if_neg (by simp)] at h ⊢
        exact h g1 H1 σ x1
      | true =>
        rw [if_pos rfl] at h ⊢
        refine ⟨fun σ H => ∃ g c δ, SOk CE X.K g H c ∧ EnvR CE X.K g H σ δ ∧ wps (whileL t b m δ c) (ks CE X.K W D g H c σ δ), fun σ' H' w => ⟨m, Nat.lt_succ_self _, w⟩, g1, c1, δ, p1.ok, x1.er, ?_⟩
        replace h := ks.back x1 h
        cases e2 : b δ c1 with
        | nx δ2 c2 =>
          rw [e2] at h
          exact fun g' H' σ' x' => ⟨g', c2, δ2, x'.ok, x'.er, ks.back x' h⟩
        | ct δ2 c2 =>
          rw [e2] at h
          exact fun g' H' σ' x' => ⟨g', c2, δ2, x'.ok, x'.er, ks.back x' h⟩
        | bk δ2 c2 =>
          rw [e2] at h
          exact fun g' H' σ' x' => h g' H' σ' x'
        | rt d c2 => rw [e2] at h; exact h
        | exc C ys δ2 c2 => rw [e2] at h; exact h
        | bad => rw [e2] at h; exact h
end
end DL

namespace DL
open PySem PySem.Spec PyProof.Rows L2

/-- a def's promise by its mirror -/
def spD (CE : CEnv) (K : PySem.W.Frag) (n : Nat) (m : List D → M D) : Sp := fun vs H Q E => ∃ g c ds, SOk CE K g H c ∧ Reps CE K g H ds vs ∧ ds.length = n ∧
  wpo (m ds c) (fun d c' => ∀ g' H' v, Post CE K g H c g' H' c' → Rep CE K g' H' d v → Q v H')
    (fun C xs c' => ∀ g' H' dx, Post CE K g H c g' H' c' → ExcAt CE K g' H' C xs dx → E (.ref (CE C).1) dx H')
structure FnD (P : Program) (w : World) (K : PySem.W.Frag) (mg : PySem.Str → Option Value) (base : Heap) (CE : CEnv) (k : Nat) (f : Addr) (fd : FuncData) (ps : List PySem.Str) (m : List D → M D) : Prop where
  ok : FnOk P w K mg base (L2.CX P w) k f fd ps (spD CE K ps.length m)
  ar : ∀ ds c, ds.length ≠ ps.length → m ds c = .bad
/-- m' says no more than m -/
def Le (m' m : List D → M D) : Prop := ∀ ds c, m' ds c = .bad ∨ m' ds c = m ds c
theorem FnD.le {P : Program} {w : World} {K : PySem.W.Frag} {mg : PySem.Str → Option Value} {base : Heap} {CE : CEnv} {k : Nat} {f : Addr} {fd : FuncData} {ps : List PySem.Str} {m m' : List D → M D} (F : FnD P w K mg base CE k f fd ps m) (h : Le m' m) : FnD P w K mg base CE k f fd ps m' :=
  ⟨F.ok.imp fun vs H Q E ⟨g, c, ds, ok, r, l, q⟩ => ⟨g, c, ds, ok, r, l, by
    rcases h ds c with e | e
    · rw [e] at q; exact q.elim
    · rw [e] at q; exact q⟩, fun ds c hl => (h ds c).elim id fun e => e.trans (F.ar ds c hl)⟩
theorem FnD.mono {P : Program} {w : World} {K : PySem.W.Frag} {mg : PySem.Str → Option Value} {base : Heap} {CE : CEnv} {j k : Nat} {f : Addr} {fd : FuncData} {ps : List PySem.Str} {m : List D → M D} (F : FnD P w K mg base CE j f fd ps m) (h : j ≤ k) : FnD P w K mg base CE k f fd ps m := ⟨F.ok.mono h, F.ar⟩
def startD (n : Nat) (ds : List D) : Ev' := ds.map Slot.sh ++ List.replicate (n - ds.length) Slot.un
def Res.out (r : Res) : Out D := match r with
  | .nx _ c => .ok .non c
  | .rt d c => .ok d c
  | .exc C xs _ c => .exc C xs c
  | _ => .bad
def runD (n k : Nat) (m : SM) : List D → M D := fun ds c => if ds.length = k then (m (startD n ds) c).out else .bad
theorem start_get {n : Nat} {ds : List D} {i : Nat} {s : Slot} (h : (startD n ds)[i]? = some s) : (∃ d, ds[i]? = some d ∧ s = .sh d) ∨ s = .un := by
  unfold startD at h
  by_cases hi : i < ds.length
  · rw [List.getElem?_append_left (by simpa using hi), List.getElem?_map] at h
    obtain ⟨d, e, rfl⟩ := Option.map_eq_some_iff.mp h
    exact .inl ⟨d, e, rfl⟩
  · rw [List.getElem?_append_right (by simpa using hi)] at h
    have := List.getElem?_eq_some_iff.mp h
    obtain ⟨_, e⟩ := this
    rw [List.getElem_replicate] at e
    exact .inr e.symm
theorem start_noOwn {n : Nat} {ds : List D} {i : Nat} {s : Slot} {o : Cell} (h : (startD n ds)[i]? = some s) (ho : s.hid = some o) : False := by
  rcases start_get h with ⟨d, _, rfl⟩ | rfl <;> cases ho
theorem start_env {CE : CEnv} {K : PySem.W.Frag} {g : Gh} {H : Hp} {N : List PySem.Str} {ds : List D} {vs : List V} (r : Reps CE K g H ds vs) : EnvR CE K g H (L2.start N vs) (startD N.length ds) := by
  have hl := Reps.length r
  have get : ∀ (i : Nat) (s : Slot), (startD N.length ds)[i]? = some s → (∃ d, ds[i]? = some d ∧ s = .sh d) ∨ s = .un := by
    intro i s h
    unfold startD at h
    by_cases hi : i < ds.length
    · rw [List.getElem?_append_left (by simpa using hi), List.getElem?_map] at h
      obtain ⟨d, e, rfl⟩ := Option.map_eq_some_iff.mp h
      exact .inl ⟨d, e, rfl⟩
    · rw [List.getElem?_append_right (by simpa using hi)] at h
      have := List.getElem?_eq_some_iff.mp h
      obtain ⟨_, e⟩ := this
      rw [List.getElem_replicate] at e
      exact .inr e.symm
  refine ⟨by unfold L2.start startD; simp [hl], fun i d h => ?_, fun i s o h ho => ?_, fun i a C xs h => ?_⟩
  · rcases get i _ h with ⟨d', e, e'⟩ | e'
    · cases e'
      obtain ⟨v, e1, e2⟩ := Reps.get r e
      refine ⟨v, ?_, e2⟩
      unfold L2.start
      rw [List.getElem?_append_left (by simpa using (List.getElem?_eq_some_iff.mp e1).1), List.getElem?_map, e1]
      rfl
    · cases e'
  · rcases get i _ h with ⟨d', e, e'⟩ | e'
    · subst e'; cases ho
    · subst e'; cases ho
  · rcases get i _ h with ⟨d', e, e'⟩ | e'
    · cases e'
    · cases e'
section
variable {P : Program} {w : World} {K : PySem.W.Frag} {mg : PySem.Str → Option Value} {base : Heap} {CE : CEnv}
abbrev WF (E : XK) : WX := fun cls d _ H => E cls d H
/-- a def keeps its mirror's promise -/
theorem fn_d {x qual : PySem.Str} {st : Stmt} {f : Addr} {fd : FuncData} {N ps : List PySem.Str} {k : Nat} {m : SM} (F : Fun K x qual st f fd) (S : FnScope N ps (defScope st))
    (hb : ∀ (cdv : Value) (A : Around) (outer : List Env) (s : Shared) (H : Hp) (E : XK), Room k (A.deeper (envOfC qual (defScope st) s.heap.objs.size f cdv)) →
      Takes (cxOf (L2.CX P w) P w K mg base N qual (defScope st) f cdv A outer s H E) (WF E) → PassesOwn (model P w) (A.deeper (envOfC qual (defScope st) s.heap.objs.size f cdv)) (envOfC qual (defScope st) s.heap.objs.size f cdv) (cxOf (L2.CX P w) P w K mg base N qual (defScope st) f cdv A outer s H E).xe →
      SDs (cxOf (L2.CX P w) P w K mg base N qual (defScope st) f cdv A outer s H E) CE (WF E) (defBody st) m) : FnD P w K mg base CE (k + 1) f fd ps (runD N.length ps.length m) := by
  refine ⟨F.okX S (fun vs H Q E ⟨g, c, ds, ok, r, l, q⟩ => by rw [Reps.length r]; exact l) fun cdv A outer s H vs Q E hr ⟨g, c, ds, ok, r, l, q⟩ => ?_, fun ds c h => if_neg h⟩
  refine ⟨_, hb cdv A outer s H E hr (takes_of rfl rfl rfl rfl) (passes_of rfl), ?_⟩
  refine ⟨g, c, startD N.length ds, ok, start_env r, ?_⟩
  have no : ∀ a, ¬ Own (L2.start N vs) (startD N.length ds) a := fun a ⟨i, t, o, h1, h2, h3⟩ => start_noOwn h1 h2
  unfold runD at q
  rw [if_pos l] at q
  cases e : m (startD N.length ds) c with
  | nx δ c' => rw [e] at q; exact fun g' H' σ' x => q g' H' _ ⟨x.x.none no, x.ok⟩ rep_non
  | rt d c' => rw [e] at q; exact fun g' H' v x r => q g' H' v ⟨x.x.none no, x.ok⟩ r
  | bk δ c' => rw [e] at q; exact q.elim
  | ct δ c' => rw [e] at q; exact q.elim
  | exc C xs δ c' => rw [e] at q; exact fun g' H' σ' dx x ea => q g' H' dx ⟨x.x.none no, x.ok⟩ ea
  | bad => rw [e] at q; exact q.elim
end

def PassW (X : Cx) (W : WX) : Prop := ∀ σ, PassesAt (L2.CX X.prog X.w) X σ (WE W σ)
theorem passW {X : Cx} {W : WX} (tk : Takes X W) : PassW X W := fun σ => passAt tk σ
def W0 : WX := fun _ _ _ _ => False
theorem passW0 {X : Cx} : PassW X W0 := fun σ _ _ _ _ _ _ h => by
  obtain ⟨_, _, _, _, _, _, _, _, _, _, _, _, z⟩ := h
  exact z.elim
def callF (m : List D → M D) (dds : List D) (ms : Ev' → M (List D)) : EM := fun δ => bnd (ms δ) fun xs => m (xs ++ dds)
/-- a default's value -/
def Lit (CE : CEnv) (K : PySem.W.Frag) (dds : List D) (ds : List Value) : Prop := ∃ dvs, Vals dvs ds ∧ ∀ g H, Reps CE K g H dds dvs
theorem lit_nil {CE : CEnv} {K : PySem.W.Frag} : Lit CE K [] [] := ⟨[], .nil, fun _ _ => Reps.nil⟩
end DL

namespace DL
open PySem PySem.Spec PyProof.Rows L2

def insOf (d : D) (c : Cells) : Option (Nat × List D) := match d with
  | .ins C xs => some (C, xs)
  | .cell k => match c[k]? with
    | some (Cell.ins C xs) => some (C, xs)
    | _ => none
  | _ => none
theorem insOf_at {CE : CEnv} {K : PySem.W.Frag} {g : Gh} {H : Hp} {c : Cells} {d : D} {v : V} {C : Nat} {xs : List D} (ok : SOk CE K g H c) (r : Rep CE K g H d v) (e : insOf d c = some (C, xs)) :
    ∃ a dx vs, v = .ref a ∧ H a = some (.ins (CE C).1 dx ((CE C).2.zip vs)) ∧ xs.length ≤ (CE C).2.length ∧ Reps CE K g H xs vs := by
  cases d <;> try (simp [insOf] at e; done)
  case ins C' xs' =>
    simp only [insOf, Option.some.injEq, Prod.mk.injEq] at e
    obtain ⟨rfl, rfl⟩ := e
    simp only [Rep] at r
    obtain ⟨a, dx, vs, rfl, _, h, l, q⟩ := r
    exact ⟨a, dx, vs, rfl, h, l, q⟩
  case cell k =>
    simp only [Rep] at r
    obtain ⟨a, rfl, h⟩ := r
    simp only [insOf] at e
    split at e
    · rename_i C' xs' he
      simp only [Option.some.injEq, Prod.mk.injEq] at e
      obtain ⟨rfl, rfl⟩ := e
      obtain ⟨dx, vs, h1, l, q⟩ := ok.cl k a _ h he
      exact ⟨a, dx, vs, rfl, h1, l, q⟩
    · cases e
/-- the type of what is no instance -/
def tyN (d : D) (c : Cells) : Option String := match d with
  | .non => some "NoneType"
  | .bl _ => some "bool"
  | .int _ => some "int"
  | .str _ => some "str"
  | .lst _ => some "list"
  | .tup _ => some "tuple"
  | .cell k => match c[k]? with
    | some (Cell.lst _) => some "list"
    | _ => none
  | _ => none
theorem tyN_at {CE : CEnv} {K : PySem.W.Frag} {g : Gh} {H : Hp} {c : Cells} {d : D} {v : V} {n : String} (ok : SOk CE K g H c) (r : Rep CE K g H d v) (e : tyN d c = some n) : TyX K H v (.type n) := by
  cases d <;> simp only [tyN, Option.some.injEq, reduceCtorEq] at e <;> try (subst e)
  case non => simp only [Rep] at r; subst r; exact .base .non
  case bl b => simp only [Rep] at r; subst r; exact .base (.bl b)
  case int i => simp only [Rep] at r; subst r; exact .base (.int i)
  case str x => simp only [Rep] at r; subst r; exact .base (.str x)
  case tup xs =>
    simp only [Rep] at r
    obtain ⟨a, vs, rfl, (h | ⟨o, h⟩) | ⟨o, its, n, hk, hc, _⟩, _, _⟩ := r
    · exact .base (.tup h)
    · exact .fTuple h
    · exact .kTuple hk hc
  case lst xs =>
    simp only [Rep] at r
    obtain ⟨a, vs, rfl, _, h, _⟩ := r
    exact .base (.lst h)
  case cell k =>
    split at e
    · rename_i xs he
      cases e
      simp only [Rep] at r
      obtain ⟨a, rfl, ha⟩ := r
      obtain ⟨vs, h, _⟩ := ok.cl k a _ ha he
      exact .base (.lst h)
    · cases e
structure KCls (K : PySem.W.Frag) (a : Addr) : Prop where
  cl : Cls K a
  ha : PySem.W.findIn K (.ref a) "__class__" = some (some (.builtin "object.__class__"))
  hn : PySem.W.specialIn K (.builtin "object.__class__") "__get__" = some (some (.builtin "getset_descriptor.__get__"))
  htk : PySem.W.takesIn K (.builtin "object.__class__") = some true
  hm : PySem.W.mroIn K a (.type "object") = some true
def tys : List String := ["NoneType", "bool", "int", "str", "list", "tuple"]
/-- the classes cs tell apart -/
structure IsOk (K : PySem.W.Frag) (CE : CEnv) (cs : List Nat) : Prop where
  k : ∀ C ∈ cs, KCls K (CE C).1
  ty : ∀ C ∈ cs, ∀ T ∈ tys, PySem.W.kitOne K (.ref (CE C).1) (.type T) = some false
  bi : ∀ C ∈ cs, ∀ T ∈ tys, PySem.W.kitOne K (.type T) (.ref (CE C).1) = some false
  ow : ∀ C ∈ cs, ∀ C' ∈ cs, PySem.W.kitOne K (.ref (CE C).1) (.ref (CE C').1) = some (C == C')
def isiB (cs : List Nat) (x t : D) (c : Cells) : Option Bool := match t with
  | .ty T => match tyN x c with
    | some n => kitB n T
    | none => match insOf x c with
      | some (C, _) => if cs.contains C && tys.contains T then some false else none
      | none => none
  | .cls C' => match tyN x c with
    | some n => if cs.contains C' && tys.contains n then some false else none
    | none => match insOf x c with
      | some (C, _) => if cs.contains C && cs.contains C' then some (C == C') else none
      | none => none
  | _ => none
def isiP (cs : List Nat) (ds : List D) (c : Cells) : Option D := match ds with
  | [x, t] => (isiB cs x t c).map .bl
  | _ => none
def lenP (ds : List D) (c : Cells) : Option D := match ds with
  | [.str x] => if x.length ≤ sizeLine then some (.int x.length) else none
  | [d] => (seqOf d c).map fun xs => .int xs.length
  | _ => none
def intF (ds : List D) (_ : Cells) : Option D := match ds with
  | [.int i] => some (.int i)
  | [.bl k] => some (.int (if k then 1 else 0))
  | _ => none
def boolF (ds : List D) (_ : Cells) : Option D := match ds with
  | [.int i] => some (.bl (i != 0))
  | [.bl k] => some (.bl k)
  | _ => none
def listF (ds : List D) (c : Cells) : Option D := match ds with
  | [d] => (seqOf d c).map .lst
  | _ => none
def tupleF (ds : List D) (c : Cells) : Option D := match ds with
  | [d] => (seqOf d c).map .tup
  | _ => none
def maxF (ds : List D) (_ : Cells) : Option D := match ds with
  | [.int i, .int j] => some (.int (if j > i then j else i))
  | _ => none
def minF (ds : List D) (_ : Cells) : Option D := match ds with
  | [.int i, .int j] => some (.int (if j < i then j else i))
  | _ => none
section
variable {X : Cx} {CE : CEnv}
theorem reps1 {K : PySem.W.Frag} {g : Gh} {H : Hp} {d : D} {xs : List V} (h : Reps CE K g H [d] xs) : ∃ v, xs = [v] ∧ Rep CE K g H d v := by
  simp only [Reps] at h
  obtain ⟨v, r, rfl, h, rfl⟩ := h
  exact ⟨v, rfl, h⟩
theorem reps2 {K : PySem.W.Frag} {g : Gh} {H : Hp} {d e : D} {xs : List V} (h : Reps CE K g H [d, e] xs) : ∃ v u, xs = [v, u] ∧ Rep CE K g H d v ∧ Rep CE K g H e u := by
  simp only [Reps] at h
  obtain ⟨v, r, rfl, h, u, r', rfl, h', rfl⟩ := h
  exact ⟨v, u, rfl, h, h'⟩
theorem cd_isi {cs : List Nat} (T : IsOk X.K CE cs) : CallR X (.builtin "isinstance") (rDA CE X.K (isiP cs)) := by
  intro pins s σ H xs us Q I r ⟨g, c, ds, z, ok, r1, ez, q⟩
  unfold isiP at ez
  split at ez
  · rename_i x t
    rw [Option.map_eq_some_iff] at ez
    obtain ⟨b, ez, rfl⟩ := ez
    have qq := q g H _ (Post.refl ok) rep_bl
    obtain ⟨v, u, rfl, h1, h2⟩ := reps2 r1
    have own : ∀ {C ys} (_ : insOf x c = some (C, ys)) (_ : cs.contains C = true), TyX X.K H v (.ref (CE C).1) := fun {C ys} hi hc => by
      obtain ⟨a, dx, vs, rfl, h, l, _⟩ := insOf_at ok h1 hi
      have kc := T.k C (by simpa using hc)
      exact .base (.ins h kc.cl kc.ha kc.hn kc.htk kc.hm)
    unfold isiB at ez
    split at ez
    · rename_i T'
      simp only [Rep] at h2
      subst h2
      split at ez
      · rename_i n en
        exact call_isi pins s σ H _ us Q I r ⟨v, _, _, _, b, rfl, .ty T', tyN_at ok h1 en, kit_ty ez, qq⟩
      · split at ez
        · rename_i C ys hi
          split at ez
          · rename_i hh
            cases ez
            rw [Bool.and_eq_true] at hh
            exact call_isi pins s σ H _ us Q I r ⟨v, _, _, _, false, rfl, .ty T', own hi hh.1, T.ty C (by simpa using hh.1) T' (by simpa using hh.2), qq⟩
          · cases ez
        · cases ez
    · rename_i C'
      simp only [Rep] at h2
      subst h2
      split at ez
      · rename_i n en
        split at ez
        · rename_i hh
          cases ez
          rw [Bool.and_eq_true] at hh
          exact call_isi pins s σ H _ us Q I r ⟨v, _, _, _, false, rfl, .own _, tyN_at ok h1 en, T.bi C' (by simpa using hh.1) n (by simpa using hh.2), qq⟩
        · cases ez
      · split at ez
        · rename_i C ys hi
          split at ez
          · rename_i hh
            cases ez
            rw [Bool.and_eq_true] at hh
            exact call_isi pins s σ H _ us Q I r ⟨v, _, _, _, _, rfl, .own _, own hi hh.1, T.ow C (by simpa using hh.1) C' (by simpa using hh.2), qq⟩
          · cases ez
        · cases ez
    · cases ez
  · cases ez
theorem cd_len : CallR X (.builtin "len") (rDA CE X.K lenP) := by
  intro pins s σ H xs us Q I r ⟨g, c, ds, z, ok, r1, ez, q⟩
  unfold lenP at ez
  split at ez
  · rename_i x
    split at ez
    · rename_i hz
      cases ez
      obtain ⟨v, rfl, h1⟩ := reps1 r1
      simp only [Rep] at h1
      subst h1
      exact call_len_str pins s σ H _ us Q I r ⟨x, rfl, hz, q g H _ (Post.refl ok) rep_int⟩
    · cases ez
  · obtain ⟨ys, ey, rfl⟩ := Option.map_eq_some_iff.mp ez
    obtain ⟨v, rfl, h1⟩ := reps1 r1
    obtain ⟨a, vs, rfl, h, z, rr⟩ := seqOf_at ok h1 ey
    refine call_len_seq pins s σ H _ us Q I r ⟨a, vs, rfl, h, ?_⟩
    rw [Reps.length rr]
    exact q g H _ (Post.refl ok) rep_int
  · cases ez
theorem cd_int : CallR X (.type "int") (rDA CE X.K intF) := by
  intro pins s σ H xs us Q I r ⟨g, c, ds, z, ok, r1, ez, q⟩
  unfold intF at ez
  split at ez
  · cases ez
    obtain ⟨v, rfl, h1⟩ := reps1 r1
    simp only [Rep] at h1
    subst h1
    exact call_int1 pins s σ H _ us Q I r (.inl ⟨_, rfl, q g H _ (Post.refl ok) rep_int⟩)
  · cases ez
    obtain ⟨v, rfl, h1⟩ := reps1 r1
    simp only [Rep] at h1
    subst h1
    exact call_int1 pins s σ H _ us Q I r (.inr ⟨_, rfl, q g H _ (Post.refl ok) rep_int⟩)
  · cases ez
theorem cd_bool : CallR X (.type "bool") (rDA CE X.K boolF) := by
  intro pins s σ H xs us Q I r ⟨g, c, ds, z, ok, r1, ez, q⟩
  unfold boolF at ez
  split at ez
  · cases ez
    obtain ⟨v, rfl, h1⟩ := reps1 r1
    simp only [Rep] at h1
    subst h1
    exact call_bool1 pins s σ H _ us Q I r (.inl ⟨_, rfl, q g H _ (Post.refl ok) rep_bl⟩)
  · cases ez
    obtain ⟨v, rfl, h1⟩ := reps1 r1
    simp only [Rep] at h1
    subst h1
    exact call_bool1 pins s σ H _ us Q I r (.inr ⟨_, rfl, q g H _ (Post.refl ok) rep_bl⟩)
  · cases ez
theorem cd_list : CallR X (.type "list") (rDA CE X.K listF) := by
  intro pins s σ H xs us Q I r ⟨g, c, ds, z, ok, r1, ez, q⟩
  unfold listF at ez
  split at ez
  · obtain ⟨ys, ey, rfl⟩ := Option.map_eq_some_iff.mp ez
    obtain ⟨v, rfl, h1⟩ := reps1 r1
    obtain ⟨a, vs, rfl, h, z, rr⟩ := seqOf_at ok h1 ey
    exact call_list_of pins s σ H _ us Q I r ⟨a, vs, rfl, h, fun p hp => new_lst ok hp rr z q⟩
  · cases ez
theorem cd_tuple : CallR X (.type "tuple") (rDA CE X.K tupleF) := by
  intro pins s σ H xs us Q I r ⟨g, c, ds, z, ok, r1, ez, q⟩
  unfold tupleF at ez
  split at ez
  · obtain ⟨ys, ey, rfl⟩ := Option.map_eq_some_iff.mp ez
    obtain ⟨v, rfl, h1⟩ := reps1 r1
    obtain ⟨a, vs, rfl, h, z, rr⟩ := seqOf_at ok h1 ey
    rcases h with h | h
    · exact call_tuple_of pins s σ H _ us Q I r ⟨a, vs, rfl, .inl ⟨h, fun p hp => new_tup ok hp rr z q⟩⟩
    · refine call_tuple_of pins s σ H _ us Q I r ⟨a, vs, rfl, .inr ⟨h, q g H _ (Post.refl ok) ?_⟩⟩
      simp only [Rep]
      exact ⟨a, vs, rfl, h, z, rr⟩
  · cases ez
theorem cd_max (hc : X.calm = true) : CallR X (.builtin "max") (rDA CE X.K maxF) := by
  intro pins s σ H xs us Q I r ⟨g, c, ds, z, ok, r1, ez, q⟩
  unfold maxF at ez
  split at ez
  · cases ez
    obtain ⟨v, u, rfl, h1, h2⟩ := reps2 r1
    simp only [Rep] at h1 h2
    subst h1; subst h2
    exact call_max2 hc pins s σ H _ us Q I r ⟨_, _, rfl, q g H _ (Post.refl ok) rep_int⟩
  · cases ez
theorem cd_min (hc : X.calm = true) : CallR X (.builtin "min") (rDA CE X.K minF) := by
  intro pins s σ H xs us Q I r ⟨g, c, ds, z, ok, r1, ez, q⟩
  unfold minF at ez
  split at ez
  · cases ez
    obtain ⟨v, u, rfl, h1, h2⟩ := reps2 r1
    simp only [Rep] at h1 h2
    subst h1; subst h2
    exact call_min2 hc pins s σ H _ us Q I r ⟨_, _, rfl, q g H _ (Post.refl ok) rep_int⟩
  · cases ez
end
end DL

namespace DL
open PySem PySem.Spec PyProof.Rows L2

def wipeD (δ : Ev') : List Nat → Ev'
  | [] => δ
  | v :: vs => (wipeD δ vs).set v .un
theorem EnvR.unset {CE : CEnv} {K : PySem.W.Frag} {g : Gh} {H : Hp} {σ : L2.St} {δ : Ev'} {i : Nat} (er : EnvR CE K g H σ δ) : EnvR CE K g H (σ.set i none) (δ.set i .un) where
  len := by simpa using er.len
  sh := fun j e h => by
    by_cases hj : j = i
    · subst hj
      have hl : j < δ.length := by
        have := (List.getElem?_eq_some_iff.mp h).1
        simpa using this
      rw [List.getElem?_set_self hl] at h
      cases h
    · rw [List.getElem?_set_ne (Ne.symm hj)] at h ⊢
      exact er.sh j e h
  own := fun j t o h ho => by
    by_cases hj : j = i
    · subst hj
      have hl : j < δ.length := by
        have := (List.getElem?_eq_some_iff.mp h).1
        simpa using this
      rw [List.getElem?_set_self hl] at h
      cases h
      cases ho
    · rw [List.getElem?_set_ne (Ne.symm hj)] at h ⊢
      obtain ⟨a, e1, n1, n2, n3, n4, n5⟩ := er.own j t o h ho
      refine ⟨a, e1, n1, n2, n3, n4, fun k t' o' h1 h1' h2 => ?_⟩
      by_cases hk : k = i
      · subst hk
        have hl : k < δ.length := by
          have := (List.getElem?_eq_some_iff.mp h1).1
          simpa using this
        rw [List.getElem?_set_self hl] at h1
        cases h1
        cases h1'
      · rw [List.getElem?_set_ne (Ne.symm hk)] at h1 h2
        exact n5 k t' o' h1 h1' h2
  slf := fun j a C xs h => by
    by_cases hj : j = i
    · subst hj
      have hl : j < δ.length := by
        have := (List.getElem?_eq_some_iff.mp h).1
        simpa using this
      rw [List.getElem?_set_self hl] at h
      cases h
    · rw [List.getElem?_set_ne (Ne.symm hj)] at h ⊢
      exact er.slf j a C xs h
theorem EnvR.wipe {CE : CEnv} {K : PySem.W.Frag} {g : Gh} {H : Hp} {σ : L2.St} {δ : Ev'} (er : EnvR CE K g H σ δ) : ∀ vs : List Nat, EnvR CE K g H (L2.wipe σ vs) (wipeD δ vs)
  | [] => er
  | v :: vs => by
    unfold L2.wipe wipeD
    exact (EnvR.wipe er vs).unset
def Out.quiet {α : Type} (o : Out α) : Out α := match o with
  | .exc _ _ _ => .bad
  | o => o
def lcL (tg : D → Ev' → Option Ev') (tt : TM) (te : EM) (δ : Ev') : List D → M (List D)
  | [] => DL.ret []
  | x :: xs => match tg x δ with
    | none => stuck
    | some δ1 => bnd (tt δ1) fun b => if b then bnd (te δ1) fun y => bnd (lcL tg tt te δ xs) fun ys => DL.ret (y :: ys) else lcL tg tt te δ xs
def lcE (mi : Ev' → M (List D)) (vs : List Nat) (tg : D → Ev' → Option Ev') (tt : TM) (te : EM) : EM := fun δ => bnd (mi δ) fun xs => fun c => (bnd (lcL tg tt te (wipeD δ vs) xs) fun ys => DL.ret (D.lst ys)) c |>.quiet
def yesT : TM := fun _ c => .ok true c
def PDTs (X : Cx) (CE : CEnv) (W : WX) (ifs : List Expr) (m : TM) : Prop := PTs X ifs (tDT CE X.K W m)
theorem _root_.L2.PTs.wk {X : Cx} {e : List Expr} {t t' : TT} (h : PTs X e t) (hw : ∀ σ H Q, t' σ H Q → t σ H Q) : PTs X e t' := ⟨fun pins s σ H Q I q => h.run pins s σ H Q I (hw _ _ _ q)⟩
section
variable {X : Cx} {CE : CEnv} {W : WX} {e : Expr} {t : TM}
theorem pdts_nil : PDTs X CE W [] yesT := pts_nil.wk fun σ H Q ⟨g, c, δ, ok, er, h⟩ => h g H (Post.refl ok)
theorem pdts_one (h : PDT X CE W e t) : PDTs X CE W [e] t := pts_one h
end
theorem wpo_quiet {α : Type} {o : Out α} {P : α → Cells → Prop} {E : Nat → List D → Cells → Prop} (h : wpo o.quiet P E) : wpo o P (fun _ _ _ => False) := by
  cases o with
  | ok a c => exact h
  | exc C xs c => exact h.elim
  | bad => exact h
theorem wipe_sub {σ : L2.St} {vs : List Nat} : ∀ {us : List Nat}, (∀ u ∈ us, u ∈ vs) → L2.wipe (L2.wipe σ us) vs = L2.wipe σ vs
  | [], _ => rfl
  | u :: us, h => by
    show L2.wipe ((L2.wipe σ us).set u none) vs = _
    rw [wipe_set (h u List.mem_cons_self), wipe_sub fun v hv => h v (List.mem_cons_of_mem _ hv)]
theorem wipe_wipe {σ : L2.St} {vs : List Nat} : L2.wipe (L2.wipe σ vs) vs = L2.wipe σ vs := wipe_sub fun _ h => h
section
variable {CE : CEnv} {K : PySem.W.Frag} {tg : D → Ev' → Option Ev'} {tt : TM} {te : EM}
/-- the comprehension's loop: D0 is where the new list stands -/
theorem lc_ok {J : It} {xs : List DL.D} {g0 : Gh} {H0 : Hp} {c0 : Cells} (ok0 : SOk CE K g0 H0 c0) (dw : DWalk CE K J xs g0 H0 c0) {δ0 : Ev'} {σ0 : L2.St} {vs : List Nat} (er0 : EnvR CE K g0 H0 σ0 δ0) {D0 : Addr} (hD : H0 D0 = none) {Qd : Hp → Prop} {P : List DL.D → Cells → Prop}
    (h : wpo (lcL tg tt te (wipeD δ0 vs) xs c0) P (fun _ _ _ => False)) (hQ : ∀ ys c1, P ys c1 → ∀ g1 H1 ws, Post CE K g0 H0 c0 g1 H1 c1 → H1 D0 = some (.lst ws) → ¬ g1.F D0 → D0 ∉ g1.am → ys.length ≤ sizeLine → Reps CE K g1 H1 ys ws → Qd H1) :
    ∃ Wv : Nat → Nat → Hp → Prop, (∃ m, Wv 0 m (upd H0 D0 (.lst []))) ∧ ∀ i m H, Wv i m H → (J.stop i H ∧ Qd H) ∨ (J.go i H ∧ ∃ Nx : Hp → Prop, (∀ H', Nx H' → ∃ m', m' < m ∧ Wv (i + 1) m' H') ∧
      ∀ x H', J.yld i H x H' → gD CE K vs tg x (wipe σ0 vs) H' fun σ2 H2 => wipe σ2 vs = wipe σ0 vs ∧ tDT CE K W0 tt σ2 H2 fun b H3 => if b = true then tD CE K W0 te σ2 H3 fun y H4 => ∃ acc, H4 D0 = some (.lst acc) ∧ acc.length < sizeLine ∧ Nx (upd H4 D0 (.lst (acc ++ [y]))) else Nx H3) := by
  have F0 : ¬ g0.F D0 := fun z => ok0.tr D0 z hD
  have A0 : D0 ∉ g0.am := mem_am_ne ok0 hD
  have er0' : EnvR CE K g0 H0 (wipe σ0 vs) (wipeD δ0 vs) := er0.wipe vs
  -- the invariant at turn i
  refine ⟨fun i m H => m = xs.length - i ∧ i ≤ xs.length ∧ ∃ g c accD accV, Post CE K g0 H0 c0 g H c ∧ H D0 = some (.lst accV) ∧ ¬ g.F D0 ∧ D0 ∉ g.am ∧ accD.length ≤ i ∧ Reps CE K g H accD accV ∧
      wpo (lcL tg tt te (wipeD δ0 vs) (xs.drop i) c) (fun ys c1 => P (accD ++ ys) c1) (fun _ _ _ => False),
    ⟨xs.length, by simp, Nat.zero_le _, g0, c0, [], [], Post.hid ok0 hD _, upd_same, F0, A0, Nat.le_refl _, Reps.nil, by simpa using h⟩, ?_⟩
  rintro i m H ⟨rfl, hi, g, c, accD, accV, p, eD, nF, nA, la, ra, h⟩
  have hz := dw.sz
  by_cases hlt : i < xs.length
  · have hd : xs.drop i = xs[i] :: xs.drop (i + 1) := List.drop_eq_getElem_cons hlt
    rw [hd] at h
    refine .inr ⟨dw.go _ _ _ (p.ext.rk ok0) p.ok i hlt, fun H => i + 1 ≤ xs.length ∧ ∃ g c accD accV, Post CE K g0 H0 c0 g H c ∧ H D0 = some (.lst accV) ∧ ¬ g.F D0 ∧ D0 ∉ g.am ∧ accD.length ≤ i + 1 ∧ Reps CE K g H accD accV ∧
      wpo (lcL tg tt te (wipeD δ0 vs) (xs.drop (i + 1)) c) (fun ys c1 => P (accD ++ ys) c1) (fun _ _ _ => False), fun H' ⟨h1, h2⟩ => ⟨xs.length - (i + 1), by omega, rfl, h1, h2⟩, fun x H' y => ?_⟩
    obtain ⟨g1, p1, r1⟩ := dw.yld _ _ _ (p.ext.rk ok0) p.ok i xs[i] x H' (by simp [hlt]) y
    simp only [lcL] at h
    cases e1 : tg xs[i] (wipeD δ0 vs) with
    | none => rw [e1] at h; exact h.elim
    | some δ1 =>
      rw [e1] at h
      dsimp only at h
      replace h := wpo_bnd.mp h
      have p01 := p.trans p1
      refine ⟨g1, c, wipeD δ0 vs, xs[i], δ1, p1.ok, er0'.mono ok0 p01.ext, r1, e1, fun σ1 er1 w1 _ => ⟨by rw [w1]; exact wipe_wipe, ?_⟩⟩
      -- D0 stays hidden over any step
      have hid : ∀ {ga Ha ca gb Hb cb}, Post CE K ga Ha ca gb Hb cb → SOk CE K ga Ha ca → Ha D0 = some (.lst accV) → ¬ ga.F D0 → D0 ∉ ga.am → Hb D0 = some (.lst accV) ∧ ¬ gb.F D0 ∧ D0 ∉ gb.am := by
        intro ga Ha ca gb Hb cb q ok h1 h2 h3
        refine ⟨q.ext.keep _ _ h1 fun ⟨k, z, l1, _⟩ => h3 (List.mem_of_getElem? l1), fun z => ?_, fun z => ?_⟩
        · rcases q.ext.newF _ z with z | z | z
          · exact h2 z
          · rw [h1] at z; cases z
          · exact h3 z
        · rcases q.ext.newA _ z with z | z
          · exact h3 z
          · rw [h1] at z; cases z
      obtain ⟨d1, d2, d3⟩ := hid p1 p.ok eD nF nA
      refine useT p1.ok er1 h (fun b c2 h g2 H2 p2 => ?_) fun _ _ _ z => z.elim
      obtain ⟨d4, d5, d6⟩ := hid p2 p1.ok d1 d2 d3
      have p02 := p01.trans p2
      cases b with
      | false =>
        rw [if_neg (by simp)] at h ⊢
        exact ⟨hlt, g2, c2, accD, accV, p02, d4, d5, d6, by omega, Reps.mono p.ok (p1.trans p2).ext ra, h⟩
      | true =>
        rw [if_pos rfl] at h ⊢
        replace h := wpo_bnd.mp h
        refine use p2.ok (er1.mono p1.ok p2.ext) h (fun d c3 h g3 H3 v p3 r3 => ?_) fun _ _ _ z => z.elim
        obtain ⟨d7, d8, d9⟩ := hid p3 p2.ok d4 d5 d6
        have ra3 := Reps.mono p.ok ((p1.trans p2).trans p3).ext ra
        have p03 := p02.trans p3
        refine ⟨accV, d7, by rw [Reps.length ra3]; omega, hlt, g3, c3, accD ++ [d], accV ++ [v], ?_, upd_same, d8, d9, by rw [List.length_append]; simp; omega, ?_, ?_⟩
        · -- the list has grown: nobody else is touched
          have x3 : Ext g0 H0 c0 g3 (upd H3 D0 (.lst (accV ++ [v]))) c3 := ⟨p03.ext.fr, p03.ext.am, fun a o e n => by
            rw [upd_ne (fun z => by rw [z, hD] at e; cases e)]
            exact p03.ext.keep a o e n, p03.ext.newF, p03.ext.newA, fun a e => upd_thr (p03.ext.thr a e), p03.ext.dd⟩
          exact ⟨x3, p3.ok.hid (RK.hid d7 d8) d9⟩
        · exact Reps.rk (RK.hid d7 d8) (Reps.append ra3 (Reps.one r3))
        · replace h := wpo_bnd.mp h
          refine wpo_mono h (fun ys c4 q => ?_) fun _ _ _ z => z
          rw [List.append_assoc]
          exact q
  · have e : i = xs.length := by omega
    subst e
    simp only [List.drop_length, lcL] at h
    have h' : P (accD ++ []) c := h
    rw [List.append_nil] at h'
    exact .inl ⟨dw.stop _ _ _ (p.ext.rk ok0) p.ok, hQ accD c h' g H accV p eD nF nA (by omega) ra⟩
end
section
variable {X : Cx} {CE : CEnv} {W : WX} {elt tg iter : Expr} {ifs : List Expr} {scope : Scope} {own : List (PySem.Str × Nat)} {pos : Pos} {mi : Ev' → M (List D)} {t : D → Ev' → Option Ev'} {tt : TM} {te : EM}
theorem lc_use {K : PySem.W.Frag} {σ : L2.St} {H : Hp} {Q : VK} {vs : List Nat} {g : Gh} {c : Cells} {δ : Ev'} (ok : SOk CE K g H c) (er : EnvR CE K g H σ δ)
    (h : wpo (lcE mi vs t tt te δ c) (fun d c' => ∀ g' H' v, Post CE K g H c g' H' c' → Rep CE K g' H' d v → Q v H') (EK CE K W g H c σ)) : tLc (tI CE K W mi) (gD CE K vs t) (tDT CE K W0 tt) (tD CE K W0 te) vs σ H Q := by
  replace h := wpo_bnd.mp h
  refine ⟨g, c, δ, ok, er, wpo_mono h (fun xs c1 h g1 H1 J p1 dw => ?_) fun _ _ _ z => z⟩
  intro D0 hD
  replace h := wpo_bnd.mp (wpo_quiet h)
  refine lc_ok p1.ok dw (er.mono ok p1.ext) hD h fun ys c2 q g2 H2 ws p2 eD nF nA hz r => ?_
  have q : ∀ g' H' v, Post CE K g H c g' H' c2 → Rep CE K g' H' (.lst ys) v → Q v H' := q
  -- the list is frozen
  have hsm : ∀ a, H1 a ≠ none → a ≠ D0 := fun a h e => h (e ▸ hD)
  have x : Ext g1 H1 c1 ⟨fun a => g2.F a ∨ a = D0, g2.am⟩ H2 c2 := ⟨fun a h => .inl (p2.ext.fr a h), p2.ext.am, p2.ext.keep, fun a h => h.elim (p2.ext.newF a) fun e => .inr (.inl (e ▸ hD)), p2.ext.newA, p2.ext.thr, fun a ⟨k, y, l⟩ => p2.ext.dd a ⟨k, y, l⟩⟩
  have rk : RK g2 H2 ⟨fun a => g2.F a ∨ a = D0, g2.am⟩ H2 := ⟨fun _ h => .inl h, fun _ _ h => h, fun _ _ => rfl, fun _ _ h => h, fun _ _ _ h => h⟩
  have ok2 : SOk CE K ⟨fun a => g2.F a ∨ a = D0, g2.am⟩ H2 c2 := ⟨p2.ok.len, p2.ok.nd, fun a ⟨k, y, l1, l2, l3⟩ h => h.elim (p2.ok.nF a ⟨k, y, l1, l2, l3⟩) fun e => nA (e ▸ List.mem_of_getElem? l1), fun k a y l1 l2 => by
    have z := p2.ok.cl k a y l1 l2
    cases y with
    | lst ds => obtain ⟨us, e, z, r⟩ := z; exact ⟨us, e, z, Reps.rk rk r⟩
    | ins C ds => obtain ⟨dx, us, e, z, r⟩ := z; exact ⟨dx, us, e, z, Reps.rk rk r⟩
    | dead => trivial, fun a h => h.elim (p2.ok.tr a) fun e => by rw [e, eD]; simp, p2.ok.tA⟩
  refine q _ _ _ (p1.trans ⟨x, ok2⟩) ?_
  simp only [Rep]
  exact ⟨D0, ws, rfl, .inr rfl, eD, hz, Reps.rk rk r⟩
theorem pd_lc (hc : X.calm = true) (hN : X.N.Nodup) (hi : PID X CE W tg iter mi) (ok : BlkOk X.N X.env.scope scope own)
    (hg : ∀ (s : Shared) (H : Hp) (C : Addr) (cl : List (PySem.Str × Addr)) (fp : List Addr), PGD (X.blk s H scope (compEnvC scope cl C X.env) fp) CE (own.map (·.2)) tg t) (ht : ∀ (s : Shared) (H : Hp) (C : Addr) (cl : List (PySem.Str × Addr)) (fp : List Addr), PDTs (X.blk s H scope (compEnvC scope cl C X.env) fp) CE W0 ifs tt)
    (he : ∀ (s : Shared) (H : Hp) (C : Addr) (cl : List (PySem.Str × Addr)) (fp : List Addr), PD (X.blk s H scope (compEnvC scope cl C X.env) fp) CE W0 elt te) (hs : ∀ x, foldedSetIterable iter X.env x = pure x := by intro _; rfl) :
    PD X CE W (.ListComp elt [⟨tg, iter, ifs, 0⟩] scope pos) (lcE mi (own.map (·.2)) t tt te) :=
  (pe_lc (own := own) (g := gD CE X.K (List.map (fun q : PySem.Str × Nat => q.2) own) t) (tt := tDT CE X.K W0 tt) (te := tD CE X.K W0 te) hc hN hi ok hg ht he hs).wk fun σ H Q ⟨g, c, δ, ok, er, h⟩ => lc_use ok er h
theorem sd_setLc {i : Nat} {y : PySem.Str} {py spos : Pos} (hc : X.calm = true) (hN : X.N.Nodup) (hy : X.N[i]? = some y) (hyl : X.env.scope.names.lookup y = some .local)
    (hsw : swapsWith (.ListComp elt [⟨tg, iter, ifs, 0⟩] scope pos) (some (.Name y py)) spos.line X.env = pure true) (hi : PID X CE W tg iter mi) (ok : BlkOk X.N X.env.scope scope own)
    (hg : ∀ (s : Shared) (H : Hp) (C : Addr) (cl : List (PySem.Str × Addr)) (fp : List Addr), PGD (X.blk s H scope (compEnvC scope cl C X.env) fp) CE (own.map (·.2)) tg t) (ht : ∀ (s : Shared) (H : Hp) (C : Addr) (cl : List (PySem.Str × Addr)) (fp : List Addr), PDTs (X.blk s H scope (compEnvC scope cl C X.env) fp) CE W0 ifs tt)
    (he : ∀ (s : Shared) (H : Hp) (C : Addr) (cl : List (PySem.Str × Addr)) (fp : List Addr), PD (X.blk s H scope (compEnvC scope cl C X.env) fp) CE W0 elt te) (hs : ∀ x, foldedSetIterable iter X.env x = pure x := by intro _; rfl) :
    SD X CE W (.Assign [.Name y py] (.ListComp elt [⟨tg, iter, ifs, 0⟩] scope pos) spos) (setS i (lcE mi (own.map (·.2)) t tt te)) :=
  (ps_setLc (own := own) (g := gD CE X.K (List.map (fun q : PySem.Str × Nat => q.2) own) t) (tt := tDT CE X.K W0 tt) (te := tD CE X.K W0 te) hc hN hy hyl hsw hi ok hg ht he hs).wk fun D σ H ⟨g, c, δ, ok, er, h⟩ => by
    have k : tLc (tI CE X.K W mi) (gD CE X.K (own.map (·.2)) t) (tDT CE X.K W0 tt) (tD CE X.K W0 te) (own.map (·.2)) σ H (fun x H1 => gName i x σ H1 D.nx) := by
      refine lc_use (W := W) ok er ?_
      unfold setS at h
      cases e : lcE mi (own.map (·.2)) t tt te δ c with
      | ok d c1 => rw [e] at h; exact fun g' H' v p r => h g' H' _ (XS.set (XS.of ok er p) r)
      | exc C xs c1 => rw [e] at h; exact fun g' H' dx p x => h g' H' σ dx (XS.of ok er p) x
      | bad => rw [e] at h; exact h
    exact k
end
end DL

namespace DL
open PySem PySem.Spec PyProof.Rows L2

section
variable {CE : CEnv} {K : PySem.W.Frag} {g g' : Gh} {H H' : Hp} {c c' : Cells} {p : Addr} {o : HO}
abbrev Gh.frz (g : Gh) (p : Addr) : Gh := ⟨fun a => g.F a ∨ a = p, g.am⟩
theorem RK.cold : RK g H (g.frz p) H := ⟨fun _ h => .inl h, fun _ _ h => h, fun _ _ => rfl, fun _ _ h => h, fun _ _ _ h => h⟩
theorem SOk.frz (s : SOk CE K g H c) (e : H p ≠ none) (nA : p ∉ g.am) : SOk CE K (g.frz p) H c :=
  ⟨s.len, s.nd, fun a ⟨k, y, l1, l2, l3⟩ h => h.elim (s.nF a ⟨k, y, l1, l2, l3⟩) fun e => nA (e ▸ List.mem_of_getElem? l1), fun k a y l1 l2 => by
    have z := s.cl k a y l1 l2
    cases y with
    | lst ds => obtain ⟨us, e, z, r⟩ := z; exact ⟨us, e, z, Reps.rk RK.cold r⟩
    | ins C ds => obtain ⟨dx, us, e, z, r⟩ := z; exact ⟨dx, us, e, z, Reps.rk RK.cold r⟩
    | dead => trivial, fun a h => h.elim (s.tr a) fun e' => by rw [e']; exact e, s.tA⟩
/-- a new object is frozen -/
theorem Post.frz (q : Post CE K g H c g' H' c') (hp : H p = none) (e : H' p = some o) (nA : p ∉ g'.am) : Post CE K g H c (g'.frz p) H' c' :=
  ⟨⟨fun a h => .inl (q.ext.fr a h), q.ext.am, q.ext.keep, fun a h => h.elim (q.ext.newF a) fun e => .inr (.inl (e ▸ hp)), q.ext.newA, q.ext.thr, fun a ⟨k, y, l⟩ => q.ext.dd a ⟨k, y, l⟩⟩, q.ok.frz (by rw [e]; simp) nA⟩
abbrev Gh.put (g : Gh) (p : Addr) : Gh := ⟨g.F, g.am ++ [p]⟩
theorem RK.put : RK g H (g.put p) H := ⟨fun _ h => h, fun k a h => by
  rw [List.getElem?_append_left (List.getElem?_eq_some_iff.mp h).1]; exact h, fun _ _ => rfl, fun _ _ h => h, fun _ _ _ h => h⟩
theorem live_put (s : SOk CE K g H c) {x : Cell} {a : Addr} (l : Live (g.put p) (c ++ [x]) a) : Live g c a ∨ a = p := by
  obtain ⟨k, y, h1, h2, h3⟩ := l
  by_cases hk : k < g.am.length
  · simp only [List.getElem?_append_left hk] at h1
    rw [List.getElem?_append_left (by rw [← s.len]; exact hk)] at h2
    exact .inl ⟨k, y, h1, h2, h3⟩
  · simp only [List.getElem?_append_right (show g.am.length ≤ k by omega)] at h1
    obtain ⟨hh, e⟩ := List.getElem?_eq_some_iff.mp h1
    simp only [List.length_singleton, Nat.lt_one_iff] at hh
    simp only [hh, List.getElem_cons_zero] at e
    exact .inr e.symm
theorem SOk.put (s : SOk CE K g H c) {x : Cell} (e : H p ≠ none) (nF : ¬ g.F p) (nA : p ∉ g.am) (q : CellAt CE K g H p x) : SOk CE K (g.put p) H (c ++ [x]) where
  len := by simp [s.len]
  nd := List.nodup_append.mpr ⟨s.nd, by simp, fun a ha b hb e => by
    simp at hb
    exact nA (hb ▸ e ▸ ha)⟩
  nF := fun a l h => by
    rcases live_put s l with l | e
    · exact s.nF a l h
    · exact nF (e ▸ h)
  cl := fun k a y h1 h2 => by
    have up : ∀ y, CellAt CE K g H a y → CellAt CE K (g.put p) H a y := fun y z => by
      cases y with
      | lst ds => obtain ⟨us, e, z, r⟩ := z; exact ⟨us, e, z, Reps.rk RK.put r⟩
      | ins C ds => obtain ⟨dx, us, e, z, r⟩ := z; exact ⟨dx, us, e, z, Reps.rk RK.put r⟩
      | dead => trivial
    by_cases hk : k < g.am.length
    · simp only [List.getElem?_append_left hk] at h1
      rw [List.getElem?_append_left (by rw [← s.len]; exact hk)] at h2
      exact up y (s.cl k a y h1 h2)
    · simp only [List.getElem?_append_right (show g.am.length ≤ k by omega)] at h1
      rw [List.getElem?_append_right (by have := s.len; omega), ← s.len] at h2
      obtain ⟨hh, e⟩ := List.getElem?_eq_some_iff.mp h1
      simp only [List.length_singleton, Nat.lt_one_iff] at hh
      simp only [hh, List.getElem_cons_zero] at e
      simp only [hh] at h2
      cases h2
      subst e
      exact up _ q
  tr := s.tr
  tA := fun a h => by
    rcases List.mem_append.mp h with h | h
    · exact s.tA a h
    · simp at h; rw [h]; exact e
/-- a new object becomes a cell -/
theorem Post.put (q : Post CE K g H c g' H' c') {x : Cell} (hp : H p = none) (e : H' p = some o) (nF : ¬ g'.F p) (nA : p ∉ g'.am) (ca : CellAt CE K g' H' p x) : Post CE K g H c (g'.put p) H' (c' ++ [x]) :=
  ⟨⟨q.ext.fr, by
    obtain ⟨t, e⟩ := q.ext.am
    exact ⟨t ++ [p], by simp [e]⟩, q.ext.keep, q.ext.newF, fun a h => (List.mem_append.mp h).elim (q.ext.newA a) fun h => .inr (by simp at h; rw [h]; exact hp), q.ext.thr, fun a l => (live_put q.ok l).elim (q.ext.dd a) fun e => .inr (e ▸ hp)⟩,
   q.ok.put (by rw [e]; simp) nF nA ca⟩
end

section
variable (CE : CEnv) (K : PySem.W.Frag) (W : WX)
def tO (m : Ev' → M (List D)) : TE := fun σ H Q => ∃ g c δ, SOk CE K g H c ∧ EnvR CE K g H σ δ ∧
  wpo (m δ c) (fun ds c' => ∀ g' H' p vs, Post CE K g H c g' H' c' → H p = none → H' p = some (.lst vs) → ¬ g'.F p → p ∉ g'.am → ds.length ≤ sizeLine → Reps CE K g' H' ds vs → Q (.ref p) H') (EK CE K W g H c σ)
end
def POD (X : Cx) (CE : CEnv) (W : WX) (e : Expr) (m : Ev' → M (List D)) : Prop := PE X e (tO CE X.K W m)
def frE (m : Ev' → M (List D)) : EM := fun δ => bnd (m δ) fun ds => DL.ret (.lst ds)
def ceE (m : Ev' → M (List D)) : EM := fun δ => bnd (m δ) fun ds => fun c => .ok (.cell c.length) (c ++ [Cell.lst ds])
def szA (m : Ev' → M (List D)) : Ev' → M (List D) := fun δ => bnd (m δ) fun ds => fun c => if ds.length ≤ sizeLine then .ok ds c else .bad
def copyE (m : EM) : Ev' → M (List D) := fun δ => bnd (m δ) fun d => fun c => opt (seqOf d c) c
/-- x = e, the new list nobody else's -/
def ownS (i : Nat) (m : Ev' → M (List D)) : SM := fun δ c => (m δ c).thenS δ fun ds c => .nx (δ.set i (.own (.lst ds))) c
section
variable {X : Cx} {CE : CEnv} {W : WX} {pos : Pos} {e : Expr} {es : List Expr} {ms : Ev' → M (List D)} {me : EM}
theorem pd_fr (h : POD X CE W e ms) : PD X CE W e (frE ms) := PE.wk h fun σ H Q ⟨g, c, δ, ok, er, h⟩ => by
  replace h := wpo_bnd.mp h
  refine ⟨g, c, δ, ok, er, wpo_mono h (fun ds c1 q g1 H1 p vs p1 hp e1 nF nA hz r => ?_) fun _ _ _ z => z⟩
  have q : ∀ g' H' v, Post CE X.K g H c g' H' c1 → Rep CE X.K g' H' (.lst ds) v → Q v H' := q
  refine q _ _ _ (p1.frz hp e1 nA) ?_
  simp only [Rep]
  exact ⟨p, vs, rfl, .inr rfl, e1, hz, Reps.rk RK.cold r⟩
theorem pd_ce (h : POD X CE W e ms) : PD X CE W e (ceE ms) := PE.wk h fun σ H Q ⟨g, c, δ, ok, er, h⟩ => by
  replace h := wpo_bnd.mp h
  refine ⟨g, c, δ, ok, er, wpo_mono h (fun ds c1 q g1 H1 p vs p1 hp e1 nF nA hz r => ?_) fun _ _ _ z => z⟩
  have q : ∀ g' H' v, Post CE X.K g H c g' H' (c1 ++ [Cell.lst ds]) → Rep CE X.K g' H' (.cell c1.length) v → Q v H' := q
  refine q _ _ _ (p1.put (x := Cell.lst ds) hp e1 nF nA ⟨vs, e1, hz, r⟩) ?_
  simp only [Rep]
  exact ⟨p, rfl, by rw [← p1.ok.len]; simp⟩
theorem po_lst (h : PDA X CE W es ms) : POD X CE W (.List es pos) (szA ms) :=
  (pe_lst h).wk fun σ H Q ⟨g, c, δ, ok, er, h⟩ => by
    replace h := wpo_bnd.mp h
    refine useA ok er h (fun ds c1 h g1 H1 vs p1 r1 => ?_) fun _ _ _ z => z
    split at h
    · rename_i hz
      refine ⟨by rw [Reps.length r1]; exact hz, fun p hp => ?_⟩
      have P := Post.hid p1.ok hp (.lst vs)
      exact h _ _ p vs (p1.trans P) (Classical.byContradiction fun n => p1.ext.thr p n hp) upd_same (fun z => p1.ok.tr p z hp) (mem_am_ne p1.ok hp) hz (Reps.mono p1.ok P.ext r1)
    · exact h.elim
theorem po_list {p : Pos} (hg : Gl X "list") (hm : X.mg "list" = none) (ha : PD X CE W e me) (he : starEach [e] X.env = (false, eval e X.env) :: starEach [] X.env := by rfl) (hpl : (backTo pos (starEach [] X.env)).any (·.1) = false := by rfl) :
    POD X CE W (.Call (.Name "list" p) [e] [] pos) (copyE me) :=
  (pe_callTy call_list_of hg hm (by decide +kernel) (pa_cons ha pa_nil he) (he := he) (hpl := hpl)).wk fun σ H Q ⟨g, c, δ, ok, er, h⟩ => by
    replace h := wpo_bnd.mp h
    refine use ok er h (fun d c1 h g1 H1 v p1 r1 => ?_) fun _ _ _ z => z
    obtain ⟨ys, ey, h⟩ := opt_ok h
    obtain ⟨a, vs, rfl, hs, z, rr⟩ := seqOf_at p1.ok r1 ey
    refine ⟨a, vs, rfl, hs, fun p hp => ?_⟩
    have P := Post.hid p1.ok hp (.lst vs)
    exact h _ _ p vs (p1.trans P) (Classical.byContradiction fun n => p1.ext.thr p n hp) upd_same (fun z => p1.ok.tr p z hp) (mem_am_ne p1.ok hp) z (Reps.mono p1.ok P.ext rr)
/-- a slot gets a new object of one's own -/
theorem XS.setOwn {K : PySem.W.Frag} {g g' : Gh} {H H' : Hp} {c c' : Cells} {σ : L2.St} {δ : Ev'} {i : Nat} {p : Addr} {o : Cell} (ok : SOk CE K g H c) (er : EnvR CE K g H σ δ) (q : Post CE K g H c g' H' c') (hp : H p = none) (nF : ¬ g'.F p) (nA : p ∉ g'.am) (nd : o ≠ .dead) (ca : CellAt CE K g' H' p o) :
    XS CE K g H c σ δ g' H' c' (σ.set i (some (.ref p))) (δ.set i (.own o)) := by
  have x := XS.of ok er q
  have hi : ∀ {t}, (δ.set i (.own o))[i]? = some t → t = .own o ∧ i < δ.length := fun {t} h => by
    have hl : i < δ.length := by simpa using (List.getElem?_eq_some_iff.mp h).1
    rw [List.getElem?_set_self hl] at h
    exact ⟨(Option.some.inj h).symm, hl⟩
  refine ⟨x.x, x.ok, ⟨by simpa using er.len, fun j d h => ?_, fun j t o' h ho => ?_, fun j a C xs h => ?_⟩, fun a ⟨j, t, o', h1, h2, h3⟩ => ?_⟩
  · by_cases hj : j = i
    · subst hj; cases (hi h).1
    · rw [List.getElem?_set_ne (Ne.symm hj)] at h ⊢
      exact x.er.sh j d h
  · by_cases hj : j = i
    · subst hj
      obtain ⟨rfl, hl⟩ := hi h
      cases ho
      refine ⟨p, List.getElem?_set_self (by rw [er.len]; exact hl), nF, nA, nd, ca, fun k t' o' e1 e2 e3 => ?_⟩
      refine Classical.byContradiction fun hk => ?_
      rw [List.getElem?_set_ne (Ne.symm hk)] at e1 e3
      obtain ⟨a, e4, _, _, _, n4, _⟩ := er.own k t' o' e1 e2
      rw [e4] at e3; cases e3
      exact (er.ownF ⟨k, t', o', e1, e2, e4⟩).2.2 hp
    · rw [List.getElem?_set_ne (Ne.symm hj)] at h ⊢
      obtain ⟨a, e1, n1, n2, n3, n4, n5⟩ := x.er.own j t o' h ho
      refine ⟨a, e1, n1, n2, n3, n4, fun k t' o' h1 h1' h2 => ?_⟩
      by_cases hk : k = i
      · subst hk
        obtain ⟨rfl, hl⟩ := hi h1
        rw [List.getElem?_set_self (by rw [er.len]; exact hl)] at h2
        cases h2
        obtain ⟨a', e4, _⟩ := er.own j t _ h ho
        rw [e1] at e4; cases e4
        exact absurd hp (er.ownF ⟨j, t, _, h, ho, e1⟩).2.2
      · rw [List.getElem?_set_ne (Ne.symm hk)] at h1 h2
        exact n5 k t' o' h1 h1' h2
  · by_cases hj : j = i
    · subst hj; cases (hi h).1
    · rw [List.getElem?_set_ne (Ne.symm hj)] at h ⊢
      exact er.slf j a C xs h
  · by_cases hj : j = i
    · subst hj
      obtain ⟨rfl, hl⟩ := hi h1
      rw [List.getElem?_set_self (by rw [er.len]; exact hl)] at h3
      cases h3
      exact .inr hp
    · rw [List.getElem?_set_ne (Ne.symm hj)] at h1 h3
      exact .inl ⟨j, t, o', h1, h2, h3⟩
theorem sd_own (i : Nat) {x : PySem.Str} {pos' : Pos} (hN : X.N.Nodup) (hi : X.N[i]? = some x) (hx : Loc X.env.scope x) (he : POD X CE W e ms) (hs : swapsWith e (some (.Name x pos')) pos.line X.env = pure false := by rfl)
    (hf : X.fn x = true ∨ X.env.scope.names.lookup x = some .local := by first | exact .inl rfl | exact .inr rfl | assumption) : SD X CE W (.Assign [.Name x pos'] e pos) (ownS i ms) :=
  (ps_set hN hi hx he hs hf).wk fun D σ H ⟨g, c, δ, ok, er, h⟩ => by
    refine ⟨g, c, δ, ok, er, ?_⟩
    unfold ownS at h
    cases e : ms δ c with
    | ok ds c' => rw [e] at h; exact fun g' H' p vs q hp e1 nF nA hz r => h g' H' _ (XS.setOwn ok er q hp nF nA (by simp) ⟨vs, e1, hz, r⟩)
    | exc C xs c' => rw [e] at h; exact fun g' H' dx p x => h g' H' σ dx (XS.of ok er p) x
    | bad => rw [e] at h; exact h
end
end DL

namespace DL
open PySem PySem.Spec PyProof.Rows L2

section
variable {CE : CEnv} {K : PySem.W.Frag} {g g' : Gh} {H H' : Hp} {c c' : Cells} {σ : L2.St} {δ : Ev'} {i : Nat} {a : Addr} {t t' : Slot} {o o' : Cell} {ho : HO}
/-- an own object is changed in its place -/
theorem XS.chg (ok : SOk CE K g H c) (er : EnvR CE K g H σ δ) (h1 : δ[i]? = some t) (h2 : t.hid = some o) (h3 : σ[i]? = some (some (.ref a))) (rk : RK g H g (upd H a ho)) (h4 : t'.hid = some o') (nd : o' ≠ .dead)
    (hs : ∀ b C xs, t' = .slf b C xs → b = a) (ca : CellAt CE K g (upd H a ho) a o') : XS CE K g H c σ δ g (upd H a ho) c σ (δ.set i t') := by
  have ow : Own σ δ a := ⟨i, t, o, h1, h2, h3⟩
  obtain ⟨nF, nA, th⟩ := er.ownF ow
  have hl : i < δ.length := (List.getElem?_eq_some_iff.mp h1).1
  have hi : ∀ {s}, (δ.set i t')[i]? = some s → s = t' := fun {s} h => by
    rw [List.getElem?_set_self hl] at h
    exact (Option.some.inj h).symm
  have x : ExtO (Own σ δ) g H c g (upd H a ho) c := ⟨fun _ h => h, ⟨[], (List.append_nil _).symm⟩, fun b o'' e n no => by rw [upd_ne (fun z => no (by rw [z]; exact ow))]; exact e, rk.tup, rk.frz, fun _ h => .inl h, fun _ h => .inl h, fun b e => upd_thr e, fun _ h => .inl h⟩
  refine ⟨x, ok.hid rk nA, ⟨by simpa using er.len, fun j d h => ?_, fun j s oo h hh => ?_, fun j b C xs h => ?_⟩, fun b ⟨j, s, oo, e1, e2, e3⟩ => ?_⟩
  · by_cases hj : j = i
    · subst hj
      have := hi h
      subst this
      cases h4
    · rw [List.getElem?_set_ne (Ne.symm hj)] at h
      obtain ⟨v, e, r⟩ := er.sh j d h
      exact ⟨v, e, Rep.rk rk r⟩
  · by_cases hj : j = i
    · subst hj
      have := hi h
      subst this
      rw [h4] at hh; cases hh
      refine ⟨a, h3, nF, nA, nd, ca, fun k s' o'' e1 e2 e3 => ?_⟩
      refine Classical.byContradiction fun hk => ?_
      rw [List.getElem?_set_ne (Ne.symm hk)] at e1
      obtain ⟨a', f1, _, _, _, _, f2⟩ := er.own j t o h1 h2
      rw [h3] at f1; cases f1
      exact hk (f2 k s' o'' e1 e2 e3)
    · rw [List.getElem?_set_ne (Ne.symm hj)] at h
      obtain ⟨b, e1, n1, n2, n3, n4, n5⟩ := er.own j s oo h hh
      have nb : b ≠ a := fun z => by
        subst z
        exact hj (n5 i t o h1 h2 h3).symm
      refine ⟨b, e1, n1, n2, n3, ?_, fun k s' o'' e2 e3 e4 => ?_⟩
      · cases oo with
        | lst ds => obtain ⟨us, e, z, r⟩ := n4; exact ⟨us, (upd_ne nb).trans e, z, Reps.rk rk r⟩
        | ins C ds => obtain ⟨dx, us, e, z, r⟩ := n4; exact ⟨dx, us, (upd_ne nb).trans e, z, Reps.rk rk r⟩
        | dead => trivial
      · by_cases hk : k = i
        · subst hk
          have := hi e2
          subst this
          rw [h3] at e4; cases e4
          exact absurd rfl nb
        · rw [List.getElem?_set_ne (Ne.symm hk)] at e2
          exact n5 k s' o'' e2 e3 e4
  · by_cases hj : j = i
    · subst hj
      have := hi h
      subst this
      rw [hs b C xs rfl]
      exact h3
    · rw [List.getElem?_set_ne (Ne.symm hj)] at h
      exact er.slf j b C xs h
  · by_cases hj : j = i
    · subst hj
      rw [h3] at e3; cases e3
      exact .inl ow
    · rw [List.getElem?_set_ne (Ne.symm hj)] at e1
      exact .inl ⟨j, s, oo, e1, e2, e3⟩
/-- an own list is frozen: the name's slot holds data from here on -/
theorem XS.cold {xs : List D} (ok : SOk CE K g H c) (er : EnvR CE K g H σ δ) (h1 : ownL i δ = some xs) : ∃ p, XS CE K g H c σ δ (g.frz p) H c σ (δ.set i (.sh (.lst xs))) := by
  obtain ⟨h1, a, vs, h3, e, z, r⟩ := ownL_at er h1
  have ow : Own σ δ a := ⟨i, _, _, h1, rfl, h3⟩
  obtain ⟨nF, nA, th⟩ := er.ownF ow
  have hl : i < δ.length := (List.getElem?_eq_some_iff.mp h1).1
  have x : ExtO (Own σ δ) g H c (g.frz a) H c := ⟨fun _ h => .inl h, ⟨[], (List.append_nil _).symm⟩, fun b o'' e n no => e, fun _ _ h => h, fun _ _ _ h => h, fun b h => h.elim .inl fun e => .inr (.inr (.inr (e ▸ ow))), fun _ h => .inl h, fun b e => e, fun _ ⟨k, y, l⟩ => .inl ⟨k, y, l⟩⟩
  refine ⟨a, x, ok.frz th nA, ⟨by simpa using er.len, fun j d h => ?_, fun j s oo h hh => ?_, fun j b C xs h => ?_⟩, fun b ⟨j, s, oo, e1, e2, e3⟩ => ?_⟩
  · by_cases hj : j = i
    · subst hj
      rw [List.getElem?_set_self hl] at h
      cases h
      refine ⟨.ref a, h3, ?_⟩
      simp only [Rep]
      exact ⟨a, vs, rfl, .inr rfl, e, z, Reps.rk RK.cold r⟩
    · rw [List.getElem?_set_ne (Ne.symm hj)] at h
      obtain ⟨v, e, r⟩ := er.sh j d h
      exact ⟨v, e, Rep.rk RK.cold r⟩
  · by_cases hj : j = i
    · subst hj
      rw [List.getElem?_set_self hl] at h
      cases h
      cases hh
    · rw [List.getElem?_set_ne (Ne.symm hj)] at h
      obtain ⟨b, e1, n1, n2, n3, n4, n5⟩ := er.own j s oo h hh
      have nb : b ≠ a := fun z => by
        subst z
        exact hj (n5 i _ _ h1 rfl h3).symm
      refine ⟨b, e1, fun z => z.elim n1 nb, n2, n3, ?_, fun k s' o'' e2 e3 e4 => ?_⟩
      · cases oo with
        | lst ds => obtain ⟨us, e, z, r⟩ := n4; exact ⟨us, e, z, Reps.rk RK.cold r⟩
        | ins C ds => obtain ⟨dx, us, e, z, r⟩ := n4; exact ⟨dx, us, e, z, Reps.rk RK.cold r⟩
        | dead => trivial
      · by_cases hk : k = i
        · subst hk
          rw [List.getElem?_set_self hl] at e2
          cases e2
          cases e3
        · rw [List.getElem?_set_ne (Ne.symm hk)] at e2
          exact n5 k s' o'' e2 e3 e4
  · by_cases hj : j = i
    · subst hj
      rw [List.getElem?_set_self hl] at h
      cases h
    · rw [List.getElem?_set_ne (Ne.symm hj)] at h
      exact er.slf j b C xs h
  · by_cases hj : j = i
    · subst hj
      rw [List.getElem?_set_self hl] at e1
      cases e1
      cases e2
    · rw [List.getElem?_set_ne (Ne.symm hj)] at e1
      exact .inl ⟨j, s, oo, e1, e2, e3⟩
end
/-- the ghost step: name i's list is frozen -/
def coldS (i : Nat) (b : SM) : SM := fun δ c => match ownL i δ with
  | some xs => b (δ.set i (.sh (.lst xs))) c
  | none => b δ c
/-- x.append(e), x one's own -/
def appO (i : Nat) (m : EM) : SM := fun δ c => match ownL i δ with
  | some xs => (m δ c).thenS δ fun d c => if xs.length < sizeLine then .nx (δ.set i (.own (.lst (xs ++ [d])))) c else .bad
  | none => .bad
/-- x[j] = e, x one's own: e first -/
def setIxO (i : Nat) (mj me : EM) : SM := fun δ c => match ownL i δ with
  | some xs => (me δ c).thenS δ fun d c => (mj δ c).thenS δ fun j c => match j with
    | .int j => match ixN xs.length j with
      | some n => .nx (δ.set i (.own (.lst (xs.set n d)))) c
      | none => .bad
    | _ => .bad
  | none => .bad
/-- x.append(e), x a cell -/
def appC (mo m : EM) : SM := fun δ c => (mo δ c).thenS δ fun o c => match o with
  | .cell k => match c[k]? with
    | some (Cell.lst _) => (m δ c).thenS δ fun d c => match c[k]? with
      | some (Cell.lst xs) => if xs.length < sizeLine then .nx δ (c.set k (Cell.lst (xs ++ [d]))) else .bad
      | _ => .bad
    | _ => .bad
  | _ => .bad
section
variable {X : Cx} {CE : CEnv} {W : WX} {pos apos cpos spos : Pos} {e o : Expr} {sts : List Stmt} {b : SM} {m mo : EM}
theorem sd_cold (i : Nat) (h : SDs X CE W sts b) : SDs X CE W sts (coldS i b) := PSs.wk h fun D σ H ⟨g, c, δ, ok, er, h⟩ => by
  unfold coldS at h
  cases e : ownL i δ with
  | none => rw [e] at h; exact ⟨g, c, δ, ok, er, h⟩
  | some xs =>
    rw [e] at h
    obtain ⟨p, x⟩ := XS.cold ok er e
    exact ⟨_, c, _, x.ok, x.er, ks.back x h⟩
theorem sd_appO (i : Nat) (ho : PE X o (tVar i)) (he : PD X CE W e m) (hb : PE X (.Call (.Attribute o "append" apos) [e] [] cpos) (tBM X.K "list" rAppend (tVar i) (tCons (tD CE X.K W m) tNil)))
    (hs : swapsWith (.Call (.Attribute o "append" apos) [e] [] cpos) none spos.line X.env = pure false := by rfl) : SD X CE W (.Expr (.Call (.Attribute o "append" apos) [e] [] cpos) spos) (appO i m) :=
  (ps_expr hb hs).wk fun D σ H ⟨g, c, δ, ok, er, h⟩ => by
    unfold appO at h
    cases e : ownL i δ with
    | none => rw [e] at h; exact h.elim
    | some xs =>
      rw [e] at h
      dsimp only at h
      obtain ⟨h1, a, vs, h3, e1, z, r⟩ := ownL_at er e
      refine ⟨.ref a, h3, .inl ⟨rfl, _, .of e1⟩, ?_⟩
      refine useS ok er h fun d c1 h g1 H1 v p1 r1 => ?_
      have x1 := XS.of ok er p1
      replace h := ks.back x1 h
      split at h
      · rename_i hz
        obtain ⟨h1', a', vs', h3', e1', z', r'⟩ := ownL_at x1.er e
        rw [h3] at h3'; cases h3'
        refine ⟨a, vs', v, rfl, rfl, e1', by rw [Reps.length r']; exact hz, ?_⟩
        obtain ⟨nF, nA, _⟩ := x1.er.ownF ⟨i, _, _, h1, rfl, h3⟩
        have rk := RK.hid (ys := vs' ++ [v]) e1' nF
        refine h g1 _ σ (XS.chg p1.ok x1.er h1 rfl h3 rk (t' := .own (.lst (xs ++ [d]))) rfl (by simp) (fun _ _ _ z => by cases z) ⟨_, upd_same, by rw [List.length_append]; simp; omega, Reps.rk rk (Reps.append r' (Reps.one r1))⟩)
      · exact h.elim
theorem sd_appC (ho : PD X CE W o mo) (he : PD X CE W e m) (hb : PE X (.Call (.Attribute o "append" apos) [e] [] cpos) (tBM X.K "list" rAppend (tD CE X.K W mo) (tCons (tD CE X.K W m) tNil)))
    (hs : swapsWith (.Call (.Attribute o "append" apos) [e] [] cpos) none spos.line X.env = pure false := by rfl) : SD X CE W (.Expr (.Call (.Attribute o "append" apos) [e] [] cpos) spos) (appC mo m) :=
  (ps_expr hb hs).wk fun D σ H ⟨g, c, δ, ok, er, h⟩ => useS ok er h fun d c1 h g1 H1 v p1 r1 => by
    have x1 := XS.of ok er p1
    replace h := ks.back x1 h
    cases d <;> try exact h.elim
    rename_i k
    dsimp only at h
    split at h
    · rename_i ys ek
      have r1' := r1
      simp only [Rep] at r1
      obtain ⟨a, rfl, ha⟩ := r1
      obtain ⟨vs0, e0, _⟩ := p1.ok.cl k a _ ha ek
      refine ⟨.inl ⟨rfl, _, .of e0⟩, ?_⟩
      refine useS p1.ok x1.er h fun d2 c2 h g2 H2 v2 p2 r2 => ?_
      have x2 := XS.of p1.ok x1.er p2
      replace h := ks.back x2 h
      split at h
      · rename_i xs e2
        split at h
        · rename_i hz
          have ha2 := am_get p2.ext ha
          obtain ⟨vs, e3, z, r⟩ := p2.ok.cl k a _ ha2 e2
          refine ⟨a, vs, v2, rfl, rfl, e3, by rw [Reps.length r]; exact hz, ?_⟩
          refine h g2 _ σ (XS.of p2.ok x2.er (Post.setCell p2.ok ha2 e2 (by simp) (by simp) fun H' x hx => ⟨_, hx, by rw [List.length_append]; simp; omega, Reps.mono p2.ok x (Reps.append r (Reps.one r2))⟩))
        · exact h.elim
      · exact h.elim
    · exact h.elim
theorem sd_setIxO {tpos : Pos} {j : Expr} {mj : EM} (i : Nat) (ho : PE X o (tVar i)) (hj : PD X CE W j mj) (he : PD X CE W e m) (hs : swapsWithSole [.Subscript o j tpos] e pos.line X.env = pure false := by rfl) (hw : swappedStores [.Subscript o j tpos] e X.env = pure none := by rfl)
    (hga : ∀ v, assign (.Subscript o j tpos) X.env v = (do
      let ov ← holding [v] (eval o X.env)
      let iv ← holding [v, ov] (eval j X.env)
      standAt tpos
      holding [v, ov, iv] (PySem.setItem ov iv v)
      release [v, ov, iv] []) := by intro _; rfl) : SD X CE W (.Assign [.Subscript o j tpos] e pos) (setIxO i mj m) :=
  (ps_asg he (pg_sub ho hj set_list hga) hs hw).wk fun D σ H ⟨g, c, δ, ok, er, h⟩ => by
    unfold setIxO at h
    cases e : ownL i δ with
    | none => rw [e] at h; exact h.elim
    | some xs =>
      rw [e] at h
      dsimp only at h
      obtain ⟨h1, a, vs, h3, e1, z, r⟩ := ownL_at er e
      refine useS ok er h fun d c1 h g1 H1 v p1 r1 => ?_
      have x1 := XS.of ok er p1
      replace h := ks.back x1 h
      refine ⟨.ref a, h3, ?_⟩
      refine useS p1.ok x1.er h fun d2 c2 h g2 H2 v2 p2 r2 => ?_
      have x2 := XS.of p1.ok x1.er p2
      replace h := ks.back x2 h
      split at h
      · rename_i k
        split at h
        · rename_i n en
          simp only [Rep] at r2
          subst r2
          obtain ⟨_, a', vs', h3', e1', z', r'⟩ := ownL_at x2.er e
          rw [h3] at h3'; cases h3'
          refine ⟨a, vs', k, n, rfl, rfl, e1', by rw [Reps.length r']; exact en, ?_⟩
          obtain ⟨nF, nA, _⟩ := x2.er.ownF ⟨i, _, _, h1, rfl, h3⟩
          have rk := RK.hid (ys := vs'.set n v) e1' nF
          exact h g2 _ σ (XS.chg p2.ok x2.er h1 rfl h3 rk (t' := .own (.lst (xs.set n d))) rfl (by simp) (fun _ _ _ z => by cases z) ⟨_, upd_same, by simpa using z', Reps.rk rk (Reps.set n r' (Rep.mono p1.ok p2.ext r1))⟩)
        · exact h.elim
      · exact h.elim
end
end DL

namespace DL
open PySem PySem.Spec PyProof.Rows L2

/-- attribute f of the class C stands at place j -/
structure AtF (K : PySem.W.Frag) (CE : CEnv) (C j : Nat) (f : PySem.Str) : Prop where
  cl : Cls K (CE C).1
  na : NoAttr K (CE C).1 f
  ix : (CE C).2[j]? = some f
  nd : (CE C).2.Nodup
  sz : (CE C).2.length < 900
theorem zip_lookup {f : PySem.Str} : ∀ {ns : List PySem.Str} {vs : List V} {j : Nat}, ns.Nodup → ns[j]? = some f → (ns.zip vs).lookup f = vs[j]?
  | [], _, _, _, h => by simp at h
  | n :: ns, [], j, hn, h => by simp
  | n :: ns, v :: vs, 0, hn, h => by
    simp at h
    subst h
    simp
  | n :: ns, v :: vs, j + 1, hn, h => by
    simp at h
    have ne : f ≠ n := fun e => (List.nodup_cons.mp hn).1 (e ▸ List.mem_of_getElem? h)
    rw [List.zip_cons_cons, List.lookup_cons, show (f == n) = false from by simpa using ne]
    simpa using zip_lookup (List.nodup_cons.mp hn).2 h
theorem zip_none {f : PySem.Str} : ∀ {ns : List PySem.Str} {vs : List V}, f ∉ ns → (ns.zip vs).lookup f = none
  | [], _, _ => by simp
  | n :: ns, [], _ => by simp
  | n :: ns, v :: vs, h => by
    have ne : f ≠ n := fun e => h (e ▸ List.mem_cons_self)
    rw [List.zip_cons_cons, List.lookup_cons, show (f == n) = false from by simpa using ne]
    exact zip_none fun z => h (List.mem_cons_of_mem _ z)
theorem putF_set {f : PySem.Str} {x : V} : ∀ {ns : List PySem.Str} {vs : List V} {j : Nat}, ns.Nodup → ns[j]? = some f → j < vs.length → putF f x (ns.zip vs) = ns.zip (vs.set j x)
  | [], _, _, _, h, _ => by simp at h
  | n :: ns, [], j, hn, h, l => by simp at l
  | n :: ns, v :: vs, 0, hn, h, _ => by
    simp at h
    subst h
    simp [putF]
  | n :: ns, v :: vs, j + 1, hn, h, l => by
    simp at h l
    have ne : ¬ n = f := fun e => (List.nodup_cons.mp hn).1 (e ▸ List.mem_of_getElem? h)
    rw [List.zip_cons_cons, putF, if_neg ne, putF_set (List.nodup_cons.mp hn).2 h l]
    simp
theorem putF_new {f : PySem.Str} {x : V} : ∀ {ns : List PySem.Str} {vs : List V}, ns.Nodup → ns[vs.length]? = some f → putF f x (ns.zip vs) = ns.zip (vs ++ [x])
  | [], _, _, h => by simp at h
  | n :: ns, [], hn, h => by
    simp at h
    subst h
    simp [putF]
  | n :: ns, v :: vs, hn, h => by
    simp at h
    have ne : ¬ n = f := fun e => (List.nodup_cons.mp hn).1 (e ▸ List.mem_of_getElem? h)
    rw [List.zip_cons_cons, putF, if_neg ne, putF_new (List.nodup_cons.mp hn).2 h]
    simp
/-- an attribute by the class's table -/
def fldP (tab : List (Nat × Nat)) (d : D) (c : Cells) : Option D := match insOf d c with
  | some (C, xs) => match tab.lookup C with
    | some j => xs[j]?
    | none => none
  | none => none
def AtFs (K : PySem.W.Frag) (CE : CEnv) (tab : List (Nat × Nat)) (f : PySem.Str) : Prop := ∀ C j, tab.lookup C = some j → AtF K CE C j f
theorem atFs_one {K : PySem.W.Frag} {CE : CEnv} {C j : Nat} {f : PySem.Str} (h : AtF K CE C j f) : AtFs K CE [(C, j)] f := fun C' j' e => by
  rw [List.lookup_cons] at e
  split at e
  · rename_i h'
    cases e
    have : C' = C := by simpa using h'
    rw [this]; exact h
  · simp at e
theorem atFs_cons {K : PySem.W.Frag} {CE : CEnv} {C j : Nat} {tab : List (Nat × Nat)} {f : PySem.Str} (h : AtF K CE C j f) (t : AtFs K CE tab f) : AtFs K CE ((C, j) :: tab) f := fun C' j' e => by
  rw [List.lookup_cons] at e
  split at e
  · rename_i h'
    cases e
    have : C' = C := by simpa using h'
    rw [this]; exact h
  · exact t C' j' e
section
variable {X : Cx} {CE : CEnv} {W : WX} {pos pos' apos : Pos} {e o : Expr} {es : List Expr} {f m : PySem.Str} {me mo : EM} {tab : List (Nat × Nat)} {ms : Ev' → M (List D)}
theorem ins_read {K : PySem.W.Frag} {g : Gh} {H : Hp} {c : Cells} {C j : Nat} {xs : List D} {d : D} {vs : List V} (A : AtF K CE C j f) (r : Reps CE K g H xs vs) (ej : xs[j]? = some d) : ∃ v, ((CE C).2.zip vs).lookup f = some v ∧ Rep CE K g H d v := by
  obtain ⟨v, e, rv⟩ := Reps.get r ej
  exact ⟨v, (zip_lookup A.nd A.ix).trans e, rv⟩
theorem pd_fld (T : AtFs X.K CE tab f) (he : PD X CE W e me) (hb : attributeBase e f X.env (eval e X.env) = eval e X.env := by rfl) : PD X CE W (.Attribute e f pos) (un1 (fldP tab) me) :=
  (pe_fld he hb).wk fun σ H Q ⟨g, c, δ, ok, er, h⟩ => by
    replace h := wpo_bnd.mp h
    refine use ok er h (fun d c1 h g1 H1 v p1 r1 => ?_) fun _ _ _ z => z
    obtain ⟨z, ez, h⟩ := opt_ok h
    unfold fldP at ez
    split at ez
    · rename_i C xs ei
      split at ez
      · rename_i j et
        have A := T C j et
        obtain ⟨a, dx, vs, rfl, e1, l, r⟩ := insOf_at p1.ok r1 ei
        obtain ⟨v, e2, rv⟩ := ins_read (c := c1) A r ez
        exact ⟨a, (CE C).1, dx, _, v, rfl, e1, A.cl, A.na, e2, h g1 H1 v p1 rv⟩
      · cases ez
    · cases ez
/-- the attributes that an __init__ has stored so far -/
def slfL (i : Nat) (δ : Ev') : Option (Addr × Nat × List D) := match δ[i]? with
  | some (Slot.slf a C xs) => some (a, C, xs)
  | _ => none
theorem slfL_at {K : PySem.W.Frag} {g : Gh} {H : Hp} {σ : L2.St} {δ : Ev'} {i : Nat} {a : Addr} {C : Nat} {xs : List D} (er : EnvR CE K g H σ δ) (e : slfL i δ = some (a, C, xs)) :
    δ[i]? = some (Slot.slf a C xs) ∧ σ[i]? = some (some (V.ref a)) ∧ ∃ dx vs, H a = some (.ins (CE C).1 dx ((CE C).2.zip vs)) ∧ xs.length ≤ (CE C).2.length ∧ Reps CE K g H xs vs := by
  unfold slfL at e
  split at e
  · rename_i b C' ys he
    cases e
    have e1 := er.slf i _ _ _ he
    obtain ⟨a', e2, _, _, _, ⟨dx, vs, h1, z, r⟩, _⟩ := er.own i _ _ he rfl
    rw [e1] at e2; cases e2
    exact ⟨he, e1, dx, vs, h1, z, r⟩
  · cases e
def fldO (i : Nat) (tab : List (Nat × Nat)) : EM := fun δ c => match slfL i δ with
  | some (_, C, xs) => match tab.lookup C with
    | some j => opt xs[j]? c
    | none => .bad
  | none => .bad
theorem pd_fldO (i : Nat) (T : AtFs X.K CE tab f) (he : PE X e (tVar i)) (hb : attributeBase e f X.env (eval e X.env) = eval e X.env := by rfl) : PD X CE W (.Attribute e f pos) (fldO i tab) :=
  (pe_fld he hb).wk fun σ H Q ⟨g, c, δ, ok, er, h⟩ => by
    unfold fldO at h
    cases es : slfL i δ with
    | none => rw [es] at h; exact h.elim
    | some q =>
      obtain ⟨a, C, xs⟩ := q
      rw [es] at h
      dsimp only at h
      split at h
      · rename_i j et
        have A := T C j et
        obtain ⟨z, ez, h⟩ := opt_ok h
        obtain ⟨h1, h2, dx, vs, e1, l, r⟩ := slfL_at er es
        obtain ⟨v, e2, rv⟩ := ins_read (c := c) A r ez
        exact ⟨.ref a, h2, a, (CE C).1, dx, _, v, rfl, e1, A.cl, A.na, e2, h g H v (Post.refl ok) rv⟩
      · exact h.elim
/-- self.f = e in an __init__ -/
def slfS (i C j : Nat) (me : EM) : SM := fun δ c => match slfL i δ with
  | some (a, C', xs) => if C' = C then (me δ c).thenS δ fun d c => if j < xs.length then .nx (δ.set i (.slf a C (xs.set j d))) c else if j = xs.length then .nx (δ.set i (.slf a C (xs ++ [d]))) c else .bad else .bad
  | none => .bad
theorem sd_slf (i : Nat) {C j : Nat} (A : AtF X.K CE C j f) (ho : PE X o (tVar i)) (he : PD X CE W e me) (hs : swapsWith e (some (.Attribute o f pos')) pos.line X.env = pure false := by rfl) : SD X CE W (.Assign [.Attribute o f pos'] e pos) (slfS i C j me) :=
  (ps_fld ho he hs).wk fun D σ H ⟨g, c, δ, ok, er, h⟩ => by
    unfold slfS at h
    cases es : slfL i δ with
    | none => rw [es] at h; exact h.elim
    | some q =>
      obtain ⟨a, C', xs⟩ := q
      rw [es] at h
      dsimp only at h
      split at h
      · rename_i hC
        subst hC
        refine useS ok er h fun d c1 h g1 H1 v p1 r1 => ?_
        have x1 := XS.of ok er p1
        replace h := ks.back x1 h
        obtain ⟨h1, h2, dx, vs, e1, l, r⟩ := slfL_at x1.er es
        obtain ⟨nF, nA, _⟩ := x1.er.ownF ⟨i, _, _, h1, rfl, h2⟩
        have lz : ((CE C').2.zip vs).length < 1000 := by
          rw [List.length_zip]
          have := A.sz
          omega
        refine ⟨.ref a, h2, a, (CE C').1, dx, _, rfl, e1, A.cl, A.na, lz, ?_⟩
        have lv := Reps.length r
        split at h
        · rename_i hj
          rw [putF_set A.nd A.ix (by omega)]
          have rk := RK.hidI (gs := (CE C').2.zip (vs.set j v)) e1 nF
          exact h g1 _ σ (XS.chg p1.ok x1.er h1 rfl h2 rk (t' := .slf a C' (xs.set j d)) rfl (by simp) (fun _ _ _ z => by cases z; rfl) ⟨dx, _, upd_same, by simpa using l, Reps.rk rk (Reps.set j r r1)⟩)
        · split at h
          · rename_i hj
            have hl : (CE C').2[vs.length]? = some f := by rw [lv, ← hj]; exact A.ix
            rw [putF_new A.nd hl]
            have rk := RK.hidI (gs := (CE C').2.zip (vs ++ [v])) e1 nF
            have lt := (List.getElem?_eq_some_iff.mp hl).1
            exact h g1 _ σ (XS.chg p1.ok x1.er h1 rfl h2 rk (t' := .slf a C' (xs ++ [d])) rfl (by simp) (fun _ _ _ z => by cases z; rfl) ⟨dx, _, upd_same, by rw [List.length_append]; simp; omega, Reps.rk rk (Reps.append r (Reps.one r1))⟩)
          · exact h.elim
      · exact h.elim
/-- o.f = e, o a cell -/
def fldC (tab : List (Nat × Nat)) (mo me : EM) : SM := fun δ c => (me δ c).thenS δ fun d c => (mo δ c).thenS δ fun o c => match o with
  | .cell k => match c[k]? with
    | some (Cell.ins C xs) => match tab.lookup C with
      | some j => if j < xs.length then .nx δ (c.set k (Cell.ins C (xs.set j d))) else .bad
      | none => .bad
    | _ => .bad
  | _ => .bad
theorem sd_fldC (T : AtFs X.K CE tab f) (ho : PD X CE W o mo) (he : PD X CE W e me) (hs : swapsWith e (some (.Attribute o f pos')) pos.line X.env = pure false := by rfl) : SD X CE W (.Assign [.Attribute o f pos'] e pos) (fldC tab mo me) :=
  (ps_fld ho he hs).wk fun D σ H ⟨g, c, δ, ok, er, h⟩ => useS ok er h fun d c1 h g1 H1 v p1 r1 => by
    have x1 := XS.of ok er p1
    replace h := ks.back x1 h
    refine useS p1.ok x1.er h fun d2 c2 h g2 H2 v2 p2 r2 => ?_
    have x2 := XS.of p1.ok x1.er p2
    replace h := ks.back x2 h
    cases d2 <;> try exact h.elim
    rename_i k
    dsimp only at h
    split at h
    · rename_i C xs ek
      split at h
      · rename_i j et
        split at h
        · rename_i hj
          have A := T C j et
          simp only [Rep] at r2
          obtain ⟨a, rfl, ha⟩ := r2
          obtain ⟨dx, vs, e1, l, r⟩ := p2.ok.cl k a _ ha ek
          have lz : ((CE C).2.zip vs).length < 1000 := by
            rw [List.length_zip]
            have := A.sz
            omega
          refine ⟨a, (CE C).1, dx, _, rfl, e1, A.cl, A.na, lz, ?_⟩
          rw [putF_set A.nd A.ix (by rw [Reps.length r]; exact hj)]
          exact h g2 _ σ (XS.of p2.ok x2.er (Post.setCell p2.ok ha ek (by simp) (by simp) fun H' x hx => ⟨dx, _, hx, by simpa using l, Reps.mono p2.ok x (Reps.set j r (Rep.mono p1.ok p2.ext r1))⟩))
        · exact h.elim
      · exact h.elim
    · exact h.elim
end

/-- an __init__'s promise: the attributes of the new instance -/
def spI (CE : CEnv) (K : PySem.W.Frag) (C n : Nat) (m : List D → M (List D)) : Sp := fun vs H Q E => ∃ g c ds x dx vs' H0, vs = .ref x :: vs' ∧ H0 x = none ∧ H0 dx = none ∧ dx ≠ x ∧ H = upd (upd H0 dx (.own x)) x (.ins (CE C).1 dx []) ∧ SOk CE K g H0 c ∧ Reps CE K g H0 ds vs' ∧ ds.length + 1 = n ∧
  wpo (m ds c) (fun xs c' => ∀ g' H' dx' ws, Post CE K g H0 c g' H' c' → H' x = some (.ins (CE C).1 dx' ((CE C).2.zip ws)) → xs.length ≤ (CE C).2.length → Reps CE K g' H' xs ws → ¬ g'.F x → x ∉ g'.am → Q .non H')
    (fun C' xs c' => ∀ g' H' d, Post CE K g H0 c g' H' c' → ExcAt CE K g' H' C' xs d → E (.ref (CE C').1) d H')
structure FnI (P : Program) (w : World) (K : PySem.W.Frag) (mg : PySem.Str → Option Value) (base : Heap) (CE : CEnv) (C k : Nat) (f : Addr) (fd : FuncData) (ps : List PySem.Str) (m : List D → M (List D)) : Prop where
  ok : FnOk P w K mg base (L2.CX P w) k f fd ps (spI CE K C ps.length m)
  ar : ∀ ds c, ds.length + 1 ≠ ps.length → m ds c = .bad
theorem FnI.mono {P : Program} {w : World} {K : PySem.W.Frag} {mg : PySem.Str → Option Value} {base : Heap} {CE : CEnv} {C j k : Nat} {f : Addr} {fd : FuncData} {ps : List PySem.Str} {m : List D → M (List D)} (F : FnI P w K mg base CE C j f fd ps m) (h : j ≤ k) : FnI P w K mg base CE C k f fd ps m := ⟨F.ok.mono h, F.ar⟩
def Res.outI (r : Res) (a : Addr) (C : Nat) : Out (List D) := match r with
  | .nx δ c => match slfL 0 δ with
    | some (a', C', xs) => if a' = a ∧ C' = C then .ok xs c else .bad
    | none => .bad
  | .exc C xs _ c => .exc C xs c
  | _ => .bad
def runI (n k C : Nat) (m : SM) (a : Addr) : List D → M (List D) := fun ds c => if ds.length + 1 = k then (m (.slf a C [] :: startD n ds) c).outI a C else .bad
section
variable {P : Program} {w : World} {K : PySem.W.Frag} {mg : PySem.Str → Option Value} {base : Heap} {CE : CEnv}
theorem post_back {g g' : Gh} {H0 H H' : Hp} {c c' : Cells} {x dx : Addr} {o o' : HO} (s : SOk CE K g H0 c) (hx : H0 x = none) (hd : H0 dx = none) (ne : dx ≠ x) (eH : H = upd (upd H0 dx o) x o') {O : Addr → Prop} (hO : ∀ a, O a → a = x) (e : ExtO O g H c g' H' c') (ok : SOk CE K g' H' c') : Post CE K g H0 c g' H' c' := by
  subst eH
  have p1 := Post.hid s hd o
  have hx1 : (upd H0 dx o) x = none := by rw [upd_ne (Ne.symm ne)]; exact hx
  have p2 := Post.hid p1.ok hx1 o'
  have p := p1.trans p2
  exact ⟨((p.ext.o (O := fun _ => False) s).trans e fun a h => .inr (by rw [hO a h]; exact hx)).none fun _ h => h, ok⟩
theorem fn_i {x qual : PySem.Str} {st : Stmt} {f : Addr} {fd : FuncData} {N ps : List PySem.Str} {n C k : Nat} {b : SM} {m : List D → M (List D)} (F : Fun K x qual st f fd) (S : FnScope N ps (defScope st)) (hn : N.length = n + 1)
    (hm : ∀ a ds c, m ds c = .bad ∨ m ds c = runI n ps.length C b a ds c)
    (hb : ∀ (cdv : Value) (A : Around) (outer : List Env) (s : Shared) (H : Hp) (E : XK), Room k (A.deeper (envOfC qual (defScope st) s.heap.objs.size f cdv)) →
      Takes (cxOf (L2.CX P w) P w K mg base N qual (defScope st) f cdv A outer s H E) (WF E) → PassesOwn (model P w) (A.deeper (envOfC qual (defScope st) s.heap.objs.size f cdv)) (envOfC qual (defScope st) s.heap.objs.size f cdv) (cxOf (L2.CX P w) P w K mg base N qual (defScope st) f cdv A outer s H E).xe →
      SDs (cxOf (L2.CX P w) P w K mg base N qual (defScope st) f cdv A outer s H E) CE (WF E) (defBody st) b) : FnI P w K mg base CE C (k + 1) f fd ps m := by
  refine ⟨F.okX S (fun vs H Q E ⟨g, c, ds, x, dx, vs', H0, ev, _, _, _, _, _, r, l, q⟩ => by rw [ev, List.length_cons, Reps.length r]; exact l) fun cdv A outer s H vs Q E hr ⟨g, c, ds, x, dx, vs', H0, ev, hx, hd, ne, eH, ok, r, l, q⟩ => ?_, fun ds c h => ?_⟩
  · refine ⟨_, hb cdv A outer s H E hr (takes_of rfl rfl rfl rfl) (passes_of rfl), ?_⟩
    have p1 := Post.hid ok hd (.own x)
    have hx1 : (upd H0 dx (.own x)) x = none := by rw [upd_ne (Ne.symm ne)]; exact hx
    have p2 := Post.hid p1.ok hx1 (.ins (CE C).1 dx [])
    have p := p1.trans p2
    rw [← eH] at p
    have hxx : H x = some (.ins (CE C).1 dx []) := by rw [eH]; exact upd_same
    have nF : ¬ g.F x := fun z => ok.tr x z hx
    have nA : x ∉ g.am := mem_am_ne ok hx
    have rs := Reps.mono ok p.ext r
    have e1 : L2.start N vs = some (.ref x) :: L2.start (List.replicate n (Str.ofString "")) vs' := by
      subst ev
      unfold L2.start
      simp only [List.map_cons, List.length_cons, hn, List.cons_append, List.length_replicate, Nat.add_sub_add_right]
    have er0 := start_env (N := List.replicate n (Str.ofString "")) rs
    rw [List.length_replicate] at er0
    have er : EnvR CE K g H (L2.start N vs) (.slf x C [] :: startD n ds) := by
      rw [e1]
      refine ⟨by simp [er0.len], fun i d h => ?_, fun i t o h ho => ?_, fun i a C' xs h => ?_⟩
      · cases i with
        | zero => cases h
        | succ i => exact er0.sh i d (by simpa using h)
      · cases i with
        | zero =>
          simp at h
          subst h
          cases ho
          refine ⟨x, rfl, nF, nA, by simp, ⟨dx, [], by simpa using hxx, Nat.zero_le _, Reps.nil⟩, fun j t' o' h1 h2 h3 => ?_⟩
          cases j with
          | zero => rfl
          | succ j => exact (start_noOwn (by simpa using h1) h2).elim
        | succ i => exact (start_noOwn (by simpa using h) ho).elim
      · cases i with
        | zero =>
          simp at h
          obtain ⟨rfl, rfl, rfl⟩ := h
          rfl
        | succ i =>
          have h' : (startD n ds)[i]? = some (.slf a C' xs) := by simpa using h
          exact (start_noOwn h' rfl).elim
    have ow : ∀ a, Own (L2.start N vs) (.slf x C [] :: startD n ds) a → a = x := fun a ⟨i, t, o, h1, h2, h3⟩ => by
      cases i with
      | zero =>
        rw [e1] at h3
        simp at h3
        exact h3.symm
      | succ i => exact (start_noOwn (by simpa using h1) h2).elim
    refine ⟨g, c, .slf x C [] :: startD n ds, p.ok, er, ?_⟩
    rcases hm x ds c with eb | em
    · rw [eb] at q; exact q.elim
    rw [em] at q
    unfold runI at q
    rw [if_pos l] at q
    cases e : b (.slf x C [] :: startD n ds) c with
    | nx δ' c' =>
      rw [e] at q
      simp only [Res.outI] at q
      intro g' H' σ' X'
      cases es : slfL 0 δ' with
      | none => rw [es] at q; exact q.elim
      | some t =>
        obtain ⟨a, C', ys⟩ := t
        rw [es] at q
        dsimp only at q
        split at q
        · rename_i hh
          obtain ⟨rfl, rfl⟩ := hh
          obtain ⟨h1, h2, dx', ws, e2, hl, rr⟩ := slfL_at X'.er es
          obtain ⟨nF', nA', _⟩ := X'.er.ownF ⟨0, _, _, h1, rfl, h2⟩
          exact q g' H' dx' ws (post_back ok hx hd ne eH ow X'.x X'.ok) e2 hl rr nF' nA'
        · exact q.elim
    | rt d c' => rw [e] at q; exact q.elim
    | bk δ' c' => rw [e] at q; exact q.elim
    | ct δ' c' => rw [e] at q; exact q.elim
    | exc C' xs δ' c' => rw [e] at q; exact fun g' H' σ' d xs' ea => q g' H' d (post_back ok hx hd ne eH ow xs'.x xs'.ok) ea
    | bad => rw [e] at q; exact q.elim
  · rcases hm 0 ds c with e | e
    · exact e
    · rw [e]; unfold runI; rw [if_neg h]
end
end DL

namespace DL
open PySem PySem.Spec PyProof.Rows L2

def spP (CE : CEnv) (K : PySem.W.Frag) (m : List D → M D) : Sp := fun vs H Q E => ∃ g c ds, SOk CE K g H c ∧ Reps CE K g H ds vs ∧
  wpo (m ds c) (fun d c' => ∀ g' H' v, Post CE K g H c g' H' c' → Rep CE K g' H' d v → Q v H')
    (fun C xs c' => ∀ g' H' dx, Post CE K g H c g' H' c' → ExcAt CE K g' H' C xs dx → E (.ref (CE C).1) dx H')
def spPI (CE : CEnv) (K : PySem.W.Frag) (C : Nat) (m : List D → M (List D)) : Sp := fun vs H Q E => ∃ g c ds x dx vs' H0, vs = .ref x :: vs' ∧ H0 x = none ∧ H0 dx = none ∧ dx ≠ x ∧ H = upd (upd H0 dx (.own x)) x (.ins (CE C).1 dx []) ∧ SOk CE K g H0 c ∧ Reps CE K g H0 ds vs' ∧
  wpo (m ds c) (fun xs c' => ∀ g' H' dx' ws, Post CE K g H0 c g' H' c' → H' x = some (.ins (CE C).1 dx' ((CE C).2.zip ws)) → xs.length ≤ (CE C).2.length → Reps CE K g' H' xs ws → ¬ g'.F x → x ∉ g'.am → Q .non H')
    (fun C' xs c' => ∀ g' H' d, Post CE K g H0 c g' H' c' → ExcAt CE K g' H' C' xs d → E (.ref (CE C').1) d H')
/-- the def at f, called with positional values, does what m says -/
def FnP (P : Program) (w : World) (K : PySem.W.Frag) (mg : PySem.Str → Option Value) (base : Heap) (CE : CEnv) (k : Nat) (f : Addr) (m : List D → M D) : Prop := FnR P w K mg base (L2.CX P w) k f (spP CE K m)
def FnPI (P : Program) (w : World) (K : PySem.W.Frag) (mg : PySem.Str → Option Value) (base : Heap) (CE : CEnv) (C k : Nat) (f : Addr) (m : List D → M (List D)) : Prop := FnR P w K mg base (L2.CX P w) k f (spPI CE K C m)
/-- m' says no more than m -/
def Les {α : Type} (m' m : List D → M α) : Prop := ∀ ds c, m' ds c = .bad ∨ m' ds c = m ds c
theorem Les.refl {α : Type} {m : List D → M α} : Les m m := fun _ _ => .inr rfl
section
variable {P : Program} {w : World} {K : PySem.W.Frag} {mg : PySem.Str → Option Value} {base : Heap} {CE : CEnv} {C j k : Nat} {f : Addr} {fd : FuncData} {ps : List PySem.Str} {m m' : List D → M D} {mi mi' : List D → M (List D)} {ds : List Value} {dds : List D}
theorem FnP.mono (F : FnP P w K mg base CE j f m) (h : j ≤ k) : FnP P w K mg base CE k f m := FnR.mono F h
theorem FnPI.mono (F : FnPI P w K mg base CE C j f mi) (h : j ≤ k) : FnPI P w K mg base CE C k f mi := FnR.mono F h
theorem FnP.le (F : FnP P w K mg base CE k f m) (h : Les m' m) : FnP P w K mg base CE k f m' := FnR.imp F fun vs H Q E ⟨g, c, ds, ok, r, q⟩ => ⟨g, c, ds, ok, r, by
  rcases h ds c with e | e
  · rw [e] at q; exact q.elim
  · rw [e] at q; exact q⟩
theorem FnPI.le (F : FnPI P w K mg base CE C k f mi) (h : Les mi' mi) : FnPI P w K mg base CE C k f mi' := FnR.imp F fun vs H Q E ⟨g, c, ds, x, dx, vs', H0, h1, h2, h3, h4, h5, ok, r, q⟩ => ⟨g, c, ds, x, dx, vs', H0, h1, h2, h3, h4, h5, ok, r, by
  rcases h ds c with e | e
  · rw [e] at q; exact q.elim
  · rw [e] at q; exact q⟩
theorem FnD.pos (F : FnD P w K mg base CE k f fd ps m) (hb : Binds K fd ps ds) (hd : Lit CE K dds ds) : FnP P w K mg base CE k f (fun xs => m (xs ++ dds)) := by
  obtain ⟨dvs, hv, hd⟩ := hd
  refine FnR.imp (F.ok.raw hb hv) fun vs H Q E ⟨g, c, ds, ok, r, q⟩ => ?_
  refine ⟨g, c, ds ++ dds, ok, Reps.append r (hd _ _), Classical.byContradiction fun hl => ?_, q⟩
  dsimp only at q
  rw [F.ar _ _ hl] at q
  exact q.elim
theorem FnD.pos0 (F : FnD P w K mg base CE k f fd ps m) (hb : Binds K fd ps []) : FnP P w K mg base CE k f m := by
  have h := F.pos (dds := []) hb lit_nil
  simpa only [List.append_nil] using h
theorem FnI.pos (F : FnI P w K mg base CE C k f fd ps mi) (hb : Binds K fd ps ds) (hd : Lit CE K dds ds) : FnPI P w K mg base CE C k f (fun xs => mi (xs ++ dds)) := by
  obtain ⟨dvs, hv, hd⟩ := hd
  refine FnR.imp (F.ok.raw hb hv) fun vs H Q E ⟨g, c, ds, x, dx, vs', H0, h1, h2, h3, h4, h5, ok, r, q⟩ => ?_
  refine ⟨g, c, ds ++ dds, x, dx, vs' ++ dvs, H0, by rw [h1]; rfl, h2, h3, h4, h5, ok, Reps.append r (hd _ _), Classical.byContradiction fun hl => ?_, q⟩
  dsimp only at q
  rw [F.ar _ _ hl] at q
  exact q.elim
theorem FnI.pos0 (F : FnI P w K mg base CE C k f fd ps mi) (hb : Binds K fd ps []) : FnPI P w K mg base CE C k f mi := by
  have h := F.pos (dds := []) hb lit_nil
  simpa only [List.append_nil] using h
/-- def f(a, .., *v) -/
def starM (n : Nat) (m : List D → M D) : List D → M D := fun xs => if n ≤ xs.length ∧ (xs.drop n).length ≤ sizeLine then m (xs.take n ++ [.tup (xs.drop n)]) else stuck
theorem fn_pstar {x qual pv : PySem.Str} {st : Stmt} {N : List PySem.Str} {b : SM} (F : Fun K x qual st f fd) (S : FnScope N (ps ++ [pv]) (defScope st))
    (hbind : ∀ (kV doc pm : Value) (an : Option Addr) (cdv ct : Value) (us rest : List Value), us.length = ps.length → bindArgs (PySem.W.fnOf x qual (defArgs st) (defBody st) (defScope st) .none kV doc pm an cdv ct) ⟨us ++ rest, []⟩ = (newTuple rest >>= fun t => pure (ps.zip us ++ [(pv, t)])))
    (hb : ∀ (cdv : Value) (A : Around) (outer : List Env) (s : Shared) (H : Hp) (E : XK), Room k (A.deeper (envOfC qual (defScope st) s.heap.objs.size f cdv)) →
      Takes (cxOf (L2.CX P w) P w K mg base N qual (defScope st) f cdv A outer s H E) (WF E) → PassesOwn (model P w) (A.deeper (envOfC qual (defScope st) s.heap.objs.size f cdv)) (envOfC qual (defScope st) s.heap.objs.size f cdv) (cxOf (L2.CX P w) P w K mg base N qual (defScope st) f cdv A outer s H E).xe →
      SDs (cxOf (L2.CX P w) P w K mg base N qual (defScope st) f cdv A outer s H E) CE (WF E) (defBody st) b) : FnP P w K mg base CE (k + 1) f (starM ps.length (runD N.length (ps.length + 1) b)) := by
  obtain ⟨oc, od, kV, doc, pm, an, cdv, ct, osl, rfl, lk, hcd⟩ := F.ex
  refine FnR.imp (StX.fn_star (CX := L2.CX P w) (sp := spP CE K (runD N.length (ps.length + 1) b)) lk hcd S StX.cxUp (hbind kV doc pm an cdv ct) fun A outer s H vs Q E hr ⟨g, c, ds, ok, r, q⟩ => ?_) fun vs H Q E ⟨g, c, ds, ok, r, q⟩ => ?_
  · refine ⟨_, hb cdv A outer s H E hr (takes_of rfl rfl rfl rfl) (passes_of rfl), ?_⟩
    refine ⟨g, c, startD N.length ds, ok, start_env r, ?_⟩
    have no : ∀ a, ¬ Own (L2.start N vs) (startD N.length ds) a := fun a ⟨i, t, o, h1, h2, h3⟩ => start_noOwn h1 h2
    unfold runD at q
    split at q
    · cases e : b (startD N.length ds) c with
      | nx δ c' => rw [e] at q; exact fun g' H' σ' x => q g' H' _ ⟨x.x.none no, x.ok⟩ rep_non
      | rt d c' => rw [e] at q; exact fun g' H' v x r => q g' H' v ⟨x.x.none no, x.ok⟩ r
      | bk δ c' => rw [e] at q; exact q.elim
      | ct δ c' => rw [e] at q; exact q.elim
      | exc C xs δ c' => rw [e] at q; exact fun g' H' σ' dx x ea => q g' H' dx ⟨x.x.none no, x.ok⟩ ea
      | bad => rw [e] at q; exact q.elim
    · exact q.elim
  · unfold starM at q
    split at q
    · rename_i hl
      have hlen := Reps.length r
      refine ⟨vs.take ps.length, vs.drop ps.length, by simp, by simp; omega, by rw [List.length_drop, hlen, ← List.length_drop]; exact hl.2, fun p hp => ?_⟩
      have P' := Post.hid ok hp (.tup (vs.drop ps.length))
      refine ⟨g, c, ds.take ps.length ++ [.tup (ds.drop ps.length)], P'.ok, Reps.append (Reps.mono ok P'.ext (Reps.take _ r)) (Reps.one ?_), wpo_mono q (fun d c' z g' H' v p r => z g' H' v (P'.trans p) r) fun C xs c' z g' H' dx p => z g' H' dx (P'.trans p)⟩
      simp only [Rep]
      exact ⟨p, _, rfl, .of upd_same, hl.2, Reps.mono ok P'.ext (Reps.drop _ r)⟩
    · exact q.elim
end

def callM (m : List D → M D) (ms : Ev' → M (List D)) : EM := fun δ => bnd (ms δ) fun xs => m xs
def methM (C : Nat) (m : List D → M D) (mo : EM) (ms : Ev' → M (List D)) : EM := fun δ => bnd (mo δ) fun o => fun c => match insOf o c with
  | some (C', _) => if C' = C then bnd (ms δ) (fun xs => m (o :: xs)) c else .bad
  | none => .bad
def makeM (C : Nat) (m : List D → M (List D)) (ms : Ev' → M (List D)) : EM := fun δ => bnd (ms δ) fun xs => bnd (m xs) fun ys => DL.ret (.ins C ys)
def makeC (C : Nat) (m : List D → M (List D)) (ms : Ev' → M (List D)) : EM := fun δ => bnd (ms δ) fun xs => bnd (m xs) fun ys => fun c => .ok (.cell c.length) (c ++ [Cell.ins C ys])
section
variable {X : Cx} {CE : CEnv} {W : WX} {C k : Nat} {f : Addr} {x mn : PySem.Str} {p pos apos : Pos} {e o : Expr} {es : List Expr} {ms : Ev' → M (List D)} {m : List D → M D} {mi : List D → M (List D)} {mo : EM}
theorem run_P {sp : Sp} {E : XK} {pins : List (Addr × Obj)} {σ : L2.St} {H : Hp} {s : Shared} {Q : VK} {us : List Value} {vs : List V} (F : FnR X.prog X.w X.K X.mg X.base (L2.CX X.prog X.w) k f sp) (hr : Room k X.A) (hx : PassesAt (L2.CX X.prog X.w) X σ E)
    (I : Inv X pins σ H s) (r : Vals vs us) (h : sp vs H Q E) : wpAny (model X.prog X.w) X.A (call (.ref f) us) (EP X pins σ Q) X.xe s := by
  refine wpAny_call (codeAny_mono (F X.A X.stack s H us vs Q E hr I.env0 r h) fun r s' hq => ?_)
  cases r with
  | error e => exact hx pins H s e s' I hq
  | ok fl =>
    cases fl with
    | ret u => exact I.after hq
    | next => exact hq.elim
    | brk => exact hq.elim
    | cont => exact hq.elim
theorem spP_of {σ : L2.St} {g0 g : Gh} {H0 H : Hp} {c0 c : Cells} {ds : List D} {vs : List V} {Q : VK} (p : Post CE X.K g0 H0 c0 g H c) (r : Reps CE X.K g H ds vs) (h : wpo (m ds c) (fun d c' => ∀ g' H' v, Post CE X.K g0 H0 c0 g' H' c' → Rep CE X.K g' H' d v → Q v H') (EK CE X.K W g0 H0 c0 σ)) :
    spP CE X.K m vs H Q (WE W σ) := ⟨g, c, ds, p.ok, r, wpo_mono h (fun d c' q g' H' v p' r' => q g' H' v (p.trans p') r') fun C ys c' q g' H' dx p' x' => q g' H' dx (p.trans p') x'⟩
theorem pd_call (F : FnP X.prog X.w X.K X.mg X.base CE k f m) (hr : Room k X.A) (hg : Gl X x) (hm : X.mg x = some (.ref f)) (hk : PySem.W.keepIn X.K (.ref f) = true) (pw : PassW X W)
    (ha : PDA X CE W (e :: es) ms) (hdb : (x == ("__debug__" : PySem.Str)) = false := by decide) (he : starEach (e :: es) X.env = (false, eval e X.env) :: starEach es X.env := by rfl) (hpl : (backTo pos (starEach es X.env)).any (·.1) = false := by rfl) :
    PD X CE W (.Call (.Name x p) (e :: es) [] pos) (callM m ms) := ⟨fun pins s σ H Q I ⟨g, c, δ, ok, er, h⟩ => by
  refine wpAny_Call_Name_kw (ld_glob I hg hm ?_ hdb)
  have h' : tDA CE X.K W ms σ H fun vs H1 => spP CE X.K m vs H1 Q (WE W σ) := useA ok er (wpo_bnd.mp h) (fun xs c1 h g1 H1 vs p1 r1 => spP_of p1 r1 h) fun _ _ _ z => z
  refine PySem.W.callWith_K (h₀ := X.base) I.ok.mod.kin hk (thn (PA.run ha pos pins s σ H _ I h') fun us s1 ⟨vs, H1, I1, r, q⟩ => ⟨I1.kIn, ?_⟩) he hpl
  exact run_P F hr (pw σ) I1 r q⟩
theorem pd_call0 (F : FnP X.prog X.w X.K X.mg X.base CE k f m) (hr : Room k X.A) (hg : Gl X x) (hm : X.mg x = some (.ref f)) (hk : PySem.W.keepIn X.K (.ref f) = true) (pw : PassW X W) (hdb : (x == ("__debug__" : PySem.Str)) = false := by decide) :
    PD X CE W (.Call (.Name x p) [] [] pos) (callM m nilA) := ⟨fun pins s σ H Q I ⟨g, c, δ, ok, er, h⟩ => by
  refine wpAny_Call_Name_kw (ld_glob I hg hm ?_ hdb)
  exact PySem.W.callWith_K0 I.kIn hk (run_P (us := []) F hr (pw σ) I .nil (spP_of (Post.refl ok) Reps.nil h))⟩
/-- the class C's method mn -/
structure MtF (K : PySem.W.Frag) (CE : CEnv) (C : Nat) (mn : PySem.Str) (f : Addr) : Prop where
  cl : Cls K (CE C).1
  mt : Meth K (CE C).1 mn f
  no : mn ∉ (CE C).2
theorem pd_meth {pl : Sem Bool} (T : MtF X.K CE C mn f) (F : FnP X.prog X.w X.K X.mg X.base CE k f m) (hr : Room k X.A) (pw : PassW X W) (ho : PD X CE W o mo) (ha : PDA X CE W (e :: es) ms)
    (hst : starEach (e :: es) X.env = (false, eval e X.env) :: starEach es X.env := by rfl) (hpl : (backTo pos (starEach es X.env)).any (·.1) = false := by rfl)
    (ht : eval (.Call (.Attribute o mn apos) (e :: es) [] pos) X.env = (do
      let ov ← eval o X.env; standAt apos.atName
      let (f, first) ← holding [ov] (getMethod ov mn pl)
      callWith pos f first (backTo pos (starEach (e :: es) X.env)) (backToKw pos (keywordEach [] X.env))) := by rfl) :
    PD X CE W (.Call (.Attribute o mn apos) (e :: es) [] pos) (methM C m mo ms) := ⟨fun pins s σ H Q I ⟨g, c, δ, ok, er, h⟩ => by
  have h1 : tD CE X.K W mo σ H fun v H1 => ∃ a dx fs, v = .ref a ∧ H1 a = some (.ins (CE C).1 dx fs) ∧ fs.lookup mn = none ∧ tDA CE X.K W ms σ H1 fun vs H2 => spP CE X.K m (v :: vs) H2 Q (WE W σ) := by
    refine use ok er (wpo_bnd.mp h) (fun d c1 hh g1 H1 v p1 r1 => ?_) fun _ _ _ z => z
    cases ei : insOf d c1 with
    | none => rw [ei] at hh; exact hh.elim
    | some q =>
      obtain ⟨C', xs⟩ := q
      rw [ei] at hh
      dsimp only at hh
      split at hh
      · rename_i hC
        subst hC
        obtain ⟨a, dx, vs, rfl, e1, l, r⟩ := insOf_at p1.ok r1 ei
        refine ⟨a, dx, _, rfl, e1, zip_none T.no, useA p1.ok (er.mono ok p1.ext) (wpo_bnd.mp hh) (fun xs c2 hh g2 H2 vs p2 r2 => ?_) fun _ _ _ z => EK.back p1 z⟩
        exact spP_of (p1.trans p2) (Reps.cons (Rep.mono p1.ok p2.ext r1) r2) hh
      · exact hh.elim
  refine PySem.W.methodCall_KW (pl := pl) (thn (PE.run ho pins s σ H _ I h1) fun u s1 ⟨v, H1, I1, rx, a, dx, fs, ex, ea, l, q⟩ => ?_) ht
  subst ex
  obtain rfl : u = Value.ref a := rx
  refine getmeth_ok I1 ea T.cl T.mt l ?_
  refine PySem.W.callWith_K (first := [.ref a]) (h₀ := X.base) I.ok.mod.kin T.mt.kp (thn (PA.run ha pos pins s1 σ H1 _ I1 q) fun us s2 ⟨vs, H2, I2, r, q2⟩ => ⟨I2.kIn, ?_⟩) hst hpl
  exact run_P (us := .ref a :: us) (vs := .ref a :: vs) F hr (pw σ) I2 (.cons rfl r) q2⟩
theorem pd_meth0 {pl : Sem Bool} (T : MtF X.K CE C mn f) (F : FnP X.prog X.w X.K X.mg X.base CE k f m) (hr : Room k X.A) (pw : PassW X W) (ho : PD X CE W o mo)
    (ht : eval (.Call (.Attribute o mn apos) [] [] pos) X.env = (do
      let ov ← eval o X.env; standAt apos.atName
      let (f, first) ← holding [ov] (getMethod ov mn pl)
      callWith pos f first (backTo pos (starEach [] X.env)) (backToKw pos (keywordEach [] X.env))) := by rfl) :
    PD X CE W (.Call (.Attribute o mn apos) [] [] pos) (methM C m mo nilA) := ⟨fun pins s σ H Q I ⟨g, c, δ, ok, er, h⟩ => by
  have h1 : tD CE X.K W mo σ H fun v H1 => ∃ a dx fs, v = .ref a ∧ H1 a = some (.ins (CE C).1 dx fs) ∧ fs.lookup mn = none ∧ spP CE X.K m [v] H1 Q (WE W σ) := by
    refine use ok er (wpo_bnd.mp h) (fun d c1 hh g1 H1 v p1 r1 => ?_) fun _ _ _ z => z
    cases ei : insOf d c1 with
    | none => rw [ei] at hh; exact hh.elim
    | some q =>
      obtain ⟨C', xs⟩ := q
      rw [ei] at hh
      dsimp only at hh
      split at hh
      · rename_i hC
        subst hC
        obtain ⟨a, dx, vs, rfl, e1, l, r⟩ := insOf_at p1.ok r1 ei
        exact ⟨a, dx, _, rfl, e1, zip_none T.no, spP_of p1 (Reps.one r1) hh⟩
      · exact hh.elim
  refine PySem.W.methodCall_KW (pl := pl) (thn (PE.run ho pins s σ H _ I h1) fun u s1 ⟨v, H1, I1, rx, a, dx, fs, ex, ea, l, q⟩ => ?_) ht
  subst ex
  obtain rfl : u = Value.ref a := rx
  refine getmeth_ok I1 ea T.cl T.mt l ?_
  exact PySem.W.callWith_K0 (first := [.ref a]) I1.kIn T.mt.kp (run_P (us := [.ref a]) (vs := [.ref a]) F hr (pw σ) I1 (.cons rfl .nil) q)⟩
theorem run_mk {sp : Sp} {E : XK} {C' : Addr} {pins : List (Addr × Obj)} {σ : L2.St} {H : Hp} {s : Shared} {Q : VK} {us : List Value} {vs : List V} (M' : Mk X.K C' f) (F : FnR X.prog X.w X.K X.mg X.base (L2.CX X.prog X.w) k f sp) (hr : Room (k + 1) X.A) (hx : PassesAt (L2.CX X.prog X.w) X σ E)
    (I : Inv X pins σ H s) (r : Vals vs us) (h : ∀ y dx, H y = none → H dx = none → dx ≠ y → sp (.ref y :: vs) (upd (upd H dx (.own y)) y (.ins C' dx [])) (fun v H2 => v = .non ∧ Q (.ref y) H2) E) :
    wpAny (model X.prog X.w) X.A (call (.ref C') us) (EP X pins σ Q) X.xe s := by
  have hq := h (s.heap.objs.size + 1) s.heap.objs.size (I.hok.fresh (Nat.le_succ _)) (I.hok.fresh (Nat.le_refl _)) (Nat.ne_of_lt (Nat.lt_succ_self _))
  have I2 := Inv.made (C := C') I
  refine wpAny_call (make_map (f := f) I.kIn M'.makes M'.init (beq_iff_eq.mp M'.fn) (codeAny_mono (F _ X.stack _ _ (Value.ref (s.heap.objs.size + 1) :: us) _ _ E (hr.make C' us []) (I2.env0.make C' us []) (show Vals (V.ref (s.heap.objs.size + 1) :: vs) (Value.ref (s.heap.objs.size + 1) :: us) from .cons rfl r) hq) fun r s' hq' => ?_))
  cases r with
  | error e => exact hx pins _ _ e s' I2 hq'
  | ok fl =>
    cases fl with
    | ret u =>
      obtain ⟨v, H', I3, rv, ev, q3⟩ := I2.after hq'
      subst ev
      exact ⟨rv, ⟨V.ref (s.heap.objs.size + 1), H', I3, rfl, q3⟩⟩
    | next => exact hq'.elim
    | brk => exact hq'.elim
    | cont => exact hq'.elim
theorem mk_sp {σ : L2.St} {g0 g : Gh} {H0 H : Hp} {c0 c : Cells} {ds : List D} {vs : List V} {Q : VK} {y dx : Addr} {mm : List D → M D} (hmm : (mm = fun xs => bnd (mi xs) fun ys => DL.ret (D.ins C ys)) ∨ (mm = fun xs => bnd (mi xs) fun ys => fun c => .ok (.cell c.length) (c ++ [Cell.ins C ys])))
    (p : Post CE X.K g0 H0 c0 g H c) (r : Reps CE X.K g H ds vs) (hy : H y = none) (hd : H dx = none) (ne : dx ≠ y) (h : wpo (mm ds c) (fun d c' => ∀ g' H' v, Post CE X.K g0 H0 c0 g' H' c' → Rep CE X.K g' H' d v → Q v H') (EK CE X.K W g0 H0 c0 σ)) :
    spPI CE X.K C mi (.ref y :: vs) (upd (upd H dx (.own y)) y (.ins (CE C).1 dx [])) (fun v H2 => v = .non ∧ Q (.ref y) H2) (WE W σ) := by
  have back : H0 y = none := Classical.byContradiction fun n => p.ext.thr y n hy
  refine ⟨g, c, ds, y, dx, vs, H, rfl, hy, hd, ne, rfl, p.ok, r, ?_⟩
  rcases hmm with rfl | rfl
  · exact wpo_mono (wpo_bnd.mp h) (fun xs c' q g' H' dx' ws p' e l rr nF nA => ⟨rfl, by
      have q : ∀ g' H' v, Post CE X.K g0 H0 c0 g' H' c' → Rep CE X.K g' H' (.ins C xs) v → Q v H' := q
      refine q _ _ _ (p.trans (p'.frz hy e nA)) ?_
      simp only [Rep]
      exact ⟨y, dx', ws, rfl, .inr rfl, e, l, Reps.rk RK.cold rr⟩⟩) fun C' xs c' q g' H' d p' x' => q g' H' d (p.trans p') x'
  · exact wpo_mono (wpo_bnd.mp h) (fun xs c' q g' H' dx' ws p' e l rr nF nA => ⟨rfl, by
      have q : ∀ g' H' v, Post CE X.K g0 H0 c0 g' H' (c' ++ [Cell.ins C xs]) → Rep CE X.K g' H' (.cell c'.length) v → Q v H' := q
      refine q _ _ _ (p.trans (p'.put (x := Cell.ins C xs) hy e nF nA ⟨dx', ws, e, l, rr⟩)) ?_
      simp only [Rep]
      exact ⟨y, rfl, by rw [← p'.ok.len]; simp⟩⟩) fun C' xs c' q g' H' d p' x' => q g' H' d (p.trans p') x'
theorem pd_make (T : Mk X.K (CE C).1 f) (F : FnPI X.prog X.w X.K X.mg X.base CE C k f mi) (hr : Room (k + 1) X.A) (hg : Gl X x) (hm : X.mg x = some (.ref (CE C).1)) (pw : PassW X W) (ha : PDA X CE W (e :: es) ms)
    (hdb : (x == ("__debug__" : PySem.Str)) = false := by decide) (he : starEach (e :: es) X.env = (false, eval e X.env) :: starEach es X.env := by rfl) (hpl : (backTo pos (starEach es X.env)).any (·.1) = false := by rfl) :
    PD X CE W (.Call (.Name x p) (e :: es) [] pos) (makeM C mi ms) := ⟨fun pins s σ H Q I ⟨g, c, δ, ok, er, h⟩ => by
  refine wpAny_Call_Name_kw (ld_glob I hg hm ?_ hdb)
  have h' : tDA CE X.K W ms σ H fun vs H1 => ∀ y dx, H1 y = none → H1 dx = none → dx ≠ y → spPI CE X.K C mi (.ref y :: vs) (upd (upd H1 dx (.own y)) y (.ins (CE C).1 dx [])) (fun v H2 => v = .non ∧ Q (.ref y) H2) (WE W σ) :=
    useA ok er (wpo_bnd.mp h) (fun xs c1 h g1 H1 vs p1 r1 y dx hy hd ne => mk_sp (.inl rfl) p1 r1 hy hd ne h) fun _ _ _ z => z
  refine PySem.W.callWith_K (h₀ := X.base) I.ok.mod.kin T.kp (thn (PA.run ha pos pins s σ H _ I h') fun us s1 ⟨vs, H1, I1, r, q⟩ => ⟨I1.kIn, ?_⟩) he hpl
  exact run_mk T F hr (pw σ) I1 r q⟩
theorem pd_makeC (T : Mk X.K (CE C).1 f) (F : FnPI X.prog X.w X.K X.mg X.base CE C k f mi) (hr : Room (k + 1) X.A) (hg : Gl X x) (hm : X.mg x = some (.ref (CE C).1)) (pw : PassW X W) (ha : PDA X CE W (e :: es) ms)
    (hdb : (x == ("__debug__" : PySem.Str)) = false := by decide) (he : starEach (e :: es) X.env = (false, eval e X.env) :: starEach es X.env := by rfl) (hpl : (backTo pos (starEach es X.env)).any (·.1) = false := by rfl) :
    PD X CE W (.Call (.Name x p) (e :: es) [] pos) (makeC C mi ms) := ⟨fun pins s σ H Q I ⟨g, c, δ, ok, er, h⟩ => by
  refine wpAny_Call_Name_kw (ld_glob I hg hm ?_ hdb)
  have h' : tDA CE X.K W ms σ H fun vs H1 => ∀ y dx, H1 y = none → H1 dx = none → dx ≠ y → spPI CE X.K C mi (.ref y :: vs) (upd (upd H1 dx (.own y)) y (.ins (CE C).1 dx [])) (fun v H2 => v = .non ∧ Q (.ref y) H2) (WE W σ) :=
    useA ok er (wpo_bnd.mp h) (fun xs c1 h g1 H1 vs p1 r1 y dx hy hd ne => mk_sp (.inr rfl) p1 r1 hy hd ne h) fun _ _ _ z => z
  refine PySem.W.callWith_K (h₀ := X.base) I.ok.mod.kin T.kp (thn (PA.run ha pos pins s σ H _ I h') fun us s1 ⟨vs, H1, I1, r, q⟩ => ⟨I1.kIn, ?_⟩) he hpl
  exact run_mk T F hr (pw σ) I1 r q⟩
end
end DL

namespace DL
open PySem PySem.Spec PyProof.Rows L2

def raiseS (C : Nat) : SM := fun δ c => .exc C [] δ c
def Res.calm (r : Res) : Res := match r with
  | .exc _ _ _ _ => .bad
  | r => r
/-- try: body, except X: suite; tab: which classes X takes -/
def tryS (tab : List (Nat × Bool)) (body suite : SM) : SM := fun δ c => match body δ c with
  | .exc C xs δ' c' => match tab.lookup C with
    | some true => (suite δ' c').calm
    | some false => .exc C xs δ' c'
    | none => .bad
  | r => r
def ExT (K : PySem.W.Frag) (CE : CEnv) (tab : List (Nat × Bool)) (v : Value) : Prop := ∀ C b, tab.lookup C = some b → PySem.W.exmOne K (.ref (CE C).1) v = some b
theorem exT_nil {K : PySem.W.Frag} {CE : CEnv} {v : Value} : ExT K CE [] v := fun C b e => by simp at e
theorem exT_cons {K : PySem.W.Frag} {CE : CEnv} {C : Nat} {b : Bool} {tab : List (Nat × Bool)} {v : Value} (h : PySem.W.exmOne K (.ref (CE C).1) v = some b) (t : ExT K CE tab v) : ExT K CE ((C, b) :: tab) v := fun C' b' e => by
  rw [List.lookup_cons] at e
  split at e
  · rename_i h'
    cases e
    have : C' = C := by simpa using h'
    rw [this]; exact h
  · exact t C' b' e
section
variable {CE : CEnv} {K : PySem.W.Frag} {W : WX} {D : Ends} {g : Gh} {H : Hp} {c : Cells} {δ : Ev'} {σ : L2.St} {r : Res}
theorem calm_ok {W' : WX} (h : wps r.calm (ks CE K W D g H c σ δ)) : wps r (ks CE K W' D g H c σ δ) := by
  cases r with
  | nx δ c => exact h
  | rt d c => exact h
  | bk δ c => exact h
  | ct δ c => exact h
  | exc C xs δ c => exact h.elim
  | bad => exact h
end
section
variable {X : Cx} {CE : CEnv} {W : WX} {C : Nat} {x : PySem.Str} {v : Value} {body suite : List Stmt} {b₀ : Stmt} {np pos pos' p p2 : Pos} {mb ms : SM} {tab : List (Nat × Bool)} {e : Expr}
theorem sd_raise (hc : X.calm = true) (tk : Takes X W) (he : PMk X e (fun _ H Q => Q (.ref (CE C).1) none H)) (h0 : (CE C).2 = [] := by rfl) : SD X CE W (.Raise (some e) none pos) (raiseS C) :=
  (ps_raise hc tk he).wk fun D σ H ⟨g, c, δ, ok, er, h⟩ => h g H σ none (XS.of ok er (Post.refl ok)) ⟨h0, rfl⟩
theorem sd_try (hs : X.stack = X.env :: X.outer) (hf : X.env.frame = some X.env.locals) (hc : Names X x v) (T : ExT X.K CE tab v) (tk : Takes X W)
    (hb : ∀ (W' : WX) (pn : List (Addr × Obj)) (xe : Value → Shared → Prop), Takes (X.tr pn xe) W' → PassesOwn (model X.prog X.w) X.A X.env xe → SDs (X.tr pn xe) CE W' body mb)
    (hsu : ∀ (a : Addr) (oe : Obj) (cls : Value) (d : Option Addr) (pn : List (Addr × Obj)), Zc cls d oe → (∃ vs, oe.data = .fields vs) → SDs (X.suite a ((a, oe) :: pn)) CE W0 (b₀ :: suite) ms) :
    SD X CE W (.Try body [.ExceptHandler (some (.Name x np)) none (b₀ :: suite) pos'] [] [] pos) (tryS tab mb ms) :=
  (ps_try_only (tb := fun W' => tSD CE X.K W' mb) (ts := fun _ _ _ => tSD CE X.K W0 ms) hs hf hc tk hb hsu).wk fun D σ H ⟨g, c, δ, ok, er, h⟩ => by
    refine ⟨g, c, δ, ok, er, ?_⟩
    unfold tryS at h
    cases e : mb δ c with
    | nx δ' c' => rw [e] at h; exact h
    | rt d c' => rw [e] at h; exact h
    | bk δ' c' => rw [e] at h; exact h
    | ct δ' c' => rw [e] at h; exact h
    | bad => rw [e] at h; exact h
    | exc C' xs δ' c' =>
      rw [e] at h
      dsimp only at h
      intro g' H' σ' dx X' ea
      cases et : tab.lookup C' with
      | none => rw [et] at h; exact h.elim
      | some b =>
        rw [et] at h
        refine ⟨b, T C' b et, fun hb a _ => ?_, fun hb => ?_⟩
        · subst hb
          exact ⟨g', c', δ', X'.ok, X'.er, ks.back X' (calm_ok h)⟩
        · subst hb
          exact h g' H' σ' dx X' ea
end
end DL

namespace DL
open PySem PySem.Spec PyProof.Rows L2

def PDO (X : Cx) (CE : CEnv) (W : WX) (e : Option Expr) (m : Ev' → M (Option Int)) : Prop := PO X e (fun σ H Q => ∃ g c δ, SOk CE X.K g H c ∧ EnvR CE X.K g H σ δ ∧
  wpo (m δ c) (fun i c' => ∀ g' H', Post CE X.K g H c g' H' c' → Q i H') (EK CE X.K W g H c σ))
def noO : Ev' → M (Option Int) := fun _ c => .ok none c
def someO (m : EM) : Ev' → M (Option Int) := fun δ => bnd (m δ) fun d => fun c => match d with
  | .int i => .ok (some i) c
  | _ => .bad
def cutD (xs : List D) (lo hi : Option Int) : List D := (xs.drop (HT.sIx xs.length 0 lo)).take (HT.sIx xs.length xs.length hi - HT.sIx xs.length 0 lo)
/-- a slice of a list (a new one) -/
def slL (d : D) (lo hi : Option Int) (c : Cells) : Option D := match d with
  | .str z => if z.length ≤ sizeLine then some (.str (cutS z lo hi)) else none
  | .tup xs => some (.tup (cutD xs lo hi))
  | d => (rlistOf d c).map fun xs => .lst (cutD xs lo hi)
def slE (m : EM) (ml mh : Ev' → M (Option Int)) : EM := fun δ => bnd (m δ) fun d => bnd (ml δ) fun lo => bnd (mh δ) fun hi => fun c => opt (slL d lo hi c) c
theorem Reps.cut {CE : CEnv} {K : PySem.W.Frag} {g : Gh} {H : Hp} {xs : List D} {vs : List V} {lo hi : Option Int} (r : Reps CE K g H xs vs) : Reps CE K g H (cutD xs lo hi) (cutV vs lo hi) := by
  unfold cutD cutV
  rw [Reps.length r]
  exact Reps.take _ (Reps.drop _ r)
theorem cutD_len {xs : List D} {lo hi : Option Int} : (cutD xs lo hi).length ≤ xs.length := by
  unfold cutD
  rw [List.length_take, List.length_drop]
  omega
theorem cutD_all {xs : List D} {lo hi : Option Int} (h1 : HT.sIx xs.length 0 lo = 0) (h2 : HT.sIx xs.length xs.length hi = xs.length) : cutD xs lo hi = xs := by
  unfold cutD
  rw [h1, h2]
  simp
section
variable {X : Cx} {CE : CEnv} {W : WX} {pos p2 : Pos} {e : Expr} {lo hi : Option Expr} {m : EM} {ml mh : Ev' → M (Option Int)}
theorem pdo_none : PDO X CE W none noO := ⟨fun pins s σ H Q I ⟨g, c, δ, ok, er, h⟩ => po_none.run pins s σ H Q I (h g H (Post.refl ok))⟩
theorem pdo_some (h : PD X CE W e m) : PDO X CE W (some e) (someO m) := ⟨fun pins s σ H Q I ⟨g, c, δ, ok, er, h'⟩ => (po_some h).run pins s σ H Q I (by
  refine use ok er (wpo_bnd.mp h') (fun d c1 h g1 H1 v p1 r1 => ?_) fun _ _ _ z => z
  cases d <;> try exact h.elim
  simp only [Rep] at r1
  exact ⟨_, r1, h g1 H1 p1⟩)⟩
theorem getItem_tuple_whole {prog : Program} {w : World} {A : Around} {E : Value → Shared → Prop} {s : Shared} {t sl : Addr} {items : Array Value} {vl vu : Value} {lo hi : Option Int} {Q : Value → Shared → Prop} (ht : IsTup s.heap t items) (hs : s.heap.IsSliceOf sl vl vu .none) (pl : IsPart vl lo) (pu : IsPart vu hi)
    (h0 : HT.sIx items.size 0 lo = 0) (h1 : HT.sIx items.size items.size hi = items.size) (h : Q (.ref t) s) : wpAny (model prog w) A (getItem (.ref t) (.ref sl)) Q E s := by
  have hTs : s.TypeIs (.ref sl) "slice" := by
    obtain ⟨os, hos, hcs, hds⟩ := id hs
    exact ⟨os, hos, hcs⟩
  unfold getItem
  try with_reducible refine wpAny_holding ?_
  first | refine wpAny_bind (wpAny_pure ?_) | skip
  refine wpAny_bind (wpAny_sequenceKey ht.typeIs (by decide) ?_)
  refine wpAny_bind (wpAny_callSpecial?_slot (name := Str.ofString "__getitem__") ht.typeIs PyProof.Rows.slot_tuple_getitem
    (wpAny_call_entry PyProof.Rows.slot_tuple_getitem ht.typeIs entry_tuple_getitem ?_ (args_tuple_getitem _ _)))
  show wpAny _ _ (Builtin.Tuple.tupleItemsOf (.ref t) >>= _) _ _ s
  refine wpAny_bind (tupleItemsOf_ ht ?_)
  refine wpAny_bind (wpAny_typeOf hTs ?_)
  rw [if_pos (by decide)]
  refine wpAny_bind (HT.sliceApplied_gen hs pl pu ?_)
  have hyes : ((((HT.sIx items.size 0 lo : Nat) : Int) == 0 && (1 : Int) == 1 && (HT.sIx items.size items.size hi - HT.sIx items.size 0 lo) == items.size) = true) := by
    rw [h0, h1]; simp
  show wpAny _ _ (if (((HT.sIx items.size 0 lo : Nat) : Int) == 0 && (1 : Int) == 1 && (HT.sIx items.size items.size hi - HT.sIx items.size 0 lo) == items.size) = true then _ else _) _ _ s
  rw [if_pos hyes]
  unfold Builtin.Tuple.tupleIsExact
  refine wpAny_bind (wpAny_bind (wpAny_typeOf ht.typeIs (wpAny_pure ?_)))
  rw [if_pos (by decide)]
  exact wpAny_bind (wpAny_rule (wpAny_pure ⟨_, rfl, wpAny_pure h⟩))
theorem cut_all_tup : SlR X (fun x lo hi H Q => ∃ a xs, x = .ref a ∧ SqT X.K H a xs ∧ HT.sIx xs.length 0 lo = 0 ∧ HT.sIx xs.length xs.length hi = xs.length ∧ Q (.ref a) H) := by
  intro pins s σ H x v vl vu lo hi sl Q I rx hs pl pu ⟨a, xs, ex, hx, h0, h1, q⟩
  subst ex
  cases rx
  obtain ⟨its, r, ht, hz⟩ := I.tuple hx
  have hlen : its.toArray.size = xs.length := by rw [List.size_toArray]; exact r.length.symm
  exact ⟨"tuple", _, PyProof.Rows.slot_tuple_getitem.lookup, ht.typeIs, getItem_tuple_whole ht hs pl pu (by rw [hlen]; exact h0) (by rw [hlen]; exact h1) ⟨.ref a, H, I, rfl, q⟩⟩
theorem sl_ok : SlR X (fun x lo hi H Q => ∃ g c d z, SOk CE X.K g H c ∧ Rep CE X.K g H d x ∧ slL d lo hi c = some z ∧ ∀ g' H' v, Post CE X.K g H c g' H' c → Rep CE X.K g' H' z v → Q v H') := by
  intro pins s σ H x v vl vu lo hi sl Q I rx hs pl pu ⟨g, c, d, z, ok, r, ez, q⟩
  have gen : (rlistOf d c).map (fun xs => D.lst (cutD xs lo hi)) = some z → rSlL X.K x lo hi H Q := by
    intro ez
    obtain ⟨xs, e1, rfl⟩ := Option.map_eq_some_iff.mp ez
    obtain ⟨a, vs, rfl, h, hz, rr⟩ := rlistOf_at ok r e1
    exact ⟨a, vs, rfl, h, fun p hp => new_lst ok hp (Reps.cut rr) (Nat.le_trans cutD_len hz) q⟩
  cases d <;> try exact sl_list pins s σ H x v vl vu lo hi sl Q I rx hs pl pu (gen ez)
  case str zz =>
    simp only [slL] at ez
    split at ez
    · rename_i hz
      cases ez
      simp only [Rep] at r
      exact sl_str pins s σ H x v vl vu lo hi sl Q I rx hs pl pu ⟨zz, r, hz, q g H _ (Post.refl ok) rep_str⟩
    · cases ez
  case tup xs =>
    simp only [slL, Option.some.injEq] at ez
    subst ez
    simp only [Rep] at r
    obtain ⟨a, vs, rfl, h, hz, rr⟩ := r
    by_cases hh : HT.sIx xs.length 0 lo = 0 ∧ HT.sIx xs.length xs.length hi = xs.length
    · refine cut_all_tup pins s σ H _ v vl vu lo hi sl Q I rx hs pl pu ⟨a, vs, rfl, h, by rw [Reps.length rr]; exact hh.1, by rw [Reps.length rr]; exact hh.2, q g H _ (Post.refl ok) ?_⟩
      rw [cutD_all hh.1 hh.2]
      simp only [Rep]
      exact ⟨a, vs, rfl, h, hz, rr⟩
    · exact sl_tup pins s σ H _ v vl vu lo hi sl Q I rx hs pl pu ⟨a, vs, rfl, h, by rw [Reps.length rr]; exact hh, fun p hp => new_tup ok hp (Reps.cut rr) (Nat.le_trans cutD_len hz) q⟩
theorem pd_slice (he : PD X CE W e m) (hl : PDO X CE W lo ml) (hh : PDO X CE W hi mh) : PD X CE W (.Subscript e (.Slice lo hi none p2) pos) (slE m ml mh) :=
  (pe_slice (sl_ok (CE := CE)) he hl hh).wk fun σ H Q ⟨g, c, δ, ok, er, h⟩ => by
    refine use ok er (wpo_bnd.mp h) (fun d c1 h g1 H1 v p1 r1 => ?_) fun _ _ _ z => z
    refine ⟨g1, c1, δ, p1.ok, er.mono ok p1.ext, wpo_mono (wpo_bnd.mp h) (fun i c2 h g2 H2 p2 => ?_) fun _ _ _ z => EK.back p1 z⟩
    have p12 := p1.trans p2
    refine ⟨g2, c2, δ, p2.ok, er.mono ok p12.ext, wpo_mono (wpo_bnd.mp h) (fun j c3 h g3 H3 p3 => ?_) fun _ _ _ z => EK.back p12 z⟩
    obtain ⟨z, ez, h⟩ := opt_ok h
    exact ⟨g3, c3, d, z, p3.ok, Rep.mono p1.ok (p2.trans p3).ext r1, ez, fun g4 H4 v4 p4 r4 => h g4 H4 v4 ((p12.trans p3).trans p4) r4⟩
end
end DL

namespace DL
open PySem PySem.Spec PyProof.Rows L2

mutual
def KC (K : PySem.W.Frag) : D → Value → Prop
  | .non, u => u = .none
  | .bl b, u => u = .bool b
  | .int i, u => ∃ t, u = .int i t
  | .str x, u => ∃ t, u = .str x t
  | .tup ds, u => ∃ (a : Addr) (o : Obj) (its : List Value) (n : Nat), u = .ref a ∧ K.lookup a = some o ∧ o.cls = .type "tuple" ∧ o.data = .seq its.toArray n ∧ its.length ≤ sizeLine ∧ KCs K ds its
  | .rol ds, u => ∃ (a : Addr) (o : Obj) (its : List Value) (n : Nat), u = .ref a ∧ K.lookup a = some o ∧ o.cls = .type "list" ∧ o.dict = none ∧ o.data = .seq its.toArray n ∧ its.length ≤ sizeLine ∧ KCs K ds its
  | _, _ => False
def KCs (K : PySem.W.Frag) : List D → List Value → Prop
  | [], us => us = []
  | d :: ds, us => ∃ u r, us = u :: r ∧ KC K d u ∧ KCs K ds r
end
theorem KC.rep {CE : CEnv} {K : PySem.W.Frag} : (∀ {d : D} {u : Value}, KC K d u → ∃ v, RelV v u ∧ ∀ g H, Rep CE K g H d v) := by
  have := fun d => D.rec (motive_1 := fun d => ∀ u : Value, KC K d u → ∃ v, RelV v u ∧ ∀ g H, Rep CE K g H d v)
    (motive_2 := fun ds => ∀ us : List Value, KCs K ds us → ∃ vs, Vals vs us ∧ ∀ g H, Reps CE K g H ds vs)
    (fun u h => ⟨.non, by simp only [KC] at h; exact h, fun _ _ => rep_non⟩)
    (fun b u h => ⟨.bl b, by simp only [KC] at h; exact h, fun _ _ => rep_bl⟩)
    (fun i u h => ⟨.int i, by simp only [KC] at h; exact h, fun _ _ => rep_int⟩)
    (fun i u h => ⟨.str i, by simp only [KC] at h; exact h, fun _ _ => rep_str⟩)
    (fun ds ih u h => by
      simp only [KC] at h
      obtain ⟨a, o, its, n, rfl, h1, h2, h3, h4, h5⟩ := h
      obtain ⟨vs, rv, rr⟩ := ih _ h5
      refine ⟨.ref a, rfl, fun g H => ?_⟩
      simp only [Rep]
      exact ⟨a, vs, rfl, .inr ⟨o, its.toArray, n, h1, h2, h3, by simpa using h4, by simpa using rv⟩, by rw [← Reps.length (rr g H), rv.length]; exact h4, rr g H⟩)
    (fun ds ih u h => by simp only [KC] at h)
    (fun C ds ih u h => by simp only [KC] at h)
    (fun k u h => by simp only [KC] at h)
    (fun k u h => by simp only [KC] at h)
    (fun k u h => by simp only [KC] at h)
    (fun ds ih u h => by
      simp only [KC] at h
      obtain ⟨a, o, its, n, rfl, h1, h2, h3, h3', h4, h5⟩ := h
      obtain ⟨vs, rv, rr⟩ := ih _ h5
      refine ⟨.ref a, rfl, fun g H => ?_⟩
      simp only [Rep]
      exact ⟨a, vs, rfl, .inr fun H' => .inr ⟨o, its.toArray, n, h1, h2, h3, h3', by simpa using h4, by simpa using rv⟩, by rw [← Reps.length (rr g H), rv.length]; exact h4, rr g H⟩)
    (fun a dx C ds ih u h => by simp only [KC] at h)
    (fun us h => by
      simp only [KCs] at h
      subst h
      exact ⟨[], .nil, fun _ _ => Reps.nil⟩)
    (fun d ds ih ihs us h => by
      simp only [KCs] at h
      obtain ⟨u, r, rfl, h1, h2⟩ := h
      obtain ⟨v, rv, rr⟩ := ih _ h1
      obtain ⟨vs, rvs, rrs⟩ := ihs _ h2
      exact ⟨v :: vs, .cons rv rvs, fun g H => Reps.cons (rr g H) (rrs g H)⟩) d
  exact fun {d u} h => this d u h
/-- the module's name x holds the constant d -/
def Con (K : PySem.W.Frag) (mg : PySem.Str → Option Value) (x : PySem.Str) (d : D) : Prop := ∃ u, mg x = some u ∧ KC K d u
section
variable {X : Cx} {CE : CEnv} {W : WX} {pos p : Pos} {e o : Expr} {es : List Expr} {m mo : EM} {ms : Ev' → M (List D)} {x : PySem.Str} {d : D}
theorem pd_con (hg : Gl X x) (h : Con X.K X.mg x d) (hd : (x == ("__debug__" : PySem.Str)) = false := by decide) : PD X CE W (.Name x pos) (litE d) := by
  obtain ⟨u, hm, hk⟩ := h
  obtain ⟨v, rv, rr⟩ := KC.rep (CE := CE) hk
  exact pd_c (pe_glob hg hm rv hd) rr
/-- a class or a type as a value -/
theorem pd_clsV {C : Nat} (hg : Gl X x) (h : X.mg x = some (.ref (CE C).1)) (hd : (x == ("__debug__" : PySem.Str)) = false := by decide) : PD X CE W (.Name x pos) (litE (.cls C)) :=
  pd_c (pe_glob (v := .ref (CE C).1) hg h rfl hd) fun _ _ => by simp only [Rep]
theorem pd_tyV {n : String} (hg : Gl X x) (h : X.mg x = none) (hv : bootBuiltins x = some (.type n)) (hn : x ≠ "__name__" := by decide) (hd : (x == ("__debug__" : PySem.Str)) = false := by decide) : PD X CE W (.Name x pos) (litE (.ty n)) :=
  pd_c (pe_bltn (v := .ty n) hg h hv rfl hn hd) fun _ _ => by simp only [Rep]
def starA (m : EM) (ms : Ev' → M (List D)) : Ev' → M (List D) := fun δ => bnd (m δ) fun d => bnd (fun c => opt (seqOf d c) c) fun xs => bnd (ms δ) fun ys => DL.ret (xs ++ ys)
theorem pda_star (he : PD X CE W e m) (hr : PDA X CE W es ms) (hs : starEach (.Starred e p :: es) X.env = (true, eval e X.env) :: starEach es X.env := by rfl) : PDA X CE W (.Starred e p :: es) (starA m ms) :=
  (StX.pa_star he hr hs).wk fun σ H Q ⟨g, c, δ, ok, er, h⟩ => by
    replace h := wpo_bnd.mp h
    refine use ok er h (fun d c1 h g1 H1 v p1 r1 => ?_) fun _ _ _ z => z
    replace h := wpo_bnd.mp h
    obtain ⟨xs, ex, h⟩ := opt_ok h
    obtain ⟨a, vs, rfl, hx, hz, rr⟩ := seqOf_at p1.ok r1 ex
    refine ⟨a, vs, rfl, hx.symm, ?_⟩
    replace h := wpo_bnd.mp h
    refine useA p1.ok (er.mono ok p1.ext) h (fun ds c2 h g2 H2 ws p2 r2 => ?_) fun _ _ _ z => EK.back p1 z
    exact h g2 H2 _ (p1.trans p2) (Reps.append (Reps.mono p1.ok p2.ext rr) r2)
end
def chars (x : PySem.Str) : List D := x.cps.toList.map fun n => .str ⟨#[n]⟩
def listG (ds : List D) (c : Cells) : Option D := match ds with
  | [.str x] => if x.length ≤ sizeLine then some (.lst (chars x)) else none
  | ds => listF ds c
theorem reps_chars {CE : CEnv} {K : PySem.W.Frag} {g : Gh} {H : Hp} : ∀ {l : List Nat}, Reps CE K g H (l.map fun n => .str ⟨#[n]⟩) (l.map fun n => V.str ⟨#[n]⟩)
  | [] => Reps.nil
  | _ :: _ => Reps.cons rep_str reps_chars
section
variable {X : Cx} {CE : CEnv} {W : WX} {pos p : Pos} {e o : Expr} {es : List Expr} {m mo : EM} {ms : Ev' → M (List D)} {x : PySem.Str} {d : D}
theorem cd_listG (hcalm : X.calm = true) : CallR X (.type "list") (rDA CE X.K listG) := by
  intro pins s σ H xs us Q I r ⟨g, c, ds, z, ok, r1, ez, q⟩
  by_cases hs : ∃ x, ds = [.str x]
  · obtain ⟨x, rfl⟩ := hs
    simp only [listG] at ez
    split at ez
    · rename_i hx
      cases ez
      obtain ⟨v, rfl, h1⟩ := reps1 r1
      simp only [Rep] at h1
      subst h1
      cases r with
      | cons rx r =>
        cases r
        obtain ⟨t, rfl⟩ := rx
        have hp : H s.heap.objs.size = none := I.hok.fresh (Nat.le_refl _)
        refine call_list_str (I.ok.hd hcalm) x t (fun h' tk acc' c' hk hS hacc => ?_) (by exact hx)
        have el : acc'.toList.length = acc'.size := by simp
        refine ⟨.ref s.heap.objs.size, upd H s.heap.objs.size (.lst (x.cps.toList.map fun n => V.str ⟨#[n]⟩)), I.laid hk (Nat.le_refl _) (show ObjOk X.prog X.w _ _ _ (.lst _) from ⟨?_, acc'.toList, c', ?_, ?_⟩), rfl, new_lst ok hp reps_chars ?_ q⟩
        · rw [List.length_map, Array.length_toList]; exact hx
        · refine L2.vals_of_at (by rw [List.length_map, el, hacc.1]; simp) fun j y w h1 h2 => ?_
          obtain ⟨cc, k, e1, rfl⟩ := hacc.2 j w (by rw [← Array.getElem?_toList]; exact h2)
          rw [List.getElem?_map, Array.getElem?_toList, e1] at h1
          cases h1
          exact ⟨k, rfl⟩
        · simpa using hS
        · rw [List.length_map, Array.length_toList]; exact hx
    · cases ez
  · have ez' : listF ds c = some z := by
      unfold listG at ez
      split at ez
      · exact absurd ⟨_, rfl⟩ hs
      · exact ez
    exact cd_list pins s σ H xs us Q I r ⟨g, c, ds, z, ok, r1, ez', q⟩
def upF (d : D) (_ : Cells) : Option D := match d with
  | .str a => if a.length ≤ 5592405 then some (.str (Txt.upper a)) else none
  | _ => none
def lowF (d : D) (_ : Cells) : Option D := match d with
  | .str a => if a.length ≤ 5592405 then some (.str (Txt.lower a)) else none
  | _ => none
theorem pd_upper {apos : Pos} (ho : PD X CE W o mo) (hbase : attributeBase o "upper" X.env (eval o X.env) = eval o X.env := by rfl) (hline : (apos.endLine == pos.line) = true := by rfl) :
    PD X CE W (.Call (.Attribute o "upper" apos) [] [] pos) (un1 upF mo) :=
  (pe_upper ho hbase hline).wk fun σ H Q ⟨g, c, δ, ok, er, h⟩ => by
    replace h := wpo_bnd.mp h
    refine use ok er h (fun d c1 h g1 H1 v p1 r1 => ?_) fun _ _ _ z => z
    obtain ⟨z, ez, h⟩ := opt_ok h
    unfold upF at ez
    split at ez
    · split at ez
      · rename_i a ha
        cases ez
        simp only [Rep] at r1
        subst r1
        exact ⟨⟨_, rfl⟩, a, rfl, rfl, ha, h g1 H1 _ p1 rep_str⟩
      · cases ez
    · cases ez
theorem pd_lower {apos : Pos} (ho : PD X CE W o mo) (hbase : attributeBase o "lower" X.env (eval o X.env) = eval o X.env := by rfl) (hline : (apos.endLine == pos.line) = true := by rfl) :
    PD X CE W (.Call (.Attribute o "lower" apos) [] [] pos) (un1 lowF mo) :=
  (pe_lower ho hbase hline).wk fun σ H Q ⟨g, c, δ, ok, er, h⟩ => by
    replace h := wpo_bnd.mp h
    refine use ok er h (fun d c1 h g1 H1 v p1 r1 => ?_) fun _ _ _ z => z
    obtain ⟨z, ez, h⟩ := opt_ok h
    unfold lowF at ez
    split at ez
    · split at ez
      · rename_i a ha
        cases ez
        simp only [Rep] at r1
        subst r1
        exact ⟨⟨_, rfl⟩, a, rfl, rfl, ha, h g1 H1 _ p1 rep_str⟩
      · cases ez
    · cases ez
end
end DL

namespace DL
open PySem PySem.Spec PyProof.Rows L2

theorem huD {A : Around} {k : Nat} (hr : Room k A) : A.units + 64 < cLine := by have := hr.un; omega
theorem huE {A : Around} {k : Nat} (hr : Room k A) : A.units + 65 < cLine := by have := hr.un; omega
/-- what the law is asked, as its caller hears it -/
def spLaw (K : PySem.W.Frag) : Sp := fun vs H Q E => ∃ (a : Addr) (ns : List Int), vs = [.ref a] ∧ ns.length ≤ 63 ∧ Only H ∧ SqL K H a (ns.map V.int) ∧ ∀ H', Q (.bl true) H'
section
variable {P : Program} {w : World} {K : PySem.W.Frag} {mg : PySem.Str → Option Value} {base : Heap} {CE : CEnv}
theorem reps_ints {g : Gh} {H : Hp} : ∀ {ns : List Int}, Reps CE K g H (ns.map D.int) (ns.map V.int)
  | [] => Reps.nil
  | _ :: _ => Reps.cons rep_int reps_ints
theorem law_end {k : Nat} {f : Addr} {fd : FuncData} {ps : List PySem.Str} {m : List D → M D} (F : FnD P w K mg base CE k f fd ps m) (h1 : ps.length = 1)
    (h : ∀ ns : List Int, ns.length ≤ 63 → ∃ c, m [.rol (ns.map D.int)] [] = .ok (.bl true) c) : FnOk P w K mg base (L2.CX P w) k f fd ps (spLaw K) :=
  F.ok.imp fun vs H Q E ⟨a, ns, ev, hl, hO, hS, q⟩ => by
    subst ev
    have rd : (∃ o, H a = some (.frz o (.lst (ns.map V.int)))) ∨ (∀ H', SqL K H' a (ns.map V.int)) := by
      rcases hS with hS | hS
      · rcases hS with hS | ⟨o, hS⟩
        · rcases hO a with e | ⟨o, xs, e⟩
          · rw [e] at hS; cases hS
          · rw [e] at hS; cases hS
        · exact .inl ⟨o, hS⟩
      · exact .inr fun H' => .inr hS
    obtain ⟨c, e⟩ := h ns hl
    have ok : SOk CE K ⟨fun _ => False, []⟩ H [] := ⟨rfl, List.nodup_nil, fun a ⟨k, x, z, _⟩ => by simp at z, fun k a x z => by simp at z, fun a z => z.elim, fun a z => by simp at z⟩
    refine ⟨⟨fun _ => False, []⟩, [], [.rol (ns.map D.int)], ok, ?_, h1.symm, ?_⟩
    · refine Reps.one ?_
      simp only [Rep]
      exact ⟨a, ns.map V.int, rfl, rd, by rw [List.length_map]; exact Nat.le_trans hl (by decide), reps_ints⟩
    · rw [e]
      intro g' H' v p r
      simp only [Rep] at r
      subst r
      exact q H'
end
theorem law_walk {l : PySem.W.OpenLaw} {q : Program} {loose : List PySem.Str} {XP : (PySem.Str → Option Value) → Heap → Prop} {YP : World → Heap → Prop} {d : DefRec} {K : Params → PySem.W.Frag} (k : Nat) (hn : l.most = some 63) (hdf : d.params.defaults = []) (hr : Room k callerA)
    (hY : ∀ (w : World) (h : Heap), YP w h → (K w.params).In h)
    (F : ∀ (w : World) (mg : PySem.Str → Option Value) (fa : Addr) (h : Heap), (K w.params).In h → h.Ns mainGlobals mg → mg d.name = some (.ref fa) →
      ∃ fd : FuncData, (∀ (s : Shared) (u : Value), BindsTo s fd ⟨[u], []⟩ [("script", u)]) ∧ ∀ base : Heap, (K w.params).In base → base.Ns mainGlobals mg → FnOk l.prog w (K w.params) mg base (L2.CX l.prog w) k fa fd ["script"] (spLaw (K w.params))) :
    PySem.W.WalkO q loose XP YP l.row.toRowW d [] (fun f vs => PySem.call f vs) :=
  walk_of (CX := fun w => L2.CX l.prog w) (sp := fun w => spLaw (K w.params)) hn (by decide) hdf hr hY F (fun w H a ns hl hO hS => ⟨a, ns, rfl, hl, hO, hS, fun _ => rfl⟩)
    fun w H s e s' ⟨_, _, _, _, _, _, _, _, _, _, _, _, z⟩ => z
end DL

namespace DL
open PySem PySem.Spec PyProof.Rows L2

def blkB (N : List PySem.Str) (sc scope : Scope) (own : List (PySem.Str × Nat)) : Bool :=
  (scope.kind == .function) && (scope.names.all fun y => scope.names.lookup y.1 == some y.2) && (own.all fun p => N[p.2]? == some p.1) &&
    (scope.names.all fun y => !(y.2 == .free) || (sc.names.lookup y.1 == some .cell || sc.names.lookup y.1 == some .free)) &&
    (scope.names.all fun y => !(y.2 == .local || y.2 == .cell) || ((own.map (·.1)).contains y.1 || !(N.contains y.1)))
theorem blkT {N : List PySem.Str} {sc scope : Scope} {own : List (PySem.Str × Nat)} (h : blkB N sc scope own = true) : BlkOk N sc scope own := by
  unfold blkB at h
  simp only [Bool.and_eq_true, List.all_eq_true, Bool.or_eq_true, Bool.not_eq_true', beq_iff_eq] at h
  obtain ⟨⟨⟨⟨h1, h2⟩, h3⟩, h4⟩, h5⟩ := h
  refine ⟨by simpa using h1, fun y hy => by simpa using h2 y hy, fun p hp => by simpa using h3 p hp, fun y hy e => ?_, fun y hy e => ?_⟩
  · rcases h4 y hy with z | z
    · rw [e] at z; cases z
    · simpa using z
  · rcases h5 y hy with z | z
    · rcases e with e | e <;> (rw [e] at z; simp at z)
    · simpa using z
section
variable {P : Program} {w : World} {K : PySem.W.Frag} {mg : PySem.Str → Option Value} {base : Heap} {CE : CEnv} {k : Nat} {f : Addr}
/-- nothing is promised -/
theorem FnP.non : FnP P w K mg base CE k f (fun _ => stuck) := fun A outer s H us vs Q E hr e0 r ⟨g, c, ds, ok, rr, q⟩ => q.elim
end
section
variable {K : PySem.W.Frag} {mg : PySem.Str → Option Value} {x : PySem.Str} {a : Addr} {o : Obj} {ds : List D}
def KTup (K : PySem.W.Frag) (o : Obj) (ds : List D) : Prop := ∃ (its : List Value) (n : Nat), o.cls = .type "tuple" ∧ o.data = .seq its.toArray n ∧ its.length ≤ sizeLine ∧ KCs K ds its
def KLst (K : PySem.W.Frag) (o : Obj) (ds : List D) : Prop := ∃ (its : List Value) (n : Nat), o.cls = .type "list" ∧ o.dict = none ∧ o.data = .seq its.toArray n ∧ its.length ≤ sizeLine ∧ KCs K ds its
theorem conKTup (h : mg x = some (.ref a)) (l : K.lookup a = some o) (t : KTup K o ds) : Con K mg x (.tup ds) := by
  obtain ⟨its, n, t1, t2, t3, t4⟩ := t
  refine ⟨_, h, ?_⟩
  simp only [KC]
  exact ⟨a, o, its, n, rfl, l, t1, t2, t3, t4⟩
theorem conKLst (h : mg x = some (.ref a)) (l : K.lookup a = some o) (t : KLst K o ds) : Con K mg x (.rol ds) := by
  obtain ⟨its, n, t1, t2, t3, t4, t5⟩ := t
  refine ⟨_, h, ?_⟩
  simp only [KC]
  exact ⟨a, o, its, n, rfl, l, t1, t2, t3, t4, t5⟩
theorem kc_str {z : PySem.Str} {t : Tok} : KC K (.str z) (.str z t) := by simp only [KC]; exact ⟨t, rfl⟩
theorem kc_int {z : Int} {t : Tok} : KC K (.int z) (.int z t) := by simp only [KC]; exact ⟨t, rfl⟩
theorem kc_bl {z : Bool} : KC K (.bl z) (.bool z) := by simp only [KC]
theorem kc_non : KC K .non .none := by simp only [KC]
theorem kcs_nil : KCs K [] [] := by simp only [KCs]
theorem kcs_cons {d : D} {u : Value} {us : List Value} (h : KC K d u) (t : KCs K ds us) : KCs K (d :: ds) (u :: us) := by simp only [KCs]; exact ⟨u, us, rfl, h, t⟩
theorem isOk_nil {CE : CEnv} : IsOk K CE [] := ⟨fun _ h => by simp at h, fun _ h => by simp at h, fun _ h => by simp at h, fun _ h => by simp at h⟩
end
end DL

namespace DL
open PySem PySem.Spec PyProof.Rows L2

def b_start : SM := retS (lstC (consA (callB listG (consA (varE 0) (nilA))) (consA (litE (.int 0)) (consA (litE (.int 0)) (consA (litE (.int 0)) (consA (litE (.int 0)) (consA (litE (.bl false)) (nilA))))))))
def m_start : List D → M D := runD 1 1 b_start
def b_drawA : SM := seqS (setIxS (varE 0) (litE (.int 2)) (callB intF (consA (bin ixP (bin ixP (varE 0) (litE (.int 0))) (bin ixP (varE 0) (litE (.int 1)))) (nilA)))) (seqS (setIxS (varE 0) (litE (.int 1)) (bin addP (bin ixP (varE 0) (litE (.int 1))) (litE (.int 1)))) (seqS (setIxS (varE 0) (litE (.int 3)) (litE (.int 8))) (seqS (setIxS (varE 0) (litE (.int 4)) (litE (.int 0))) (seqS (setIxS (varE 0) (litE (.int 5)) (bin geP (bin ixP (varE 0) (litE (.int 2))) (bin powP (litE (.int 10)) (litE (.int 18))))) (ifS (tstE (bin ixP (varE 0) (litE (.int 5)))) (setIxS (varE 0) (litE (.int 3)) (litE (.int 60))) (nilS))))))
def b_drawB : SM := seqS (setS 4 (bin modP (callB intF (consA (bin ixP (varE 0) (litE (.int 2))) (nilA))) (varE 1))) (seqS (setIxS (varE 0) (litE (.int 2)) (bin fdivP (callB intF (consA (bin ixP (varE 0) (litE (.int 2))) (nilA))) (varE 1))) (seqS (ifS (boolE (bin eqP (bin ixP (varE 0) (litE (.int 2))) (litE (.int 0)))) (setIxS (varE 0) (litE (.int 3)) (litE (.int 0))) (nilS)) (retS (varE 4))))
def b_drawC : SM := seqS (setS 2 (bin ixP (varE 0) (litE (.int 4)))) (seqS (setS 3 (bin modP (callB intF (consA (bin mulP (bin ixP (varE 0) (litE (.int 2))) (litE (.int 48271))) (nilA))) (litE (.int 2147483647)))) (seqS (setS 3 (bin modP (callB intF (consA (bin mulP (varE 3) (bin addP (bin addP (bin mulP (bin mulP (litE (.int 69621)) (varE 2)) (varE 2)) (bin mulP (litE (.int 40014)) (varE 2))) (litE (.int 1)))) (nilA))) (litE (.int 2147483399)))) (retS (bin modP (callB intF (consA (varE 3) (nilA))) (varE 1)))))
def b_draw : SM := seqS (ifS (andT (boolE (bin eqP (bin ixP (varE 0) (litE (.int 3))) (litE (.int 0)))) (boolE (bin ltP (bin ixP (varE 0) (litE (.int 1))) (callB lenP (consA (bin ixP (varE 0) (litE (.int 0))) (nilA)))))) b_drawA (nilS)) (seqS (ifS (orT (boolE (bin eqP (bin ixP (varE 0) (litE (.int 3))) (litE (.int 0)))) (boolE (bin ltP (varE 1) (litE (.int 2))))) (retS (litE (.int 0))) (nilS)) (seqS (setIxS (varE 0) (litE (.int 3)) (bin subP (bin ixP (varE 0) (litE (.int 3))) (litE (.int 1)))) (seqS (setIxS (varE 0) (litE (.int 4)) (bin addP (bin ixP (varE 0) (litE (.int 4))) (litE (.int 1)))) (seqS (ifS (tstE (bin ixP (varE 0) (litE (.int 5)))) b_drawB (nilS)) b_drawC))))
def m_draw : List D → M D := runD 5 2 b_draw

structure Dr where
  ns : List Int
  p : Nat
  v : Int
  l : Int
  s : Int
  b : Bool
def Dr.cell (d : Dr) : Cell := .lst [.lst (d.ns.map .int), .int d.p, .int d.v, .int d.l, .int d.s, .bl d.b]
structure Dr.Ok (d : Dr) : Prop where
  len : d.ns.length ≤ 63
  l : 0 ≤ d.l
  s : 0 ≤ d.s
  ls : d.l + d.s ≤ 60

section
variable {cs : Cells} {xs : List D} {d : D} {δ : Ev'} {i n : Int}
theorem start_eq {ns : List Int} (h : ns.length ≤ 63) {c : Cells} : m_start [.rol (ns.map .int)] c = .ok (.cell c.length) (c ++ [Dr.cell ⟨ns, 0, 0, 0, 0, false⟩]) := by
  simp [m_start, runD, startD, b_start, retS, lstC, bnd, Out.bnd, consA, callB, nilA, varE, opt, listG, listF, seqOf, rlistOf, DL.ret, litE, Out.thenS, Res.out, Dr.cell, sizeLine]
def Dr.next (d : Dr) : Dr := if d.l = 0 ∧ d.p < d.ns.length then ⟨d.ns, d.p + 1, d.ns.getD d.p 0, if d.ns.getD d.p 0 ≥ 10 ^ 18 then 60 else 8, 0, decide (d.ns.getD d.p 0 ≥ 10 ^ 18)⟩ else d
abbrev drE (n : Int) (x y z : Slot) : Ev' := [.sh (.cell 0), .sh (.int n), x, y, z]
theorem drawA_eq {d : Dr} {x y z : Slot} (h0 : d.l = 0) (h : d.p < d.ns.length) : b_drawA (drE n x y z) (d.cell :: cs) = .nx (drE n x y z) (d.next.cell :: cs) := by
  obtain ⟨ns, p, v, l, s, b⟩ := d
  dsimp only at h0 h
  subst h0
  by_cases hb : (1000000000000000000 : Int) ≤ ns[p]
  · have hb' : ¬ ns[p] < (1000000000000000000 : Int) := by omega
    simp [Dr.next, h, hb, hb', b_drawA, Dr.cell, drE, seqS, Res.seq, setIxS, setS, exprS, retS, retN, ifS, nilS, brkS, cntS, callB, callM, intF, boolF, consA, nilA, starA, bin, un1, negP, bnd, Out.bnd, Out.thenS, opt, varE, litE, ixP, seqOf, rlistOf, listOf, L2.atI, L2.ixN, DL.setItem, DL.ret, addP, subP, mulP, modP, fdivP, powP, intP, geP, leP, gtP, ltP, ltB, eqP, neP, eqB, eqS, tstE, truB, boolE, andT, orT, notT, andE, orE, notE, ifE, chainE, tupE, lstE, lstC, isNP, notNP, isNon, lenP, runD, Res.out, startD, itE, itR, seqF, rng1, rng2, forS, tgN, tgT, tgCons, tgNil, slE, slL, noO, someO]
  · have hb' : ns[p] < (1000000000000000000 : Int) := by omega
    simp [Dr.next, h, hb, hb', b_drawA, Dr.cell, drE, seqS, Res.seq, setIxS, setS, exprS, retS, retN, ifS, nilS, brkS, cntS, callB, callM, intF, boolF, consA, nilA, starA, bin, un1, negP, bnd, Out.bnd, Out.thenS, opt, varE, litE, ixP, seqOf, rlistOf, listOf, L2.atI, L2.ixN, DL.setItem, DL.ret, addP, subP, mulP, modP, fdivP, powP, intP, geP, leP, gtP, ltP, ltB, eqP, neP, eqB, eqS, tstE, truB, boolE, andT, orT, notT, andE, orE, notE, ifE, chainE, tupE, lstE, lstC, isNP, notNP, isNon, lenP, runD, Res.out, startD, itE, itR, seqF, rng1, rng2, forS, tgN, tgT, tgCons, tgNil, slE, slL, noO, someO]
theorem Dr.Ok.next {d : Dr} (o : d.Ok) : d.next.Ok := by
  unfold Dr.next
  split
  · refine ⟨o.len, ?_, Int.le_refl _, ?_⟩ <;> (dsimp only; split <;> omega)
  · exact o
/-- the draw -/
theorem draw_ex {d : Dr} (o : d.Ok) (hn : n.natAbs.log2 < 9000) (h1 : 1 ≤ n) : ∃ (v : Int) (e : Dr), e.Ok ∧ 0 ≤ v ∧ v < n ∧ ∀ cs, m_draw [.cell 0, .int n] (d.cell :: cs) = .ok (.int v) (e.cell :: cs) := by
  have o' := o.next
  have step : ∀ cs, m_draw [.cell 0, .int n] (d.cell :: cs) = (seqS (ifS (orT (boolE (bin eqP (bin ixP (varE 0) (litE (.int 3))) (litE (.int 0)))) (boolE (bin ltP (varE 1) (litE (.int 2))))) (retS (litE (.int 0))) (nilS)) (seqS (setIxS (varE 0) (litE (.int 3)) (bin subP (bin ixP (varE 0) (litE (.int 3))) (litE (.int 1)))) (seqS (setIxS (varE 0) (litE (.int 4)) (bin addP (bin ixP (varE 0) (litE (.int 4))) (litE (.int 1)))) (seqS (ifS (tstE (bin ixP (varE 0) (litE (.int 5)))) b_drawB (nilS)) b_drawC))) (drE n .un .un .un) (d.next.cell :: cs)).out := by
    intro cs
    by_cases h0 : d.l = 0 ∧ d.p < d.ns.length
    · have e := drawA_eq (n := n) (cs := cs) (x := .un) (y := .un) (z := .un) h0.1 h0.2
      have t : (andT (boolE (bin eqP (bin ixP (varE 0) (litE (.int 3))) (litE (.int 0)))) (boolE (bin ltP (bin ixP (varE 0) (litE (.int 1))) (callB lenP (consA (bin ixP (varE 0) (litE (.int 0))) (nilA)))))) (drE n .un .un .un) (d.cell :: cs) = .ok true (d.cell :: cs) := by
        obtain ⟨ns, p, v, l, s, b⟩ := d
        obtain ⟨h0, h⟩ := h0
        dsimp only at h0 h
        subst h0
        simp [h, Dr.cell, drE, seqS, Res.seq, setIxS, setS, exprS, retS, retN, ifS, nilS, brkS, cntS, callB, callM, intF, boolF, consA, nilA, starA, bin, un1, negP, bnd, Out.bnd, Out.thenS, opt, varE, litE, ixP, seqOf, rlistOf, listOf, L2.atI, L2.ixN, DL.setItem, DL.ret, addP, subP, mulP, modP, fdivP, powP, intP, geP, leP, gtP, ltP, ltB, eqP, neP, eqB, eqS, tstE, truB, boolE, andT, orT, notT, andE, orE, notE, ifE, chainE, tupE, lstE, lstC, isNP, notNP, isNon, lenP, runD, Res.out, startD, itE, itR, seqF, rng1, rng2, forS, tgN, tgT, tgCons, tgNil, slE, slL, noO, someO]
      unfold m_draw b_draw
      simp only [runD, List.length_cons, List.length_nil, if_true, startD, List.map_cons, List.map_nil, List.replicate, List.cons_append, List.nil_append, ifS, Nat.reduceAdd, Nat.reduceSub, seqS]
      rw [t]
      simp only [Out.thenS, if_true]
      rw [e]
      simp only [Res.seq]
      rfl
    · have en : d.next = d := if_neg h0
      have t : (andT (boolE (bin eqP (bin ixP (varE 0) (litE (.int 3))) (litE (.int 0)))) (boolE (bin ltP (bin ixP (varE 0) (litE (.int 1))) (callB lenP (consA (bin ixP (varE 0) (litE (.int 0))) (nilA)))))) (drE n .un .un .un) (d.cell :: cs) = .ok false (d.cell :: cs) := by
        obtain ⟨ns, p, v, l, s, b⟩ := d
        dsimp only at h0
        by_cases hl : l = 0
        · subst hl
          have h : ¬ p < ns.length := fun h => h0 ⟨rfl, h⟩
          simp [h, Dr.cell, drE, seqS, Res.seq, setIxS, setS, exprS, retS, retN, ifS, nilS, brkS, cntS, callB, callM, intF, boolF, consA, nilA, starA, bin, un1, negP, bnd, Out.bnd, Out.thenS, opt, varE, litE, ixP, seqOf, rlistOf, listOf, L2.atI, L2.ixN, DL.setItem, DL.ret, addP, subP, mulP, modP, fdivP, powP, intP, geP, leP, gtP, ltP, ltB, eqP, neP, eqB, eqS, tstE, truB, boolE, andT, orT, notT, andE, orE, notE, ifE, chainE, tupE, lstE, lstC, isNP, notNP, isNon, lenP, runD, Res.out, startD, itE, itR, seqF, rng1, rng2, forS, tgN, tgT, tgCons, tgNil, slE, slL, noO, someO]
        · simp [hl, Dr.cell, drE, seqS, Res.seq, setIxS, setS, exprS, retS, retN, ifS, nilS, brkS, cntS, callB, callM, intF, boolF, consA, nilA, starA, bin, un1, negP, bnd, Out.bnd, Out.thenS, opt, varE, litE, ixP, seqOf, rlistOf, listOf, L2.atI, L2.ixN, DL.setItem, DL.ret, addP, subP, mulP, modP, fdivP, powP, intP, geP, leP, gtP, ltP, ltB, eqP, neP, eqB, eqS, tstE, truB, boolE, andT, orT, notT, andE, orE, notE, ifE, chainE, tupE, lstE, lstC, isNP, notNP, isNon, lenP, runD, Res.out, startD, itE, itR, seqF, rng1, rng2, forS, tgN, tgT, tgCons, tgNil, slE, slL, noO, someO]
      unfold m_draw b_draw
      simp only [runD, List.length_cons, List.length_nil, if_true, startD, List.map_cons, List.map_nil, List.replicate, List.cons_append, List.nil_append, ifS, Nat.reduceAdd, Nat.reduceSub, seqS]
      rw [t, en]
      simp [Out.thenS, Res.seq, nilS, seqS, ifS]
  generalize d.next = d at step o'
  obtain ⟨ns, p, v, l, s, b⟩ := d
  obtain ⟨o1, o2, o3, o4⟩ := o'
  dsimp only at o1 o2 o3 o4
  by_cases hz : l = 0 ∨ n < 2
  · refine ⟨0, ⟨ns, p, v, l, s, b⟩, ⟨o1, o2, o3, o4⟩, Int.le_refl _, by omega, fun cs => ?_⟩
    rw [step]
    rcases hz with hz | hz
    · subst hz
      simp [Dr.cell, drE, seqS, Res.seq, setIxS, setS, exprS, retS, retN, ifS, nilS, brkS, cntS, callB, callM, intF, boolF, consA, nilA, starA, bin, un1, negP, bnd, Out.bnd, Out.thenS, opt, varE, litE, ixP, seqOf, rlistOf, listOf, L2.atI, L2.ixN, DL.setItem, DL.ret, addP, subP, mulP, modP, fdivP, powP, intP, geP, leP, gtP, ltP, ltB, eqP, neP, eqB, eqS, tstE, truB, boolE, andT, orT, notT, andE, orE, notE, ifE, chainE, tupE, lstE, lstC, isNP, notNP, isNon, lenP, runD, Res.out, startD, itE, itR, seqF, rng1, rng2, forS, tgN, tgT, tgCons, tgNil, slE, slL, noO, someO]
    · by_cases hl : l = 0 <;> simp [hz, hl, Dr.cell, drE, seqS, Res.seq, setIxS, setS, exprS, retS, retN, ifS, nilS, brkS, cntS, callB, callM, intF, boolF, consA, nilA, starA, bin, un1, negP, bnd, Out.bnd, Out.thenS, opt, varE, litE, ixP, seqOf, rlistOf, listOf, L2.atI, L2.ixN, DL.setItem, DL.ret, addP, subP, mulP, modP, fdivP, powP, intP, geP, leP, gtP, ltP, ltB, eqP, neP, eqB, eqS, tstE, truB, boolE, andT, orT, notT, andE, orE, notE, ifE, chainE, tupE, lstE, lstC, isNP, notNP, isNon, lenP, runD, Res.out, startD, itE, itR, seqF, rng1, rng2, forS, tgN, tgT, tgCons, tgNil, slE, slL, noO, someO]
  · have hl : ¬ l = 0 := fun h => hz (.inl h)
    have hn2 : ¬ n < 2 := fun h => hz (.inr h)
    have hn0 : 0 < n := by omega
    cases b with
    | true =>
      refine ⟨v % n, ⟨ns, p, v / n, if v / n = 0 then 0 else l - 1, s + 1, true⟩, ⟨o1, ?_, by dsimp only; omega, ?_⟩, Int.emod_nonneg _ (by omega), Int.emod_lt_of_pos _ hn0, fun cs => ?_⟩
      · dsimp only; split <;> omega
      · dsimp only; split <;> omega
      · rw [step]
        by_cases hq : v / n = 0 <;> simp [hl, hn2, hn0, hn, hq, Dr.cell, drE, b_drawB, seqS, Res.seq, setIxS, setS, exprS, retS, retN, ifS, nilS, brkS, cntS, callB, callM, intF, boolF, consA, nilA, starA, bin, un1, negP, bnd, Out.bnd, Out.thenS, opt, varE, litE, ixP, seqOf, rlistOf, listOf, L2.atI, L2.ixN, DL.setItem, DL.ret, addP, subP, mulP, modP, fdivP, powP, intP, geP, leP, gtP, ltP, ltB, eqP, neP, eqB, eqS, tstE, truB, boolE, andT, orT, notT, andE, orE, notE, ifE, chainE, tupE, lstE, lstC, isNP, notNP, isNon, lenP, runD, Res.out, startD, itE, itR, seqF, rng1, rng2, forS, tgN, tgT, tgCons, tgNil, slE, slL, noO, someO]
    | false =>
      have hs : smallI (69621 : Int) = true := by decide
      refine ⟨_, ⟨ns, p, v, l - 1, s + 1, false⟩, ⟨o1, by dsimp only; omega, by dsimp only; omega, by dsimp only; omega⟩, Int.emod_nonneg ((v * 48271) % 2147483647 * (69621 * (s + 1) * (s + 1) + 40014 * (s + 1) + 1) % 2147483399) (by omega), Int.emod_lt_of_pos _ hn0, fun cs => ?_⟩
      rw [step]
      have h1 : smallI (48271 : Int) = true := by decide
      have h2 : smallI (s + 1) = true := by simp [smallI]; omega
      have h3 : smallI ((v * 48271) % 2147483647) = true := by
        have := Int.emod_nonneg (v * 48271) (b := 2147483647) (by decide)
        have := Int.emod_lt_of_pos (v * 48271) (b := 2147483647) (by decide)
        simp [smallI]; omega
      have h4 : smallI (40014 : Int) = true := by decide
      simp [hl, hn2, hn0, hn, hs, h1, h2, h3, h4, Dr.cell, drE, b_drawC, seqS, Res.seq, setIxS, setS, exprS, retS, retN, ifS, nilS, brkS, cntS, callB, callM, intF, boolF, consA, nilA, starA, bin, un1, negP, bnd, Out.bnd, Out.thenS, opt, varE, litE, ixP, seqOf, rlistOf, listOf, L2.atI, L2.ixN, DL.setItem, DL.ret, addP, subP, mulP, modP, fdivP, powP, intP, geP, leP, gtP, ltP, ltB, eqP, neP, eqB, eqS, tstE, truB, boolE, andT, orT, notT, andE, orE, notE, ifE, chainE, tupE, lstE, lstC, isNP, notNP, isNon, lenP, runD, Res.out, startD, itE, itR, seqF, rng1, rng2, forS, tgN, tgT, tgCons, tgNil, slE, slL, noO, someO]
end
end DL

namespace DL
open PySem PySem.Spec PyProof.Rows L2

theorem forL_inv {tg : D → Ev' → Option Ev'} {b : SM} (I : Nat → Ev' → Cells → Prop) : ∀ {xs : List D} {k : Nat} {δ : Ev'} {c : Cells}, I k δ c →
    (∀ i x δ c, xs[i]? = some x → I (k + i) δ c → ∃ δ1, tg x δ = some δ1 ∧ ∃ δ2 c2, (b δ1 c = .nx δ2 c2 ∨ b δ1 c = .ct δ2 c2) ∧ I (k + i + 1) δ2 c2) →
    ∃ δ' c', forL tg b xs δ c = .nx δ' c' ∧ I (k + xs.length) δ' c'
  | [], k, δ, c, h, _ => ⟨δ, c, rfl, h⟩
  | x :: xs, k, δ, c, h, hs => by
    obtain ⟨δ1, e1, δ2, c2, e2, h2⟩ := hs 0 x δ c rfl h
    obtain ⟨δ', c', e, h'⟩ := forL_inv I (xs := xs) (k := k + 1) h2 fun i y δ c hi hI => by
      have := hs (i + 1) y δ c (by simpa using hi) (by rw [show k + (i + 1) = k + 1 + i by omega]; exact hI)
      rw [show k + (i + 1) + 1 = k + 1 + i + 1 by omega] at this
      exact this
    refine ⟨δ', c', ?_, by rw [List.length_cons, show k + (xs.length + 1) = k + 1 + xs.length by omega]; exact h'⟩
    unfold forL
    rw [e1]
    rcases e2 with e2 | e2 <;> (dsimp only; rw [e2]; exact e)
/-- a loop that changes nothing but its own name and never leaves -/
theorem forL_still {tg : D → Ev' → Option Ev'} {b : SM} {c : Cells} (I : Ev' → Prop) {xs : List D} {δ : Ev'} (h : I δ)
    (hs : ∀ x δ, x ∈ xs → I δ → ∃ δ1, tg x δ = some δ1 ∧ ∃ δ2, (b δ1 c = .nx δ2 c ∨ b δ1 c = .ct δ2 c) ∧ I δ2) : ∃ δ', forL tg b xs δ c = .nx δ' c ∧ I δ' := by
  obtain ⟨δ', c', e, h1, h2⟩ := forL_inv (fun _ δ c' => I δ ∧ c' = c) (k := 0) ⟨h, rfl⟩ fun i x δ c' hi ⟨hI, hc⟩ => by
    subst hc
    obtain ⟨δ1, e1, δ2, e2, h2⟩ := hs x δ (List.mem_of_getElem? hi) hI
    exact ⟨δ1, e1, δ2, _, e2, h2, rfl⟩
  subst h2
  exact ⟨δ', e, h1⟩
theorem lcL_map {tg : D → Ev' → Option Ev'} {tt : TM} {te : EM} {δ : Ev'} {c : Cells} {f : D → D} : ∀ {xs : List D}, (∀ x ∈ xs, ∃ δ1, tg x δ = some δ1 ∧ tt δ1 c = .ok true c ∧ te δ1 c = .ok (f x) c) → lcL tg tt te δ xs c = .ok (xs.map f) c
  | [], _ => rfl
  | x :: xs, h => by
    obtain ⟨δ1, e1, e2, e3⟩ := h x (by simp)
    have ih := lcL_map (tg := tg) (tt := tt) (te := te) (δ := δ) (c := c) (f := f) (xs := xs) fun y hy => h y (by simp [hy])
    unfold lcL
    simp [e1, bnd, Out.bnd, e2, e3, ih, DL.ret]
theorem mem_rangeD {lo : Int} {n : Nat} {x : D} (h : x ∈ rangeD lo n) : ∃ i : Nat, i < n ∧ x = .int (lo + i) := by
  unfold rangeD at h
  obtain ⟨i, hi, rfl⟩ := List.mem_map.mp h
  exact ⟨i, by simpa using hi, rfl⟩

def b_same (isis : List Nat) (self : List D → M D) : SM := seqS (ifS (boolE (bin isNP (varE 1) (litE .non))) (retS (bin isNP (varE 0) (litE .non))) (nilS)) (seqS (ifS (tstE (callB (isiP isis) (consA (varE 1) (consA (litE (.ty "bool")) (nilA))))) (retS (andE (callB (isiP isis) (consA (varE 0) (consA (litE (.ty "bool")) (nilA)))) (bin eqP (varE 0) (varE 1)))) (nilS)) (seqS (ifS (tstE (callB (isiP isis) (consA (varE 1) (consA (litE (.ty "int")) (nilA))))) (retS (andE (callB (isiP isis) (consA (varE 0) (consA (litE (.ty "int")) (nilA)))) (andE (notE (callB (isiP isis) (consA (varE 0) (consA (litE (.ty "bool")) (nilA))))) (bin eqP (varE 0) (varE 1))))) (nilS)) (seqS (ifS (tstE (callB (isiP isis) (consA (varE 1) (consA (litE (.ty "str")) (nilA))))) (retS (andE (callB (isiP isis) (consA (varE 0) (consA (litE (.ty "str")) (nilA)))) (bin eqP (varE 0) (varE 1)))) (nilS)) (seqS (ifS (tstE (callB (isiP isis) (consA (varE 1) (consA (litE (.ty "list")) (nilA))))) (ifS (notT (tstE (callB (isiP isis) (consA (varE 0) (consA (litE (.ty "list")) (nilA)))))) (retS (litE (.bl false))) (nilS)) (ifS (notT (tstE (callB (isiP isis) (consA (varE 0) (consA (litE (.ty "tuple")) (nilA)))))) (retS (litE (.bl false))) (nilS))) (seqS (ifS (boolE (bin neP (callB lenP (consA (varE 0) (nilA))) (callB lenP (consA (varE 1) (nilA))))) (retS (litE (.bl false))) (nilS)) (seqS (forS (itR rng1 (consA (callB lenP (consA (varE 1) (nilA))) nilA)) (tgN 2) (ifS (notT (tstE (callM self (consA (bin ixP (varE 0) (varE 2)) (consA (bin ixP (varE 1) (varE 2)) (nilA)))))) (retS (litE (.bl false))) (nilS))) (retS (litE (.bl true)))))))))
def m_same (isis : List Nat) : Nat → List D → M D
  | 0 => fun _ => stuck
  | n + 1 => runD 3 2 (b_same isis (m_same isis n))
/-- data of scalars, tuples, lists -/
def plainN : Nat → D → Bool
  | 0, _ => false
  | n + 1, d => match d with
    | .non => true
    | .bl _ => true
    | .int _ => true
    | .str _ => true
    | .tup xs => xs.all (plainN n) && decide (xs.length ≤ 1000000)
    | .lst xs => xs.all (plainN n) && decide (xs.length ≤ 1000000)
    | _ => false
theorem kit_b : kitB "bool" "bool" = some true ∧ kitB "int" "bool" = some false ∧ kitB "int" "int" = some true ∧ kitB "str" "bool" = some false ∧ kitB "str" "int" = some false ∧ kitB "str" "str" = some true ∧
    kitB "list" "bool" = some false ∧ kitB "list" "int" = some false ∧ kitB "list" "str" = some false ∧ kitB "list" "list" = some true ∧
    kitB "tuple" "bool" = some false ∧ kitB "tuple" "int" = some false ∧ kitB "tuple" "str" = some false ∧ kitB "tuple" "list" = some false ∧ kitB "tuple" "tuple" = some true := by decide +kernel
theorem same_refl {isis : List Nat} {c : Cells} : ∀ {n : Nat} {e : D}, plainN n e = true → m_same isis n [e, e] c = .ok (.bl true) c
  | 0, _, h => by simp [plainN] at h
  | n + 1, e, h => by
    obtain ⟨k1, k2, k3, k4, k5, k6, k7, k8, k9, k10, k11, k12, k13, k14, k15⟩ := kit_b
    cases e <;> try (simp [plainN] at h; done)
    case non => simp [m_same, b_same, seqS, Res.seq, setIxS, setS, exprS, retS, retN, ifS, nilS, brkS, cntS, callB, callM, intF, boolF, consA, nilA, starA, bin, un1, negP, bnd, Out.bnd, Out.thenS, opt, varE, litE, ixP, seqOf, rlistOf, listOf, L2.atI, L2.ixN, DL.setItem, DL.ret, addP, subP, mulP, modP, fdivP, powP, intP, geP, leP, gtP, ltP, ltB, eqP, neP, eqB, eqS, tstE, truB, boolE, andT, orT, notT, andE, orE, notE, ifE, chainE, tupE, lstE, lstC, isNP, notNP, isNon, lenP, runD, Res.out, startD, itE, itR, seqF, rng1, rng2, forS, tgN, tgT, tgCons, tgNil, slE, slL, noO, someO]
    case bl b => simp [m_same, b_same, seqS, Res.seq, setIxS, setS, exprS, retS, retN, ifS, nilS, brkS, cntS, callB, callM, intF, boolF, consA, nilA, starA, bin, un1, negP, bnd, Out.bnd, Out.thenS, opt, varE, litE, ixP, seqOf, rlistOf, listOf, L2.atI, L2.ixN, DL.setItem, DL.ret, addP, subP, mulP, modP, fdivP, powP, intP, geP, leP, gtP, ltP, ltB, eqP, neP, eqB, eqS, tstE, truB, boolE, andT, orT, notT, andE, orE, notE, ifE, chainE, tupE, lstE, lstC, isNP, notNP, isNon, lenP, runD, Res.out, startD, itE, itR, seqF, rng1, rng2, forS, tgN, tgT, tgCons, tgNil, slE, slL, noO, someO, isiP, isiB, tyN, k1]
    case int i => simp [m_same, b_same, seqS, Res.seq, setIxS, setS, exprS, retS, retN, ifS, nilS, brkS, cntS, callB, callM, intF, boolF, consA, nilA, starA, bin, un1, negP, bnd, Out.bnd, Out.thenS, opt, varE, litE, ixP, seqOf, rlistOf, listOf, L2.atI, L2.ixN, DL.setItem, DL.ret, addP, subP, mulP, modP, fdivP, powP, intP, geP, leP, gtP, ltP, ltB, eqP, neP, eqB, eqS, tstE, truB, boolE, andT, orT, notT, andE, orE, notE, ifE, chainE, tupE, lstE, lstC, isNP, notNP, isNon, lenP, runD, Res.out, startD, itE, itR, seqF, rng1, rng2, forS, tgN, tgT, tgCons, tgNil, slE, slL, noO, someO, isiP, isiB, tyN, k2, k3]
    case str i => simp [m_same, b_same, seqS, Res.seq, setIxS, setS, exprS, retS, retN, ifS, nilS, brkS, cntS, callB, callM, intF, boolF, consA, nilA, starA, bin, un1, negP, bnd, Out.bnd, Out.thenS, opt, varE, litE, ixP, seqOf, rlistOf, listOf, L2.atI, L2.ixN, DL.setItem, DL.ret, addP, subP, mulP, modP, fdivP, powP, intP, geP, leP, gtP, ltP, ltB, eqP, neP, eqB, eqS, tstE, truB, boolE, andT, orT, notT, andE, orE, notE, ifE, chainE, tupE, lstE, lstC, isNP, notNP, isNon, lenP, runD, Res.out, startD, itE, itR, seqF, rng1, rng2, forS, tgN, tgT, tgCons, tgNil, slE, slL, noO, someO, isiP, isiB, tyN, k4, k5, k6]
    case tup xs =>
      simp only [plainN, Bool.and_eq_true, List.all_eq_true, decide_eq_true_eq] at h
      obtain ⟨h1, h2⟩ := h
      have hl : -(2 ^ 62) ≤ (xs.length : Int) ∧ (xs.length : Int) ≤ 16777216 := by omega
      obtain ⟨δ', e, _⟩ := forL_still (tg := tgN 2) (b := ifS (notT (tstE (callM (m_same isis n) (consA (bin ixP (varE 0) (varE 2)) (consA (bin ixP (varE 1) (varE 2)) (nilA)))))) (retS (litE (.bl false))) (nilS)) (c := c)
        (fun δ => ∃ z, δ = [.sh (.tup xs), .sh (.tup xs), z]) (xs := rangeD 0 xs.length) (δ := [.sh (.tup xs), .sh (.tup xs), .un]) ⟨_, rfl⟩ fun x δ hx ⟨z, hz⟩ => by
          subst hz
          obtain ⟨i, hi, rfl⟩ := mem_rangeD hx
          have := same_refl (isis := isis) (c := c) (h1 xs[i] (List.getElem_mem hi))
          refine ⟨_, rfl, _, .inl ?_, ⟨.sh (.int (0 + i)), rfl⟩⟩
          simp [seqS, Res.seq, setIxS, setS, exprS, retS, retN, ifS, nilS, brkS, cntS, callB, callM, intF, boolF, consA, nilA, starA, bin, un1, negP, bnd, Out.bnd, Out.thenS, opt, varE, litE, ixP, seqOf, rlistOf, listOf, L2.atI, L2.ixN, DL.setItem, DL.ret, addP, subP, mulP, modP, fdivP, powP, intP, geP, leP, gtP, ltP, ltB, eqP, neP, eqB, eqS, tstE, truB, boolE, andT, orT, notT, andE, orE, notE, ifE, chainE, tupE, lstE, lstC, isNP, notNP, isNon, lenP, runD, Res.out, startD, itE, itR, seqF, rng1, rng2, forS, tgN, tgT, tgCons, tgNil, slE, slL, noO, someO, hi, this]
      simp [m_same, b_same, seqS, Res.seq, setIxS, setS, exprS, retS, retN, ifS, nilS, brkS, cntS, callB, callM, intF, boolF, consA, nilA, starA, bin, un1, negP, bnd, Out.bnd, Out.thenS, opt, varE, litE, ixP, seqOf, rlistOf, listOf, L2.atI, L2.ixN, DL.setItem, DL.ret, addP, subP, mulP, modP, fdivP, powP, intP, geP, leP, gtP, ltP, ltB, eqP, neP, eqB, eqS, tstE, truB, boolE, andT, orT, notT, andE, orE, notE, ifE, chainE, tupE, lstE, lstC, isNP, notNP, isNon, lenP, runD, Res.out, startD, itE, itR, seqF, rng1, rng2, forS, tgN, tgT, tgCons, tgNil, slE, slL, noO, someO, isiP, isiB, tyN, k11, k12, k13, k14, k15, hl, e]
    case lst xs =>
      simp only [plainN, Bool.and_eq_true, List.all_eq_true, decide_eq_true_eq] at h
      obtain ⟨h1, h2⟩ := h
      have hl : -(2 ^ 62) ≤ (xs.length : Int) ∧ (xs.length : Int) ≤ 16777216 := by omega
      obtain ⟨δ', e, _⟩ := forL_still (tg := tgN 2) (b := ifS (notT (tstE (callM (m_same isis n) (consA (bin ixP (varE 0) (varE 2)) (consA (bin ixP (varE 1) (varE 2)) (nilA)))))) (retS (litE (.bl false))) (nilS)) (c := c)
        (fun δ => ∃ z, δ = [.sh (.lst xs), .sh (.lst xs), z]) (xs := rangeD 0 xs.length) (δ := [.sh (.lst xs), .sh (.lst xs), .un]) ⟨_, rfl⟩ fun x δ hx ⟨z, hz⟩ => by
          subst hz
          obtain ⟨i, hi, rfl⟩ := mem_rangeD hx
          have := same_refl (isis := isis) (c := c) (h1 xs[i] (List.getElem_mem hi))
          refine ⟨_, rfl, _, .inl ?_, ⟨.sh (.int (0 + i)), rfl⟩⟩
          simp [seqS, Res.seq, setIxS, setS, exprS, retS, retN, ifS, nilS, brkS, cntS, callB, callM, intF, boolF, consA, nilA, starA, bin, un1, negP, bnd, Out.bnd, Out.thenS, opt, varE, litE, ixP, seqOf, rlistOf, listOf, L2.atI, L2.ixN, DL.setItem, DL.ret, addP, subP, mulP, modP, fdivP, powP, intP, geP, leP, gtP, ltP, ltB, eqP, neP, eqB, eqS, tstE, truB, boolE, andT, orT, notT, andE, orE, notE, ifE, chainE, tupE, lstE, lstC, isNP, notNP, isNon, lenP, runD, Res.out, startD, itE, itR, seqF, rng1, rng2, forS, tgN, tgT, tgCons, tgNil, slE, slL, noO, someO, hi, this]
      simp [m_same, b_same, seqS, Res.seq, setIxS, setS, exprS, retS, retN, ifS, nilS, brkS, cntS, callB, callM, intF, boolF, consA, nilA, starA, bin, un1, negP, bnd, Out.bnd, Out.thenS, opt, varE, litE, ixP, seqOf, rlistOf, listOf, L2.atI, L2.ixN, DL.setItem, DL.ret, addP, subP, mulP, modP, fdivP, powP, intP, geP, leP, gtP, ltP, ltB, eqP, neP, eqB, eqS, tstE, truB, boolE, andT, orT, notT, andE, orE, notE, ifE, chainE, tupE, lstE, lstC, isNP, notNP, isNon, lenP, runD, Res.out, startD, itE, itR, seqF, rng1, rng2, forS, tgN, tgT, tgCons, tgNil, slE, slL, noO, someO, isiP, isiB, tyN, k7, k8, k9, k10, hl, e]
end DL

namespace DL
open PySem PySem.Spec PyProof.Rows L2

section
variable {a b : SM} {t : TM} {m : EM} {δ δ' : Ev'} {c c' : Cells} {d : D} {C : Nat} {xs : List D} {r : Res}
theorem seq_nx (h : a δ c = .nx δ' c') : seqS a b δ c = b δ' c' := by simp [seqS, Res.seq, h]
theorem seq_rt (h : a δ c = .rt d c') : seqS a b δ c = .rt d c' := by simp [seqS, Res.seq, h]
theorem seq_exc (h : a δ c = .exc C xs δ' c') : seqS a b δ c = .exc C xs δ' c' := by simp [seqS, Res.seq, h]
theorem if_t (h : t δ c = .ok true c') : ifS t a b δ c = a δ c' := by simp [ifS, Out.thenS, h]
theorem if_f (h : t δ c = .ok false c') : ifS t a b δ c = b δ c' := by simp [ifS, Out.thenS, h]
theorem set_ok {i : Nat} (h : m δ c = .ok d c') : setS i m δ c = .nx (δ.set i (.sh d)) c' := by simp [setS, Out.thenS, h]
theorem ret_ok (h : m δ c = .ok d c') : retS m δ c = .rt d c' := by simp [retS, Out.thenS, h]
theorem run_rt {n k : Nat} {ds : List D} (hl : ds.length = k) (h : a (startD n ds) c = .rt d c') : runD n k a ds c = .ok d c' := by simp [runD, hl, h, Res.out]
theorem run_exc {n k : Nat} {ds : List D} (hl : ds.length = k) (h : a (startD n ds) c = .exc C xs δ' c') : runD n k a ds c = .exc C xs c' := by simp [runD, hl, h, Res.out]
theorem for_nx {mi : Ev' → M (List D)} {tg : D → Ev' → Option Ev'} (hi : mi δ c = .ok xs c') (h : forL tg b xs δ c' = r) : forS mi tg b δ c = r := by simp [forS, Out.thenS, hi, h]
theorem call_ok {m : List D → M D} {ms : Ev' → M (List D)} {c'' : Cells} (h1 : ms δ c = .ok xs c') (h2 : m xs c' = .ok d c'') : callM m ms δ c = .ok d c'' := by simp [callM, bnd, Out.bnd, h1, h2]
end
end DL

namespace DL
open PySem PySem.Spec PyProof.Rows L2

def badE : EM := fun _ => stuck
def badS : SM := fun _ _ => .bad
def badT : TM := fun _ => stuck
section
variable {X : Cx} {CE : CEnv} {W : WX} {e : Expr} {st : Stmt}
theorem pd_bad : PD X CE W e badE := ⟨fun pins s σ H Q I ⟨g, c, δ, ok, er, h⟩ => h.elim⟩
theorem sd_bad : SD X CE W st badS := ⟨fun pins s σ H D I ⟨g, c, δ, ok, er, h⟩ => h.elim⟩
end
def ownM (C : Nat) (m : List D → M D) (ma mb : EM) : EM := fun δ => bnd (ma δ) fun x => bnd (mb δ) fun y => fun c => match insOf x c, insOf y c with
  | some (C1, _), some (C2, _) => if C1 = C ∧ C2 = C then m [x, y] c else .bad
  | _, _ => .bad
section
variable {X : Cx} {CE : CEnv} {W : WX} {C k : Nat} {f : Addr} {mn : PySem.Str} {pos : Pos} {a b : Expr} {m : List D → M D} {ma mb : EM}
/-- both sides evaluated, the callee at hand -/
def tOwn (CE : CEnv) (X : Cx) (W : WX) (C : Nat) (m : List D → M D) (ma mb : EM) : TE := fun σ H Q => tD CE X.K W ma σ H fun x H1 => tD CE X.K W mb σ H1 fun y H2 =>
  ∃ p q dp dq fs gs, x = .ref p ∧ y = .ref q ∧ H2 p = some (.ins (CE C).1 dp fs) ∧ H2 q = some (.ins (CE C).1 dq gs) ∧ spP CE X.K m [x, y] H2 Q (WE W σ)
theorem useOwn {σ : L2.St} {H : Hp} {Q : VK} {g : Gh} {c : Cells} {δ : Ev'} (ok : SOk CE X.K g H c) (er : EnvR CE X.K g H σ δ)
    (h : wpo (ownM C m ma mb δ c) (fun d c' => ∀ g' H' v, Post CE X.K g H c g' H' c' → Rep CE X.K g' H' d v → Q v H') (EK CE X.K W g H c σ)) : tOwn CE X W C m ma mb σ H Q := by
  refine use ok er (wpo_bnd.mp h) (fun d c1 hh g1 H1 v p1 r1 => ?_) fun _ _ _ z => z
  refine use p1.ok (er.mono ok p1.ext) (wpo_bnd.mp hh) (fun e c2 h2 g2 H2 u p2 r2 => ?_) fun _ _ _ z => EK.back p1 z
  have r1' := Rep.mono p1.ok p2.ext r1
  cases e1 : insOf d c2 with
  | none => rw [e1] at h2; exact h2.elim
  | some q1 =>
    cases e2 : insOf e c2 with
    | none => rw [e1, e2] at h2; exact h2.elim
    | some q2 =>
      obtain ⟨C1, xs⟩ := q1
      obtain ⟨C2, ys⟩ := q2
      rw [e1, e2] at h2
      dsimp only at h2
      split at h2
      · rename_i hC
        obtain ⟨rfl, rfl⟩ := hC
        obtain ⟨p, dp, vs, rfl, k1, _, _⟩ := insOf_at p2.ok r1' e1
        obtain ⟨q, dq, us, rfl, k2, _, _⟩ := insOf_at p2.ok r2 e2
        exact ⟨p, q, dp, dq, _, _, rfl, rfl, k1, k2, spP_of (p1.trans p2) (Reps.cons r1' (Reps.one r2)) h2⟩
      · exact h2.elim
theorem own_back {σ : L2.St} {pins : List (Addr × Obj)} {Q : VK} {s : Shared} {v : Value} (h : EP X pins σ Q v s) : PySem.W.CmpBack (EP X pins σ Q) v s := by
  obtain ⟨x, H, I, r, q⟩ := id h
  cases v <;> first
    | exact h
    | (cases x <;> simp [L2.RelV] at r)
theorem own_cmp {op : CmpOp} {σ : L2.St} {pins : List (Addr × Obj)} {Q : VK} {s : Shared} {H : Hp} {p q dp dq : Addr} {fs gs : List (PySem.Str × V)} (hname : (cmpInfo op).2.1 = mn) (hc : ∀ v u, compareOp op v u = richCompare op v u) (T : Meth X.K (CE C).1 mn f) (F : FnP X.prog X.w X.K X.mg X.base CE k f m) (hr : Room k X.A) (pw : PassW X W) (I : Inv X pins σ H s)
    (h1 : H p = some (.ins (CE C).1 dp fs)) (h2 : H q = some (.ins (CE C).1 dq gs)) (h : spP CE X.K m [.ref p, .ref q] H Q (WE W σ)) : wpAny (model X.prog X.w) X.A (compareOp op (.ref p) (.ref q)) (EP X pins σ Q) X.xe s := by
  obtain ⟨mA, J, _⟩ := ins_get I.hok h1
  obtain ⟨mB, J', _⟩ := ins_get I.hok h2
  obtain ⟨od, J, _⟩ := J.look
  obtain ⟨od', J', _⟩ := J'.look
  obtain ⟨m', hF⟩ := I.fr
  rw [hc]
  refine PySem.W.cmp_K (op := op) (tb := .ref (CE C).1) (by have := hr.un; omega) hF I.ok.mod.kin J J'.type (by simp [PySem.W.notFirst]) (by rw [hname]; exact T.at_) T.fn ?_
  exact wpAny_mono (run_P (vs := [.ref p, .ref q]) (us := [.ref p, .ref q]) F hr (pw σ) I (.cons rfl (.cons rfl .nil)) h) (fun v s' z => own_back z) fun _ _ z => z
/-- a < b with the text's own method -/
theorem pd_cmpOwn {op : CmpOp} (hname : (cmpInfo op).2.1 = mn) (hc : ∀ v u, compareOp op v u = richCompare op v u) (T : Meth X.K (CE C).1 mn f) (F : FnP X.prog X.w X.K X.mg X.base CE k f m) (hr : Room k X.A) (pw : PassW X W) (ha : PD X CE W a ma) (hb : PD X CE W b mb) (hm : behindInMarks op b = false) :
    PD X CE W (.Compare a [op] [b] pos) (ownM C m ma mb) := by
  have c : PC X op a b (tOwn CE X W C m ma mb) := ⟨fun pins s σ H Q I h => by
    refine thn (PE.run ha pins s σ H _ I h) fun v s1 ⟨x, H1, I1, rx, h1⟩ => ?_
    refine thn (PE.run hb pins s1 σ H1 _ I1 h1) fun u s2 ⟨y, H2, I2, ry, p, q, dp, dq, fs, gs, ex, ey, e1, e2, hs⟩ => ?_
    subst ex; subst ey
    obtain rfl : v = Value.ref p := rx
    obtain rfl : u = Value.ref q := ry
    exact own_cmp hname hc T F hr pw I2 e1 e2 hs⟩
  exact (pe_cmp c hm).wk fun σ H Q ⟨g, c, δ, ok, er, h⟩ => useOwn ok er h
theorem pt_cmpOwn {op : CmpOp} (hname : (cmpInfo op).2.1 = mn) (hc : ∀ v u, compareOp op v u = richCompare op v u) (T : Meth X.K (CE C).1 mn f) (F : FnP X.prog X.w X.K X.mg X.base CE k f m) (hr : Room k X.A) (pw : PassW X W) (ha : PD X CE W a ma) (hb : PD X CE W b mb) (hm : behindInMarks op b = false) :
    PDT X CE W (.Compare a [op] [b] pos) (boolE (ownM C m ma mb)) := by
  have c : PC X op a b (tOwn CE X W C m ma mb) := ⟨fun pins s σ H Q I h => by
    refine thn (PE.run ha pins s σ H _ I h) fun v s1 ⟨x, H1, I1, rx, h1⟩ => ?_
    refine thn (PE.run hb pins s1 σ H1 _ I1 h1) fun u s2 ⟨y, H2, I2, ry, p, q, dp, dq, fs, gs, ex, ey, e1, e2, hs⟩ => ?_
    subst ex; subst ey
    obtain rfl : v = Value.ref p := rx
    obtain rfl : u = Value.ref q := ry
    exact own_cmp hname hc T F hr pw I2 e1 e2 hs⟩
  exact (L2.pt_cmp c hm).wk fun σ H Q ⟨g, c, δ, ok, er, h⟩ => useBool (fun Q ⟨g, c, δ, ok, er, h⟩ => useOwn ok er h) ok er h
/-- a + b with the text's own method -/
theorem pd_binOwn {op : Operator} (hname : PySem.dunder op.info.2 = mn) (hsf : PySem.W.selfFirst X.K (CE C).1 = true) (T : Meth X.K (CE C).1 mn f) (F : FnP X.prog X.w X.K X.mg X.base CE k f m) (hr : Room k X.A) (pw : PassW X W) (ha : PD X CE W a ma) (hb : PD X CE W b mb) :
    PD X CE W (.BinOp a op b pos) (ownM C m ma mb) := by
  have c : PE X (.BinOp a op b pos) (tOwn CE X W C m ma mb) := ⟨fun pins s σ H Q I h => by
    refine wpAny_BinOp ?_
    refine thn (PE.run ha pins s σ H _ I h) fun v s1 ⟨x, H1, I1, rx, h1⟩ => ?_
    refine thn (PE.run hb pins s1 σ H1 _ I1 h1) fun u s2 ⟨y, H2, I2, ry, p, q, dp, dq, fs, gs, ex, ey, e1, e2, hs⟩ => ?_
    subst ex; subst ey
    obtain rfl : v = Value.ref p := rx
    obtain rfl : u = Value.ref q := ry
    obtain ⟨mA, J, _⟩ := ins_get I2.hok e1
    obtain ⟨mB, J', _⟩ := ins_get I2.hok e2
    obtain ⟨od, J, _⟩ := J.look
    obtain ⟨od', J', _⟩ := J'.look
    obtain ⟨m', hF⟩ := I2.fr
    refine PySem.W.binop_K hF I2.ok.mod.kin J J'.type hsf (by rw [hname]; exact T.at_) T.fn ?_
    exact wpAny_mono (run_P (vs := [.ref p, .ref q]) (us := [.ref p, .ref q]) F hr (pw σ) I2 (.cons rfl (.cons rfl .nil)) hs) (fun v s' z => own_back z) fun _ _ z => z⟩
  exact c.wk fun σ H Q ⟨g, c, δ, ok, er, h⟩ => useOwn ok er h
end
open Classical in
noncomputable def mI (n k C : Nat) (b : SM) : List D → M (List D) := fun ds c => if ∀ a, runI n k C b a ds c = runI n k C b 0 ds c then runI n k C b 0 ds c else .bad
theorem mI_is {n k C : Nat} {b : SM} : ∀ a ds c, mI n k C b ds c = .bad ∨ mI n k C b ds c = runI n k C b a ds c := fun a ds c => by
  unfold mI
  by_cases h : ∀ a, runI n k C b a ds c = runI n k C b 0 ds c
  · rw [if_pos h]; exact .inr (h a).symm
  · rw [if_neg h]; exact .inl rfl
theorem mI_eq {n k C : Nat} {b : SM} {ds : List D} {c : Cells} {r : Out (List D)} (h : ∀ a, runI n k C b a ds c = r) : mI n k C b ds c = r := by
  unfold mI
  rw [if_pos fun a => (h a).trans (h 0).symm]
  exact h 0
theorem all_nil {α : Type} {p : α → Prop} : ∀ x ∈ ([] : List α), p x := fun _ h => by cases h
theorem all_cons {α : Type} {p : α → Prop} {a : α} {l : List α} (h : p a) (t : ∀ x ∈ l, p x) : ∀ x ∈ a :: l, p x := fun x hx => by
  rcases List.mem_cons.mp hx with rfl | hx
  · exact h
  · exact t x hx
section
variable {K : PySem.W.Frag} {C D' : Addr} {T : String} {b : Bool}
theorem kit_rt (h : PySem.W.subIn K (.ref C) (.type T) = some b) (m : PySem.W.kitMeta T = true) : PySem.W.kitOne K (.ref C) (.type T) = some b := by
  unfold PySem.W.kitOne
  rw [if_neg (by simp)]
  exact (if_pos m).trans h
theorem kit_tr (hd : PySem.W.hasDictIn K C = true) (ht : PySem.W.typeIn K (.ref C) = some (.type "type")) (h : PySem.W.subIn K (.type T) (.ref C) = some b) : PySem.W.kitOne K (.type T) (.ref C) = some b := by
  obtain ⟨cd, hc, _⟩ := PySem.W.any_some hd
  unfold PySem.W.kitOne
  rw [if_neg (by simp)]
  show (if ((PySem.W.clsIn K C).isSome && PySem.W.typeIn K (.ref C) == some (.type "type")) = true then PySem.W.subIn K (.type T) (.ref C) else none) = some b
  rw [hc, ht]
  exact (if_pos (by simp)).trans h
theorem kit_self : PySem.W.kitOne K (.ref C) (.ref C) = some true := by
  unfold PySem.W.kitOne
  exact if_pos (by simp)
theorem kit_rr (ne : C ≠ D') (hd : PySem.W.hasDictIn K D' = true) (ht : PySem.W.typeIn K (.ref D') = some (.type "type")) (h : PySem.W.subIn K (.ref C) (.ref D') = some b) : PySem.W.kitOne K (.ref C) (.ref D') = some b := by
  obtain ⟨cd, hc, _⟩ := PySem.W.any_some hd
  unfold PySem.W.kitOne
  rw [if_neg (by simpa using ne)]
  show (if ((PySem.W.clsIn K D').isSome && PySem.W.typeIn K (.ref D') == some (.type "type")) = true then PySem.W.subIn K (.ref C) (.ref D') else none) = some b
  rw [hc, ht]
  exact (if_pos (by simp)).trans h
end
end DL

namespace DL
open PySem PySem.Spec PyProof.Rows L2

theorem forL_fold {α σ : Type} {tg : D → Ev' → Option Ev'} {b : SM} {c : Cells} {enc : α → D} {mk : σ → Slot → Ev'} {step : σ → α → σ} {P : σ → Prop} :
    ∀ {xs : List α} {s : σ} {z : Slot}, P s → (∀ s z x, x ∈ xs → P s → ∃ z' δ1, tg (enc x) (mk s z) = some δ1 ∧ (b δ1 c = .nx (mk (step s x) z') c ∨ b δ1 c = .ct (mk (step s x) z') c) ∧ P (step s x)) →
    ∃ z', forL tg b (xs.map enc) (mk s z) c = .nx (mk (xs.foldl step s) z') c ∧ P (xs.foldl step s)
  | [], s, z, h, _ => ⟨z, rfl, h⟩
  | x :: xs, s, z, h, hs => by
    obtain ⟨z1, δ1, e1, e2, h1⟩ := hs s z x (by simp) h
    obtain ⟨z', e, h'⟩ := forL_fold (xs := xs) (s := step s x) (z := z1) h1 fun s z y hy => hs s z y (by simp [hy])
    refine ⟨z', ?_, h'⟩
    simp only [List.map_cons, forL, e1]
    rcases e2 with e2 | e2 <;> (rw [e2]; exact e)
section
variable {a a' b : SM} {t : TM} {δ : Ev'} {c c' c'' : Cells} {d : D} {xs : List D}
theorem seq_if_f (h : t δ c = .ok false c') : seqS (ifS t a nilS) b δ c = b δ c' := by simp [seqS, Res.seq, ifS, Out.thenS, h, nilS]
theorem seq_if_rt (h : t δ c = .ok true c') (h2 : a δ c' = .rt d c'') : seqS (ifS t a a') b δ c = .rt d c'' := by simp [seqS, Res.seq, ifS, Out.thenS, h, h2]
theorem cut_from (n : Nat) {i : Int} (hi : i = n) : DL.cutD xs (some i) none = xs.drop n := by
  subst hi
  unfold DL.cutD
  rw [HT.sIx_nat, HT.sIx_none]
  by_cases h : n ≤ xs.length
  · rw [Nat.min_eq_left h]
    exact List.take_of_length_le (by simp)
  · rw [Nat.min_eq_right (by omega), Nat.sub_self, List.take_zero]
    exact (List.drop_eq_nil_of_le (by omega)).symm
theorem cut_to (n : Nat) {i : Int} (hi : i = n) : DL.cutD xs none (some i) = xs.take n := by
  subst hi
  unfold DL.cutD
  rw [HT.sIx_nat, HT.sIx_none, List.drop_zero, Nat.sub_zero]
  by_cases h : n ≤ xs.length
  · rw [Nat.min_eq_left h]
  · rw [Nat.min_eq_right (by omega), List.take_of_length_le (by omega), List.take_of_length_le (by omega)]
end
section
variable {a b : TM} {m ma mb : EM} {δ : Ev'} {c c' c'' : Cells} {k : Bool} {d x y z : D} {r : Out Bool}
theorem or_t (h : a δ c = .ok true c') : orT a b δ c = .ok true c' := by simp [orT, bnd, Out.bnd, h, DL.ret]
theorem or_f (h : a δ c = .ok false c') : orT a b δ c = b δ c' := by simp [orT, bnd, Out.bnd, h]
theorem and_t (h : a δ c = .ok true c') : andT a b δ c = b δ c' := by simp [andT, bnd, Out.bnd, h]
theorem and_f (h : a δ c = .ok false c') : andT a b δ c = .ok false c' := by simp [andT, bnd, Out.bnd, h, DL.ret]
theorem not_ok (h : a δ c = .ok k c') : notT a δ c = .ok (!k) c' := by simp [notT, bnd, Out.bnd, h, DL.ret]
theorem bool_ok (h : m δ c = .ok (.bl k) c') : boolE m δ c = .ok k c' := by simp [boolE, bnd, Out.bnd, h]
theorem tst_bl (h : m δ c = .ok (.bl k) c') : tstE m δ c = .ok k c' := by simp [tstE, bnd, Out.bnd, h, truB, opt]
theorem bin_ok {r : D → D → Cells → Option D} (h1 : ma δ c = .ok x c') (h2 : mb δ c' = .ok y c'') (h3 : r x y c'' = some z) : bin r ma mb δ c = .ok z c'' := by simp [bin, bnd, Out.bnd, h1, h2, h3, opt]
theorem own_ok {C : Nat} {f : List D → M D} {xs ys : List D} {o : Out D} (h1 : ma δ c = .ok x c') (h2 : mb δ c' = .ok y c'') (h3 : insOf x c'' = some (C, xs)) (h4 : insOf y c'' = some (C, ys)) (h5 : f [x, y] c'' = o) : ownM C f ma mb δ c = o := by simp [ownM, bnd, Out.bnd, h1, h2, h3, h4, h5]
end
theorem lcL_st {S : Type} (cell : S → Cells) {Pn : S → Prop} {Q : D → Prop} {tg : D → Ev' → Option Ev'} {tt : TM} {te : EM} {δ : Ev'}
    (h : ∀ x s, Pn s → ∃ δ1 y s', tg x δ = some δ1 ∧ tt δ1 (cell s) = .ok true (cell s) ∧ te δ1 (cell s) = .ok y (cell s') ∧ Pn s' ∧ Q y) :
    ∀ (xs : List D) (s : S), Pn s → ∃ ys s', lcL tg tt te δ xs (cell s) = .ok ys (cell s') ∧ Pn s' ∧ ys.length = xs.length ∧ ∀ y ∈ ys, Q y
  | [], s, hs => ⟨[], s, rfl, hs, rfl, fun _ h => by cases h⟩
  | x :: xs, s, hs => by
    obtain ⟨δ1, y, s1, e1, e2, e3, h1, hq⟩ := h x s hs
    obtain ⟨ys, s', e, h', hl, ha⟩ := lcL_st cell h xs s1 h1
    refine ⟨y :: ys, s', ?_, h', by simp [hl], fun z hz => ?_⟩
    · unfold lcL
      simp [e1, bnd, Out.bnd, e2, e3, e, DL.ret]
    · rcases List.mem_cons.mp hz with rfl | hz
      · exact hq
      · exact ha z hz
theorem map_of {α : Type} {enc : α → D} {P : α → Prop} : ∀ {ys : List D}, (∀ y ∈ ys, ∃ a, P a ∧ y = enc a) → ∃ xs : List α, ys = xs.map enc ∧ xs.length = ys.length ∧ ∀ x ∈ xs, P x
  | [], _ => ⟨[], rfl, rfl, fun _ h => by cases h⟩
  | y :: ys, h => by
    obtain ⟨a, ha, rfl⟩ := h y (by simp)
    obtain ⟨xs, rfl, hl, hx⟩ := map_of (ys := ys) fun z hz => h z (by simp [hz])
    refine ⟨a :: xs, rfl, by simp, fun x hx' => ?_⟩
    rcases List.mem_cons.mp hx' with rfl | hx'
    · exact ha
    · exact hx x hx'
/-- a draw, the draws in slot i -/
theorem draw_i {i : Nat} {δ : Ev'} {n v : Int} {c c' : Cells} {me : EM} (h : δ[i]? = some (.sh (.cell 0))) (hE : me δ c = .ok (.int n) c) (e : m_draw [.cell 0, .int n] c = .ok (.int v) c') : callM m_draw (consA (varE i) (consA me (nilA))) δ c = .ok (.int v) c' := by
  simp [DL.callM, DL.consA, DL.nilA, DL.bnd, DL.Out.bnd, DL.ret, DL.varE, h, hE, e]
section
variable {m : EM} {ms : Ev' → M (List D)} {δ : Ev'} {c c' c'' : Cells} {d : D} {xs ys : List D} {mi : List D → M (List D)} {C : Nat}
theorem cons_ok (h1 : m δ c = .ok d c') (h2 : ms δ c' = .ok xs c'') : consA m ms δ c = .ok (d :: xs) c'' := by simp [consA, bnd, Out.bnd, h1, h2, DL.ret]
theorem make_ok (h1 : ms δ c = .ok xs c') (h2 : mi xs c' = .ok ys c'') : makeM C mi ms δ c = .ok (.ins C ys) c'' := by simp [makeM, bnd, Out.bnd, h1, h2, DL.ret]
theorem tup_ok (h1 : ms δ c = .ok xs c') (z : xs.length ≤ sizeLine) : tupE ms δ c = .ok (.tup xs) c' := by simp [tupE, bnd, Out.bnd, h1, z]
theorem lst_ok (h1 : ms δ c = .ok xs c') (z : xs.length ≤ sizeLine) : lstE ms δ c = .ok (.lst xs) c' := by simp [lstE, bnd, Out.bnd, h1, z]
end
end DL

namespace DL
open PySem PySem.Spec PyProof.Rows L2

def strF : D → Option (List D)
  | .str x => if x.length ≤ sizeLine then some (chars x) else none
  | _ => none
def itSE (m : EM) : Ev' → M (List D) := fun δ => bnd (m δ) fun d => fun c => opt (strF d) c
section
variable {CE : CEnv} {K : PySem.W.Frag} {g : Gh} {H : Hp} {c : Cells}
theorem dwalk_str {x : PySem.Str} (hz : x.length ≤ sizeLine) : DWalk CE K (Its x) (chars x) g H c := by
  have el : (chars x).length = x.cps.size := by unfold chars; rw [List.length_map, Array.length_toList]
  exact {
    sz := by rw [el]; exact hz
    go := fun g1 H1 c1 p _ i h => by rw [el] at h; exact h
    stop := fun g1 H1 c1 p _ => by rw [el]; exact Nat.le_refl _
    yld := fun g1 H1 c1 p ok i d v H2 h ⟨e1, cc, e2, e3⟩ => by
      subst e1; subst e3
      have e : d = .str ⟨#[cc]⟩ := by
        unfold chars at h
        rw [List.getElem?_map, Array.getElem?_toList, e2] at h
        exact (Option.some.inj h).symm
      subst e
      exact ⟨g1, Post.refl ok, rep_str⟩ }
end
section
variable {X : Cx} {CE : CEnv} {W : WX} {pos : Pos} {tg e a b : Expr} {es : List Expr} {m : EM} {ms : Ev' → M (List D)}
theorem pid_str (he : PD X CE W e m) : PID X CE W tg e (itSE m) :=
  (pi_str he).wk fun σ H R ⟨g, c, δ, ok, er, h⟩ => by
    replace h := wpo_bnd.mp h
    refine use ok er h (fun d c1 h g1 H1 v p1 r1 => ?_) fun _ _ _ z => z
    obtain ⟨xs, ex, h⟩ := opt_ok h
    cases d <;> try (simp [strF] at ex; done)
    case str x =>
      simp only [strF] at ex
      split at ex
      · rename_i hz
        cases ex
        simp only [Rep] at r1
        subst r1
        exact ⟨x, rfl, h g1 H1 _ p1 (dwalk_str hz)⟩
      · cases ex
def toBs : List D → Option (List Bool)
  | [] => some []
  | .bl b :: ds => (toBs ds).map (b :: ·)
  | _ => none
def toIs : List D → Option (List Int)
  | [] => some []
  | .int b :: ds => (toIs ds).map (b :: ·)
  | _ => none
theorem toBs_rep {g : Gh} {H : Hp} {K : PySem.W.Frag} : ∀ {ds : List D} {bs : List Bool} {vs : List V}, toBs ds = some bs → Reps CE K g H ds vs → vs = bs.map V.bl
  | [], bs, vs, e, r => by
    cases e
    simp only [Reps] at r
    exact r
  | d :: ds, bs, vs, e, r => by
    cases d <;> simp only [toBs, reduceCtorEq] at e
    obtain ⟨bs', e', rfl⟩ := Option.map_eq_some_iff.mp e
    simp only [Reps] at r
    obtain ⟨v, vs', rfl, h1, h2⟩ := r
    simp only [Rep] at h1
    rw [h1, toBs_rep e' h2, List.map_cons]
theorem toIs_rep {g : Gh} {H : Hp} {K : PySem.W.Frag} : ∀ {ds : List D} {bs : List Int} {vs : List V}, toIs ds = some bs → Reps CE K g H ds vs → vs = bs.map V.int
  | [], bs, vs, e, r => by
    cases e
    simp only [Reps] at r
    exact r
  | d :: ds, bs, vs, e, r => by
    cases d <;> simp only [toIs, reduceCtorEq] at e
    obtain ⟨bs', e', rfl⟩ := Option.map_eq_some_iff.mp e
    simp only [Reps] at r
    obtain ⟨v, vs', rfl, h1, h2⟩ := r
    simp only [Rep] at h1
    rw [h1, toIs_rep e' h2, List.map_cons]
def allF (ds : List D) (c : Cells) : Option D := match ds with
  | [d] => match rlistOf d c with
    | some xs => (toBs xs).map fun bs => .bl (bs.all id)
    | none => none
  | _ => none
def anyF (ds : List D) (c : Cells) : Option D := match ds with
  | [d] => match rlistOf d c with
    | some xs => (toBs xs).map fun bs => .bl (bs.any id)
    | none => none
  | _ => none
/-- the greatest of ints -/
def maxI : List Int → Int
  | [] => 0
  | i :: is => is.foldl max i
def minI : List Int → Int
  | [] => 0
  | i :: is => is.foldl min i
theorem foldl_max_mem : ∀ (is : List Int) (m : Int), is.foldl max m = m ∨ is.foldl max m ∈ is
  | [], m => .inl rfl
  | i :: is, m => by
    rcases foldl_max_mem is (max m i) with h | h
    · rw [List.foldl_cons, h]
      rcases Int.le_total m i with z | z
      · rw [Int.max_eq_right z]; exact .inr (by simp)
      · rw [Int.max_eq_left z]; exact .inl rfl
    · exact .inr (List.mem_cons_of_mem _ h)
theorem foldl_max_ge : ∀ (is : List Int) (m : Int), m ≤ is.foldl max m ∧ ∀ i ∈ is, i ≤ is.foldl max m
  | [], m => ⟨Int.le_refl _, fun _ h => by cases h⟩
  | i :: is, m => by
    obtain ⟨h1, h2⟩ := foldl_max_ge is (max m i)
    refine ⟨by rw [List.foldl_cons]; omega, fun j hj => ?_⟩
    rw [List.foldl_cons]
    rcases List.mem_cons.mp hj with rfl | hj
    · omega
    · exact h2 j hj
theorem foldl_min_mem : ∀ (is : List Int) (m : Int), is.foldl min m = m ∨ is.foldl min m ∈ is
  | [], m => .inl rfl
  | i :: is, m => by
    rcases foldl_min_mem is (min m i) with h | h
    · rw [List.foldl_cons, h]
      rcases Int.le_total m i with z | z
      · rw [Int.min_eq_left z]; exact .inl rfl
      · rw [Int.min_eq_right z]; exact .inr (by simp)
    · exact .inr (List.mem_cons_of_mem _ h)
theorem foldl_min_le : ∀ (is : List Int) (m : Int), is.foldl min m ≤ m ∧ ∀ i ∈ is, is.foldl min m ≤ i
  | [], m => ⟨Int.le_refl _, fun _ h => by cases h⟩
  | i :: is, m => by
    obtain ⟨h1, h2⟩ := foldl_min_le is (min m i)
    refine ⟨by rw [List.foldl_cons]; omega, fun j hj => ?_⟩
    rw [List.foldl_cons]
    rcases List.mem_cons.mp hj with rfl | hj
    · omega
    · exact h2 j hj
def maxG (ds : List D) (c : Cells) : Option D := match ds with
  | [d] => match rlistOf d c with
    | some xs => match toIs xs with
      | some is => if is.isEmpty then none else some (.int (maxI is))
      | none => none
    | none => none
  | ds => maxF ds c
def minG (ds : List D) (c : Cells) : Option D := match ds with
  | [d] => match rlistOf d c with
    | some xs => match toIs xs with
      | some is => if is.isEmpty then none else some (.int (minI is))
      | none => none
    | none => none
  | ds => minF ds c
theorem cd_all (hc : X.calm = true) : CallR X (.builtin "all") (rDA CE X.K allF) := by
  intro pins s σ H xs us Q I r ⟨g, c, ds, z, ok, r1, ez, q⟩
  unfold allF at ez
  split at ez
  · split at ez
    · rename_i ys ey
      obtain ⟨bs, eb, rfl⟩ := Option.map_eq_some_iff.mp ez
      obtain ⟨v, rfl, h1⟩ := reps1 r1
      obtain ⟨a, vs, rfl, h, hz, rr⟩ := rlistOf_at ok h1 ey
      rw [toBs_rep eb rr] at h
      exact cr_all hc pins s σ H _ us Q I r ⟨a, bs, rfl, h, q g H _ (Post.refl ok) rep_bl⟩
    · cases ez
  · cases ez
theorem cd_any (hc : X.calm = true) : CallR X (.builtin "any") (rDA CE X.K anyF) := by
  intro pins s σ H xs us Q I r ⟨g, c, ds, z, ok, r1, ez, q⟩
  unfold anyF at ez
  split at ez
  · split at ez
    · rename_i ys ey
      obtain ⟨bs, eb, rfl⟩ := Option.map_eq_some_iff.mp ez
      obtain ⟨v, rfl, h1⟩ := reps1 r1
      obtain ⟨a, vs, rfl, h, hz, rr⟩ := rlistOf_at ok h1 ey
      rw [toBs_rep eb rr] at h
      exact cr_any hc pins s σ H _ us Q I r ⟨a, bs, rfl, h, q g H _ (Post.refl ok) rep_bl⟩
    · cases ez
  · cases ez
theorem cd_maxG (hc : X.calm = true) : CallR X (.builtin "max") (rDA CE X.K maxG) := by
  intro pins s σ H xs us Q I r ⟨g, c, ds, z, ok, r1, ez, q⟩
  unfold maxG at ez
  split at ez
  · split at ez
    · rename_i ys ey
      split at ez
      · rename_i is ei
        split at ez
        · cases ez
        · rename_i hne
          cases ez
          obtain ⟨v, rfl, h1⟩ := reps1 r1
          obtain ⟨a, vs, rfl, h, hz, rr⟩ := rlistOf_at ok h1 ey
          rw [toIs_rep ei rr] at h
          have hp : 0 < is.length := by
            cases is with
            | nil => simp at hne
            | cons i is => simp
          refine cr_max hc pins s σ H _ us Q I r ⟨a, is, rfl, h, hp, fun m hm hall => ?_⟩
          have e : m = maxI is := by
            cases is with
            | nil => cases hm
            | cons i is =>
              show m = is.foldl max i
              obtain ⟨g1, g2⟩ := foldl_max_ge is i
              have g3 : is.foldl max i ∈ i :: is := by
                rcases foldl_max_mem is i with e | e
                · rw [e]; simp
                · exact List.mem_cons_of_mem _ e
              have h1 := hall _ g3
              rcases List.mem_cons.mp hm with rfl | hm
              · omega
              · have := g2 m hm; omega
          rw [e]
          exact q g H _ (Post.refl ok) rep_int
      · cases ez
    · cases ez
  · exact cd_max hc pins s σ H xs us Q I r ⟨g, c, _, z, ok, r1, ez, q⟩
theorem cd_minG (hc : X.calm = true) : CallR X (.builtin "min") (rDA CE X.K minG) := by
  intro pins s σ H xs us Q I r ⟨g, c, ds, z, ok, r1, ez, q⟩
  unfold minG at ez
  split at ez
  · split at ez
    · rename_i ys ey
      split at ez
      · rename_i is ei
        split at ez
        · cases ez
        · rename_i hne
          cases ez
          obtain ⟨v, rfl, h1⟩ := reps1 r1
          obtain ⟨a, vs, rfl, h, hz, rr⟩ := rlistOf_at ok h1 ey
          rw [toIs_rep ei rr] at h
          have hp : 0 < is.length := by
            cases is with
            | nil => simp at hne
            | cons i is => simp
          refine cr_min hc pins s σ H _ us Q I r ⟨a, is, rfl, h, hp, fun m hm hall => ?_⟩
          have e : m = minI is := by
            cases is with
            | nil => cases hm
            | cons i is =>
              show m = is.foldl min i
              obtain ⟨g1, g2⟩ := foldl_min_le is i
              have g3 : is.foldl min i ∈ i :: is := by
                rcases foldl_min_mem is i with e | e
                · rw [e]; simp
                · exact List.mem_cons_of_mem _ e
              have h1 := hall _ g3
              rcases List.mem_cons.mp hm with rfl | hm
              · omega
              · have := g2 m hm; omega
          rw [e]
          exact q g H _ (Post.refl ok) rep_int
      · cases ez
    · cases ez
  · exact cd_min hc pins s σ H xs us Q I r ⟨g, c, _, z, ok, r1, ez, q⟩
/-- xs[::-1] -/
def revF (d : D) (c : Cells) : Option D := (rlistOf d c).map fun xs => .lst xs.reverse
theorem Reps.reverse {g : Gh} {H : Hp} {K : PySem.W.Frag} : ∀ {ds : List D} {vs : List V}, Reps CE K g H ds vs → Reps CE K g H ds.reverse vs.reverse
  | [], vs, r => by
    simp only [Reps] at r
    subst r
    exact Reps.nil
  | d :: ds, vs, r => by
    simp only [Reps] at r
    obtain ⟨v, vs', rfl, h1, h2⟩ := r
    rw [List.reverse_cons, List.reverse_cons]
    exact Reps.append (Reps.reverse h2) (Reps.one h1)
theorem pd_rev {k : Nat} {p1 p2 p3 : Pos} (he : PD X CE W e m) : PD X CE W (.Subscript e (.Slice none none (some (.UnaryOp .USub (.Constant (.int 1) k p1) p2)) p3) pos) (un1 revF m) :=
  (pe_revL he).wk fun σ H Q ⟨g, c, δ, ok, er, h⟩ => by
    replace h := wpo_bnd.mp h
    refine use ok er h (fun d c1 h g1 H1 v p1 r1 => ?_) fun _ _ _ z => z
    obtain ⟨z, ez, h⟩ := opt_ok h
    obtain ⟨xs, ex, rfl⟩ := Option.map_eq_some_iff.mp ez
    obtain ⟨a, vs, rfl, hx, hz, rr⟩ := rlistOf_at p1.ok r1 ex
    exact ⟨a, vs, rfl, hx, fun p hp => new_lst p1.ok hp (Reps.reverse rr) (by rw [List.length_reverse]; exact hz) fun g2 H2 v p2 r2 => h g2 H2 v (p1.trans p2) r2⟩
end
end DL

namespace DL
open PySem PySem.Spec PyProof.Rows L2

def repS (x : PySem.Str) (n : Int) : PySem.Str := if n < 1 then Str.empty else if (n == 1 || x.length == 0) = true then x else ⟨(List.replicate n.toNat x.cps).foldl (· ++ ·) #[]⟩
def mulG (x y : D) (c : Cells) : Option D := match x, y with
  | .str s, .int n => if -(2 ^ 40) < n ∧ n < 2 ^ 40 ∧ s.length * n.toNat ≤ sizeLine then some (.str (repS s n)) else none
  | .lst xs, .int n => if -(2 ^ 40) < n ∧ n < 2 ^ 40 ∧ xs.length * n.toNat ≤ sizeLine then some (.lst (List.replicate n.toNat xs).flatten) else none
  | x, y => mulP x y c
section
variable {X : Cx} {CE : CEnv}
theorem Reps.rep {g : Gh} {H : Hp} {K : PySem.W.Frag} {ds : List D} {vs : List V} (r : Reps CE K g H ds vs) : ∀ n : Nat, Reps CE K g H (List.replicate n ds).flatten (List.replicate n vs).flatten
  | 0 => by
    rw [List.replicate_zero, List.replicate_zero]
    exact Reps.nil
  | n + 1 => by
    rw [List.replicate_succ, List.replicate_succ, List.flatten_cons, List.flatten_cons]
    exact Reps.append r (Reps.rep r n)
theorem rep_size (a : Array Nat) : ∀ (k : Nat) (b : Array Nat), ((List.replicate k a).foldl (· ++ ·) b).size = b.size + k * a.size
  | 0, b => by simp
  | k + 1, b => by
    rw [List.replicate_succ, List.foldl_cons, rep_size a k, Array.size_append, Nat.succ_mul]
    omega
theorem od_mulG : OpR X (binaryOp .Mult) (rD CE X.K mulG) := by
  intro pins s σ H x y v u Q I rx ry ⟨g, c, d, e, z, ok, r1, r2, ez, q⟩
  have gen : mulP d e c = some z → wpAny (model X.prog X.w) X.A (binaryOp .Mult v u) (EP X pins σ Q) X.xe s := fun ez => od_mul pins s σ H x y v u Q I rx ry ⟨g, c, d, e, z, ok, r1, r2, ez, q⟩
  cases d <;> try exact gen ez
  case str x0 =>
    cases e <;> try exact gen ez
    case int n =>
      simp only [mulG] at ez
      split at ez
      · rename_i h
        cases ez
        obtain ⟨h1, h2, h3⟩ := h
        simp only [Rep] at r1 r2
        subst r1; subst r2
        obtain ⟨t, rfl⟩ := rx
        obtain ⟨t', rfl⟩ := ry
        have hz : sizeLine = 16777216 := sizeLine_eq
        have rep := q g H _ (Post.refl ok) (rep_str (i := repS x0 n))
        have ln : ∀ {w : PySem.Str}, w.length ≤ sizeLine → Builtin.Str.tooLong w.length = false := fun hw => PyProof.Rows.short24 (by omega)
        refine PySem.P.mul_str ?_ (fun h4 _ => ?_) (fun _ _ => PyProof.Rows.short24 (by omega)) ?_
        · rw [decide_eq_false (by omega), decide_eq_false (by omega)]
          rfl
        · have h5 : 1 ≤ n := by omega
          have h6 : (x0.length : Int) * n ≤ 16777216 := by
            have : ((x0.length * n.toNat : Nat) : Int) ≤ 16777216 := by omega
            rw [Int.natCast_mul, Int.toNat_of_nonneg (by omega)] at this
            exact this
          have h7 : (x0.length : Int) ≤ (2 ^ 63 - 1) / n := by
            rw [Int.le_ediv_iff_mul_le (by omega)]
            omega
          omega
        · unfold repS at rep
          split
          · rename_i hn
            rw [if_pos hn] at rep
            exact ⟨by decide, .str Str.empty, H, I.tok _, ⟨_, rfl⟩, rep⟩
          · rename_i hn
            rw [if_neg hn] at rep
            split
            · rename_i hn2
              rw [if_pos hn2] at rep
              exact ⟨.str x0, H, I, ⟨_, rfl⟩, rep⟩
            · rename_i hn2
              rw [if_neg hn2] at rep
              refine ⟨?_, .str _, H, I.tok _, ⟨_, rfl⟩, rep⟩
              show ((List.replicate n.toNat x0.cps).foldl (· ++ ·) #[]).size ≤ sizeLine
              rw [rep_size]
              have : x0.cps.size = x0.length := rfl
              rw [this, Nat.mul_comm]
              simpa using h3
      · cases ez
  case lst xs =>
    cases e <;> try exact gen ez
    case int n =>
      simp only [mulG] at ez
      split at ez
      · rename_i h
        cases ez
        obtain ⟨h1, h2, h3⟩ := h
        simp only [Rep] at r1 r2
        subst r2
        obtain ⟨a, vs, rfl, hF, hH, hz, rr⟩ := r1
        refine op_rep pins s σ H _ _ v u Q I rx ry ⟨a, n, vs, rfl, rfl, hH, by omega, by omega, by rw [Reps.length rr]; exact h3, fun p hp => new_lst ok hp (Reps.rep rr n.toNat) ?_ q⟩
        rw [show (List.replicate n.toNat xs).flatten.length = n.toNat * xs.length by simp, Nat.mul_comm]
        exact h3
      · cases ez
end
end DL

namespace DL
open PySem PySem.Spec PyProof.Rows L2

def lc2L (tg : D → Ev' → Option Ev') (tt : TM) (mi1 : Ev' → M (List D)) (vs1 : List Nat) (tg1 : D → Ev' → Option Ev') (tt1 : TM) (te : EM) (δ : Ev') : List D → M (List D)
  | [] => DL.ret []
  | x :: xs => match tg x δ with
    | none => stuck
    | some δ1 => bnd (tt δ1) fun b => if b then bnd (mi1 δ1) fun ys => bnd (lcL tg1 tt1 te (wipeD δ1 vs1) ys) fun zs => bnd (lc2L tg tt mi1 vs1 tg1 tt1 te δ xs) fun ws => DL.ret (zs ++ ws) else lc2L tg tt mi1 vs1 tg1 tt1 te δ xs
def lc2E (mi : Ev' → M (List D)) (vs : List Nat) (tg : D → Ev' → Option Ev') (tt : TM) (mi1 : Ev' → M (List D)) (vs1 : List Nat) (tg1 : D → Ev' → Option Ev') (tt1 : TM) (te : EM) : EM := fun δ => bnd (mi δ) fun xs => fun c => (bnd (lc2L tg tt mi1 vs1 tg1 tt1 te (wipeD δ vs) xs) fun ys => fun c => if ys.length ≤ sizeLine then .ok (D.lst ys) c else .bad) c |>.quiet
section
variable {CE : CEnv} {K : PySem.W.Frag} {tg tg1 : D → Ev' → Option Ev'} {tt tt1 : TM} {te : EM} {mi1 : Ev' → M (List D)}
theorem hid_stays {D0 : Addr} {ga gb : Gh} {Ha Hb : Hp} {ca cb : Cells} {accV : List V} (q : Post CE K ga Ha ca gb Hb cb) (h1 : Ha D0 = some (.lst accV)) (h2 : ¬ ga.F D0) (h3 : D0 ∉ ga.am) : Hb D0 = some (.lst accV) ∧ ¬ gb.F D0 ∧ D0 ∉ gb.am := by
  refine ⟨q.ext.keep _ _ h1 fun ⟨k, z, l1, _⟩ => h3 (List.mem_of_getElem? l1), fun z => ?_, fun z => ?_⟩
  · rcases q.ext.newF _ z with z | z | z
    · exact h2 z
    · rw [h1] at z; cases z
    · exact h3 z
  · rcases q.ext.newA _ z with z | z
    · exact h3 z
    · rw [h1] at z; cases z
/-- the hidden list has grown: nobody else is touched -/
theorem grown {D0 : Addr} {g0 g : Gh} {H0 H : Hp} {c0 c : Cells} {accV : List V} {ys : List V} (p : Post CE K g0 H0 c0 g H c) (hD : H0 D0 = none) (e : H D0 = some (.lst accV)) (nF : ¬ g.F D0) (nA : D0 ∉ g.am) : Post CE K g0 H0 c0 g (upd H D0 (.lst ys)) c :=
  ⟨⟨p.ext.fr, p.ext.am, fun a o e n => by
    rw [upd_ne (fun z => by rw [z, hD] at e; cases e)]
    exact p.ext.keep a o e n, p.ext.newF, p.ext.newA, fun a e => upd_thr (p.ext.thr a e), p.ext.dd⟩, p.ok.hid (RK.hid e nF) nA⟩
theorem EnvR.updH {g : Gh} {H : Hp} {σ : L2.St} {δ : Ev'} {D0 : Addr} {o : HO} (er : EnvR CE K g H σ δ) (rk : RK g H g (upd H D0 o)) (no : ¬ Own σ δ D0) : EnvR CE K g (upd H D0 o) σ δ where
  len := er.len
  sh := fun i d e => let ⟨v, e1, r⟩ := er.sh i d e; ⟨v, e1, Rep.rk rk r⟩
  own := fun i t x e eo => by
    obtain ⟨a, e1, nf, na, nd, ca, un⟩ := er.own i t x e eo
    have ne : a ≠ D0 := fun z => no ⟨i, t, x, e, eo, by rw [← z]; exact e1⟩
    refine ⟨a, e1, nf, na, nd, ?_, un⟩
    cases x with
    | lst ds => obtain ⟨vs, e2, z, r⟩ := ca; exact ⟨vs, by rw [upd_ne ne]; exact e2, z, Reps.rk rk r⟩
    | ins C ds => obtain ⟨dx, vs, e2, l, r⟩ := ca; exact ⟨dx, vs, by rw [upd_ne ne]; exact e2, l, Reps.rk rk r⟩
    | dead => trivial
  slf := er.slf
theorem wipeD_hid {t : Slot} {o : Cell} {i : Nat} : ∀ {vs : List Nat} {δ : Ev'}, (wipeD δ vs)[i]? = some t → t.hid = some o → δ[i]? = some t
  | [], δ, h, _ => h
  | v :: vs, δ, h, ho => by
    unfold wipeD at h
    by_cases e : v = i
    · subst e
      by_cases hl : v < (wipeD δ vs).length
      · rw [List.getElem?_set_self hl] at h
        cases h
        cases ho
      · rw [List.getElem?_eq_none (by rw [List.length_set]; omega)] at h
        cases h
    · rw [List.getElem?_set_ne e] at h
      exact wipeD_hid h ho
theorem own_wipe {σ : L2.St} {δ : Ev'} {vs : List Nat} {a : Addr} (h : Own (wipe σ vs) (wipeD δ vs) a) : Own σ δ a := by
  obtain ⟨i, t, o, h1, h2, h3⟩ := h
  exact ⟨i, t, o, wipeD_hid h1 h2, h2, (wipe_some h3).1⟩
/-- the inner loop -/
theorem lcI_ok {J : It} {ys : List DL.D} {g0 g : Gh} {H0 H : Hp} {c0 c : Cells} (ok0 : SOk CE K g0 H0 c0) (p : Post CE K g0 H0 c0 g H c) {D0 : Addr} (hD : H0 D0 = none) {accD : List DL.D} {accV : List V} (eD : H D0 = some (.lst accV)) (nF : ¬ g.F D0) (nA : D0 ∉ g.am) (ra : Reps CE K g H accD accV)
    (dw : DWalk CE K J ys g H c) {δ1 : Ev'} {σ2 : L2.St} {vs1 : List Nat} (er : EnvR CE K g H σ2 δ1) (no : ¬ Own σ2 δ1 D0) {Nx : Hp → Prop} {R : List DL.D → Cells → Prop}
    (h : wpo (lcL tg1 tt1 te (wipeD δ1 vs1) ys c) (fun zs c' => R (accD ++ zs) c') (fun _ _ _ => False)) (hsz : ∀ zs c', R zs c' → zs.length ≤ sizeLine)
    (hN : ∀ zs c', R zs c' → ∀ g' H' ws, Post CE K g0 H0 c0 g' H' c' → RK g H g' H' → H' D0 = some (.lst ws) → ¬ g'.F D0 → D0 ∉ g'.am → Reps CE K g' H' zs ws → Nx H') :
    ∃ Wv : Nat → Nat → Hp → Prop, (∃ m, Wv 0 m H) ∧ ∀ i m H, Wv i m H → (J.stop i H ∧ Nx H) ∨ (J.go i H ∧ ∃ Nx1 : Hp → Prop, (∀ H', Nx1 H' → ∃ m', m' < m ∧ Wv (i + 1) m' H') ∧
      ∀ x H', J.yld i H x H' → gD CE K vs1 tg1 x (wipe σ2 vs1) H' fun σ3 H2 => wipe σ3 vs1 = wipe σ2 vs1 ∧ tDT CE K W0 tt1 σ3 H2 fun b H3 => if b = true then tD CE K W0 te σ3 H3 fun y H4 => ∃ acc, H4 D0 = some (.lst acc) ∧ acc.length < sizeLine ∧ Nx1 (upd H4 D0 (.lst (acc ++ [y]))) else Nx1 H3) := by
  have er0 : EnvR CE K g H (wipe σ2 vs1) (wipeD δ1 vs1) := er.wipe vs1
  refine ⟨fun i m H' => m = ys.length - i ∧ i ≤ ys.length ∧ ∃ g' c' aD aV, Post CE K g0 H0 c0 g' H' c' ∧ RK g H g' H' ∧ EnvR CE K g' H' (wipe σ2 vs1) (wipeD δ1 vs1) ∧ H' D0 = some (.lst aV) ∧ ¬ g'.F D0 ∧ D0 ∉ g'.am ∧ Reps CE K g' H' aD aV ∧
      wpo (lcL tg1 tt1 te (wipeD δ1 vs1) (ys.drop i) c') (fun zs c1 => R (aD ++ zs) c1) (fun _ _ _ => False),
    ⟨ys.length, by simp, Nat.zero_le _, g, c, accD, accV, p, RK.refl, er0, eD, nF, nA, ra, by simpa using h⟩, ?_⟩
  rintro i m H' ⟨rfl, hi, g', c', aD, aV, p', rk', er', eD', nF', nA', ra', h'⟩
  by_cases hlt : i < ys.length
  · have hd : ys.drop i = ys[i] :: ys.drop (i + 1) := List.drop_eq_getElem_cons hlt
    rw [hd] at h'
    refine .inr ⟨dw.go _ _ _ rk' p'.ok i hlt, fun H' => i + 1 ≤ ys.length ∧ ∃ g' c' aD aV, Post CE K g0 H0 c0 g' H' c' ∧ RK g H g' H' ∧ EnvR CE K g' H' (wipe σ2 vs1) (wipeD δ1 vs1) ∧ H' D0 = some (.lst aV) ∧ ¬ g'.F D0 ∧ D0 ∉ g'.am ∧ Reps CE K g' H' aD aV ∧
      wpo (lcL tg1 tt1 te (wipeD δ1 vs1) (ys.drop (i + 1)) c') (fun zs c1 => R (aD ++ zs) c1) (fun _ _ _ => False), fun H' ⟨h1, h2⟩ => ⟨ys.length - (i + 1), by omega, rfl, h1, h2⟩, fun x H1 y => ?_⟩
    obtain ⟨g1, p1, r1⟩ := dw.yld _ _ _ rk' p'.ok i ys[i] x H1 (by simp [hlt]) y
    simp only [lcL] at h'
    cases e1 : tg1 ys[i] (wipeD δ1 vs1) with
    | none => rw [e1] at h'; exact h'.elim
    | some δ3 =>
      rw [e1] at h'
      dsimp only at h'
      replace h' := wpo_bnd.mp h'
      have er1' := er'.mono p'.ok p1.ext
      refine ⟨g1, c', wipeD δ1 vs1, ys[i], δ3, p1.ok, er1', r1, e1, fun σ3 er3 w3 _ => ⟨by rw [w3]; exact wipe_wipe, ?_⟩⟩
      obtain ⟨d1, d2, d3⟩ := hid_stays p1 eD' nF' nA'
      refine useT p1.ok er3 h' (fun b c2 h2 g2 H2 p2 => ?_) fun _ _ _ z => z.elim
      obtain ⟨d4, d5, d6⟩ := hid_stays p2 d1 d2 d3
      have p02 := (p'.trans p1).trans p2
      have rk2 : RK g H g2 H2 := (rk'.trans (p1.ext.rk p'.ok)).trans (p2.ext.rk p1.ok)
      have er2 := er1'.mono p1.ok p2.ext
      cases b with
      | false =>
        rw [if_neg (by simp)] at h2 ⊢
        exact ⟨hlt, g2, c2, aD, aV, p02, rk2, er2, d4, d5, d6, Reps.mono p'.ok (p1.trans p2).ext ra', h2⟩
      | true =>
        rw [if_pos rfl] at h2 ⊢
        replace h2 := wpo_bnd.mp h2
        refine use p2.ok (er3.mono p1.ok p2.ext) h2 (fun d c3 h3 g3 H3 v p3 r3 => ?_) fun _ _ _ z => z.elim
        obtain ⟨d7, d8, d9⟩ := hid_stays p3 d4 d5 d6
        have ra3 := Reps.mono p'.ok ((p1.trans p2).trans p3).ext ra'
        have p03 := p02.trans p3
        replace h3 := wpo_bnd.mp h3
        have h4 : wpo (lcL tg1 tt1 te (wipeD δ1 vs1) (ys.drop (i + 1)) c3) (fun zs c1 => R (aD ++ [d] ++ zs) c1) (fun _ _ _ => False) := wpo_mono h3 (fun zs c4 q => by
          rw [List.append_assoc]
          exact q) fun _ _ _ z => z
        have hlen : aV.length < sizeLine := by
          rw [Reps.length ra3]
          cases e4 : lcL tg1 tt1 te (wipeD δ1 vs1) (ys.drop (i + 1)) c3 with
          | ok zs c4 =>
            rw [e4] at h4
            have := hsz _ _ h4
            simp at this
            omega
          | exc C xs c4 => rw [e4] at h4; exact h4.elim
          | bad => rw [e4] at h4; exact h4.elim
        have rkh := RK.hid (ys := aV ++ [v]) d7 d8
        exact ⟨aV, d7, hlen, hlt, g3, c3, aD ++ [d], aV ++ [v], grown p03 hD d7 d8 d9, (rk2.trans (p3.ext.rk p2.ok)).trans rkh, (er2.mono p2.ok p3.ext).updH rkh fun z => no (own_wipe z), upd_same, d8, d9, Reps.rk rkh (Reps.append ra3 (Reps.one r3)), h4⟩
  · have e : i = ys.length := by omega
    subst e
    simp only [List.drop_length, lcL] at h'
    have h'' : R (aD ++ []) c' := h'
    rw [List.append_nil] at h''
    exact .inl ⟨dw.stop _ _ _ rk' p'.ok, hN aD c' h'' g' H' aV p' rk' eD' nF' nA' ra'⟩
/-- both loops: D0 is where the new list stands -/
theorem lc2_ok {J : It} {xs : List DL.D} {g0 : Gh} {H0 : Hp} {c0 : Cells} (ok0 : SOk CE K g0 H0 c0) (dw : DWalk CE K J xs g0 H0 c0) {δ0 : Ev'} {σ0 : L2.St} {vs vs1 : List Nat} (er0 : EnvR CE K g0 H0 σ0 δ0) {D0 : Addr} (hD : H0 D0 = none) {Qd : Hp → Prop} {P : List DL.D → Cells → Prop}
    (h : wpo (lc2L tg tt mi1 vs1 tg1 tt1 te (wipeD δ0 vs) xs c0) P (fun _ _ _ => False)) (hsz : ∀ zs c', P zs c' → zs.length ≤ sizeLine)
    (hQ : ∀ ys c1, P ys c1 → ∀ g1 H1 ws, Post CE K g0 H0 c0 g1 H1 c1 → H1 D0 = some (.lst ws) → ¬ g1.F D0 → D0 ∉ g1.am → ys.length ≤ sizeLine → Reps CE K g1 H1 ys ws → Qd H1) :
    ∃ Wv : Nat → Nat → Hp → Prop, (∃ m, Wv 0 m (upd H0 D0 (.lst []))) ∧ ∀ i m H, Wv i m H → (J.stop i H ∧ Qd H) ∨ (J.go i H ∧ ∃ Nx : Hp → Prop, (∀ H', Nx H' → ∃ m', m' < m ∧ Wv (i + 1) m' H') ∧
      ∀ x H', J.yld i H x H' → gD CE K vs tg x (wipe σ0 vs) H' fun σ2 H2 => wipe σ2 vs = wipe σ0 vs ∧ tDT CE K W0 tt σ2 H2 fun b H3 => if b = true then tI CE K W0 mi1 σ2 H3 fun J1 H4 =>
        ∃ W1 : Nat → Nat → Hp → Prop, (∃ m, W1 0 m H4) ∧ ∀ j k H, W1 j k H → (J1.stop j H ∧ Nx H) ∨ (J1.go j H ∧ ∃ Nx1 : Hp → Prop, (∀ H', Nx1 H' → ∃ k', k' < k ∧ W1 (j + 1) k' H') ∧
          ∀ x H', J1.yld j H x H' → gD CE K vs1 tg1 x (wipe σ2 vs1) H' fun σ3 H5 => wipe σ3 vs1 = wipe σ2 vs1 ∧ tDT CE K W0 tt1 σ3 H5 fun b H6 => if b = true then tD CE K W0 te σ3 H6 fun y H7 => ∃ acc, H7 D0 = some (.lst acc) ∧ acc.length < sizeLine ∧ Nx1 (upd H7 D0 (.lst (acc ++ [y]))) else Nx1 H6)
        else Nx H3) := by
  have F0 : ¬ g0.F D0 := fun z => ok0.tr D0 z hD
  have A0 : D0 ∉ g0.am := mem_am_ne ok0 hD
  have er0' : EnvR CE K g0 H0 (wipe σ0 vs) (wipeD δ0 vs) := er0.wipe vs
  have no0 : ¬ Own (wipe σ0 vs) (wipeD δ0 vs) D0 := fun z => (er0'.ownF z).2.2 hD
  refine ⟨fun i m H => m = xs.length - i ∧ i ≤ xs.length ∧ ∃ g c accD accV, Post CE K g0 H0 c0 g H c ∧ H D0 = some (.lst accV) ∧ ¬ g.F D0 ∧ D0 ∉ g.am ∧ Reps CE K g H accD accV ∧
      wpo (lc2L tg tt mi1 vs1 tg1 tt1 te (wipeD δ0 vs) (xs.drop i) c) (fun ys c1 => P (accD ++ ys) c1) (fun _ _ _ => False),
    ⟨xs.length, by simp, Nat.zero_le _, g0, c0, [], [], Post.hid ok0 hD _, upd_same, F0, A0, Reps.nil, by simpa using h⟩, ?_⟩
  rintro i m H ⟨rfl, hi, g, c, accD, accV, p, eD, nF, nA, ra, h⟩
  by_cases hlt : i < xs.length
  · have hd : xs.drop i = xs[i] :: xs.drop (i + 1) := List.drop_eq_getElem_cons hlt
    rw [hd] at h
    refine .inr ⟨dw.go _ _ _ (p.ext.rk ok0) p.ok i hlt, fun H => i + 1 ≤ xs.length ∧ ∃ g c accD accV, Post CE K g0 H0 c0 g H c ∧ H D0 = some (.lst accV) ∧ ¬ g.F D0 ∧ D0 ∉ g.am ∧ Reps CE K g H accD accV ∧
      wpo (lc2L tg tt mi1 vs1 tg1 tt1 te (wipeD δ0 vs) (xs.drop (i + 1)) c) (fun ys c1 => P (accD ++ ys) c1) (fun _ _ _ => False), fun H' ⟨h1, h2⟩ => ⟨xs.length - (i + 1), by omega, rfl, h1, h2⟩, fun x H' y => ?_⟩
    obtain ⟨g1, p1, r1⟩ := dw.yld _ _ _ (p.ext.rk ok0) p.ok i xs[i] x H' (by simp [hlt]) y
    simp only [lc2L] at h
    cases e1 : tg xs[i] (wipeD δ0 vs) with
    | none => rw [e1] at h; exact h.elim
    | some δ1 =>
      rw [e1] at h
      dsimp only at h
      replace h := wpo_bnd.mp h
      have p01 := p.trans p1
      refine ⟨g1, c, wipeD δ0 vs, xs[i], δ1, p1.ok, er0'.mono ok0 p01.ext, r1, e1, fun σ1 er1 w1 own1 => ⟨by rw [w1]; exact wipe_wipe, ?_⟩⟩
      obtain ⟨d1, d2, d3⟩ := hid_stays p1 eD nF nA
      refine useT p1.ok er1 h (fun b c2 h2 g2 H2 p2 => ?_) fun _ _ _ z => z.elim
      obtain ⟨d4, d5, d6⟩ := hid_stays p2 d1 d2 d3
      have p02 := p01.trans p2
      cases b with
      | false =>
        rw [if_neg (by simp)] at h2 ⊢
        exact ⟨hlt, g2, c2, accD, accV, p02, d4, d5, d6, Reps.mono p.ok (p1.trans p2).ext ra, h2⟩
      | true =>
        rw [if_pos rfl] at h2 ⊢
        replace h2 := wpo_bnd.mp h2
        have er2 := er1.mono p1.ok p2.ext
        refine ⟨g2, c2, δ1, p2.ok, er2, wpo_mono h2 (fun ys c3 h3 g3 H3 J1 p3 dw1 => ?_) fun _ _ _ z => z.elim⟩
        obtain ⟨d7, d8, d9⟩ := hid_stays p3 d4 d5 d6
        have p03 := p02.trans p3
        have ra3 := Reps.mono p.ok ((p1.trans p2).trans p3).ext ra
        replace h3 := wpo_bnd.mp h3
        refine lcI_ok ok0 p03 hD d7 d8 d9 ra3 dw1 (er2.mono p2.ok p3.ext) (fun z => no0 (own1 _ z)) (R := fun zs c4 => wpo (lc2L tg tt mi1 vs1 tg1 tt1 te (wipeD δ0 vs) (xs.drop (i + 1)) c4) (fun ws c5 => P (zs ++ ws) c5) (fun _ _ _ => False)) ?_ (fun zs c4 h4 => ?_) fun zs c4 h4 g4 H4 ws p4 _ e4 nF4 nA4 ra4 => ⟨hlt, g4, c4, zs, ws, p4, e4, nF4, nA4, ra4, h4⟩
        · refine wpo_mono h3 (fun zs c4 h4 => ?_) fun _ _ _ z => z
          replace h4 := wpo_bnd.mp h4
          refine wpo_mono h4 (fun ws c5 h5 => ?_) fun _ _ _ z => z
          rw [List.append_assoc]
          exact h5
        · cases e5 : lc2L tg tt mi1 vs1 tg1 tt1 te (wipeD δ0 vs) (xs.drop (i + 1)) c4 with
          | ok ws c5 =>
            rw [e5] at h4
            have := hsz _ _ h4
            rw [List.length_append] at this
            omega
          | exc C xs c4 => rw [e5] at h4; exact h4.elim
          | bad => rw [e5] at h4; exact h4.elim
  · have e : i = xs.length := by omega
    subst e
    simp only [List.drop_length, lc2L] at h
    have h' : P (accD ++ []) c := h
    rw [List.append_nil] at h'
    exact .inl ⟨dw.stop _ _ _ (p.ext.rk ok0) p.ok, hQ accD c h' g H accV p eD nF nA (hsz _ _ h') ra⟩
end
section
variable {X : Cx} {CE : CEnv} {W : WX} {elt tg iter tg1 iter1 : Expr} {ifs ifs1 : List Expr} {scope : Scope} {own : List (PySem.Str × Nat)} {vs1 : List Nat} {pos : Pos} {mi mi1 : Ev' → M (List D)} {t t1 : D → Ev' → Option Ev'} {tt tt1 : TM} {te : EM}
theorem lc2_use {K : PySem.W.Frag} {σ : L2.St} {H : Hp} {Q : VK} {vs vs1 : List Nat} {g : Gh} {c : Cells} {δ : Ev'} (ok : SOk CE K g H c) (er : EnvR CE K g H σ δ)
    (h : wpo (lc2E mi vs t tt mi1 vs1 t1 tt1 te δ c) (fun d c' => ∀ g' H' v, Post CE K g H c g' H' c' → Rep CE K g' H' d v → Q v H') (EK CE K W g H c σ)) : tLc2 (tI CE K W mi) (gD CE K vs t) (tDT CE K W0 tt) (tI CE K W0 mi1) (gD CE K vs1 t1) (tDT CE K W0 tt1) (tD CE K W0 te) vs vs1 σ H Q := by
  replace h := wpo_bnd.mp h
  refine ⟨g, c, δ, ok, er, wpo_mono h (fun xs c1 h g1 H1 J p1 dw => ?_) fun _ _ _ z => z⟩
  intro D0 hD
  replace h := wpo_bnd.mp (wpo_quiet h)
  have h2 : wpo (lc2L t tt mi1 vs1 t1 tt1 te (wipeD δ vs) xs c1) (fun ys c2 => ys.length ≤ sizeLine ∧ ∀ g' H' v, Post CE K g H c g' H' c2 → Rep CE K g' H' (.lst ys) v → Q v H') (fun _ _ _ => False) := wpo_mono h (fun ys c2 q => by
    split at q
    · rename_i hz
      exact ⟨hz, q⟩
    · exact q.elim) fun _ _ _ z => z
  refine lc2_ok p1.ok dw (er.mono ok p1.ext) hD h2 (fun _ _ q => q.1) fun ys c2 q g2 H2 ws p2 eD nF nA hz r => ?_
  have q := q.2
  have P := Post.frz p2 hD eD nA
  refine q _ _ _ (p1.trans P) ?_
  simp only [Rep]
  exact ⟨D0, ws, rfl, .inr rfl, eD, hz, Reps.rk RK.cold r⟩
theorem pd_lc2 (vs1 : List Nat) (hc : X.calm = true) (hN : X.N.Nodup) (hi : PID X CE W tg iter mi) (ok : BlkOk X.N X.env.scope scope own) (hv : ∀ i ∈ vs1, i ∈ own.map (·.2))
    (hg : ∀ (s : Shared) (H : Hp) (C : Addr) (cl : List (PySem.Str × Addr)) (fp : List Addr), PGD (X.blk s H scope (compEnvC scope cl C X.env) fp) CE (own.map (·.2)) tg t) (ht : ∀ (s : Shared) (H : Hp) (C : Addr) (cl : List (PySem.Str × Addr)) (fp : List Addr), PDTs (X.blk s H scope (compEnvC scope cl C X.env) fp) CE W0 ifs tt)
    (hi1 : ∀ (s : Shared) (H : Hp) (C : Addr) (cl : List (PySem.Str × Addr)) (fp : List Addr), PID (X.blk s H scope (compEnvC scope cl C X.env) fp) CE W0 tg1 iter1 mi1)
    (hg1 : ∀ (s : Shared) (H : Hp) (C : Addr) (cl : List (PySem.Str × Addr)) (fp : List Addr), PGD (X.blk s H scope (compEnvC scope cl C X.env) fp) CE vs1 tg1 t1) (ht1 : ∀ (s : Shared) (H : Hp) (C : Addr) (cl : List (PySem.Str × Addr)) (fp : List Addr), PDTs (X.blk s H scope (compEnvC scope cl C X.env) fp) CE W0 ifs1 tt1)
    (he : ∀ (s : Shared) (H : Hp) (C : Addr) (cl : List (PySem.Str × Addr)) (fp : List Addr), PD (X.blk s H scope (compEnvC scope cl C X.env) fp) CE W0 elt te) (hs : ∀ x, foldedSetIterable iter X.env x = pure x := by intro _; rfl) (hs1 : ∀ env x, foldedSetIterable iter1 env x = pure x := by intro _ _; rfl) :
    PD X CE W (.ListComp elt [⟨tg, iter, ifs, 0⟩, ⟨tg1, iter1, ifs1, 0⟩] scope pos) (lc2E mi (own.map (·.2)) t tt mi1 vs1 t1 tt1 te) :=
  (pe_lc2 (own := own) (vs1 := vs1) (wi1 := tI CE X.K W0 mi1) (g := gD CE X.K (List.map (fun q : PySem.Str × Nat => q.2) own) t) (g1 := gD CE X.K vs1 t1) (tt := tDT CE X.K W0 tt) (tt1 := tDT CE X.K W0 tt1) (te := tD CE X.K W0 te) hc hN hi ok hv hg ht hi1 hg1 ht1 he hs hs1).wk fun σ H Q ⟨g, c, δ, ok, er, h⟩ => lc2_use ok er h
theorem sd_setLc2 {i : Nat} {y : PySem.Str} {py spos : Pos} (vs1 : List Nat) (hc : X.calm = true) (hN : X.N.Nodup) (hy : X.N[i]? = some y) (hyl : X.env.scope.names.lookup y = some .local)
    (hsw : swapsWith (.ListComp elt [⟨tg, iter, ifs, 0⟩, ⟨tg1, iter1, ifs1, 0⟩] scope pos) (some (.Name y py)) spos.line X.env = pure true) (hi : PID X CE W tg iter mi) (ok : BlkOk X.N X.env.scope scope own) (hv : ∀ i ∈ vs1, i ∈ own.map (·.2))
    (hg : ∀ (s : Shared) (H : Hp) (C : Addr) (cl : List (PySem.Str × Addr)) (fp : List Addr), PGD (X.blk s H scope (compEnvC scope cl C X.env) fp) CE (own.map (·.2)) tg t) (ht : ∀ (s : Shared) (H : Hp) (C : Addr) (cl : List (PySem.Str × Addr)) (fp : List Addr), PDTs (X.blk s H scope (compEnvC scope cl C X.env) fp) CE W0 ifs tt)
    (hi1 : ∀ (s : Shared) (H : Hp) (C : Addr) (cl : List (PySem.Str × Addr)) (fp : List Addr), PID (X.blk s H scope (compEnvC scope cl C X.env) fp) CE W0 tg1 iter1 mi1)
    (hg1 : ∀ (s : Shared) (H : Hp) (C : Addr) (cl : List (PySem.Str × Addr)) (fp : List Addr), PGD (X.blk s H scope (compEnvC scope cl C X.env) fp) CE vs1 tg1 t1) (ht1 : ∀ (s : Shared) (H : Hp) (C : Addr) (cl : List (PySem.Str × Addr)) (fp : List Addr), PDTs (X.blk s H scope (compEnvC scope cl C X.env) fp) CE W0 ifs1 tt1)
    (he : ∀ (s : Shared) (H : Hp) (C : Addr) (cl : List (PySem.Str × Addr)) (fp : List Addr), PD (X.blk s H scope (compEnvC scope cl C X.env) fp) CE W0 elt te) (hs : ∀ x, foldedSetIterable iter X.env x = pure x := by intro _; rfl) (hs1 : ∀ env x, foldedSetIterable iter1 env x = pure x := by intro _ _; rfl) :
    SD X CE W (.Assign [.Name y py] (.ListComp elt [⟨tg, iter, ifs, 0⟩, ⟨tg1, iter1, ifs1, 0⟩] scope pos) spos) (setS i (lc2E mi (own.map (·.2)) t tt mi1 vs1 t1 tt1 te)) :=
  (ps_setLc2 (own := own) (vs1 := vs1) (wi1 := tI CE X.K W0 mi1) (g := gD CE X.K (List.map (fun q : PySem.Str × Nat => q.2) own) t) (g1 := gD CE X.K vs1 t1) (tt := tDT CE X.K W0 tt) (tt1 := tDT CE X.K W0 tt1) (te := tD CE X.K W0 te) hc hN hy hyl hsw hi ok hv hg ht hi1 hg1 ht1 he hs hs1).wk fun D σ H ⟨g, c, δ, ok, er, h⟩ => by
    have k : tLc2 (tI CE X.K W mi) (gD CE X.K (own.map (·.2)) t) (tDT CE X.K W0 tt) (tI CE X.K W0 mi1) (gD CE X.K vs1 t1) (tDT CE X.K W0 tt1) (tD CE X.K W0 te) (own.map (·.2)) vs1 σ H (fun x H1 => gName i x σ H1 D.nx) := by
      refine lc2_use (W := W) ok er ?_
      unfold setS at h
      cases e : lc2E mi (own.map (·.2)) t tt mi1 vs1 t1 tt1 te δ c with
      | ok d c1 => rw [e] at h; exact fun g' H' v p r => h g' H' _ (XS.set (XS.of ok er p) r)
      | exc C xs c1 => rw [e] at h; exact fun g' H' dx p x => h g' H' σ dx (XS.of ok er p) x
      | bad => rw [e] at h; exact h
    exact k
end
end DL

namespace DL
open PySem PySem.Spec PyProof.Rows L2

def Res.free (r : Res) (i : Nat) : Res := match r with
  | .nx δ c => .nx (δ.set i .un) c
  | .bk δ c => .bk (δ.set i .un) c
  | .ct δ c => .ct (δ.set i .un) c
  | .rt d c => .rt d c
  | _ => .bad
open Classical in
noncomputable def tryAsS (tab : List (Nat × Bool)) (i : Nat) (body : SM) (suite : Addr → Option Addr → Nat → SM) : SM := fun δ c => match body δ c with
  | .exc C xs δ' c' => match tab.lookup C with
    | some true => if ∀ a d, (suite a d C (δ'.set i (.sh (.exn a d C xs))) c').free i = (suite 0 none C (δ'.set i (.sh (.exn 0 none C xs))) c').free i then (suite 0 none C (δ'.set i (.sh (.exn 0 none C xs))) c').free i else .bad
    | some false => .exc C xs δ' c'
    | none => .bad
  | r => r
section
variable {X : Cx} {CE : CEnv} {W : WX} {x n : PySem.Str} {v : Value} {i : Nat} {body suite : List Stmt} {b₀ : Stmt} {np pos pos' : Pos} {mb : SM} {ms : Addr → Option Addr → Nat → SM} {tab : List (Nat × Bool)}
/-- what the handler is asked -/
def tsAs (CE : CEnv) (K : PySem.W.Frag) (ms : Addr → Option Addr → Nat → SM) (a : Addr) (cls : Value) (d : Option Addr) : TS := fun D σ H => ∃ C, cls = .ref (CE C).1 ∧ tSD CE K W0 (ms a d C) D σ H
theorem sd_tryAs (hs : X.stack = X.env :: X.outer) (hf : X.env.frame = some X.env.locals) (hN : X.N.Nodup) (hi : X.N[i]? = some n) (hln : X.env.kindOf n = some .local) (hc : Names X x v) (T : ExT X.K CE tab v) (tk : Takes X W)
    (hb : ∀ (W' : WX) (pn : List (Addr × Obj)) (xe : Value → Shared → Prop), Takes (X.tr pn xe) W' → PassesOwn (model X.prog X.w) X.A X.env xe → SDs (X.tr pn xe) CE W' body mb)
    (hsu : ∀ (C : Nat) (a : Addr) (oe : Obj) (d : Option Addr) (pn : List (Addr × Obj)), Zc (.ref (CE C).1) d oe → (∃ vs, oe.data = .fields vs) → SDs (X.suite a ((a, oe) :: pn)) CE W0 (b₀ :: suite) (ms a d C)) :
    SD X CE W (.Try body [.ExceptHandler (some (.Name x np)) (some n) (b₀ :: suite) pos'] [] [] pos) (tryAsS tab i mb ms) :=
  (ps_try_as (tb := fun W' => tSD CE X.K W' mb) (ts := tsAs CE X.K ms) hs hf hN hi hln hc tk hb fun a oe cls d pn hz hv => ⟨fun pins s σ H D I ⟨C, e, q⟩ => by
    subst e
    exact (hsu C a oe d pn hz hv).run pins s σ H D I q⟩).wk fun D σ H ⟨g, c, δ, ok, er, h⟩ => by
    refine ⟨g, c, δ, ok, er, ?_⟩
    unfold tryAsS at h
    cases e : mb δ c with
    | nx δ' c' => rw [e] at h; exact h
    | rt d c' => rw [e] at h; exact h
    | bk δ' c' => rw [e] at h; exact h
    | ct δ' c' => rw [e] at h; exact h
    | bad => rw [e] at h; exact h
    | exc C' xs δ' c' =>
      rw [e] at h
      dsimp only at h
      intro g' H' σ' dx X' ea
      cases et : tab.lookup C' with
      | none => rw [et] at h; exact h.elim
      | some b =>
        rw [et] at h
        refine ⟨b, T C' b et, fun hb a ha => ?_, fun hb => ?_⟩
        · subst hb
          dsimp only at h
          split at h
          · rename_i hall
            rw [← hall a dx] at h
            have re : Rep CE X.K g' H' (.exn a dx C' xs) (.ref a) := by
              simp only [Rep]
              cases dx with
              | none => exact ⟨trivial, [], .inl ⟨rfl, ea.2⟩, by rw [ea.2]; exact Reps.nil⟩
              | some d =>
                obtain ⟨_, hF, vs, e1, l, r⟩ := ea
                exact ⟨trivial, vs, .inr ⟨d, rfl, hF, e1, l⟩, r⟩
            have X2 := XS.set (i := i) X' re
            refine ⟨C', rfl, g', c', δ'.set i (.sh (.exn a dx C' xs)), X2.ok, X2.er, ?_⟩
            have h2 := ks.back X' h
            have X3 := XS.set (i := i) (XS.of X'.ok X'.er (Post.refl X'.ok)) re
            have un : ∀ {g4 H4 c4 σ4 δ4}, XS CE X.K g' H' c' (σ'.set i (some (.ref a))) (δ'.set i (.sh (.exn a dx C' xs))) g4 H4 c4 σ4 δ4 → XS CE X.K g' H' c' σ' δ' g4 H4 c4 (σ4.set i none) (δ4.set i .un) := fun x => by
              have y := X3.trans x
              exact ⟨y.x, y.ok, y.er.unset, fun b hb => y.sub b (own_wipe (vs := [i]) hb)⟩
            cases em : ms a dx C' (δ'.set i (.sh (.exn a dx C' xs))) c' with
            | nx δ2 c2 => rw [em] at h2; exact fun g4 H4 σ4 x => h2 g4 H4 _ (un x)
            | rt d2 c2 => rw [em] at h2; exact fun g4 H4 v4 x r => h2 g4 H4 v4 (X3.ret x) r
            | bk δ2 c2 => rw [em] at h2; exact fun g4 H4 σ4 x => h2 g4 H4 _ (un x)
            | ct δ2 c2 => rw [em] at h2; exact fun g4 H4 σ4 x => h2 g4 H4 _ (un x)
            | exc C2 ys δ2 c2 => rw [em] at h2; exact h2.elim
            | bad => rw [em] at h2; exact h2.elim
          · exact h.elim
        · subst hb
          exact h g' H' σ' dx X' ea
end
end DL

namespace DL
open PySem PySem.Spec PyProof.Rows L2

inductive EKey where
  | c (C : Nat) | t (n : String)
  deriving DecidableEq
def keyD : D → Option (EKey)
  | .cls C => some (.c C)
  | .ty n => some (.t n)
  | _ => none
def isEF (a : Addr) (d0 : Option Addr) (C : Nat) (tab : List ((EKey) × Bool)) (ds : List D) (_ : Cells) : Option D := match ds with
  | [.exn a' dx C' _, y] => if a' = a ∧ C' = C ∧ d0 = none then (match keyD y with
    | some k => (tab.lookup k).map .bl
    | none => none) else none
  | _ => none
def keyV (CE : CEnv) : EKey → Value
  | .c C => .ref (CE C).1
  | .t n => .type n
theorem keyD_rep {CE : CEnv} {K : PySem.W.Frag} {g : Gh} {H : Hp} {y : D} {k : EKey} {v : V} (e : keyD y = some k) (r : Rep CE K g H y v) : ∀ u, RelV v u → u = keyV CE k := by
  cases y <;> simp only [keyD, Option.some.injEq, reduceCtorEq] at e
  · subst e
    simp only [Rep] at r
    subst r
    exact fun u h => h
  · subst e
    simp only [Rep] at r
    subst r
    exact fun u h => h
theorem cd_isE {X : Cx} {CE : CEnv} {a : Addr} {C : Nat} {oe : Obj} {d : Option Addr} {pn : List (Addr × Obj)} {tab : List ((EKey) × Bool)} (hz : Zc (.ref (CE C).1) d oe) (hf : ∃ vs, oe.data = .fields vs) (T : ExcC X.K (CE C).1)
    (ht : ∀ k b, tab.lookup k = some b → PySem.W.kitOne X.K (.ref (CE C).1) (keyV CE k) = some b) :
    CallR (X.suite a ((a, oe) :: pn)) (.builtin "isinstance") (rDA CE X.K (isEF a d C tab)) := by
  intro pins s σ H xs us Q I r ⟨g, c, ds, z, ok, r1, ez, q⟩
  unfold isEF at ez
  split at ez
  · rename_i a' dx C' ys y
    split at ez
    · rename_i h
      obtain ⟨rfl, rfl, rfl⟩ := h
      cases ek : keyD y with
      | none => rw [ek] at ez; cases ez
      | some k =>
        rw [ek] at ez
        obtain ⟨b, eb, rfl⟩ := Option.map_eq_some_iff.mp ez
        obtain ⟨v, u, rfl, h1, h2⟩ := reps2 r1
        simp only [Rep] at h1
        obtain ⟨rfl, _⟩ := h1
        exact call_isE T hz hf pins s σ H _ us Q I r ⟨u, keyV CE k, b, rfl, keyD_rep ek h2, ht k b eb, q g H _ (Post.refl ok) rep_bl⟩
    · cases ez
  · cases ez
end DL

namespace DLH
open PySem PySem.Spec PyProof.Rows L2 DL

abbrev Fr := PySem.W.Frag
abbrev Tst := Fr → Bool
abbrev Seen := Bool × List He.FnW
def look (fs : List Tst) (fn : List He.DefD) (K : Fr) : Seen := ((fs.all fun f => f K) && fn.all fun d => d.ok K, fn.map fun d => He.fnW K d.at_)
def Says (fs : List Tst) (fn : List He.DefD) (K : Fr) : Prop := look fs fn K = He.valD fn
def allOf (g : Addr → Option Obj) (n : Nat) : Fr := He.frG g (List.range n)
def hook (fs : List Tst) (fn : List He.DefD) : PySem.W.Hook where
  α := Seen
  obs := fun s => look fs fn (allOf s.heap.get? s.heap.objs.size)
  val := fun _ => He.valD fn
  says := fun _ h => ∃ K : Fr, K.In h ∧ Says fs fn K
  of := fun _ _ e => ⟨_, He.frG_in, e⟩
  keeps := fun _ _ _ ⟨K, hK, c⟩ k => ⟨K, PySem.W.Frag.In.keeps hK k, c⟩
def ob (fs : List Tst) (fn : List He.DefD) (s : PySem.W.SharedT) : Seen := look fs fn (allOf (HandSHeadRun.getT s) s.n)
theorem ob_eq {fs : List Tst} {fn : List He.DefD} (s : PySem.W.SharedT) : ob fs fn s = (hook fs fn).obs s.abs := by
  have e : HandSHeadRun.getT s = s.abs.heap.get? := funext fun a => HandSHeadRun.getT_eq s a
  have en : s.abs.heap.objs.size = s.n := PySem.W.absHeap_size _ _ _
  show look fs fn (allOf (HandSHeadRun.getT s) s.n) = look fs fn (allOf s.abs.heap.get? s.abs.heap.objs.size)
  rw [e, en]
section
variable {fs : List Tst} {fn : List He.DefD} {K : Fr}
theorem Says.fact (c : Says fs fn K) (i : Nat) {f : Tst} (h : fs[i]? = some f) : f K = true := by
  have c1 := (He.ba (show ((fs.all fun f => f K) && fn.all fun d => d.ok K) = true from congrArg (fun z : Seen => z.1) c)).1
  exact List.all_eq_true.mp c1 f (List.mem_of_getElem? h)
theorem Says.def_ (c : Says fs fn K) (i : Nat) {d : He.DefD} (h : fn[i]? = some d) : ∃ fd, FunD K d.name d.qual d.params d.body d.scope (d.dvs K) (d.kws K) (He.fAd K d.at_) fd := by
  have c2 := (He.ba (show ((fs.all fun f => f K) && fn.all fun d => d.ok K) = true from congrArg (fun z : Seen => z.1) c)).2
  have e : fn.map (fun d => He.fnW K d.at_) = fn.map He.DefD.val := congrArg (fun z : Seen => z.2) c
  have e2 : (fn.map fun d => He.fnW K d.at_)[i]? = (fn.map He.DefD.val)[i]? := by rw [e]
  rw [List.getElem?_map, List.getElem?_map, h] at e2
  exact He.DefD.funD (Option.some.inj e2) (List.all_eq_true.mp c2 d (List.mem_of_getElem? h))
end
/-- a def of the text without defaults -/
def defOf (p : PySem.Str × Option PySem.Str) (x q : PySem.Str) (st : Stmt) : He.DefD := ⟨p, x, q, defArgs st, defBody st, defScope st, [], []⟩
theorem fun_of {K : Fr} {p : PySem.Str × Option PySem.Str} {x q : PySem.Str} {st : Stmt} {f : Addr} {fd : FuncData} (F : FunD K (defOf p x q st).name (defOf p x q st).qual (defOf p x q st).params (defOf p x q st).body (defOf p x q st).scope ((defOf p x q st).dvs K) ((defOf p x q st).kws K) f fd) : Fun K x q st f fd := by
  obtain ⟨oc, od, dV, kV, doc, pm, an, cdv, ct, osl, e, lk, hcd, hD, _⟩ := F.ex
  rcases hD with ⟨_, rfl⟩ | ⟨e, _⟩
  · exact ⟨⟨oc, od, kV, doc, pm, an, cdv, ct, osl, e, lk, hcd⟩, F.kp⟩
  · exact absurd rfl e
mutual
def kcB (K : Fr) : D → Value → Bool
  | .non, .none => true
  | .bl b, .bool c => b == c
  | .int i, .int j _ => decide (j = i)
  | .str x, .str y _ => decide (y = x)
  | .tup ds, .ref a => match K.lookup a with
    | some ⟨.type c, _, .seq its _, _⟩ => decide (c = "tuple") && (decide (its.toList.length ≤ sizeLine) && kcsB K ds its.toList)
    | _ => false
  | .rol ds, .ref a => match K.lookup a with
    | some ⟨.type c, none, .seq its _, _⟩ => decide (c = "list") && (decide (its.toList.length ≤ sizeLine) && kcsB K ds its.toList)
    | _ => false
  | _, _ => false
def kcsB (K : Fr) : List D → List Value → Bool
  | [], us => us.isEmpty
  | d :: ds, us => match us with
    | u :: r => kcB K d u && kcsB K ds r
    | [] => false
end
mutual
theorem kcB_ok {K : Fr} : ∀ (d : D) (u : Value), kcB K d u = true → KC K d u
  | .non, u, h => by
    cases u <;> first | (simp [kcB] at h; done) | simp only [KC]
  | .bl b, u, h => by
    cases u <;> simp [kcB] at h
    subst h
    simp only [KC]
  | .int i, u, h => by
    cases u <;> simp [kcB] at h
    subst h
    simp only [KC]
    exact ⟨_, rfl⟩
  | .str i, u, h => by
    cases u <;> simp [kcB] at h
    subst h
    simp only [KC]
    exact ⟨_, rfl⟩
  | .tup ds, u, h => by
    cases u <;> try (simp [kcB] at h; done)
    rename_i a
    unfold kcB at h
    split at h
    · rename_i c dx its n sl e
      simp only [Bool.and_eq_true, decide_eq_true_eq] at h
      obtain ⟨rfl, h2, h3⟩ := h
      simp only [KC]
      exact ⟨a, _, its.toList, n, rfl, e, rfl, rfl, h2, kcsB_ok ds _ h3⟩
    · cases h
  | .rol ds, u, h => by
    cases u <;> try (simp [kcB] at h; done)
    rename_i a
    unfold kcB at h
    split at h
    · rename_i c its n sl e
      simp only [Bool.and_eq_true, decide_eq_true_eq] at h
      obtain ⟨rfl, h2, h3⟩ := h
      simp only [KC]
      exact ⟨a, _, its.toList, n, rfl, e, rfl, rfl, rfl, h2, kcsB_ok ds _ h3⟩
    · cases h
  | .lst _, u, h => by cases u <;> simp [kcB] at h
  | .ins _ _, u, h => by cases u <;> simp [kcB] at h
  | .cell _, u, h => by cases u <;> simp [kcB] at h
  | .cls _, u, h => by cases u <;> simp [kcB] at h
  | .ty _, u, h => by cases u <;> simp [kcB] at h
  | .exn _ _ _ _, u, h => by cases u <;> simp [kcB] at h
theorem kcsB_ok {K : Fr} : ∀ (ds : List D) (us : List Value), kcsB K ds us = true → KCs K ds us
  | [], us, h => by
    simp only [KCs]
    unfold kcsB at h
    exact List.isEmpty_iff.mp h
  | d :: ds, us, h => by
    unfold kcsB at h
    cases us with
    | nil => cases h
    | cons u r =>
      simp only [Bool.and_eq_true] at h
      simp only [KCs]
      exact ⟨u, r, rfl, kcB_ok d u h.1, kcsB_ok ds r h.2⟩
end
def conB (x : PySem.Str) (d : D) : Tst := fun K => match PySem.W.nsIn K mainGlobals x with
  | some (some u) => kcB K d u
  | _ => false
section
variable {K : Fr} {h : Heap} {mg : PySem.Str → Option Value}
theorem con_ok (X : K.In h) (G : h.Ns mainGlobals mg) {x : PySem.Str} {d : D} (c : conB x d K = true) : Con K mg x d := by
  unfold conB at c
  split at c
  · rename_i u e
    exact ⟨u, PySem.W.mg_of X G e, kcB_ok d u c⟩
  · cases c
theorem glo_ok (X : K.In h) (G : h.Ns mainGlobals mg) {x : PySem.Str} (c : (He.Fa.glo x).ok K = true) : mg x = some (.ref (He.ga K x)) := He.glo_ok X G c
theorem free_ok (X : K.In h) (G : h.Ns mainGlobals mg) {x : PySem.Str} (c : decide (PySem.W.nsIn K mainGlobals x = some none) = true) : mg x = none := PySem.W.mg_none_of X G (of_decide_eq_true c)
end
/-- the law's end -/
theorem law_walkH {l : PySem.W.OpenLaw} {q : Program} {loose : List PySem.Str} {XP : (PySem.Str → Option Value) → Heap → Prop} {fs : List Tst} {fn : List He.DefD} {d : DefRec} (k : Nat) (hn : l.most = some 63) (hdf : d.params.defaults = []) (hr : Room k callerA)
    (F : ∀ (w : World) (K : Fr) (mg : PySem.Str → Option Value) (fa : Addr) (h : Heap), K.In h → Says fs fn K → h.Ns mainGlobals mg → mg d.name = some (.ref fa) →
      ∃ fd : FuncData, (∀ (s : Shared) (u : Value), BindsTo s fd ⟨[u], []⟩ [("script", u)]) ∧ ∀ base : Heap, K.In base → base.Ns mainGlobals mg → FnOk l.prog w K mg base (L2.CX l.prog w) k fa fd ["script"] (spLaw K)) :
    PySem.W.WalkO q loose XP (hook fs fn).says l.row.toRowW d [] (fun f vs => PySem.call f vs) := by
  refine Att.attach_call hn hdf fun w s₀ s₁ mg mb fa o pm cd doc a vs ns G Y ho hd hcd hmg hobj hints hlen hg => ?_
  obtain ⟨K, KX, c⟩ := Y
  obtain ⟨fd, hb, hF⟩ := F w K mg fa _ KX c G.T.g hmg
  exact law_call KX G.T.g G.T.b G.T.builtins G.T.nolimit hg hobj hints (Nat.le_trans hlen (by decide)) hr hF hb (fun H hO hS => ⟨a, ns, rfl, hlen, hO, hS, fun _ => rfl⟩) fun H e s' ⟨_, _, _, _, _, _, _, _, _, _, _, _, z⟩ => z
end DLH

namespace DL
open PySem PySem.Spec PyProof.Rows L2

section
variable {CE : CEnv} {K : PySem.W.Frag} {g g' : Gh} {H H' : Hp} {c c' : Cells} {σ σ' : L2.St} {δ δ' : Ev'}
theorem set_un_get {i j : Nat} {s : Slot} (h : (δ.set i .un)[j]? = some s) : s = .un ∨ δ[j]? = some s := by
  by_cases hj : j = i
  · subst hj
    have hl : j < δ.length := by
      have := (List.getElem?_eq_some_iff.mp h).1
      simpa using this
    rw [List.getElem?_set_self hl] at h
    cases h
    exact .inl rfl
  · rw [List.getElem?_set_ne (Ne.symm hj)] at h
    exact .inr h
theorem EnvR.weak1 (er : EnvR CE K g H σ δ) (i : Nat) : EnvR CE K g H σ (δ.set i .un) where
  len := by simpa using er.len
  sh := fun j e h => by
    rcases set_un_get h with h | h
    · cases h
    · exact er.sh j e h
  own := fun j t o h ho => by
    rcases set_un_get h with h | h
    · subst h; cases ho
    · obtain ⟨a, e1, n1, n2, n3, n4, n5⟩ := er.own j t o h ho
      refine ⟨a, e1, n1, n2, n3, n4, fun k t' o' h1 h1' h2 => ?_⟩
      rcases set_un_get h1 with h1 | h1
      · subst h1; cases h1'
      · exact n5 k t' o' h1 h1' h2
  slf := fun j a C xs h => by
    rcases set_un_get h with h | h
    · cases h
    · exact er.slf j a C xs h
theorem EnvR.weak (er : EnvR CE K g H σ δ) : ∀ js : List Nat, EnvR CE K g H σ (wipeD δ js)
  | [] => er
  | j :: js => (EnvR.weak er js).weak1 j
theorem Own.weak {a : Addr} : ∀ {js : List Nat}, Own σ (wipeD δ js) a → Own σ δ a
  | [], h => h
  | j :: js, ⟨i, t, o, h1, h2, h3⟩ => by
    rcases set_un_get h1 with h1 | h1
    · subst h1; cases h2
    · exact Own.weak (js := js) ⟨i, t, o, h1, h2, h3⟩
theorem XS.weak (x : XS CE K g H c σ δ g' H' c' σ' δ') (js : List Nat) : XS CE K g H c σ δ g' H' c' σ' (wipeD δ' js) :=
  ⟨x.x, x.ok, x.er.weak js, fun a h => x.sub a (Own.weak h)⟩
end
def endW (js : List Nat) (b : SM) : SM := fun δ c => match b δ c with
  | .nx δ c => .nx (wipeD δ js) c
  | .ct δ c => .nx (wipeD δ js) c
  | .bk δ c => .bk (wipeD δ js) c
  | r => r
def loopW (js : List Nat) (tg : D → Ev' → Option Ev') (b : SM) : D → Ev' → Cells → Res := fun x δ c => match tg x δ with
  | none => .bad
  | some δ1 => endW js b δ1 c
def forX (js : List Nat) (mi : Ev' → M (List D)) (lp : List D → Ev' → Cells → Res) : SM := fun δ c => (mi δ c).thenS δ fun xs c => lp xs (wipeD δ js) c
def whileX (js : List Nat) (lp : Ev' → Cells → Res) : SM := fun δ c => lp (wipeD δ js) c
section
variable {X : Cx} {CE : CEnv} {W : WX} {pos : Pos} {tg iter e : Expr} {body : List Stmt} {mi : Ev' → M (List D)} {t : D → Ev' → Option Ev'} {tm : TM} {b : SM} {js ks' : List Nat}
/-- the loop's body is a block whose ends are forgotten: a continue counts as the end -/
theorem for_okW {K : PySem.W.Frag} {J : It} {D : Ends} {g0 : Gh} {H0 : Hp} {c0 : Cells} {xs : List DL.D} (ok0 : SOk CE K g0 H0 c0) {δ0 : Ev'} {σ0 : L2.St} (dw : DWalk CE K J xs g0 H0 c0) (er0 : EnvR CE K g0 H0 σ0 δ0) (h : wps (forL t (endW js b) xs δ0 c0) (ks CE K W D g0 H0 c0 σ0 δ0)) :
    ∃ Wv : Nat → Nat → L2.St → Hp → Prop, (∃ m, Wv 0 m σ0 H0) ∧ ∀ i m σ H, Wv i m σ H →
      (J.stop i H ∧ D.nx σ H) ∨ (J.go i H ∧ ∃ N : L2.St → Hp → Prop, (∀ σ' H', N σ' H' → ∃ m', m' < m ∧ Wv (i + 1) m' σ' H') ∧ ∀ x H', J.yld i H x H' → gD CE K ks' t x σ H' fun σ2 H2 => tSD CE K W b { D with nx := N, ct := N, bk := D.nx } σ2 H2) := by
  refine ⟨fun i m σ H => m = xs.length - i ∧ i ≤ xs.length ∧ ∃ g c δ, XS CE K g0 H0 c0 σ0 δ0 g H c σ δ ∧ wps (forL t (endW js b) (xs.drop i) δ c) (ks CE K W D g H c σ δ), ⟨xs.length, by simp, Nat.zero_le _, g0, c0, δ0, XS.of ok0 er0 (Post.refl ok0), by simpa using h⟩, ?_⟩
  rintro i m σ H ⟨rfl, hi, g, c, δ, p, h⟩
  have dw1 : DWalk CE K J xs g H c := dw.mono (p.x.rk ok0 fun _ z => (er0.ownF z).1)
  by_cases hlt : i < xs.length
  · refine .inr ⟨dw1.go _ _ _ RK.refl p.ok i hlt, fun σ H => i + 1 ≤ xs.length ∧ ∃ g c δ, XS CE K g0 H0 c0 σ0 δ0 g H c σ δ ∧ wps (forL t (endW js b) (xs.drop (i + 1)) δ c) (ks CE K W D g H c σ δ), fun σ' H' ⟨h1, h2⟩ => ⟨xs.length - (i + 1), by omega, rfl, h1, h2⟩, fun x H' y => ?_⟩
    obtain ⟨g1, p1, r1⟩ := dw1.yld _ _ _ RK.refl p.ok i xs[i] x H' (by simp [hlt]) y
    have hd : xs.drop i = xs[i] :: xs.drop (i + 1) := List.drop_eq_getElem_cons hlt
    rw [hd] at h
    simp only [forL] at h
    cases e1 : t xs[i] δ with
    | none => rw [e1] at h; exact h.elim
    | some δ1 =>
      rw [e1] at h
      dsimp only at h
      have x1 := XS.of p.ok p.er p1
      refine ⟨g1, c, δ, xs[i], δ1, p1.ok, x1.er, r1, e1, fun σ1 er1 _ o1 => ?_⟩
      have x2 : XS CE K g H c σ δ g1 H' c σ1 δ1 := ⟨x1.x, x1.ok, er1, fun a h => .inl (o1 a h)⟩
      replace h := ks.back x2 h
      have p2 := p.trans x2
      refine ⟨g1, c, δ1, p1.ok, er1, ?_⟩
      unfold endW at h
      cases e2 : b δ1 c with
      | nx δ2 c2 =>
        rw [e2] at h
        exact fun g' H' σ' x' => ⟨hlt, g', c2, _, p2.trans (x'.weak js), ks.back (x'.weak js) h⟩
      | ct δ2 c2 =>
        rw [e2] at h
        exact fun g' H' σ' x' => ⟨hlt, g', c2, _, p2.trans (x'.weak js), ks.back (x'.weak js) h⟩
      | bk δ2 c2 =>
        rw [e2] at h
        exact fun g' H' σ' x' => h g' H' σ' (x'.weak js)
      | rt d c2 => rw [e2] at h; exact h
      | exc C ys δ2 c2 => rw [e2] at h; exact h
      | bad => rw [e2] at h; exact h
  · have e : i = xs.length := by omega
    subst e
    simp only [List.drop_length, forL] at h
    exact .inl ⟨dw1.stop _ _ _ RK.refl p.ok, h g H σ (XS.of p.ok p.er (Post.refl p.ok))⟩
theorem sd_forW (hp : PassesOwn (model X.prog X.w) X.A X.env X.xe) (hc : X.calm = true) (hi : PID X CE W tg iter mi) (hg : PGD X CE ks' tg t) (hb : SDs X CE W body b) (hs : ∀ x, foldedSetIterable iter X.env x = pure x := by intro _; rfl) : SD X CE W (.For tg iter body [] pos) (forX js mi (forL t (endW js b))) :=
  (ps_for hp hc hi hg hb hs).wk fun D σ H ⟨g, c, δ, ok, er, h⟩ => by
    refine ⟨g, c, δ, ok, er, ?_⟩
    unfold forX at h
    cases e : mi δ c with
    | ok xs c' =>
      rw [e] at h
      intro g' H' J p dw
      have x := (XS.of ok er p).weak js
      exact for_okW p.ok dw ((er.mono ok p.ext).weak js) (ks.back x h)
    | exc C xs c' => rw [e] at h; exact fun g' H' dx p x => h g' H' σ dx (XS.of ok er p) x
    | bad => rw [e] at h; exact h
theorem sd_whileW (n : Nat) (hp : PassesOwn (model X.prog X.w) X.A X.env X.xe) (ht : PDT X CE W e tm) (hb : SDs X CE W body b) : SD X CE W (.While e body [] pos) (whileX js (whileL tm (endW js b) n)) :=
  (ps_while hp ht hb).wk fun D σ0 H0 ⟨g0, c0, δ0, ok0, er0, h⟩ => by
    have x0 := (XS.of ok0 er0 (Post.refl ok0)).weak js
    refine ⟨fun m σ H => ∃ g c δ, SOk CE X.K g H c ∧ EnvR CE X.K g H σ δ ∧ wps (whileL tm (endW js b) m δ c) (ks CE X.K W D g H c σ δ), ⟨n, g0, c0, _, ok0, er0.weak js, ks.back x0 h⟩, ?_⟩
    rintro m σ H ⟨g, c, δ, ok, er, h⟩
    cases m with
    | zero => exact h.elim
    | succ m =>
      simp only [whileL] at h
      refine useST ok er h fun k c1 h g1 H1 p1 => ?_
      have x1 := XS.of ok er p1
      cases k with
      | false =>
        rw [if_neg (by simp)] at h ⊢
        exact h g1 H1 σ x1
      | true =>
        rw [if_pos rfl] at h ⊢
        refine ⟨fun σ H => ∃ g c δ, SOk CE X.K g H c ∧ EnvR CE X.K g H σ δ ∧ wps (whileL tm (endW js b) m δ c) (ks CE X.K W D g H c σ δ), fun σ' H' w => ⟨m, Nat.lt_succ_self _, w⟩, g1, c1, δ, p1.ok, x1.er, ?_⟩
        replace h := ks.back x1 h
        unfold endW at h
        cases e2 : b δ c1 with
        | nx δ2 c2 =>
          rw [e2] at h
          exact fun g' H' σ' x' => ⟨g', c2, _, x'.ok, x'.er.weak js, ks.back (x'.weak js) h⟩
        | ct δ2 c2 =>
          rw [e2] at h
          exact fun g' H' σ' x' => ⟨g', c2, _, x'.ok, x'.er.weak js, ks.back (x'.weak js) h⟩
        | bk δ2 c2 =>
          rw [e2] at h
          exact fun g' H' σ' x' => h g' H' σ' (x'.weak js)
        | rt d c2 => rw [e2] at h; exact h
        | exc C ys δ2 c2 => rw [e2] at h; exact h
        | bad => rw [e2] at h; exact h
end
end DL

namespace DL
open PySem PySem.Spec PyProof.Rows L2

abbrev ExTab := List (Nat × List (EKey × Bool))
def isET (tab : ExTab) (a : Addr) (d0 : Option Addr) (C : Nat) (ds : List D) (_ : Cells) : Option D := match ds with
  | [.exn a' dx C' _, y] => if a' = a ∧ C' = C ∧ dx = d0 then (match tab.lookup C with
    | some row => (match keyD y with
      | some k => (row.lookup k).map .bl
      | none => none)
    | none => none) else none
  | _ => none
def ExRow (K : PySem.W.Frag) (CE : CEnv) (C : Nat) (row : List (EKey × Bool)) : Prop := ∀ k b, row.lookup k = some b → PySem.W.kitOne K (.ref (CE C).1) (keyV CE k) = some b
def ExTabOk (K : PySem.W.Frag) (CE : CEnv) (tab : ExTab) : Prop := ∀ C row, tab.lookup C = some row → ExcC K (CE C).1 ∧ ExRow K CE C row
section
variable {K : PySem.W.Frag} {CE : CEnv} {C : Nat}
theorem exRow_nil : ExRow K CE C [] := fun k b e => by simp at e
theorem exRow_cons {k : EKey} {b : Bool} {row : List (EKey × Bool)} (h : PySem.W.kitOne K (.ref (CE C).1) (keyV CE k) = some b) (t : ExRow K CE C row) : ExRow K CE C ((k, b) :: row) := fun k' b' e => by
  by_cases hk : k' = k
  · subst hk
    rw [List.lookup_cons_self] at e
    cases e
    exact h
  · have hb : (k' == k) = false := by simpa using hk
    rw [List.lookup_cons, hb] at e
    exact t k' b' e
theorem exTab_nil : ExTabOk K CE [] := fun C row e => by simp at e
theorem exTab_cons {row : List (EKey × Bool)} {tab : ExTab} (h : ExcC K (CE C).1) (h2 : ExRow K CE C row) (t : ExTabOk K CE tab) : ExTabOk K CE ((C, row) :: tab) := fun C' row' e => by
  by_cases hk : C' = C
  · subst hk
    rw [List.lookup_cons_self] at e
    cases e
    exact ⟨h, h2⟩
  · have hb : (C' == C) = false := by simpa using hk
    rw [List.lookup_cons, hb] at e
    exact t C' row' e
end
/-- what holds of the handled exception's object in a state -/
theorem exn_inst {X : Cx} {CE : CEnv} {a : Addr} {C : Nat} {oe : Obj} {d : Option Addr} {g : Gh} {H : Hp} {s : Shared} {ys : List D} {v : V} (ok : HOk X.prog X.w H s.heap) (hget : s.heap.get? a = some oe) (hz : Zc (.ref (CE C).1) d oe) (hf : ∃ vs, oe.data = .fields vs)
    (r : Rep CE X.K g H (.exn a d C ys) v) : ∃ od, PySem.W.InstAt s.heap a oe (CE C).1 od := by
  obtain ⟨vs, hv⟩ := hf
  obtain ⟨oc, odd, oda, osl⟩ := oe
  obtain ⟨h1, h2⟩ := hz
  dsimp only at h1 h2 hv
  subst h1 h2 hv
  simp only [Rep] at r
  obtain ⟨_, us, q, _⟩ := r
  rcases q with ⟨rfl, _⟩ | ⟨dd, rfl, _, e, _⟩
  · exact ⟨none, hget, rfl, rfl, trivial⟩
  · have hx : ObjOk X.prog X.w H s.heap dd (.xd _) := ok dd _ e
    obtain ⟨mA, hns, hr⟩ := hx
    obtain ⟨od, ho, hl⟩ := lookIn_ns hns
    exact ⟨some od, hget, rfl, rfl, ho⟩
theorem cd_isET {X : Cx} {CE : CEnv} {a : Addr} {C : Nat} {oe : Obj} {d : Option Addr} {tab : ExTab} (hp : (a, oe) ∈ X.pn) (hz : Zc (.ref (CE C).1) d oe) (hf : ∃ vs, oe.data = .fields vs) (T : ExTabOk X.K CE tab) :
    CallR X (.builtin "isinstance") (rDA CE X.K (isET tab a d C)) := by
  intro pins s σ H xs us Q I r ⟨g, c, ds, z, ok, r1, ez, q⟩
  unfold isET at ez
  split at ez
  · rename_i a' dx C' ys y
    split at ez
    · rename_i h
      obtain ⟨rfl, rfl, rfl⟩ := h
      cases et : tab.lookup C' with
      | none => rw [et] at ez; cases ez
      | some row =>
        rw [et] at ez
        cases ek : keyD y with
        | none => simp only [ek] at ez; cases ez
        | some k =>
          simp only [ek] at ez
          obtain ⟨b, eb, rfl⟩ := Option.map_eq_some_iff.mp ez
          obtain ⟨v, u, rfl, h1, h2⟩ := reps2 r1
          obtain ⟨t1, t2⟩ := T C' row et
          obtain ⟨hget, _⟩ := I.pin (a', oe) (List.mem_append_left _ hp)
          obtain ⟨od, J⟩ := exn_inst I.hok hget hz hf h1
          simp only [Rep] at h1
          obtain ⟨rfl, _⟩ := h1
          cases r with
          | cons rx rr =>
            cases rr with
            | cons ry rr =>
              cases rr
              cases rx
              have ec := keyD_rep ek h2 _ ry
              subst ec
              have hc : (PySem.W.clsIn X.K (CE C').1).isSome = true := by
                obtain ⟨cd, hcd, _⟩ := PySem.W.any_some t1.hd
                rw [hcd]; rfl
              exact PySem.W.kia_one (PySem.W.kitx_exc (od := od) hc t1.hg t1.hk t1.hs t1.ha t1.hn t1.ht t1.hm) I.kIn J (t2 k b eb) (fun z => nomatch z) fun tk => ⟨.bl b, H, I.kept (t' := tk) fun _ _ z => z, rfl, q g H _ (Post.refl ok) rep_bl⟩
    · cases ez
  · cases ez
end DL

namespace DL
open PySem PySem.Spec PyProof.Rows L2

def lcA (mi : Ev' → M (List D)) (vs : List Nat) (tg : D → Ev' → Option Ev') (tt : TM) (te : EM) : Ev' → M (List D) := fun δ => bnd (mi δ) fun xs => fun c => (lcL tg tt te (wipeD δ vs) xs) c |>.quiet
def lc2A (mi : Ev' → M (List D)) (vs : List Nat) (tg : D → Ev' → Option Ev') (tt : TM) (mi1 : Ev' → M (List D)) (vs1 : List Nat) (tg1 : D → Ev' → Option Ev') (tt1 : TM) (te : EM) : Ev' → M (List D) := fun δ => bnd (mi δ) fun xs => fun c => (bnd (lc2L tg tt mi1 vs1 tg1 tt1 te (wipeD δ vs) xs) fun ys => fun c => if ys.length ≤ sizeLine then .ok ys c else .bad) c |>.quiet
section
variable {X : Cx} {CE : CEnv} {W : WX} {elt tg iter tg1 iter1 : Expr} {ifs ifs1 : List Expr} {scope : Scope} {own : List (PySem.Str × Nat)} {vs1 : List Nat} {pos : Pos} {mi mi1 : Ev' → M (List D)} {t t1 : D → Ev' → Option Ev'} {tt tt1 : TM} {te : EM}
theorem lcA_use {K : PySem.W.Frag} {σ : L2.St} {H : Hp} {Q : VK} {vs : List Nat} {g : Gh} {c : Cells} {δ : Ev'} (ok : SOk CE K g H c) (er : EnvR CE K g H σ δ)
    (h : wpo (lcA mi vs t tt te δ c) (fun ds c' => ∀ g' H' p vs, Post CE K g H c g' H' c' → H p = none → H' p = some (.lst vs) → ¬ g'.F p → p ∉ g'.am → ds.length ≤ sizeLine → Reps CE K g' H' ds vs → Q (.ref p) H') (EK CE K W g H c σ)) : tLc (tI CE K W mi) (gD CE K vs t) (tDT CE K W0 tt) (tD CE K W0 te) vs σ H Q := by
  replace h := wpo_bnd.mp h
  refine ⟨g, c, δ, ok, er, wpo_mono h (fun xs c1 h g1 H1 J p1 dw => ?_) fun _ _ _ z => z⟩
  intro D0 hD
  replace h := wpo_quiet h
  refine lc_ok p1.ok dw (er.mono ok p1.ext) hD h fun ys c2 q g2 H2 ws p2 eD nF nA hz r => ?_
  exact q g2 H2 D0 ws (p1.trans p2) (Classical.byContradiction fun n => p1.ext.thr D0 n hD) eD nF nA hz r
theorem lc2A_use {K : PySem.W.Frag} {σ : L2.St} {H : Hp} {Q : VK} {vs vs1 : List Nat} {g : Gh} {c : Cells} {δ : Ev'} (ok : SOk CE K g H c) (er : EnvR CE K g H σ δ)
    (h : wpo (lc2A mi vs t tt mi1 vs1 t1 tt1 te δ c) (fun ds c' => ∀ g' H' p vs, Post CE K g H c g' H' c' → H p = none → H' p = some (.lst vs) → ¬ g'.F p → p ∉ g'.am → ds.length ≤ sizeLine → Reps CE K g' H' ds vs → Q (.ref p) H') (EK CE K W g H c σ)) : tLc2 (tI CE K W mi) (gD CE K vs t) (tDT CE K W0 tt) (tI CE K W0 mi1) (gD CE K vs1 t1) (tDT CE K W0 tt1) (tD CE K W0 te) vs vs1 σ H Q := by
  replace h := wpo_bnd.mp h
  refine ⟨g, c, δ, ok, er, wpo_mono h (fun xs c1 h g1 H1 J p1 dw => ?_) fun _ _ _ z => z⟩
  intro D0 hD
  replace h := wpo_bnd.mp (wpo_quiet h)
  have h2 : wpo (lc2L t tt mi1 vs1 t1 tt1 te (wipeD δ vs) xs c1) (fun ys c2 => ys.length ≤ sizeLine ∧ ∀ g' H' p vs, Post CE K g H c g' H' c2 → H p = none → H' p = some (.lst vs) → ¬ g'.F p → p ∉ g'.am → ys.length ≤ sizeLine → Reps CE K g' H' ys vs → Q (.ref p) H') (fun _ _ _ => False) := wpo_mono h (fun ys c2 q => by
    split at q
    · rename_i hz
      exact ⟨hz, q⟩
    · exact q.elim) fun _ _ _ z => z
  refine lc2_ok p1.ok dw (er.mono ok p1.ext) hD h2 (fun _ _ q => q.1) fun ys c2 q g2 H2 ws p2 eD nF nA hz r => ?_
  exact q.2 g2 H2 D0 ws (p1.trans p2) (Classical.byContradiction fun n => p1.ext.thr D0 n hD) eD nF nA hz r
theorem sd_setLcC {i : Nat} {y : PySem.Str} {py spos : Pos} (hc : X.calm = true) (hN : X.N.Nodup) (hy : X.N[i]? = some y) (hyl : X.env.scope.names.lookup y = some .local)
    (hsw : swapsWith (.ListComp elt [⟨tg, iter, ifs, 0⟩] scope pos) (some (.Name y py)) spos.line X.env = pure true) (hi : PID X CE W tg iter mi) (ok : BlkOk X.N X.env.scope scope own)
    (hg : ∀ (s : Shared) (H : Hp) (C : Addr) (cl : List (PySem.Str × Addr)) (fp : List Addr), PGD (X.blk s H scope (compEnvC scope cl C X.env) fp) CE (own.map (·.2)) tg t) (ht : ∀ (s : Shared) (H : Hp) (C : Addr) (cl : List (PySem.Str × Addr)) (fp : List Addr), PDTs (X.blk s H scope (compEnvC scope cl C X.env) fp) CE W0 ifs tt)
    (he : ∀ (s : Shared) (H : Hp) (C : Addr) (cl : List (PySem.Str × Addr)) (fp : List Addr), PD (X.blk s H scope (compEnvC scope cl C X.env) fp) CE W0 elt te) (hs : ∀ x, foldedSetIterable iter X.env x = pure x := by intro _; rfl) :
    SD X CE W (.Assign [.Name y py] (.ListComp elt [⟨tg, iter, ifs, 0⟩] scope pos) spos) (setS i (ceE (lcA mi (own.map (·.2)) t tt te))) :=
  (ps_setLc (own := own) (g := gD CE X.K (List.map (fun q : PySem.Str × Nat => q.2) own) t) (tt := tDT CE X.K W0 tt) (te := tD CE X.K W0 te) hc hN hy hyl hsw hi ok hg ht he hs).wk fun D σ H ⟨g, c, δ, ok, er, h⟩ => by
    have k : tLc (tI CE X.K W mi) (gD CE X.K (own.map (·.2)) t) (tDT CE X.K W0 tt) (tD CE X.K W0 te) (own.map (·.2)) σ H (fun x H1 => gName i x σ H1 D.nx) := by
      refine lcA_use (W := W) ok er ?_
      unfold setS at h
      cases e : lcA mi (own.map (·.2)) t tt te δ c with
      | ok ds c1 =>
        have h' : wps (((ceE (lcA mi (own.map (·.2)) t tt te)) δ c).thenS δ fun d c => .nx (δ.set i (.sh d)) c) _ := h
        unfold ceE bnd at h'
        rw [e] at h'
        intro g' H' p vs p1 hp e1 nF nA hz r
        refine h' _ _ _ (XS.set (XS.of ok er (p1.put (x := Cell.lst ds) hp e1 nF nA ⟨vs, e1, hz, r⟩)) ?_)
        simp only [Rep]
        exact ⟨p, rfl, by rw [← p1.ok.len]; simp⟩
      | exc C xs c1 =>
        have h' : wps (((ceE (lcA mi (own.map (·.2)) t tt te)) δ c).thenS δ fun d c => .nx (δ.set i (.sh d)) c) _ := h
        unfold ceE bnd at h'
        rw [e] at h'
        exact fun g' H' dx p x => h' g' H' σ dx (XS.of ok er p) x
      | bad =>
        have h' : wps (((ceE (lcA mi (own.map (·.2)) t tt te)) δ c).thenS δ fun d c => .nx (δ.set i (.sh d)) c) _ := h
        unfold ceE bnd at h'
        rw [e] at h'
        exact h'
    exact k
theorem sd_setLc2C {i : Nat} {y : PySem.Str} {py spos : Pos} (vs1 : List Nat) (hc : X.calm = true) (hN : X.N.Nodup) (hy : X.N[i]? = some y) (hyl : X.env.scope.names.lookup y = some .local)
    (hsw : swapsWith (.ListComp elt [⟨tg, iter, ifs, 0⟩, ⟨tg1, iter1, ifs1, 0⟩] scope pos) (some (.Name y py)) spos.line X.env = pure true) (hi : PID X CE W tg iter mi) (ok : BlkOk X.N X.env.scope scope own) (hv : ∀ i ∈ vs1, i ∈ own.map (·.2))
    (hg : ∀ (s : Shared) (H : Hp) (C : Addr) (cl : List (PySem.Str × Addr)) (fp : List Addr), PGD (X.blk s H scope (compEnvC scope cl C X.env) fp) CE (own.map (·.2)) tg t) (ht : ∀ (s : Shared) (H : Hp) (C : Addr) (cl : List (PySem.Str × Addr)) (fp : List Addr), PDTs (X.blk s H scope (compEnvC scope cl C X.env) fp) CE W0 ifs tt)
    (hi1 : ∀ (s : Shared) (H : Hp) (C : Addr) (cl : List (PySem.Str × Addr)) (fp : List Addr), PID (X.blk s H scope (compEnvC scope cl C X.env) fp) CE W0 tg1 iter1 mi1)
    (hg1 : ∀ (s : Shared) (H : Hp) (C : Addr) (cl : List (PySem.Str × Addr)) (fp : List Addr), PGD (X.blk s H scope (compEnvC scope cl C X.env) fp) CE vs1 tg1 t1) (ht1 : ∀ (s : Shared) (H : Hp) (C : Addr) (cl : List (PySem.Str × Addr)) (fp : List Addr), PDTs (X.blk s H scope (compEnvC scope cl C X.env) fp) CE W0 ifs1 tt1)
    (he : ∀ (s : Shared) (H : Hp) (C : Addr) (cl : List (PySem.Str × Addr)) (fp : List Addr), PD (X.blk s H scope (compEnvC scope cl C X.env) fp) CE W0 elt te) (hs : ∀ x, foldedSetIterable iter X.env x = pure x := by intro _; rfl) (hs1 : ∀ env x, foldedSetIterable iter1 env x = pure x := by intro _ _; rfl) :
    SD X CE W (.Assign [.Name y py] (.ListComp elt [⟨tg, iter, ifs, 0⟩, ⟨tg1, iter1, ifs1, 0⟩] scope pos) spos) (setS i (ceE (lc2A mi (own.map (·.2)) t tt mi1 vs1 t1 tt1 te))) :=
  (ps_setLc2 (own := own) (vs1 := vs1) (wi1 := tI CE X.K W0 mi1) (g := gD CE X.K (List.map (fun q : PySem.Str × Nat => q.2) own) t) (g1 := gD CE X.K vs1 t1) (tt := tDT CE X.K W0 tt) (tt1 := tDT CE X.K W0 tt1) (te := tD CE X.K W0 te) hc hN hy hyl hsw hi ok hv hg ht hi1 hg1 ht1 he hs hs1).wk fun D σ H ⟨g, c, δ, ok, er, h⟩ => by
    have k : tLc2 (tI CE X.K W mi) (gD CE X.K (own.map (·.2)) t) (tDT CE X.K W0 tt) (tI CE X.K W0 mi1) (gD CE X.K vs1 t1) (tDT CE X.K W0 tt1) (tD CE X.K W0 te) (own.map (·.2)) vs1 σ H (fun x H1 => gName i x σ H1 D.nx) := by
      refine lc2A_use (W := W) ok er ?_
      unfold setS at h
      cases e : lc2A mi (own.map (·.2)) t tt mi1 vs1 t1 tt1 te δ c with
      | ok ds c1 =>
        have h' : wps (((ceE (lc2A mi (own.map (·.2)) t tt mi1 vs1 t1 tt1 te)) δ c).thenS δ fun d c => .nx (δ.set i (.sh d)) c) _ := h
        unfold ceE bnd at h'
        rw [e] at h'
        intro g' H' p vs p1 hp e1 nF nA hz r
        refine h' _ _ _ (XS.set (XS.of ok er (p1.put (x := Cell.lst ds) hp e1 nF nA ⟨vs, e1, hz, r⟩)) ?_)
        simp only [Rep]
        exact ⟨p, rfl, by rw [← p1.ok.len]; simp⟩
      | exc C xs c1 =>
        have h' : wps (((ceE (lc2A mi (own.map (·.2)) t tt mi1 vs1 t1 tt1 te)) δ c).thenS δ fun d c => .nx (δ.set i (.sh d)) c) _ := h
        unfold ceE bnd at h'
        rw [e] at h'
        exact fun g' H' dx p x => h' g' H' σ dx (XS.of ok er p) x
      | bad =>
        have h' : wps (((ceE (lc2A mi (own.map (·.2)) t tt mi1 vs1 t1 tt1 te)) δ c).thenS δ fun d c => .nx (δ.set i (.sh d)) c) _ := h
        unfold ceE bnd at h'
        rw [e] at h'
        exact h'
    exact k
end
end DL

namespace DL
open PySem PySem.Spec PyProof.Rows L2

def gdOk (p : Option Nat × List D) (c : Cells) : Prop := match p.1 with
  | none => True
  | some k => c[k]? = some (Cell.lst p.2)
structure DWalkG (G : Cells → Prop) (CE : CEnv) (K : PySem.W.Frag) (J : It) (xs : List D) (g : Gh) (H : Hp) (c : Cells) : Prop where
  sz : xs.length ≤ sizeLine
  go : ∀ g1 H1 c1, RK g H g1 H1 → SOk CE K g1 H1 c1 → G c1 → ∀ i, i < xs.length → J.go i H1
  stop : ∀ g1 H1 c1, RK g H g1 H1 → SOk CE K g1 H1 c1 → G c1 → J.stop xs.length H1
  yld : ∀ g1 H1 c1, RK g H g1 H1 → SOk CE K g1 H1 c1 → G c1 → ∀ i d x H2, xs[i]? = some d → J.yld i H1 x H2 → ∃ g2, Post CE K g1 H1 c1 g2 H2 c1 ∧ Rep CE K g2 H2 d x
theorem DWalkG.mono {G : Cells → Prop} {CE : CEnv} {K : PySem.W.Frag} {J : It} {xs : List D} {g g' : Gh} {H H' : Hp} {c c' : Cells} (w : DWalkG G CE K J xs g H c) (r : RK g H g' H') : DWalkG G CE K J xs g' H' c' :=
  ⟨w.sz, fun g1 H1 c1 x => w.go g1 H1 c1 (r.trans x), fun g1 H1 c1 x => w.stop g1 H1 c1 (r.trans x), fun g1 H1 c1 x => w.yld g1 H1 c1 (r.trans x)⟩
theorem DWalk.g {G : Cells → Prop} {CE : CEnv} {K : PySem.W.Frag} {J : It} {xs : List D} {g : Gh} {H : Hp} {c : Cells} (w : DWalk CE K J xs g H c) : DWalkG G CE K J xs g H c :=
  ⟨w.sz, fun g1 H1 c1 x o _ => w.go g1 H1 c1 x o, fun g1 H1 c1 x o _ => w.stop g1 H1 c1 x o, fun g1 H1 c1 x o _ => w.yld g1 H1 c1 x o⟩
def tIG (CE : CEnv) (K : PySem.W.Frag) (W : WX) (mi : Ev' → M (Option Nat × List D)) : TI := fun σ H R => ∃ g c δ, SOk CE K g H c ∧ EnvR CE K g H σ δ ∧
  wpo (mi δ c) (fun p c' => ∀ g' H' J, Post CE K g H c g' H' c' → DWalkG (gdOk p) CE K J p.2 g' H' c' → R J H') (EK CE K W g H c σ)
def PIDG (X : Cx) (CE : CEnv) (W : WX) (tg iter : Expr) (mi : Ev' → M (Option Nat × List D)) : Prop := PI X tg iter (tIG CE X.K W mi)
def seqG (d : D) (c : Cells) : Option (Option Nat × List D) := match d with
  | .cell k => match c[k]? with
    | some (Cell.lst xs) => some (some k, xs)
    | _ => none
  | d => (seqF d).map fun xs => (none, xs)
def itG (m : EM) : Ev' → M (Option Nat × List D) := fun δ => bnd (m δ) fun d => fun c => opt (seqG d c) c
theorem dwalk_cell {CE : CEnv} {K : PySem.W.Frag} {k : Nat} {a : Addr} {xs : List D} {g : Gh} {H : Hp} {c : Cells} (e : g.am[k]? = some a) (hz : xs.length ≤ sizeLine) : DWalkG (gdOk (some k, xs)) CE K (Itl K a) xs g H c := by
  have key : ∀ g1 H1 c1, RK g H g1 H1 → SOk CE K g1 H1 c1 → gdOk (some k, xs) c1 → ∃ vs, H1 a = some (.lst vs) ∧ Reps CE K g1 H1 xs vs := fun g1 H1 c1 x o h => by
    obtain ⟨vs, q1, _, q2⟩ := o.cl k a (Cell.lst xs) (x.am k a e) h
    exact ⟨vs, q1, q2⟩
  exact {
    sz := hz
    go := fun g1 H1 c1 x o h i hi => by
      obtain ⟨vs, q1, q2⟩ := key g1 H1 c1 x o h
      exact ⟨vs, vs[i]'((Reps.length q2).symm ▸ hi), SqL.of q1, List.getElem?_eq_getElem _⟩
    stop := fun g1 H1 c1 x o h => by
      obtain ⟨vs, q1, q2⟩ := key g1 H1 c1 x o h
      exact ⟨vs, SqL.of q1, Nat.le_of_eq (Reps.length q2)⟩
    yld := fun g1 H1 c1 x o h i d v H2 hi ⟨y1, y2⟩ => by
      subst y1
      obtain ⟨vs, q1, q2⟩ := key g1 _ c1 x o h
      obtain ⟨u, e3, r3⟩ := Reps.get q2 hi
      have e4 := y2 vs (SqL.of q1)
      rw [e3] at e4; cases e4
      exact ⟨g1, Post.refl o, r3⟩ }
section
variable {X : Cx} {CE : CEnv} {W : WX} {tg e : Expr} {m : EM}
theorem pid_seqG (he : PD X CE W e m) : PIDG X CE W tg e (itG m) := by
  have base : PI X tg e (fun σ H R => tD CE X.K W m σ H fun x H1 => ∃ a, x = .ref a ∧ (((∃ xs, SqL X.K H1 a xs) ∧ R (Itl X.K a) H1) ∨ ((∃ xs, SqT X.K H1 a xs) ∧ R (Itt X.K a) H1))) := by
    refine ⟨fun pins s σ H R I h => ?_⟩
    have hr := PE.run he pins s σ H _ I h
    refine thn hr fun v s1 ⟨x, H1, I1, r1, q1⟩ => ?_
    obtain ⟨a, e, ⟨⟨xs, hq⟩, q⟩ | ⟨⟨xs, hq⟩, q⟩⟩ := q1
    · subst e
      cases r1
      obtain ⟨its, rv, p, hz⟩ := I1.list hq
      refine wpAny_pyIter_list p.isList ?_
      refine ⟨s1.heap.objs.size, [s1.heap.objs.size], _, _, H1, rfl, I1.kept (t' := s1.toks) fun b o e => Heap.get?_push_of_some _ e, turn_list a _, ⟨_, Heap.get?_push_size _ rfl, rfl, rfl⟩, fun b hb => ?_, q⟩
      have e : b = s1.heap.objs.size := by simpa using hb
      rw [e]
      exact I1.fpOk (Nat.le_refl _) (I1.hok.fresh (Nat.le_refl _))
    · subst e
      cases r1
      obtain ⟨its, rv, p, hz⟩ := I1.tuple hq
      refine wpAny_pyIter_tuple (show s1.heap.IsTuple a its.toArray from p) ?_
      refine ⟨s1.heap.objs.size, [s1.heap.objs.size], _, _, H1, rfl, I1.kept (t' := s1.toks) fun b o e => Heap.get?_push_of_some _ e, turn_tuple a _, ⟨_, Heap.get?_push_size _ rfl, rfl, rfl⟩, fun b hb => ?_, q⟩
      have e : b = s1.heap.objs.size := by simpa using hb
      rw [e]
      exact I1.fpOk (Nat.le_refl _) (I1.hok.fresh (Nat.le_refl _))
  refine base.wk fun σ H R ⟨g, c, δ, ok, er, h⟩ => ?_
  replace h := wpo_bnd.mp h
  refine use ok er h (fun d c1 h g1 H1 v p1 r1 => ?_) fun _ _ _ z => z
  obtain ⟨p0, ex, h⟩ := opt_ok h
  cases d <;> try (simp [seqG, seqF] at ex; done)
  case tup xs =>
    simp only [seqG, seqF, Option.map_some, Option.some.injEq] at ex
    subst ex
    simp only [Rep] at r1
    obtain ⟨a, vs, rfl, hq, z, r⟩ := r1
    exact ⟨a, rfl, .inr ⟨⟨vs, hq⟩, h g1 H1 _ p1 (dwalk_tup hq r z).g⟩⟩
  case lst xs =>
    simp only [seqG, seqF, Option.map_some, Option.some.injEq] at ex
    subst ex
    simp only [Rep] at r1
    obtain ⟨a, vs, rfl, hf, hq, z, r⟩ := r1
    exact ⟨a, rfl, .inl ⟨⟨vs, .of hq⟩, h g1 H1 _ p1 (dwalk_list (fun g2 H2 p2 => .of ((p2.F a hf).trans hq)) r z).g⟩⟩
  case rol xs =>
    simp only [seqG, seqF, Option.map_some, Option.some.injEq] at ex
    subst ex
    simp only [Rep] at r1
    obtain ⟨a, vs, rfl, hq, z, r⟩ := r1
    have hk : ∀ g2 H2, RK g1 H1 g2 H2 → SqL X.K H2 a vs := fun g2 H2 p2 => by
      rcases hq with ⟨o, hq⟩ | hq
      · exact .inl (.inr ⟨o, p2.frz a _ _ hq⟩)
      · exact hq H2
    exact ⟨a, rfl, .inl ⟨⟨vs, hk g1 H1 RK.refl⟩, h g1 H1 _ p1 (dwalk_list hk r z).g⟩⟩
  case cell k =>
    simp only [seqG] at ex
    split at ex
    · rename_i xs hk
      cases ex
      simp only [Rep] at r1
      obtain ⟨a, rfl, e⟩ := r1
      obtain ⟨vs, q1, q2, q3⟩ := p1.ok.cl k a (Cell.lst xs) e hk
      exact ⟨a, rfl, .inl ⟨⟨vs, .of q1⟩, h g1 H1 _ p1 (dwalk_cell e q2)⟩⟩
    · cases ex
end
open Classical in
noncomputable def forG (G : Cells → Prop) (tg : D → Ev' → Option Ev') (b : SM) : List D → Ev' → Cells → Res
  | [], δ, c => if G c then .nx δ c else .bad
  | x :: xs, δ, c => if G c then (match tg x δ with
    | none => .bad
    | some δ1 => match b δ1 c with
      | .nx δ2 c2 => forG G tg b xs δ2 c2
      | .ct δ2 c2 => forG G tg b xs δ2 c2
      | .bk δ2 c2 => .nx δ2 c2
      | r => r) else .bad
noncomputable def forXG (js : List Nat) (mi : Ev' → M (Option Nat × List D)) (lp : (Cells → Prop) → List D → Ev' → Cells → Res) : SM := fun δ c => (mi δ c).thenS δ fun p c => lp (gdOk p) p.2 (wipeD δ js) c
open Classical in
noncomputable def lcG (G : Cells → Prop) (tg : D → Ev' → Option Ev') (tt : TM) (te : EM) (δ : Ev') : List D → M (List D)
  | [] => fun c => if G c then .ok [] c else .bad
  | x :: xs => fun c => if G c then (match tg x δ with
    | none => stuck
    | some δ1 => bnd (tt δ1) fun b => if b then bnd (te δ1) fun y => bnd (lcG G tg tt te δ xs) fun ys => DL.ret (y :: ys) else lcG G tg tt te δ xs) c else .bad
noncomputable def lcEG (mi : Ev' → M (Option Nat × List D)) (vs : List Nat) (tg : D → Ev' → Option Ev') (tt : TM) (te : EM) : EM := fun δ => bnd (mi δ) fun p => fun c => (bnd (lcG (gdOk p) tg tt te (wipeD δ vs) p.2) fun ys => DL.ret (D.lst ys)) c |>.quiet
open Classical in
noncomputable def lc2G (G : Cells → Prop) (tg : D → Ev' → Option Ev') (tt : TM) (mi1 : Ev' → M (List D)) (vs1 : List Nat) (tg1 : D → Ev' → Option Ev') (tt1 : TM) (te : EM) (δ : Ev') : List D → M (List D)
  | [] => fun c => if G c then .ok [] c else .bad
  | x :: xs => fun c => if G c then (match tg x δ with
    | none => stuck
    | some δ1 => bnd (tt δ1) fun b => if b then bnd (mi1 δ1) fun ys => bnd (lcL tg1 tt1 te (wipeD δ1 vs1) ys) fun zs => bnd (lc2G G tg tt mi1 vs1 tg1 tt1 te δ xs) fun ws => DL.ret (zs ++ ws) else lc2G G tg tt mi1 vs1 tg1 tt1 te δ xs) c else .bad
noncomputable def lc2EG (mi : Ev' → M (Option Nat × List D)) (vs : List Nat) (tg : D → Ev' → Option Ev') (tt : TM) (mi1 : Ev' → M (List D)) (vs1 : List Nat) (tg1 : D → Ev' → Option Ev') (tt1 : TM) (te : EM) : EM := fun δ => bnd (mi δ) fun p => fun c => (bnd (lc2G (gdOk p) tg tt mi1 vs1 tg1 tt1 te (wipeD δ vs) p.2) fun ys => fun c => if ys.length ≤ sizeLine then .ok (D.lst ys) c else .bad) c |>.quiet
theorem guard_ok {G : Cells → Prop} {α : Type} {c : Cells} {x y : α} {inst : Decidable (G c)} {P : α → Prop} (h : P (if G c then x else y)) (hb : ¬ P y) : G c ∧ P x := by
  by_cases g : G c
  · rw [if_pos g] at h; exact ⟨g, h⟩
  · rw [if_neg g] at h; exact absurd h hb
section
variable {X : Cx} {CE : CEnv} {W : WX} {pos : Pos} {tg iter e : Expr} {body : List Stmt} {mg : Ev' → M (Option Nat × List D)} {t : D → Ev' → Option Ev'} {tm : TM} {b : SM} {js ks' : List Nat}
theorem for_okG {G : Cells → Prop} {K : PySem.W.Frag} {J : It} {D : Ends} {g0 : Gh} {H0 : Hp} {c0 : Cells} {xs : List DL.D} (ok0 : SOk CE K g0 H0 c0) {δ0 : Ev'} {σ0 : L2.St} (dw : DWalkG G CE K J xs g0 H0 c0) (er0 : EnvR CE K g0 H0 σ0 δ0) (h : wps (forG G t (endW js b) xs δ0 c0) (ks CE K W D g0 H0 c0 σ0 δ0)) :
    ∃ Wv : Nat → Nat → L2.St → Hp → Prop, (∃ m, Wv 0 m σ0 H0) ∧ ∀ i m σ H, Wv i m σ H →
      (J.stop i H ∧ D.nx σ H) ∨ (J.go i H ∧ ∃ N : L2.St → Hp → Prop, (∀ σ' H', N σ' H' → ∃ m', m' < m ∧ Wv (i + 1) m' σ' H') ∧ ∀ x H', J.yld i H x H' → gD CE K ks' t x σ H' fun σ2 H2 => tSD CE K W b { D with nx := N, ct := N, bk := D.nx } σ2 H2) := by
  refine ⟨fun i m σ H => m = xs.length - i ∧ i ≤ xs.length ∧ ∃ g c δ, XS CE K g0 H0 c0 σ0 δ0 g H c σ δ ∧ wps (forG G t (endW js b) (xs.drop i) δ c) (ks CE K W D g H c σ δ), ⟨xs.length, by simp, Nat.zero_le _, g0, c0, δ0, XS.of ok0 er0 (Post.refl ok0), by simpa using h⟩, ?_⟩
  rintro i m σ H ⟨rfl, hi, g, c, δ, p, h⟩
  have dw1 : DWalkG G CE K J xs g H c := dw.mono (p.x.rk ok0 fun _ z => (er0.ownF z).1)
  by_cases hlt : i < xs.length
  · have hd : xs.drop i = xs[i] :: xs.drop (i + 1) := List.drop_eq_getElem_cons hlt
    rw [hd] at h
    unfold forG at h
    obtain ⟨hG, h⟩ := guard_ok (P := fun r => wps r (ks CE K W D g H c σ δ)) h (fun z => z)
    refine .inr ⟨dw1.go _ _ _ RK.refl p.ok hG i hlt, fun σ H => i + 1 ≤ xs.length ∧ ∃ g c δ, XS CE K g0 H0 c0 σ0 δ0 g H c σ δ ∧ wps (forG G t (endW js b) (xs.drop (i + 1)) δ c) (ks CE K W D g H c σ δ), fun σ' H' ⟨h1, h2⟩ => ⟨xs.length - (i + 1), by omega, rfl, h1, h2⟩, fun x H' y => ?_⟩
    obtain ⟨g1, p1, r1⟩ := dw1.yld _ _ _ RK.refl p.ok hG i xs[i] x H' (by simp [hlt]) y
    cases e1 : t xs[i] δ with
    | none => rw [e1] at h; exact h.elim
    | some δ1 =>
      rw [e1] at h
      dsimp only at h
      have x1 := XS.of p.ok p.er p1
      refine ⟨g1, c, δ, xs[i], δ1, p1.ok, x1.er, r1, e1, fun σ1 er1 _ o1 => ?_⟩
      have x2 : XS CE K g H c σ δ g1 H' c σ1 δ1 := ⟨x1.x, x1.ok, er1, fun a h => .inl (o1 a h)⟩
      replace h := ks.back x2 h
      have p2 := p.trans x2
      refine ⟨g1, c, δ1, p1.ok, er1, ?_⟩
      unfold endW at h
      cases e2 : b δ1 c with
      | nx δ2 c2 =>
        rw [e2] at h
        exact fun g' H' σ' x' => ⟨hlt, g', c2, _, p2.trans (x'.weak js), ks.back (x'.weak js) h⟩
      | ct δ2 c2 =>
        rw [e2] at h
        exact fun g' H' σ' x' => ⟨hlt, g', c2, _, p2.trans (x'.weak js), ks.back (x'.weak js) h⟩
      | bk δ2 c2 =>
        rw [e2] at h
        exact fun g' H' σ' x' => h g' H' σ' (x'.weak js)
      | rt d c2 => rw [e2] at h; exact h
      | exc C ys δ2 c2 => rw [e2] at h; exact h
      | bad => rw [e2] at h; exact h
  · have e : i = xs.length := by omega
    subst e
    rw [List.drop_length] at h
    unfold forG at h
    obtain ⟨hG, h⟩ := guard_ok (P := fun r => wps r (ks CE K W D g H c σ δ)) h (fun z => z)
    exact .inl ⟨dw1.stop _ _ _ RK.refl p.ok hG, h g H σ (XS.of p.ok p.er (Post.refl p.ok))⟩
theorem sd_forXG (hp : PassesOwn (model X.prog X.w) X.A X.env X.xe) (hc : X.calm = true) (hi : PIDG X CE W tg iter mg) (hg : PGD X CE ks' tg t) (hb : SDs X CE W body b) (hs : ∀ x, foldedSetIterable iter X.env x = pure x := by intro _; rfl) : SD X CE W (.For tg iter body [] pos) (forXG js mg fun G => forG G t (endW js b)) :=
  (ps_for hp hc hi hg hb hs).wk fun D σ H ⟨g, c, δ, ok, er, h⟩ => by
    refine ⟨g, c, δ, ok, er, ?_⟩
    unfold forXG at h
    cases e : mg δ c with
    | ok p0 c' =>
      rw [e] at h
      intro g' H' J p dw
      have x := (XS.of ok er p).weak js
      exact for_okG p.ok dw ((er.mono ok p.ext).weak js) (ks.back x h)
    | exc C xs c' => rw [e] at h; exact fun g' H' dx p x => h g' H' σ dx (XS.of ok er p) x
    | bad => rw [e] at h; exact h
end
section
variable {CE : CEnv} {K : PySem.W.Frag} {tg tg1 : D → Ev' → Option Ev'} {tt tt1 : TM} {te : EM} {mi1 : Ev' → M (List D)}
theorem lc_okG {G : Cells → Prop} {J : It} {xs : List DL.D} {g0 : Gh} {H0 : Hp} {c0 : Cells} (ok0 : SOk CE K g0 H0 c0) (dw : DWalkG G CE K J xs g0 H0 c0) {δ0 : Ev'} {σ0 : L2.St} {vs : List Nat} (er0 : EnvR CE K g0 H0 σ0 δ0) {D0 : Addr} (hD : H0 D0 = none) {Qd : Hp → Prop} {P : List DL.D → Cells → Prop}
    (h : wpo (lcG G tg tt te (wipeD δ0 vs) xs c0) P (fun _ _ _ => False)) (hQ : ∀ ys c1, P ys c1 → ∀ g1 H1 ws, Post CE K g0 H0 c0 g1 H1 c1 → H1 D0 = some (.lst ws) → ¬ g1.F D0 → D0 ∉ g1.am → ys.length ≤ sizeLine → Reps CE K g1 H1 ys ws → Qd H1) :
    ∃ Wv : Nat → Nat → Hp → Prop, (∃ m, Wv 0 m (upd H0 D0 (.lst []))) ∧ ∀ i m H, Wv i m H → (J.stop i H ∧ Qd H) ∨ (J.go i H ∧ ∃ Nx : Hp → Prop, (∀ H', Nx H' → ∃ m', m' < m ∧ Wv (i + 1) m' H') ∧
      ∀ x H', J.yld i H x H' → gD CE K vs tg x (wipe σ0 vs) H' fun σ2 H2 => wipe σ2 vs = wipe σ0 vs ∧ tDT CE K W0 tt σ2 H2 fun b H3 => if b = true then tD CE K W0 te σ2 H3 fun y H4 => ∃ acc, H4 D0 = some (.lst acc) ∧ acc.length < sizeLine ∧ Nx (upd H4 D0 (.lst (acc ++ [y]))) else Nx H3) := by
  have F0 : ¬ g0.F D0 := fun z => ok0.tr D0 z hD
  have A0 : D0 ∉ g0.am := mem_am_ne ok0 hD
  have er0' : EnvR CE K g0 H0 (wipe σ0 vs) (wipeD δ0 vs) := er0.wipe vs
  -- the invariant at turn i
  refine ⟨fun i m H => m = xs.length - i ∧ i ≤ xs.length ∧ ∃ g c accD accV, Post CE K g0 H0 c0 g H c ∧ H D0 = some (.lst accV) ∧ ¬ g.F D0 ∧ D0 ∉ g.am ∧ accD.length ≤ i ∧ Reps CE K g H accD accV ∧
      wpo (lcG G tg tt te (wipeD δ0 vs) (xs.drop i) c) (fun ys c1 => P (accD ++ ys) c1) (fun _ _ _ => False),
    ⟨xs.length, by simp, Nat.zero_le _, g0, c0, [], [], Post.hid ok0 hD _, upd_same, F0, A0, Nat.le_refl _, Reps.nil, by simpa using h⟩, ?_⟩
  rintro i m H ⟨rfl, hi, g, c, accD, accV, p, eD, nF, nA, la, ra, h⟩
  have hz := dw.sz
  by_cases hlt : i < xs.length
  · have hd : xs.drop i = xs[i] :: xs.drop (i + 1) := List.drop_eq_getElem_cons hlt
    rw [hd] at h
    unfold lcG at h
    obtain ⟨hG, h⟩ := guard_ok (P := fun o => wpo o (fun ys c1 => P (accD ++ ys) c1) (fun _ _ _ => False)) h (fun z => z)
    refine .inr ⟨dw.go _ _ _ (p.ext.rk ok0) p.ok hG i hlt, fun H => i + 1 ≤ xs.length ∧ ∃ g c accD accV, Post CE K g0 H0 c0 g H c ∧ H D0 = some (.lst accV) ∧ ¬ g.F D0 ∧ D0 ∉ g.am ∧ accD.length ≤ i + 1 ∧ Reps CE K g H accD accV ∧
      wpo (lcG G tg tt te (wipeD δ0 vs) (xs.drop (i + 1)) c) (fun ys c1 => P (accD ++ ys) c1) (fun _ _ _ => False), fun H' ⟨h1, h2⟩ => ⟨xs.length - (i + 1), by omega, rfl, h1, h2⟩, fun x H' y => ?_⟩
    obtain ⟨g1, p1, r1⟩ := dw.yld _ _ _ (p.ext.rk ok0) p.ok hG i xs[i] x H' (by simp [hlt]) y
    cases e1 : tg xs[i] (wipeD δ0 vs) with
    | none => rw [e1] at h; exact h.elim
    | some δ1 =>
      rw [e1] at h
      dsimp only at h
      replace h := wpo_bnd.mp h
      have p01 := p.trans p1
      refine ⟨g1, c, wipeD δ0 vs, xs[i], δ1, p1.ok, er0'.mono ok0 p01.ext, r1, e1, fun σ1 er1 w1 _ => ⟨by rw [w1]; exact wipe_wipe, ?_⟩⟩
      -- D0 stays hidden over any step
      have hid : ∀ {ga Ha ca gb Hb cb}, Post CE K ga Ha ca gb Hb cb → SOk CE K ga Ha ca → Ha D0 = some (.lst accV) → ¬ ga.F D0 → D0 ∉ ga.am → Hb D0 = some (.lst accV) ∧ ¬ gb.F D0 ∧ D0 ∉ gb.am := by
        intro ga Ha ca gb Hb cb q ok h1 h2 h3
        refine ⟨q.ext.keep _ _ h1 fun ⟨k, z, l1, _⟩ => h3 (List.mem_of_getElem? l1), fun z => ?_, fun z => ?_⟩
        · rcases q.ext.newF _ z with z | z | z
          · exact h2 z
          · rw [h1] at z; cases z
          · exact h3 z
        · rcases q.ext.newA _ z with z | z
          · exact h3 z
          · rw [h1] at z; cases z
      obtain ⟨d1, d2, d3⟩ := hid p1 p.ok eD nF nA
      refine useT p1.ok er1 h (fun b c2 h g2 H2 p2 => ?_) fun _ _ _ z => z.elim
      obtain ⟨d4, d5, d6⟩ := hid p2 p1.ok d1 d2 d3
      have p02 := p01.trans p2
      cases b with
      | false =>
        rw [if_neg (by simp)] at h ⊢
        exact ⟨hlt, g2, c2, accD, accV, p02, d4, d5, d6, by omega, Reps.mono p.ok (p1.trans p2).ext ra, h⟩
      | true =>
        rw [if_pos rfl] at h ⊢
        replace h := wpo_bnd.mp h
        refine use p2.ok (er1.mono p1.ok p2.ext) h (fun d c3 h g3 H3 v p3 r3 => ?_) fun _ _ _ z => z.elim
        obtain ⟨d7, d8, d9⟩ := hid p3 p2.ok d4 d5 d6
        have ra3 := Reps.mono p.ok ((p1.trans p2).trans p3).ext ra
        have p03 := p02.trans p3
        refine ⟨accV, d7, by rw [Reps.length ra3]; omega, hlt, g3, c3, accD ++ [d], accV ++ [v], ?_, upd_same, d8, d9, by rw [List.length_append]; simp; omega, ?_, ?_⟩
        · -- the list has grown: nobody else is touched
          have x3 : Ext g0 H0 c0 g3 (upd H3 D0 (.lst (accV ++ [v]))) c3 := ⟨p03.ext.fr, p03.ext.am, fun a o e n => by
            rw [upd_ne (fun z => by rw [z, hD] at e; cases e)]
            exact p03.ext.keep a o e n, p03.ext.newF, p03.ext.newA, fun a e => upd_thr (p03.ext.thr a e), p03.ext.dd⟩
          exact ⟨x3, p3.ok.hid (RK.hid d7 d8) d9⟩
        · exact Reps.rk (RK.hid d7 d8) (Reps.append ra3 (Reps.one r3))
        · replace h := wpo_bnd.mp h
          refine wpo_mono h (fun ys c4 q => ?_) fun _ _ _ z => z
          rw [List.append_assoc]
          exact q
  · have e : i = xs.length := by omega
    subst e
    rw [List.drop_length] at h
    unfold lcG at h
    obtain ⟨hG, h⟩ := guard_ok (P := fun o => wpo o (fun ys c1 => P (accD ++ ys) c1) (fun _ _ _ => False)) h (fun z => z)
    have h' : P (accD ++ []) c := h
    rw [List.append_nil] at h'
    exact .inl ⟨dw.stop _ _ _ (p.ext.rk ok0) p.ok hG, hQ accD c h' g H accV p eD nF nA (by omega) ra⟩
theorem lc2_okG {G : Cells → Prop} {J : It} {xs : List DL.D} {g0 : Gh} {H0 : Hp} {c0 : Cells} (ok0 : SOk CE K g0 H0 c0) (dw : DWalkG G CE K J xs g0 H0 c0) {δ0 : Ev'} {σ0 : L2.St} {vs vs1 : List Nat} (er0 : EnvR CE K g0 H0 σ0 δ0) {D0 : Addr} (hD : H0 D0 = none) {Qd : Hp → Prop} {P : List DL.D → Cells → Prop}
    (h : wpo (lc2G G tg tt mi1 vs1 tg1 tt1 te (wipeD δ0 vs) xs c0) P (fun _ _ _ => False)) (hsz : ∀ zs c', P zs c' → zs.length ≤ sizeLine)
    (hQ : ∀ ys c1, P ys c1 → ∀ g1 H1 ws, Post CE K g0 H0 c0 g1 H1 c1 → H1 D0 = some (.lst ws) → ¬ g1.F D0 → D0 ∉ g1.am → ys.length ≤ sizeLine → Reps CE K g1 H1 ys ws → Qd H1) :
    ∃ Wv : Nat → Nat → Hp → Prop, (∃ m, Wv 0 m (upd H0 D0 (.lst []))) ∧ ∀ i m H, Wv i m H → (J.stop i H ∧ Qd H) ∨ (J.go i H ∧ ∃ Nx : Hp → Prop, (∀ H', Nx H' → ∃ m', m' < m ∧ Wv (i + 1) m' H') ∧
      ∀ x H', J.yld i H x H' → gD CE K vs tg x (wipe σ0 vs) H' fun σ2 H2 => wipe σ2 vs = wipe σ0 vs ∧ tDT CE K W0 tt σ2 H2 fun b H3 => if b = true then tI CE K W0 mi1 σ2 H3 fun J1 H4 =>
        ∃ W1 : Nat → Nat → Hp → Prop, (∃ m, W1 0 m H4) ∧ ∀ j k H, W1 j k H → (J1.stop j H ∧ Nx H) ∨ (J1.go j H ∧ ∃ Nx1 : Hp → Prop, (∀ H', Nx1 H' → ∃ k', k' < k ∧ W1 (j + 1) k' H') ∧
          ∀ x H', J1.yld j H x H' → gD CE K vs1 tg1 x (wipe σ2 vs1) H' fun σ3 H5 => wipe σ3 vs1 = wipe σ2 vs1 ∧ tDT CE K W0 tt1 σ3 H5 fun b H6 => if b = true then tD CE K W0 te σ3 H6 fun y H7 => ∃ acc, H7 D0 = some (.lst acc) ∧ acc.length < sizeLine ∧ Nx1 (upd H7 D0 (.lst (acc ++ [y]))) else Nx1 H6)
        else Nx H3) := by
  have F0 : ¬ g0.F D0 := fun z => ok0.tr D0 z hD
  have A0 : D0 ∉ g0.am := mem_am_ne ok0 hD
  have er0' : EnvR CE K g0 H0 (wipe σ0 vs) (wipeD δ0 vs) := er0.wipe vs
  have no0 : ¬ Own (wipe σ0 vs) (wipeD δ0 vs) D0 := fun z => (er0'.ownF z).2.2 hD
  refine ⟨fun i m H => m = xs.length - i ∧ i ≤ xs.length ∧ ∃ g c accD accV, Post CE K g0 H0 c0 g H c ∧ H D0 = some (.lst accV) ∧ ¬ g.F D0 ∧ D0 ∉ g.am ∧ Reps CE K g H accD accV ∧
      wpo (lc2G G tg tt mi1 vs1 tg1 tt1 te (wipeD δ0 vs) (xs.drop i) c) (fun ys c1 => P (accD ++ ys) c1) (fun _ _ _ => False),
    ⟨xs.length, by simp, Nat.zero_le _, g0, c0, [], [], Post.hid ok0 hD _, upd_same, F0, A0, Reps.nil, by simpa using h⟩, ?_⟩
  rintro i m H ⟨rfl, hi, g, c, accD, accV, p, eD, nF, nA, ra, h⟩
  by_cases hlt : i < xs.length
  · have hd : xs.drop i = xs[i] :: xs.drop (i + 1) := List.drop_eq_getElem_cons hlt
    rw [hd] at h
    unfold lc2G at h
    obtain ⟨hG, h⟩ := guard_ok (P := fun o => wpo o (fun ys c1 => P (accD ++ ys) c1) (fun _ _ _ => False)) h (fun z => z)
    refine .inr ⟨dw.go _ _ _ (p.ext.rk ok0) p.ok hG i hlt, fun H => i + 1 ≤ xs.length ∧ ∃ g c accD accV, Post CE K g0 H0 c0 g H c ∧ H D0 = some (.lst accV) ∧ ¬ g.F D0 ∧ D0 ∉ g.am ∧ Reps CE K g H accD accV ∧
      wpo (lc2G G tg tt mi1 vs1 tg1 tt1 te (wipeD δ0 vs) (xs.drop (i + 1)) c) (fun ys c1 => P (accD ++ ys) c1) (fun _ _ _ => False), fun H' ⟨h1, h2⟩ => ⟨xs.length - (i + 1), by omega, rfl, h1, h2⟩, fun x H' y => ?_⟩
    obtain ⟨g1, p1, r1⟩ := dw.yld _ _ _ (p.ext.rk ok0) p.ok hG i xs[i] x H' (by simp [hlt]) y
    cases e1 : tg xs[i] (wipeD δ0 vs) with
    | none => rw [e1] at h; exact h.elim
    | some δ1 =>
      rw [e1] at h
      dsimp only at h
      replace h := wpo_bnd.mp h
      have p01 := p.trans p1
      refine ⟨g1, c, wipeD δ0 vs, xs[i], δ1, p1.ok, er0'.mono ok0 p01.ext, r1, e1, fun σ1 er1 w1 own1 => ⟨by rw [w1]; exact wipe_wipe, ?_⟩⟩
      obtain ⟨d1, d2, d3⟩ := hid_stays p1 eD nF nA
      refine useT p1.ok er1 h (fun b c2 h2 g2 H2 p2 => ?_) fun _ _ _ z => z.elim
      obtain ⟨d4, d5, d6⟩ := hid_stays p2 d1 d2 d3
      have p02 := p01.trans p2
      cases b with
      | false =>
        rw [if_neg (by simp)] at h2 ⊢
        exact ⟨hlt, g2, c2, accD, accV, p02, d4, d5, d6, Reps.mono p.ok (p1.trans p2).ext ra, h2⟩
      | true =>
        rw [if_pos rfl] at h2 ⊢
        replace h2 := wpo_bnd.mp h2
        have er2 := er1.mono p1.ok p2.ext
        refine ⟨g2, c2, δ1, p2.ok, er2, wpo_mono h2 (fun ys c3 h3 g3 H3 J1 p3 dw1 => ?_) fun _ _ _ z => z.elim⟩
        obtain ⟨d7, d8, d9⟩ := hid_stays p3 d4 d5 d6
        have p03 := p02.trans p3
        have ra3 := Reps.mono p.ok ((p1.trans p2).trans p3).ext ra
        replace h3 := wpo_bnd.mp h3
        refine lcI_ok ok0 p03 hD d7 d8 d9 ra3 dw1 (er2.mono p2.ok p3.ext) (fun z => no0 (own1 _ z)) (R := fun zs c4 => wpo (lc2G G tg tt mi1 vs1 tg1 tt1 te (wipeD δ0 vs) (xs.drop (i + 1)) c4) (fun ws c5 => P (zs ++ ws) c5) (fun _ _ _ => False)) ?_ (fun zs c4 h4 => ?_) fun zs c4 h4 g4 H4 ws p4 _ e4 nF4 nA4 ra4 => ⟨hlt, g4, c4, zs, ws, p4, e4, nF4, nA4, ra4, h4⟩
        · refine wpo_mono h3 (fun zs c4 h4 => ?_) fun _ _ _ z => z
          replace h4 := wpo_bnd.mp h4
          refine wpo_mono h4 (fun ws c5 h5 => ?_) fun _ _ _ z => z
          rw [List.append_assoc]
          exact h5
        · cases e5 : lc2G G tg tt mi1 vs1 tg1 tt1 te (wipeD δ0 vs) (xs.drop (i + 1)) c4 with
          | ok ws c5 =>
            rw [e5] at h4
            have := hsz _ _ h4
            rw [List.length_append] at this
            omega
          | exc C xs c4 => rw [e5] at h4; exact h4.elim
          | bad => rw [e5] at h4; exact h4.elim
  · have e : i = xs.length := by omega
    subst e
    rw [List.drop_length] at h
    unfold lc2G at h
    obtain ⟨hG, h⟩ := guard_ok (P := fun o => wpo o (fun ys c1 => P (accD ++ ys) c1) (fun _ _ _ => False)) h (fun z => z)
    have h' : P (accD ++ []) c := h
    rw [List.append_nil] at h'
    exact .inl ⟨dw.stop _ _ _ (p.ext.rk ok0) p.ok hG, hQ accD c h' g H accV p eD nF nA (hsz _ _ h') ra⟩
end
section
variable {X : Cx} {CE : CEnv} {W : WX} {elt tg iter tg1 iter1 : Expr} {ifs ifs1 : List Expr} {scope : Scope} {own : List (PySem.Str × Nat)} {vs1 : List Nat} {pos : Pos} {mi1 : Ev' → M (List D)} {mg : Ev' → M (Option Nat × List D)} {t t1 : D → Ev' → Option Ev'} {tt tt1 : TM} {te : EM}
theorem lcG_use {K : PySem.W.Frag} {σ : L2.St} {H : Hp} {Q : VK} {vs : List Nat} {g : Gh} {c : Cells} {δ : Ev'} (ok : SOk CE K g H c) (er : EnvR CE K g H σ δ)
    (h : wpo (lcEG mg vs t tt te δ c) (fun d c' => ∀ g' H' v, Post CE K g H c g' H' c' → Rep CE K g' H' d v → Q v H') (EK CE K W g H c σ)) : tLc (tIG CE K W mg) (gD CE K vs t) (tDT CE K W0 tt) (tD CE K W0 te) vs σ H Q := by
  replace h := wpo_bnd.mp h
  refine ⟨g, c, δ, ok, er, wpo_mono h (fun p0 c1 h g1 H1 J p1 dw => ?_) fun _ _ _ z => z⟩
  intro D0 hD
  replace h := wpo_bnd.mp (wpo_quiet h)
  refine lc_okG p1.ok dw (er.mono ok p1.ext) hD h fun ys c2 q g2 H2 ws p2 eD nF nA hz r => ?_
  have q : ∀ g' H' v, Post CE K g H c g' H' c2 → Rep CE K g' H' (.lst ys) v → Q v H' := q
  -- the list is frozen
  have hsm : ∀ a, H1 a ≠ none → a ≠ D0 := fun a h e => h (e ▸ hD)
  have x : Ext g1 H1 c1 ⟨fun a => g2.F a ∨ a = D0, g2.am⟩ H2 c2 := ⟨fun a h => .inl (p2.ext.fr a h), p2.ext.am, p2.ext.keep, fun a h => h.elim (p2.ext.newF a) fun e => .inr (.inl (e ▸ hD)), p2.ext.newA, p2.ext.thr, fun a ⟨k, y, l⟩ => p2.ext.dd a ⟨k, y, l⟩⟩
  have rk : RK g2 H2 ⟨fun a => g2.F a ∨ a = D0, g2.am⟩ H2 := ⟨fun _ h => .inl h, fun _ _ h => h, fun _ _ => rfl, fun _ _ h => h, fun _ _ _ h => h⟩
  have ok2 : SOk CE K ⟨fun a => g2.F a ∨ a = D0, g2.am⟩ H2 c2 := ⟨p2.ok.len, p2.ok.nd, fun a ⟨k, y, l1, l2, l3⟩ h => h.elim (p2.ok.nF a ⟨k, y, l1, l2, l3⟩) fun e => nA (e ▸ List.mem_of_getElem? l1), fun k a y l1 l2 => by
    have z := p2.ok.cl k a y l1 l2
    cases y with
    | lst ds => obtain ⟨us, e, z, r⟩ := z; exact ⟨us, e, z, Reps.rk rk r⟩
    | ins C ds => obtain ⟨dx, us, e, z, r⟩ := z; exact ⟨dx, us, e, z, Reps.rk rk r⟩
    | dead => trivial, fun a h => h.elim (p2.ok.tr a) fun e => by rw [e, eD]; simp, p2.ok.tA⟩
  refine q _ _ _ (p1.trans ⟨x, ok2⟩) ?_
  simp only [Rep]
  exact ⟨D0, ws, rfl, .inr rfl, eD, hz, Reps.rk rk r⟩
theorem pd_lcG (hc : X.calm = true) (hN : X.N.Nodup) (hi : PIDG X CE W tg iter mg) (ok : BlkOk X.N X.env.scope scope own)
    (hg : ∀ (s : Shared) (H : Hp) (C : Addr) (cl : List (PySem.Str × Addr)) (fp : List Addr), PGD (X.blk s H scope (compEnvC scope cl C X.env) fp) CE (own.map (·.2)) tg t) (ht : ∀ (s : Shared) (H : Hp) (C : Addr) (cl : List (PySem.Str × Addr)) (fp : List Addr), PDTs (X.blk s H scope (compEnvC scope cl C X.env) fp) CE W0 ifs tt)
    (he : ∀ (s : Shared) (H : Hp) (C : Addr) (cl : List (PySem.Str × Addr)) (fp : List Addr), PD (X.blk s H scope (compEnvC scope cl C X.env) fp) CE W0 elt te) (hs : ∀ x, foldedSetIterable iter X.env x = pure x := by intro _; rfl) :
    PD X CE W (.ListComp elt [⟨tg, iter, ifs, 0⟩] scope pos) (lcEG mg (own.map (·.2)) t tt te) :=
  (pe_lc (own := own) (g := gD CE X.K (List.map (fun q : PySem.Str × Nat => q.2) own) t) (tt := tDT CE X.K W0 tt) (te := tD CE X.K W0 te) hc hN hi ok hg ht he hs).wk fun σ H Q ⟨g, c, δ, ok, er, h⟩ => lcG_use ok er h
theorem sd_setLcG {i : Nat} {y : PySem.Str} {py spos : Pos} (hc : X.calm = true) (hN : X.N.Nodup) (hy : X.N[i]? = some y) (hyl : X.env.scope.names.lookup y = some .local)
    (hsw : swapsWith (.ListComp elt [⟨tg, iter, ifs, 0⟩] scope pos) (some (.Name y py)) spos.line X.env = pure true) (hi : PIDG X CE W tg iter mg) (ok : BlkOk X.N X.env.scope scope own)
    (hg : ∀ (s : Shared) (H : Hp) (C : Addr) (cl : List (PySem.Str × Addr)) (fp : List Addr), PGD (X.blk s H scope (compEnvC scope cl C X.env) fp) CE (own.map (·.2)) tg t) (ht : ∀ (s : Shared) (H : Hp) (C : Addr) (cl : List (PySem.Str × Addr)) (fp : List Addr), PDTs (X.blk s H scope (compEnvC scope cl C X.env) fp) CE W0 ifs tt)
    (he : ∀ (s : Shared) (H : Hp) (C : Addr) (cl : List (PySem.Str × Addr)) (fp : List Addr), PD (X.blk s H scope (compEnvC scope cl C X.env) fp) CE W0 elt te) (hs : ∀ x, foldedSetIterable iter X.env x = pure x := by intro _; rfl) :
    SD X CE W (.Assign [.Name y py] (.ListComp elt [⟨tg, iter, ifs, 0⟩] scope pos) spos) (setS i (lcEG mg (own.map (·.2)) t tt te)) :=
  (ps_setLc (own := own) (g := gD CE X.K (List.map (fun q : PySem.Str × Nat => q.2) own) t) (tt := tDT CE X.K W0 tt) (te := tD CE X.K W0 te) hc hN hy hyl hsw hi ok hg ht he hs).wk fun D σ H ⟨g, c, δ, ok, er, h⟩ => by
    have k : tLc (tIG CE X.K W mg) (gD CE X.K (own.map (·.2)) t) (tDT CE X.K W0 tt) (tD CE X.K W0 te) (own.map (·.2)) σ H (fun x H1 => gName i x σ H1 D.nx) := by
      refine lcG_use (W := W) ok er ?_
      unfold setS at h
      cases e : lcEG mg (own.map (·.2)) t tt te δ c with
      | ok d c1 => rw [e] at h; exact fun g' H' v p r => h g' H' _ (XS.set (XS.of ok er p) r)
      | exc C xs c1 => rw [e] at h; exact fun g' H' dx p x => h g' H' σ dx (XS.of ok er p) x
      | bad => rw [e] at h; exact h
    exact k
theorem lc2G_use {K : PySem.W.Frag} {σ : L2.St} {H : Hp} {Q : VK} {vs vs1 : List Nat} {g : Gh} {c : Cells} {δ : Ev'} (ok : SOk CE K g H c) (er : EnvR CE K g H σ δ)
    (h : wpo (lc2EG mg vs t tt mi1 vs1 t1 tt1 te δ c) (fun d c' => ∀ g' H' v, Post CE K g H c g' H' c' → Rep CE K g' H' d v → Q v H') (EK CE K W g H c σ)) : tLc2 (tIG CE K W mg) (gD CE K vs t) (tDT CE K W0 tt) (tI CE K W0 mi1) (gD CE K vs1 t1) (tDT CE K W0 tt1) (tD CE K W0 te) vs vs1 σ H Q := by
  replace h := wpo_bnd.mp h
  refine ⟨g, c, δ, ok, er, wpo_mono h (fun p0 c1 h g1 H1 J p1 dw => ?_) fun _ _ _ z => z⟩
  intro D0 hD
  replace h := wpo_bnd.mp (wpo_quiet h)
  have h2 : wpo (lc2G (gdOk p0) t tt mi1 vs1 t1 tt1 te (wipeD δ vs) p0.2 c1) (fun ys c2 => ys.length ≤ sizeLine ∧ ∀ g' H' v, Post CE K g H c g' H' c2 → Rep CE K g' H' (.lst ys) v → Q v H') (fun _ _ _ => False) := wpo_mono h (fun ys c2 q => by
    split at q
    · rename_i hz
      exact ⟨hz, q⟩
    · exact q.elim) fun _ _ _ z => z
  refine lc2_okG p1.ok dw (er.mono ok p1.ext) hD h2 (fun _ _ q => q.1) fun ys c2 q g2 H2 ws p2 eD nF nA hz r => ?_
  have q := q.2
  have P := Post.frz p2 hD eD nA
  refine q _ _ _ (p1.trans P) ?_
  simp only [Rep]
  exact ⟨D0, ws, rfl, .inr rfl, eD, hz, Reps.rk RK.cold r⟩
theorem pd_lc2G (vs1 : List Nat) (hc : X.calm = true) (hN : X.N.Nodup) (hi : PIDG X CE W tg iter mg) (ok : BlkOk X.N X.env.scope scope own) (hv : ∀ i ∈ vs1, i ∈ own.map (·.2))
    (hg : ∀ (s : Shared) (H : Hp) (C : Addr) (cl : List (PySem.Str × Addr)) (fp : List Addr), PGD (X.blk s H scope (compEnvC scope cl C X.env) fp) CE (own.map (·.2)) tg t) (ht : ∀ (s : Shared) (H : Hp) (C : Addr) (cl : List (PySem.Str × Addr)) (fp : List Addr), PDTs (X.blk s H scope (compEnvC scope cl C X.env) fp) CE W0 ifs tt)
    (hi1 : ∀ (s : Shared) (H : Hp) (C : Addr) (cl : List (PySem.Str × Addr)) (fp : List Addr), PID (X.blk s H scope (compEnvC scope cl C X.env) fp) CE W0 tg1 iter1 mi1)
    (hg1 : ∀ (s : Shared) (H : Hp) (C : Addr) (cl : List (PySem.Str × Addr)) (fp : List Addr), PGD (X.blk s H scope (compEnvC scope cl C X.env) fp) CE vs1 tg1 t1) (ht1 : ∀ (s : Shared) (H : Hp) (C : Addr) (cl : List (PySem.Str × Addr)) (fp : List Addr), PDTs (X.blk s H scope (compEnvC scope cl C X.env) fp) CE W0 ifs1 tt1)
    (he : ∀ (s : Shared) (H : Hp) (C : Addr) (cl : List (PySem.Str × Addr)) (fp : List Addr), PD (X.blk s H scope (compEnvC scope cl C X.env) fp) CE W0 elt te) (hs : ∀ x, foldedSetIterable iter X.env x = pure x := by intro _; rfl) (hs1 : ∀ env x, foldedSetIterable iter1 env x = pure x := by intro _ _; rfl) :
    PD X CE W (.ListComp elt [⟨tg, iter, ifs, 0⟩, ⟨tg1, iter1, ifs1, 0⟩] scope pos) (lc2EG mg (own.map (·.2)) t tt mi1 vs1 t1 tt1 te) :=
  (pe_lc2 (own := own) (vs1 := vs1) (wi1 := tI CE X.K W0 mi1) (g := gD CE X.K (List.map (fun q : PySem.Str × Nat => q.2) own) t) (g1 := gD CE X.K vs1 t1) (tt := tDT CE X.K W0 tt) (tt1 := tDT CE X.K W0 tt1) (te := tD CE X.K W0 te) hc hN hi ok hv hg ht hi1 hg1 ht1 he hs hs1).wk fun σ H Q ⟨g, c, δ, ok, er, h⟩ => lc2G_use ok er h
theorem sd_setLc2G {i : Nat} {y : PySem.Str} {py spos : Pos} (vs1 : List Nat) (hc : X.calm = true) (hN : X.N.Nodup) (hy : X.N[i]? = some y) (hyl : X.env.scope.names.lookup y = some .local)
    (hsw : swapsWith (.ListComp elt [⟨tg, iter, ifs, 0⟩, ⟨tg1, iter1, ifs1, 0⟩] scope pos) (some (.Name y py)) spos.line X.env = pure true) (hi : PIDG X CE W tg iter mg) (ok : BlkOk X.N X.env.scope scope own) (hv : ∀ i ∈ vs1, i ∈ own.map (·.2))
    (hg : ∀ (s : Shared) (H : Hp) (C : Addr) (cl : List (PySem.Str × Addr)) (fp : List Addr), PGD (X.blk s H scope (compEnvC scope cl C X.env) fp) CE (own.map (·.2)) tg t) (ht : ∀ (s : Shared) (H : Hp) (C : Addr) (cl : List (PySem.Str × Addr)) (fp : List Addr), PDTs (X.blk s H scope (compEnvC scope cl C X.env) fp) CE W0 ifs tt)
    (hi1 : ∀ (s : Shared) (H : Hp) (C : Addr) (cl : List (PySem.Str × Addr)) (fp : List Addr), PID (X.blk s H scope (compEnvC scope cl C X.env) fp) CE W0 tg1 iter1 mi1)
    (hg1 : ∀ (s : Shared) (H : Hp) (C : Addr) (cl : List (PySem.Str × Addr)) (fp : List Addr), PGD (X.blk s H scope (compEnvC scope cl C X.env) fp) CE vs1 tg1 t1) (ht1 : ∀ (s : Shared) (H : Hp) (C : Addr) (cl : List (PySem.Str × Addr)) (fp : List Addr), PDTs (X.blk s H scope (compEnvC scope cl C X.env) fp) CE W0 ifs1 tt1)
    (he : ∀ (s : Shared) (H : Hp) (C : Addr) (cl : List (PySem.Str × Addr)) (fp : List Addr), PD (X.blk s H scope (compEnvC scope cl C X.env) fp) CE W0 elt te) (hs : ∀ x, foldedSetIterable iter X.env x = pure x := by intro _; rfl) (hs1 : ∀ env x, foldedSetIterable iter1 env x = pure x := by intro _ _; rfl) :
    SD X CE W (.Assign [.Name y py] (.ListComp elt [⟨tg, iter, ifs, 0⟩, ⟨tg1, iter1, ifs1, 0⟩] scope pos) spos) (setS i (lc2EG mg (own.map (·.2)) t tt mi1 vs1 t1 tt1 te)) :=
  (ps_setLc2 (own := own) (vs1 := vs1) (wi1 := tI CE X.K W0 mi1) (g := gD CE X.K (List.map (fun q : PySem.Str × Nat => q.2) own) t) (g1 := gD CE X.K vs1 t1) (tt := tDT CE X.K W0 tt) (tt1 := tDT CE X.K W0 tt1) (te := tD CE X.K W0 te) hc hN hy hyl hsw hi ok hv hg ht hi1 hg1 ht1 he hs hs1).wk fun D σ H ⟨g, c, δ, ok, er, h⟩ => by
    have k : tLc2 (tIG CE X.K W mg) (gD CE X.K (own.map (·.2)) t) (tDT CE X.K W0 tt) (tI CE X.K W0 mi1) (gD CE X.K vs1 t1) (tDT CE X.K W0 tt1) (tD CE X.K W0 te) (own.map (·.2)) vs1 σ H (fun x H1 => gName i x σ H1 D.nx) := by
      refine lc2G_use (W := W) ok er ?_
      unfold setS at h
      cases e : lc2EG mg (own.map (·.2)) t tt mi1 vs1 t1 tt1 te δ c with
      | ok d c1 => rw [e] at h; exact fun g' H' v p r => h g' H' _ (XS.set (XS.of ok er p) r)
      | exc C xs c1 => rw [e] at h; exact fun g' H' dx p x => h g' H' σ dx (XS.of ok er p) x
      | bad => rw [e] at h; exact h
    exact k
end
end DL

namespace DL
open PySem PySem.Spec PyProof.Rows L2

theorem size_is : sizeLine = 16777216 := rfl
section
variable {c : Cells}
theorem eqB_int {i j : Int} : eqB (.int i) (.int j) c = some (decide (i = j)) := rfl
theorem eqB_str {i j : PySem.Str} : eqB (.str i) (.str j) c = some (decide (i = j)) := rfl
theorem eqB_bl {i j : Bool} : eqB (.bl i) (.bl j) c = some (decide (i = j)) := rfl
theorem eqB_non : eqB .non .non c = some true := rfl
theorem eqB_ni {i : Int} : eqB .non (.int i) c = some false := rfl
theorem eqB_in {i : Int} : eqB (.int i) .non c = some false := rfl
theorem eqB_ns {i : PySem.Str} : eqB .non (.str i) c = some false := rfl
theorem eqB_sn {i : PySem.Str} : eqB (.str i) .non c = some false := rfl
theorem eqB_is {i : Int} {j : PySem.Str} : eqB (.int i) (.str j) c = some false := rfl
theorem eqB_si {i : Int} {j : PySem.Str} : eqB (.str j) (.int i) c = some false := rfl
end
section
variable {c : Cells}
theorem seqOf_tup {xs : List D} : seqOf (.tup xs) c = some xs := rfl
theorem seqF_tup {xs : List D} : seqF (.tup xs) = some xs := rfl
theorem lenP_tup {xs : List D} : lenP [.tup xs] c = some (.int xs.length) := rfl
theorem listG_tup {xs : List D} : listG [.tup xs] c = some (.lst xs) := rfl
theorem listF_tup {xs : List D} : listF [.tup xs] c = some (.lst xs) := rfl
theorem tupleF_tup {xs : List D} : tupleF [.tup xs] c = some (.tup xs) := rfl
theorem ixP_tup {xs : List D} {i : Int} : ixP (.tup xs) (.int i) c = L2.atI xs i := rfl
theorem truB_tup {xs : List D} : truB (.tup xs) c = some (!xs.isEmpty) := rfl
theorem seqOf_lst {xs : List D} : seqOf (.lst xs) c = some xs := rfl
theorem seqF_lst {xs : List D} : seqF (.lst xs) = some xs := rfl
theorem lenP_lst {xs : List D} : lenP [.lst xs] c = some (.int xs.length) := rfl
theorem listG_lst {xs : List D} : listG [.lst xs] c = some (.lst xs) := rfl
theorem listF_lst {xs : List D} : listF [.lst xs] c = some (.lst xs) := rfl
theorem tupleF_lst {xs : List D} : tupleF [.lst xs] c = some (.tup xs) := rfl
theorem ixP_lst {xs : List D} {i : Int} : ixP (.lst xs) (.int i) c = L2.atI xs i := rfl
theorem truB_lst {xs : List D} : truB (.lst xs) c = some (!xs.isEmpty) := rfl
theorem seqOf_rol {xs : List D} : seqOf (.rol xs) c = some xs := rfl
theorem seqF_rol {xs : List D} : seqF (.rol xs) = some xs := rfl
theorem lenP_rol {xs : List D} : lenP [.rol xs] c = some (.int xs.length) := rfl
theorem listG_rol {xs : List D} : listG [.rol xs] c = some (.lst xs) := rfl
theorem listF_rol {xs : List D} : listF [.rol xs] c = some (.lst xs) := rfl
theorem tupleF_rol {xs : List D} : tupleF [.rol xs] c = some (.tup xs) := rfl
theorem ixP_rol {xs : List D} {i : Int} : ixP (.rol xs) (.int i) c = L2.atI xs i := rfl
theorem truB_rol {xs : List D} : truB (.rol xs) c = some (!xs.isEmpty) := rfl
theorem seqOf_cell {k : Nat} : seqOf (.cell k) c = (match c[k]? with | some (Cell.lst xs) => some xs | _ => none) := by (simp only [seqOf, rlistOf, DL.listOf]) <;> (cases c[k]? with | none => rfl | some x => cases x <;> rfl)
theorem lenP_cell {k : Nat} : lenP [.cell k] c = (match c[k]? with | some (Cell.lst xs) => some (.int xs.length) | _ => none) := by (simp only [lenP, seqOf, rlistOf, DL.listOf]) <;> (cases c[k]? with | none => rfl | some x => cases x <;> rfl)
theorem listG_cell {k : Nat} : listG [.cell k] c = (match c[k]? with | some (Cell.lst xs) => some (.lst xs) | _ => none) := by (simp only [listG, listF, seqOf, rlistOf, DL.listOf]) <;> (cases c[k]? with | none => rfl | some x => cases x <;> rfl)
theorem listF_cell {k : Nat} : listF [.cell k] c = (match c[k]? with | some (Cell.lst xs) => some (.lst xs) | _ => none) := by (simp only [listF, seqOf, rlistOf, DL.listOf]) <;> (cases c[k]? with | none => rfl | some x => cases x <;> rfl)
theorem tupleF_cell {k : Nat} : tupleF [.cell k] c = (match c[k]? with | some (Cell.lst xs) => some (.tup xs) | _ => none) := by (simp only [tupleF, seqOf, rlistOf, DL.listOf]) <;> (cases c[k]? with | none => rfl | some x => cases x <;> rfl)
theorem ixP_cell {k : Nat} {i : Int} : ixP (.cell k) (.int i) c = (match c[k]? with | some (Cell.lst xs) => L2.atI xs i | _ => none) := by (simp only [ixP, seqOf, rlistOf, DL.listOf]) <;> (cases c[k]? with | none => rfl | some x => cases x <;> rfl)
theorem truB_cell {k : Nat} : truB (.cell k) c = (match c[k]? with | some (Cell.lst xs) => some (!xs.isEmpty) | _ => none) := by (simp only [truB, seqOf, rlistOf, DL.listOf]) <;> (cases c[k]? with | none => rfl | some x => cases x <;> rfl)
theorem rlistOf_lst {xs : List D} : rlistOf (.lst xs) c = some xs := rfl
theorem rlistOf_rol {xs : List D} : rlistOf (.rol xs) c = some xs := rfl
theorem rlistOf_cell {k : Nat} : rlistOf (.cell k) c = (match c[k]? with | some (Cell.lst xs) => some xs | _ => none) := by (simp only [rlistOf, DL.listOf]) <;> (cases c[k]? with | none => rfl | some x => cases x <;> rfl)
theorem listOf_lst {xs : List D} : DL.listOf (.lst xs) c = some xs := rfl
theorem listOf_cell {k : Nat} : DL.listOf (.cell k) c = (match c[k]? with | some (Cell.lst xs) => some xs | _ => none) := by (simp only [DL.listOf]) <;> (cases c[k]? with | none => rfl | some x => cases x <;> rfl)
theorem lenP_str {x : PySem.Str} : lenP [.str x] c = if x.length ≤ sizeLine then some (.int x.length) else none := rfl
theorem listG_str {x : PySem.Str} : listG [.str x] c = if x.length ≤ sizeLine then some (.lst (chars x)) else none := rfl
theorem ixP_str {x : PySem.Str} {i : Int} : ixP (.str x) (.int i) c = if x.length ≤ sizeLine then (L2.atI x.cps.toList i).map fun n => .str ⟨#[n]⟩ else none := rfl
theorem truB_non : truB .non c = some false := rfl
theorem truB_bl {b : Bool} : truB (.bl b) c = some b := rfl
theorem truB_int {i : Int} : truB (.int i) c = some (i != 0) := rfl
theorem truB_str {x : PySem.Str} : truB (.str x) c = if x.length ≤ sizeLine then some ((x.length : Int) != 0) else none := rfl
theorem addP_int {i j : Int} : addP (.int i) (.int j) c = some (.int (i + j)) := rfl
theorem addP_str {x y : PySem.Str} : addP (.str x) (.str y) c = if x.length + y.length ≤ sizeLine then some (.str (x ++ y)) else none := rfl
theorem addP_tup {xs ys : List D} : addP (.tup xs) (.tup ys) c = if xs.length + ys.length ≤ sizeLine then some (.tup (xs ++ ys)) else none := rfl
theorem addP_lst {xs ys : List D} : addP (.lst xs) (.lst ys) c = if xs.length + ys.length ≤ sizeLine then some (.lst (xs ++ ys)) else none := rfl
theorem addP_lc {xs : List D} {k : Nat} : addP (.lst xs) (.cell k) c = (match c[k]? with | some (Cell.lst ys) => if xs.length + ys.length ≤ sizeLine then some (.lst (xs ++ ys)) else none | _ => none) := by (simp only [addP, DL.listOf]) <;> (cases c[k]? with | none => rfl | some x => cases x <;> rfl)
theorem addP_cl {ys : List D} {k : Nat} : addP (.cell k) (.lst ys) c = (match c[k]? with | some (Cell.lst xs) => if xs.length + ys.length ≤ sizeLine then some (.lst (xs ++ ys)) else none | _ => none) := by (simp only [addP, DL.listOf]) <;> (cases c[k]? with | none => rfl | some x => cases x <;> rfl)
theorem ltB_int {i j : Int} : ltB (.int i) (.int j) = some (decide (i < j)) := rfl
theorem ltB_str {x y : PySem.Str} : ltB (.str x) (.str y) = some (decide (x.cps.toList < y.cps.toList)) := rfl
theorem slL_str {x : PySem.Str} {lo hi : Option Int} : slL (.str x) lo hi c = if x.length ≤ sizeLine then some (.str (cutS x lo hi)) else none := rfl
theorem slL_tup {xs : List D} {lo hi : Option Int} : slL (.tup xs) lo hi c = some (.tup (cutD xs lo hi)) := rfl
theorem slL_lst {xs : List D} {lo hi : Option Int} : slL (.lst xs) lo hi c = some (.lst (cutD xs lo hi)) := rfl
theorem slL_rol {xs : List D} {lo hi : Option Int} : slL (.rol xs) lo hi c = some (.lst (cutD xs lo hi)) := rfl
theorem slL_cell {k : Nat} {lo hi : Option Int} : slL (.cell k) lo hi c = (match c[k]? with | some (Cell.lst xs) => some (.lst (cutD xs lo hi)) | _ => none) := by (simp only [slL, rlistOf, DL.listOf]) <;> (cases c[k]? with | none => rfl | some x => cases x <;> rfl)
theorem isNon_tup {xs : List D} : isNon (.tup xs) = false := rfl
theorem isNon_lst {xs : List D} : isNon (.lst xs) = false := rfl
theorem isNon_ins {C : Nat} {xs : List D} : isNon (.ins C xs) = false := rfl
theorem isNon_non : isNon .non = true := rfl
theorem isNon_int {i : Int} : isNon (.int i) = false := rfl
theorem isNon_str {x : PySem.Str} : isNon (.str x) = false := rfl
theorem isNon_bl {b : Bool} : isNon (.bl b) = false := rfl
theorem isNon_cell {k : Nat} : isNon (.cell k) = false := rfl
theorem insOf_ins {C : Nat} {xs : List D} : insOf (.ins C xs) c = some (C, xs) := rfl
theorem insOf_cell {k : Nat} : insOf (.cell k) c = (match c[k]? with | some (Cell.ins C xs) => some (C, xs) | _ => none) := by (simp only [insOf]) <;> (cases c[k]? with | none => rfl | some x => cases x <;> rfl)
end
theorem inB_str {i j : PySem.Str} {c : Cells} : inB (.str i) (.str j) c = some (strIn i j) := rfl
theorem rng1_nat {n : Nat} (h : n ≤ 16777216) : rng1 [.int (n : Int)] = some (rangeD 0 n) := by
  have h1 : -(2 ^ 62) ≤ (n : Int) ∧ (n : Int) ≤ sizeLine := by rw [size_is]; omega
  simp [rng1]; omega
theorem rng1_int {n : Int} (h0 : 0 ≤ n) (h : n ≤ 16777216) : rng1 [.int n] = some (rangeD 0 n.toNat) := by
  obtain ⟨k, rfl⟩ := Int.eq_ofNat_of_zero_le h0
  rw [rng1_nat (by omega)]
  simp
def turn (js : List Nat) (tg : D → Ev' → Option Ev') (b : SM) (x : D) (δ : Ev') (c : Cells) : Res := match tg x δ with
  | none => .bad
  | some δ1 => endW js b δ1 c
section
variable {α S : Type} {js : List Nat} {tg : D → Ev' → Option Ev'} {b : SM} {δ δ' : Ev'} {c c' : Cells} {enc : α → D}
theorem lp_cons {x : D} {xs : List D} : forL tg (endW js b) (x :: xs) δ c = match turn js tg b x δ c with
    | .nx δ2 c2 => forL tg (endW js b) xs δ2 c2
    | .bk δ2 c2 => .nx δ2 c2
    | r => r := by
  unfold turn
  simp only [forL]
  cases e : tg x δ with
  | none => rfl
  | some δ1 =>
    have : ∀ δ' c', endW js b δ1 c ≠ .ct δ' c' := fun δ' c' z => by
      unfold endW at z
      cases hb : b δ1 c <;> rw [hb] at z <;> cases z
    cases hb : endW js b δ1 c with
    | ct δ' c' => exact absurd hb (this δ' c')
    | nx δ' c' => simp only [hb]
    | rt d c' => simp only [hb]
    | bk δ' c' => simp only [hb]
    | exc C xs δ' c' => simp only [hb]
    | bad => simp only [hb]
theorem lp_nx {x : D} {xs : List D} (h : turn js tg b x δ c = .nx δ' c') : forL tg (endW js b) (x :: xs) δ c = forL tg (endW js b) xs δ' c' := by rw [lp_cons, h]
theorem lp_all : ∀ {xs : List α}, (∀ x ∈ xs, turn js tg b (enc x) δ c = .nx δ c) → forL tg (endW js b) (xs.map enc) δ c = .nx δ c
  | [], _ => rfl
  | x :: xs, h => by
    rw [List.map_cons, lp_nx (h x (by simp))]
    exact lp_all fun y hy => h y (by simp [hy])
theorem lp_allD {xs : List D} (h : ∀ x ∈ xs, turn js tg b x δ c = .nx δ c) : forL tg (endW js b) xs δ c = .nx δ c := by
  have := lp_all (α := D) (enc := id) (xs := xs) h
  rwa [List.map_id] at this
/-- a loop that looks for one -/
theorem lp_find {p : α → Bool} {r : α → D} : ∀ {xs : List α}, (∀ x ∈ xs, turn js tg b (enc x) δ c = if p x then .rt (r x) c else .nx δ c) →
    forL tg (endW js b) (xs.map enc) δ c = match xs.find? p with
      | some x => .rt (r x) c
      | none => .nx δ c
  | [], _ => rfl
  | x :: xs, h => by
    have h1 := h x (by simp)
    rw [List.map_cons, lp_cons, h1]
    cases e : p x with
    | true => simp [e]
    | false =>
      simp only [Bool.false_eq_true, if_false]
      rw [lp_find fun y hy => h y (by simp [hy]), List.find?_cons_of_neg (by simp [e])]
theorem lp_any {p : α → Bool} {d : D} {xs : List α} (h : ∀ x ∈ xs, turn js tg b (enc x) δ c = if p x then .rt d c else .nx δ c) : forL tg (endW js b) (xs.map enc) δ c = if xs.any p then .rt d c else .nx δ c := by
  rw [lp_find (r := fun _ => d) h]
  cases e : xs.find? p with
  | some x =>
    have := List.find?_some e
    rw [if_pos (List.any_eq_true.mpr ⟨x, List.mem_of_find?_eq_some e, this⟩)]
  | none =>
    rw [if_neg]
    intro z
    obtain ⟨x, hx, hp⟩ := List.any_eq_true.mp z
    exact absurd hp (by simpa using List.find?_eq_none.mp e x hx)
theorem lp_anyD {p : D → Bool} {d : D} {xs : List D} (h : ∀ x ∈ xs, turn js tg b x δ c = if p x then .rt d c else .nx δ c) : forL tg (endW js b) xs δ c = if xs.any p then .rt d c else .nx δ c := by
  have := lp_any (α := D) (enc := id) (xs := xs) h
  rwa [List.map_id] at this
/-- a loop that raises at the first one -/
theorem lp_exc {p : α → Bool} {C : Nat} {ds : List D} : ∀ {xs : List α}, (∀ x ∈ xs, if p x then ∃ δ', turn js tg b (enc x) δ c = .exc C ds δ' c else turn js tg b (enc x) δ c = .nx δ c) →
    if xs.any p then ∃ δ', forL tg (endW js b) (xs.map enc) δ c = .exc C ds δ' c else forL tg (endW js b) (xs.map enc) δ c = .nx δ c
  | [], _ => by simp [forL]
  | x :: xs, h => by
    have h1 := h x (by simp)
    have ih := lp_exc (xs := xs) fun y hy => h y (by simp [hy])
    cases e : p x with
    | true =>
      rw [if_pos e] at h1
      obtain ⟨δ', h1⟩ := h1
      rw [if_pos (by simp [e])]
      exact ⟨δ', by rw [List.map_cons, lp_cons, h1]⟩
    | false =>
      rw [if_neg (by simp [e])] at h1
      simp only [List.any_cons, e, Bool.false_or, List.map_cons, lp_nx h1]
      exact ih
theorem lp_fold {mk : S → Ev'} {f : S → α → S} : ∀ {xs : List α} {s : S}, (∀ s x, x ∈ xs → turn js tg b (enc x) (mk s) c = .nx (mk (f s x)) c) → forL tg (endW js b) (xs.map enc) (mk s) c = .nx (mk (xs.foldl f s)) c
  | [], _, _ => rfl
  | x :: xs, s, h => by
    rw [List.map_cons, lp_nx (h s x (by simp)), List.foldl_cons]
    exact lp_fold fun s y hy => h s y (by simp [hy])
theorem lp_foldP {mk : S → Ev'} {f : S → α → S} {P : S → Prop} : ∀ {xs : List α} {s : S}, P s → (∀ s x, x ∈ xs → P s → turn js tg b (enc x) (mk s) c = .nx (mk (f s x)) c ∧ P (f s x)) →
    forL tg (endW js b) (xs.map enc) (mk s) c = .nx (mk (xs.foldl f s)) c ∧ P (xs.foldl f s)
  | [], _, h0, _ => ⟨rfl, h0⟩
  | x :: xs, s, h0, h => by
    obtain ⟨h1, h2⟩ := h s x (by simp) h0
    rw [List.map_cons, lp_nx h1, List.foldl_cons]
    exact lp_foldP h2 fun s y hy => h s y (by simp [hy])
/-- a loop that gathers by appending to a list of its own -/
theorem lp_app {mk : List D → Ev'} {f : α → D} : ∀ {xs : List α} {acc : List D}, acc.length + xs.length ≤ 16777216 → (∀ acc x, x ∈ xs → acc.length < 16777216 → turn js tg b (enc x) (mk acc) c = .nx (mk (acc ++ [f x])) c) →
    forL tg (endW js b) (xs.map enc) (mk acc) c = .nx (mk (acc ++ xs.map f)) c
  | [], acc, _, _ => by simp [forL]
  | x :: xs, acc, hl, h => by
    simp only [List.length_cons] at hl
    rw [List.map_cons, lp_nx (h acc x (by simp) (by omega)), lp_app (by simp; omega) fun a y hy => h a y (by simp [hy])]
    simp
/-- a loop with an invariant over the turns, the state and the cells -/
theorem lp_inv {mk : S → Ev'} {cl : S → Cells} {I : Nat → S → Prop} : ∀ {xs : List D} {k : Nat} {s : S}, I k s →
    (∀ i x s, xs[i]? = some x → I (k + i) s → ∃ s', turn js tg b x (mk s) (cl s) = .nx (mk s') (cl s') ∧ I (k + i + 1) s') →
    ∃ s', forL tg (endW js b) xs (mk s) (cl s) = .nx (mk s') (cl s') ∧ I (k + xs.length) s'
  | [], k, s, h, _ => ⟨s, rfl, h⟩
  | x :: xs, k, s, h, hs => by
    obtain ⟨s1, e1, h1⟩ := hs 0 x s rfl h
    obtain ⟨s', e, h'⟩ := lp_inv (xs := xs) (k := k + 1) h1 fun i y s hi hI => by
      have := hs (i + 1) y s (by simpa using hi) (by rw [show k + (i + 1) = k + 1 + i by omega]; exact hI)
      rw [show k + (i + 1) + 1 = k + 1 + i + 1 by omega] at this
      exact this
    exact ⟨s', by rw [lp_nx e1, e], by rw [List.length_cons, show k + (xs.length + 1) = k + 1 + xs.length by omega]; exact h'⟩
end
/-- one item's turn -/
def item (tg : D → Ev' → Option Ev') (tt : TM) (te : EM) (x : D) (δ : Ev') (c : Cells) : Out (Option D) := match tg x δ with
  | none => .bad
  | some δ1 => ((tt δ1 c).bnd fun k c => if k then (te δ1 c).bnd fun y c => .ok (some y) c else .ok none c)
section
variable {α S : Type} {js : List Nat} {tg : D → Ev' → Option Ev'} {tt : TM} {te : EM} {mi : Ev' → M (List D)} {δ : Ev'} {c c1 : Cells} {enc : α → D}
theorem lcL_cons {x : D} {xs : List D} : lcL tg tt te δ (x :: xs) c = (item tg tt te x δ c).bnd fun o c => (lcL tg tt te δ xs c).bnd fun ys c => .ok (o.toList ++ ys) c := by
  have h : lcL tg tt te δ (x :: xs) c = (match tg x δ with
    | none => stuck
    | some δ1 => bnd (tt δ1) fun b => if b then bnd (te δ1) fun y => bnd (lcL tg tt te δ xs) fun ys => DL.ret (y :: ys) else lcL tg tt te δ xs) c := rfl
  rw [h]
  unfold item
  generalize lcL tg tt te δ xs = L
  cases e : tg x δ with
  | none => rfl
  | some δ1 =>
    simp only [bnd]
    cases tt δ1 c with
    | ok k c2 =>
      cases k with
      | true =>
        simp only [Out.bnd, if_true, bnd]
        cases te δ1 c2 with
        | ok y c3 => simp only [Out.bnd]; cases L c3 <;> rfl
        | exc C ys c3 => rfl
        | bad => rfl
      | false =>
        simp only [Out.bnd, Bool.false_eq_true, if_false]
        cases L c2 <;> rfl
    | exc C ys c2 => rfl
    | bad => rfl
theorem lcL_filter {p : α → Bool} {f : α → D} : ∀ {xs : List α}, (∀ x ∈ xs, item tg tt te (enc x) δ c = .ok (if p x then some (f x) else none) c) → lcL tg tt te δ (xs.map enc) c = .ok ((xs.filter p).map f) c
  | [], _ => rfl
  | x :: xs, h => by
    rw [List.map_cons, lcL_cons, h x (by simp)]
    simp only [Out.bnd]
    rw [lcL_filter fun y hy => h y (by simp [hy])]
    cases e : p x <;> simp [e]
theorem lcL_all {f : α → D} {xs : List α} (h : ∀ x ∈ xs, item tg tt te (enc x) δ c = .ok (some (f x)) c) : lcL tg tt te δ (xs.map enc) c = .ok (xs.map f) c := by
  have := lcL_filter (p := fun _ => true) (f := f) (xs := xs) (δ := δ) (c := c) (tg := tg) (tt := tt) (te := te) (enc := enc) fun x hx => by rw [h x hx]; rfl
  rwa [List.filter_eq_self.mpr (fun _ _ => rfl)] at this
theorem lcE_filter {p : α → Bool} {f : α → D} {xs : List α} (hi : mi δ c = .ok (xs.map enc) c1) (h : ∀ x ∈ xs, item tg tt te (enc x) (wipeD δ js) c1 = .ok (if p x then some (f x) else none) c1) :
    lcE mi js tg tt te δ c = .ok (.lst ((xs.filter p).map f)) c1 := by
  simp [lcE, bnd, hi, Out.bnd, lcL_filter h, DL.ret, Out.quiet]
theorem lcE_all {f : α → D} {xs : List α} (hi : mi δ c = .ok (xs.map enc) c1) (h : ∀ x ∈ xs, item tg tt te (enc x) (wipeD δ js) c1 = .ok (some (f x)) c1) :
    lcE mi js tg tt te δ c = .ok (.lst (xs.map f)) c1 := by
  simp [lcE, bnd, hi, Out.bnd, lcL_all h, DL.ret, Out.quiet]
theorem lcE_filterD {p : D → Bool} {f : D → D} {xs : List D} (hi : mi δ c = .ok xs c1) (h : ∀ x ∈ xs, item tg tt te x (wipeD δ js) c1 = .ok (if p x then some (f x) else none) c1) :
    lcE mi js tg tt te δ c = .ok (.lst ((xs.filter p).map f)) c1 := lcE_filter (α := D) (enc := id) (by rw [List.map_id]; exact hi) h
theorem lcE_allD {f : D → D} {xs : List D} (hi : mi δ c = .ok xs c1) (h : ∀ x ∈ xs, item tg tt te x (wipeD δ js) c1 = .ok (some (f x)) c1) :
    lcE mi js tg tt te δ c = .ok (.lst (xs.map f)) c1 := lcE_all (α := D) (enc := id) (by rw [List.map_id]; exact hi) h
/-- items that draw -/
theorem lcL_st2 {I : S → Prop} {Q : D → Prop} {cl : S → Cells} : ∀ {xs : List D} {s : S}, I s → (∀ x s, x ∈ xs → I s → ∃ y s', item tg tt te x δ (cl s) = .ok (some y) (cl s') ∧ I s' ∧ Q y) →
    ∃ ys s', lcL tg tt te δ xs (cl s) = .ok ys (cl s') ∧ I s' ∧ ys.length = xs.length ∧ ∀ y ∈ ys, Q y
  | [], s, h, _ => ⟨[], s, rfl, h, rfl, fun _ z => by cases z⟩
  | x :: xs, s, h, hs => by
    obtain ⟨y, s1, e1, h1, q1⟩ := hs x s (by simp) h
    obtain ⟨ys, s', e, h', hl, ha⟩ := lcL_st2 (xs := xs) h1 fun z s hz => hs z s (by simp [hz])
    refine ⟨y :: ys, s', ?_, h', by simp [hl], fun z hz => ?_⟩
    · rw [lcL_cons, e1]; simp [Out.bnd, e]
    · rcases List.mem_cons.mp hz with rfl | hz
      · exact q1
      · exact ha z hz
/-- two clauses -/
theorem lc2L_flat {β : Type} {enc1 : β → D} {mi1 : Ev' → M (List D)} {vs1 : List Nat} {tg1 : D → Ev' → Option Ev'} {tt1 : TM} {inner : α → List β} {p : α → Bool} {q : α → β → Bool} {f : α → β → D} : ∀ {xs : List α},
    (∀ x ∈ xs, ∃ δ1, tg (enc x) δ = some δ1 ∧ tt δ1 c = .ok (p x) c ∧ (p x = true → mi1 δ1 c = .ok ((inner x).map enc1) c ∧ ∀ y ∈ inner x, item tg1 tt1 te (enc1 y) (wipeD δ1 vs1) c = .ok (if q x y then some (f x y) else none) c)) →
    lc2L tg tt mi1 vs1 tg1 tt1 te δ (xs.map enc) c = .ok ((xs.filter p).flatMap fun x => ((inner x).filter (q x)).map (f x)) c
  | [], _ => rfl
  | x :: xs, h => by
    obtain ⟨δ1, e1, e2, e3⟩ := h x (by simp)
    have ih := lc2L_flat (xs := xs) fun y hy => h y (by simp [hy])
    unfold lc2L
    simp only [List.map_cons, e1, bnd, e2, Out.bnd]
    cases ep : p x with
    | false => simp [ep, ih]
    | true =>
      obtain ⟨e4, e5⟩ := e3 ep
      have := lcL_filter (δ := wipeD δ1 vs1) e5
      simp [ep, e4, bnd, Out.bnd, this, ih, DL.ret]
end
theorem forG_is {js : List Nat} {tg : D → Ev' → Option Ev'} {b : SM} {c : Cells} {G : Cells → Prop} (hG : G c) (I : Ev' → Prop) : ∀ {xs : List D} {δ : Ev'}, I δ → (∀ x ∈ xs, ∀ δ, I δ → ∀ δ' c', turn js tg b x δ c = .nx δ' c' → c' = c ∧ I δ') →
    forG G tg (endW js b) xs δ c = forL tg (endW js b) xs δ c
  | [], δ, _, _ => by unfold forG forL; rw [if_pos hG]
  | x :: xs, δ, h0, h => by
    have h1 := h x (by simp) δ h0
    unfold forG forL
    rw [if_pos hG]
    unfold turn at h1
    cases e : tg x δ with
    | none => rfl
    | some δ1 =>
      rw [e] at h1
      dsimp only at h1 ⊢
      cases e2 : endW js b δ1 c with
      | nx δ2 c2 =>
        obtain ⟨rfl, hI⟩ := h1 δ2 c2 e2
        exact forG_is hG I hI fun y hy => h y (by simp [hy])
      | ct δ2 c2 =>
        exfalso
        unfold endW at e2
        cases hb : b δ1 c <;> rw [hb] at e2 <;> cases e2
      | rt d c2 => rfl
      | bk δ2 c2 => rfl
      | exc C ds δ2 c2 => rfl
      | bad => rfl
theorem lcG_is {tg : D → Ev' → Option Ev'} {tt : TM} {te : EM} {δ : Ev'} {c : Cells} {G : Cells → Prop} (hG : G c) : ∀ {xs : List D}, (∀ x ∈ xs, ∀ o c', item tg tt te x δ c = .ok o c' → c' = c) → lcG G tg tt te δ xs c = lcL tg tt te δ xs c
  | [], _ => by unfold lcG lcL; rw [if_pos hG]; rfl
  | x :: xs, h => by
    have h1 := h x (by simp)
    have ih := lcG_is hG (xs := xs) fun y hy => h y (by simp [hy])
    unfold lcG lcL
    rw [if_pos hG]
    unfold item at h1
    cases e : tg x δ with
    | none => rfl
    | some δ1 =>
      rw [e] at h1
      simp only [bnd, Out.bnd] at h1 ⊢
      cases e2 : tt δ1 c with
      | ok k c2 =>
        rw [e2] at h1
        cases k with
        | true =>
          simp only [if_true] at h1 ⊢
          simp only [bnd]
          cases e3 : te δ1 c2 with
          | ok y c3 =>
            rw [e3] at h1
            have := h1 _ _ rfl
            subst this
            simp only [Out.bnd, bnd, ih]
          | exc C ys c3 => rfl
          | bad => rfl
        | false =>
          simp only [Bool.false_eq_true, if_false] at h1 ⊢
          have := h1 _ _ rfl
          subst this
          exact ih
      | exc C ys c2 => rfl
      | bad => rfl
section
variable {α : Type} {tg : D → Ev' → Option Ev'} {tt : TM} {te : EM} {δ : Ev'} {c : Cells} {enc : α → D}
theorem lc2G_flat {G : Cells → Prop} (hG : G c) {β : Type} {enc1 : β → D} {mi1 : Ev' → M (List D)} {vs1 : List Nat} {tg1 : D → Ev' → Option Ev'} {tt1 : TM} {inner : α → List β} {p : α → Bool} {q : α → β → Bool} {f : α → β → D} : ∀ {xs : List α},
    (∀ x ∈ xs, ∃ δ1, tg (enc x) δ = some δ1 ∧ tt δ1 c = .ok (p x) c ∧ (p x = true → mi1 δ1 c = .ok ((inner x).map enc1) c ∧ ∀ y ∈ inner x, item tg1 tt1 te (enc1 y) (wipeD δ1 vs1) c = .ok (if q x y then some (f x y) else none) c)) →
    lc2G G tg tt mi1 vs1 tg1 tt1 te δ (xs.map enc) c = .ok ((xs.filter p).flatMap fun x => ((inner x).filter (q x)).map (f x)) c
  | [], _ => by rw [List.map_nil]; unfold lc2G; rw [if_pos hG]; rfl
  | x :: xs, h => by
    obtain ⟨δ1, e1, e2, e3⟩ := h x (by simp)
    have ih := lc2G_flat hG (xs := xs) fun y hy => h y (by simp [hy])
    rw [List.map_cons]
    unfold lc2G
    rw [if_pos hG]
    simp only [e1, bnd, e2, Out.bnd]
    cases ep : p x with
    | false => simp [ep, ih]
    | true =>
      obtain ⟨e4, e5⟩ := e3 ep
      have := lcL_filter (δ := wipeD δ1 vs1) e5
      simp [ep, e4, bnd, Out.bnd, this, ih, DL.ret]
end
section
variable {tab : List (Nat × Bool)} {i C : Nat} {body : SM} {suite : Addr → Option Addr → Nat → SM} {δ δ' : Ev'} {c c' : Cells} {xs : List D} {d : D} {r : Res}
theorem tryAs_exc (hb : body δ c = .exc C xs δ' c') (ht : tab.lookup C = some true) (hs : ∀ a d, (suite a d C (δ'.set i (.sh (.exn a d C xs))) c').free i = r) : tryAsS tab i body suite δ c = r := by
  unfold tryAsS
  rw [hb]
  simp only [ht]
  rw [if_pos (fun a d => by rw [hs a d, hs 0 none])]
  exact hs 0 none
theorem tryAs_no (hb : body δ c = .exc C xs δ' c') (ht : tab.lookup C = some false) : tryAsS tab i body suite δ c = .exc C xs δ' c' := by
  unfold tryAsS
  rw [hb]
  simp only [ht]
theorem tryAs_nx (hb : body δ c = .nx δ' c') : tryAsS tab i body suite δ c = .nx δ' c' := by
  unfold tryAsS
  rw [hb]
theorem tryAs_rt (hb : body δ c = .rt d c') : tryAsS tab i body suite δ c = .rt d c' := by
  unfold tryAsS
  rw [hb]
end
mutual
def beqD : D → D → Bool
  | .non, .non => true
  | .bl b, .bl k => b == k
  | .int i, .int j => decide (i = j)
  | .str x, .str y => decide (x = y)
  | .tup xs, .tup ys => beqDs xs ys
  | .lst xs, .lst ys => beqDs xs ys
  | _, _ => false
def beqDs : List D → List D → Bool
  | [], [] => true
  | x :: xs, y :: ys => beqD x y && beqDs xs ys
  | _, _ => false
end
/-- data of ints, texts, None, tuples, lists, so deep -/
def goodN : Nat → D → Bool
  | _, .non => true
  | _, .int _ => true
  | _, .str x => PyData.strOk x
  | n + 1, .tup xs => xs.all (goodN n)
  | n + 1, .lst xs => xs.all (goodN n)
  | _, _ => false
mutual
theorem goodN_toP : ∀ (d : D) {n : Nat}, goodN n d = true → ∃ p, toP d = some p ∧ PyData.canLay0 p = true ∧ PyData.depth p ≤ n
  | .non, n, _ => ⟨.none, by simp [toP], by simp [PyData.canLay0], by simp [PyData.depth]⟩
  | .int i, n, _ => ⟨.int i, by simp [toP], by simp [PyData.canLay0], by simp [PyData.depth]⟩
  | .str x, n, h => ⟨.str x, by simp [toP], by cases n <;> simpa [goodN, PyData.canLay0] using h, by simp [PyData.depth]⟩
  | .tup xs, n, h => by
    cases n with
    | zero => simp [goodN] at h
    | succ n =>
      have h : ∀ x ∈ xs, goodN n x = true := by simpa [goodN] using h
      obtain ⟨ps, h1, h2, h3⟩ := goodNs_toP xs h
      exact ⟨.tuple ps, by simp [toP, h1], by simpa [PyData.canLay0] using h2, by simp [PyData.depth]; omega⟩
  | .lst xs, n, h => by
    cases n with
    | zero => simp [goodN] at h
    | succ n =>
      have h : ∀ x ∈ xs, goodN n x = true := by simpa [goodN] using h
      obtain ⟨ps, h1, h2, h3⟩ := goodNs_toP xs h
      exact ⟨.list ps, by simp [toP, h1], by simpa [PyData.canLay0] using h2, by simp [PyData.depth]; omega⟩
  | .bl _, n, h => by cases n <;> simp [goodN] at h
  | .ins _ _, n, h => by cases n <;> simp [goodN] at h
  | .cell _, n, h => by cases n <;> simp [goodN] at h
  | .cls _, n, h => by cases n <;> simp [goodN] at h
  | .ty _, n, h => by cases n <;> simp [goodN] at h
  | .rol _, n, h => by cases n <;> simp [goodN] at h
  | .exn _ _ _ _, n, h => by cases n <;> simp [goodN] at h
theorem goodNs_toP : ∀ (xs : List D) {n : Nat}, (∀ x ∈ xs, goodN n x = true) → ∃ ps, toPs xs = some ps ∧ PyData.canLayAll0 ps = true ∧ PyData.depthAll ps ≤ n
  | [], n, _ => ⟨[], by simp [toPs], by simp [PyData.canLayAll0], by simp [PyData.depthAll]⟩
  | x :: xs, n, h => by
    obtain ⟨p, h1, h2, h3⟩ := goodN_toP x (h x (by simp))
    obtain ⟨ps, g1, g2, g3⟩ := goodNs_toP xs fun y hy => h y (by simp [hy])
    exact ⟨p :: ps, by simp [toPs, h1, g1], by simp [PyData.canLayAll0, h2, g2], by simp [PyData.depthAll]; omega⟩
end
theorem goodN_tup {n : Nat} {xs : List D} (h : goodN n (.tup xs) = true) : ∃ m, n = m + 1 ∧ ∀ x ∈ xs, goodN m x = true := by
  cases n with
  | zero => simp [goodN] at h
  | succ m => exact ⟨m, rfl, by simpa [goodN] using h⟩
theorem goodN_lst {n : Nat} {xs : List D} (h : goodN n (.lst xs) = true) : ∃ m, n = m + 1 ∧ ∀ x ∈ xs, goodN m x = true := by
  cases n with
  | zero => simp [goodN] at h
  | succ m => exact ⟨m, rfl, by simpa [goodN] using h⟩
mutual
theorem eqv_good : ∀ (d e : D) {n m : Nat} {p q : PyData}, goodN n d = true → goodN m e = true → toP d = some p → toP e = some q → PyData.eqv p q = beqD d e
  | .tup xs, e, n, m, p, q, h1, h2, g1, g2 => by
    obtain ⟨k, rfl, h1'⟩ := goodN_tup h1
    cases e <;> try (cases m <;> simp [goodN] at h2; done)
    case tup ys =>
      obtain ⟨l, rfl, h2'⟩ := goodN_tup h2
      simp only [toP, Option.map_eq_some_iff] at g1 g2
      obtain ⟨ps, g1, rfl⟩ := g1
      obtain ⟨qs, g2, rfl⟩ := g2
      simp only [PyData.eqv, beqD]
      exact eqvs_good xs ys h1' h2' g1 g2
    all_goals
      simp only [toP, Option.map_eq_some_iff, Option.some.injEq] at g1 g2
      obtain ⟨ps, g1, rfl⟩ := g1
      first
        | (subst g2; simp [PyData.eqv, beqD]; done)
        | (obtain ⟨qs, g2, rfl⟩ := g2; simp [PyData.eqv, beqD]; done)
  | .lst xs, e, n, m, p, q, h1, h2, g1, g2 => by
    obtain ⟨k, rfl, h1'⟩ := goodN_lst h1
    cases e <;> try (cases m <;> simp [goodN] at h2; done)
    case lst ys =>
      obtain ⟨l, rfl, h2'⟩ := goodN_lst h2
      simp only [toP, Option.map_eq_some_iff] at g1 g2
      obtain ⟨ps, g1, rfl⟩ := g1
      obtain ⟨qs, g2, rfl⟩ := g2
      simp only [PyData.eqv, beqD]
      exact eqvs_good xs ys h1' h2' g1 g2
    all_goals
      simp only [toP, Option.map_eq_some_iff, Option.some.injEq] at g1 g2
      obtain ⟨ps, g1, rfl⟩ := g1
      first
        | (subst g2; simp [PyData.eqv, beqD]; done)
        | (obtain ⟨qs, g2, rfl⟩ := g2; simp [PyData.eqv, beqD]; done)
  | .non, e, n, m, p, q, h1, h2, g1, g2 => by
    cases e <;> try (cases m <;> simp [goodN] at h2; done)
    all_goals
      simp only [toP, Option.map_eq_some_iff, Option.some.injEq] at g1 g2
      subst g1
      first
        | (subst g2; simp [PyData.eqv, beqD]; done)
        | (obtain ⟨qs, g2, rfl⟩ := g2; simp [PyData.eqv, beqD]; done)
  | .int i, e, n, m, p, q, h1, h2, g1, g2 => by
    cases e <;> try (cases m <;> simp [goodN] at h2; done)
    all_goals
      simp only [toP, Option.map_eq_some_iff, Option.some.injEq] at g1 g2
      subst g1
      first
        | (subst g2; simp [PyData.eqv, beqD]; done)
        | (subst g2; simp only [PyData.eqv, beqD]; rw [Bool.eq_iff_iff]; simp; done)
        | (obtain ⟨qs, g2, rfl⟩ := g2; simp [PyData.eqv, beqD]; done)
  | .str i, e, n, m, p, q, h1, h2, g1, g2 => by
    cases e <;> try (cases m <;> simp [goodN] at h2; done)
    all_goals
      simp only [toP, Option.map_eq_some_iff, Option.some.injEq] at g1 g2
      subst g1
      first
        | (subst g2; simp [PyData.eqv, beqD]; done)
        | (subst g2; simp only [PyData.eqv, beqD]; rw [Bool.eq_iff_iff]; simp; done)
        | (obtain ⟨qs, g2, rfl⟩ := g2; simp [PyData.eqv, beqD]; done)
  | .bl _, e, n, m, p, q, h, _, _, _ => by cases n <;> simp [goodN] at h
  | .ins _ _, e, n, m, p, q, h, _, _, _ => by cases n <;> simp [goodN] at h
  | .cell _, e, n, m, p, q, h, _, _, _ => by cases n <;> simp [goodN] at h
  | .cls _, e, n, m, p, q, h, _, _, _ => by cases n <;> simp [goodN] at h
  | .ty _, e, n, m, p, q, h, _, _, _ => by cases n <;> simp [goodN] at h
  | .rol _, e, n, m, p, q, h, _, _, _ => by cases n <;> simp [goodN] at h
  | .exn _ _ _ _, e, n, m, p, q, h, _, _, _ => by cases n <;> simp [goodN] at h
theorem eqvs_good : ∀ (xs ys : List D) {n m : Nat} {ps qs : List PyData}, (∀ x ∈ xs, goodN n x = true) → (∀ y ∈ ys, goodN m y = true) → toPs xs = some ps → toPs ys = some qs → PyData.eqvAll ps qs = beqDs xs ys
  | [], [], n, m, ps, qs, _, _, g1, g2 => by simp [toPs] at g1 g2; subst g1; subst g2; simp [PyData.eqvAll, beqDs]
  | [], y :: ys, n, m, ps, qs, _, h2, g1, g2 => by
    obtain ⟨p, e1, _, _⟩ := goodN_toP y (h2 y (by simp))
    obtain ⟨qs', e2, _, _⟩ := goodNs_toP ys fun z hz => h2 z (by simp [hz])
    simp [toPs, e1, e2] at g1 g2; subst g1; subst g2; simp [PyData.eqvAll, beqDs]
  | x :: xs, [], n, m, ps, qs, h1, _, g1, g2 => by
    obtain ⟨p, e1, _, _⟩ := goodN_toP x (h1 x (by simp))
    obtain ⟨qs', e2, _, _⟩ := goodNs_toP xs fun z hz => h1 z (by simp [hz])
    simp [toPs, e1, e2] at g1 g2; subst g1; subst g2; simp [PyData.eqvAll, beqDs]
  | x :: xs, y :: ys, n, m, ps, qs, h1, h2, g1, g2 => by
    obtain ⟨p, e1, _, _⟩ := goodN_toP x (h1 x (by simp))
    obtain ⟨ps', e2, _, _⟩ := goodNs_toP xs fun z hz => h1 z (by simp [hz])
    obtain ⟨q, f1, _, _⟩ := goodN_toP y (h2 y (by simp))
    obtain ⟨qs', f2, _, _⟩ := goodNs_toP ys fun z hz => h2 z (by simp [hz])
    have i1 := eqv_good x y (h1 x (by simp)) (h2 y (by simp)) e1 f1
    have i2 := eqvs_good xs ys (fun z hz => h1 z (by simp [hz])) (fun z hz => h2 z (by simp [hz])) e2 f2
    simp [toPs, e1, e2, f1, f2] at g1 g2; subst g1; subst g2; simp [PyData.eqvAll, beqDs, i1, i2]
end
mutual
theorem beqD_eq : ∀ {d e : D}, beqD d e = true → d = e
  | .non, e, h => by cases e <;> simp [beqD] at h <;> rfl
  | .bl _, e, h => by cases e <;> simp [beqD] at h; rw [h]
  | .int _, e, h => by cases e <;> simp [beqD] at h; rw [h]
  | .str _, e, h => by cases e <;> simp [beqD] at h; rw [h]
  | .tup xs, e, h => by cases e <;> simp [beqD] at h; rw [beqDs_eq h]
  | .lst xs, e, h => by cases e <;> simp [beqD] at h; rw [beqDs_eq h]
  | .ins _ _, e, h => by cases e <;> simp [beqD] at h
  | .cell _, e, h => by cases e <;> simp [beqD] at h
  | .cls _, e, h => by cases e <;> simp [beqD] at h
  | .ty _, e, h => by cases e <;> simp [beqD] at h
  | .rol _, e, h => by cases e <;> simp [beqD] at h
  | .exn _ _ _ _, e, h => by cases e <;> simp [beqD] at h
theorem beqDs_eq : ∀ {xs ys : List D}, beqDs xs ys = true → xs = ys
  | [], [], _ => rfl
  | [], _ :: _, h => by simp [beqDs] at h
  | _ :: _, [], h => by simp [beqDs] at h
  | x :: xs, y :: ys, h => by
    simp only [beqDs, Bool.and_eq_true] at h
    rw [beqD_eq h.1, beqDs_eq h.2]
end
mutual
theorem beqD_refl : ∀ (d : D) {n : Nat}, goodN n d = true → beqD d d = true
  | .non, n, _ => by simp [beqD]
  | .int _, n, _ => by simp [beqD]
  | .str _, n, _ => by simp [beqD]
  | .tup xs, n, h => by
    obtain ⟨k, rfl, h'⟩ := goodN_tup h
    simp only [beqD]; exact beqDs_refl xs h'
  | .lst xs, n, h => by
    obtain ⟨k, rfl, h'⟩ := goodN_lst h
    simp only [beqD]; exact beqDs_refl xs h'
  | .bl _, n, h => by cases n <;> simp [goodN] at h
  | .ins _ _, n, h => by cases n <;> simp [goodN] at h
  | .cell _, n, h => by cases n <;> simp [goodN] at h
  | .cls _, n, h => by cases n <;> simp [goodN] at h
  | .ty _, n, h => by cases n <;> simp [goodN] at h
  | .rol _, n, h => by cases n <;> simp [goodN] at h
  | .exn _ _ _ _, n, h => by cases n <;> simp [goodN] at h
theorem beqDs_refl : ∀ (xs : List D) {n : Nat}, (∀ x ∈ xs, goodN n x = true) → beqDs xs xs = true
  | [], n, _ => by simp [beqDs]
  | x :: xs, n, h => by simp [beqDs, beqD_refl x (h x (by simp)), beqDs_refl xs fun y hy => h y (by simp [hy])]
end
theorem beqD_iff {n : Nat} {d e : D} (h : goodN n d = true) : beqD d e = true ↔ d = e := ⟨beqD_eq, fun z => z ▸ beqD_refl d h⟩
theorem goodN_shaped {n : Nat} {d : D} {p : PyData} (h : goodN n d = true) (hn : n ≤ 60) (e : toP d = some p) : SeqAt.shaped p = true := by
  obtain ⟨q, h1, h2, h3⟩ := goodN_toP d h
  rw [e] at h1; cases h1
  unfold SeqAt.shaped
  simp [h2]; omega
/-- == of data -/
theorem eqB_good {n : Nat} {d e : D} {c : Cells} (h1 : goodN n d = true) (h2 : goodN n e = true) (hn : n ≤ 60) : eqB d e c = some (beqD d e) := by
  obtain ⟨p, p1, _, _⟩ := goodN_toP d h1
  obtain ⟨q, q1, _, _⟩ := goodN_toP e h2
  have r := eqv_good d e h1 h2 p1 q1
  have s1 := goodN_shaped h1 hn p1
  have s2 := goodN_shaped h2 hn q1
  have d1 : der d c = d := by cases d <;> first | rfl | (cases n <;> simp [goodN] at h1)
  have d2 : der e c = e := by cases e <;> first | rfl | (cases n <;> simp [goodN] at h2)
  unfold eqB
  split
  · rename_i b hb
    cases d <;> cases e <;> simp only [eqS, Option.some.injEq, reduceCtorEq] at hb <;> subst hb <;> simp [beqD]
    all_goals (cases n <;> simp [goodN] at h1)
  · rw [d1, d2, p1, q1]
    simp [s1, s2, r]
/-- x in ys -/
theorem inB_good {n : Nat} {x y : D} {c : Cells} {ys : List D} (hy : ∀ z, y ≠ .str z) (hs : seqOf y c = some ys) (h1 : goodN n x = true) (h2 : ∀ z ∈ ys, goodN n z = true) (hn : n < 60) : inB x y c = some (ys.any fun z => beqD z x) := by
  have e : inB x y c = (match seqOf y c with
    | some ys => match toPs ys, toP x with
      | some qs, some p => if PyData.canLayAll0 qs && PyData.canLay0 p && decide (p.depth < 60) then some (qs.any fun q => PyData.eqv q p) else none
      | _, _ => none
    | none => none) := by
    cases y <;> first | rfl | exact absurd rfl (hy _)
  obtain ⟨p, p1, p2, p3⟩ := goodN_toP x h1
  obtain ⟨qs, q1, q2, q3⟩ := goodNs_toP ys h2
  have key : ∀ (ys : List D) (qs : List PyData), (∀ z ∈ ys, goodN n z = true) → toPs ys = some qs → qs.any (fun q => PyData.eqv q p) = ys.any fun z => beqD z x := by
    intro ys
    induction ys with
    | nil => intro qs _ e; simp [toPs] at e; subst e; rfl
    | cons z zs ih =>
      intro qs h e
      obtain ⟨r, r1, _, _⟩ := goodN_toP z (h z (by simp))
      obtain ⟨rs, r2, _, _⟩ := goodNs_toP zs fun w hw => h w (by simp [hw])
      simp [toPs, r1, r2] at e
      subst e
      simp only [List.any_cons, eqv_good z x (h z (by simp)) h1 r1 p1, ih rs (fun w hw => h w (by simp [hw])) r2]
  have : p.depth < 60 := by omega
  rw [e]
  simp only [hs, q1, p1]
  simp [q2, p2, this, key ys qs h2 q1]
theorem tyN_lst {xs : List D} {c : Cells} : tyN (.lst xs) c = some "list" := rfl
theorem tyN_tup {xs : List D} {c : Cells} : tyN (.tup xs) c = some "tuple" := rfl
theorem seqOf_cases {d : D} {c : Cells} {xs : List D} (h : seqOf d c = some xs) : d = .tup xs ∨ d = .lst xs ∨ d = .rol xs ∨ ∃ k, d = .cell k := by
  cases d <;> simp [seqOf, rlistOf, listOf] at h <;> simp_all
theorem same_loop {isis : List Nat} {c : Cells} {n : Nat} {a e : D} {xs ys : List D} (ha : seqOf a c = some xs) (he : seqOf e c = some ys) (hl : xs.length = ys.length)
    (na : ∀ z, a ≠ .str z) (ne : ∀ z, e ≠ .str z) (h : ∀ (i : Nat) (h1 : i < xs.length) (h2 : i < ys.length), m_same isis n [xs[i], ys[i]] c = .ok (.bl (beqD xs[i] ys[i])) c) :
    ∃ z, forL (tgN 2) (ifS (notT (tstE (callM (m_same isis n) (consA (bin ixP (varE 0) (varE 2)) (consA (bin ixP (varE 1) (varE 2)) (nilA)))))) (retS (litE (.bl false))) (nilS)) (rangeD 0 ys.length) [.sh a, .sh e, .un] c =
      if beqDs xs ys then .nx [.sh a, .sh e, z] c else .rt (.bl false) c := by
  have ea : ∀ j : Int, ixP a (.int j) c = atI xs j := fun j => by
    cases a <;> first | exact absurd rfl (na _) | simp [ixP, ha]
  have ee : ∀ j : Int, ixP e (.int j) c = atI ys j := fun j => by
    cases e <;> first | exact absurd rfl (ne _) | simp [ixP, he]
  have key : ∀ (k i : Nat) (z : Slot), i + k = ys.length → ∃ z', forL (tgN 2) (ifS (notT (tstE (callM (m_same isis n) (consA (bin ixP (varE 0) (varE 2)) (consA (bin ixP (varE 1) (varE 2)) (nilA)))))) (retS (litE (.bl false))) (nilS)) ((List.range' i k).map fun (i : Nat) => D.int (0 + i)) [.sh a, .sh e, z] c =
      if beqDs (xs.drop i) (ys.drop i) then .nx [.sh a, .sh e, z'] c else .rt (.bl false) c := by
    intro k
    induction k with
    | zero =>
      intro i z hi
      have : i = ys.length := by omega
      subst this
      refine ⟨z, ?_⟩
      rw [List.drop_length, ← hl, List.drop_length]
      simp [forL, beqDs]
    | succ k ih =>
      intro i z hi
      have h1 : i < xs.length := by omega
      have h2 : i < ys.length := by omega
      have hh := h i h1 h2
      rw [List.drop_eq_getElem_cons h1, List.drop_eq_getElem_cons h2]
      simp only [beqDs]
      rw [List.range'_succ, List.map_cons]
      obtain ⟨z', e'⟩ := ih (i + 1) (.sh (.int (0 + i))) (by omega)
      have a1 : atI xs ((0 : Int) + i) = some xs[i] := by simp [atI, ixN, h1]
      have a2 : atI ys ((0 : Int) + i) = some ys[i] := by simp [atI, ixN, h2]
      refine ⟨z', ?_⟩
      rw [forL]
      simp only [tgN]
      by_cases hb : beqD xs[i] ys[i] = true
      · rw [hb] at hh
        have st : (ifS (notT (tstE (callM (m_same isis n) (consA (bin ixP (varE 0) (varE 2)) (consA (bin ixP (varE 1) (varE 2)) (nilA)))))) (retS (litE (.bl false))) (nilS)) ([.sh a, .sh e, z].set 2 (.sh (.int (0 + i)))) c = .nx [.sh a, .sh e, .sh (.int (0 + i))] c := by
          simp only [List.set, ifS, notT, tstE, callM, consA, nilA, bin, bnd, varE, DL.ret, retS, litE, nilS, List.getElem?_cons_zero, List.getElem?_cons_succ, Out.bnd, opt, ea, ee, a1, a2, hh, truB, Out.thenS]
          simp
        rw [st]
        simp only [hb, Bool.true_and]
        exact e'
      · have hb : beqD xs[i] ys[i] = false := by simpa using hb
        rw [hb] at hh
        have st : (ifS (notT (tstE (callM (m_same isis n) (consA (bin ixP (varE 0) (varE 2)) (consA (bin ixP (varE 1) (varE 2)) (nilA)))))) (retS (litE (.bl false))) (nilS)) ([.sh a, .sh e, z].set 2 (.sh (.int (0 + i)))) c = .rt (.bl false) c := by
          simp only [List.set, ifS, notT, tstE, callM, consA, nilA, bin, bnd, varE, DL.ret, retS, litE, nilS, List.getElem?_cons_zero, List.getElem?_cons_succ, Out.bnd, opt, ea, ee, a1, a2, hh, truB, Out.thenS]
          simp
        rw [st]
        simp [hb]
  obtain ⟨z, e'⟩ := key ys.length 0 .un (by omega)
  refine ⟨z, ?_⟩
  rw [List.drop_zero, List.drop_zero] at e'
  rw [← e']
  unfold rangeD
  rw [List.range_eq_range']
/-- the actual value is a list or tuple of its own kind -/
theorem same_seq {isis : List Nat} {c : Cells} {n : Nat} {a e : D} {xs ys : List D} (ha : a = .lst xs ∧ e = .lst ys ∨ (∃ k, a = .cell k ∧ c[k]? = some (Cell.lst xs)) ∧ e = .lst ys ∨ a = .tup xs ∧ e = .tup ys) (hx : ys.length ≤ 1000000)
    (h : ∀ (i : Nat) (h1 : i < xs.length) (h2 : i < ys.length), m_same isis n [xs[i], ys[i]] c = .ok (.bl (beqD xs[i] ys[i])) c) :
    m_same isis (n + 1) [a, e] c = .ok (.bl (beqDs xs ys)) c := by
  obtain ⟨k1, k2, k3, k4, k5, k6, k7, k8, k9, k10, k11, k12, k13, k14, k15⟩ := kit_b
  have hl : -(2 ^ 62) ≤ (ys.length : Int) ∧ (ys.length : Int) ≤ 16777216 := by omega
  by_cases hlen : xs.length = ys.length
  · rcases ha with ⟨rfl, rfl⟩ | ⟨⟨k, rfl, hk⟩, rfl⟩ | ⟨rfl, rfl⟩
    · obtain ⟨z, e⟩ := same_loop (isis := isis) (n := n) (a := .lst xs) (e := .lst ys) (c := c) rfl rfl hlen (fun z e => by cases e) (fun z e => by cases e) h
      cases hb : beqDs xs ys <;> rw [hb] at e <;> simp only [Bool.false_eq_true, if_false, if_true] at e <;>
        simp [m_same, b_same, DL.seqS, DL.Res.seq, DL.setIxS, DL.setS, DL.exprS, DL.retS, DL.retN, DL.ifS, DL.nilS, DL.brkS, DL.cntS, DL.callB, DL.callM, DL.intF, DL.boolF, DL.consA, DL.nilA, DL.starA, DL.bin, DL.un1, DL.negP, DL.bnd, DL.Out.bnd, DL.Out.thenS, DL.opt, DL.varE, DL.litE, DL.ixP, DL.seqOf, DL.rlistOf, DL.listOf, DL.setItem, DL.ret, DL.addP, DL.subP, DL.mulP, DL.modP, DL.fdivP, DL.powP, DL.intP, DL.geP, DL.leP, DL.gtP, DL.ltP, DL.ltB, DL.eqP, DL.neP, DL.eqB, DL.eqS, DL.tstE, DL.truB, DL.boolE, DL.andT, DL.orT, DL.notT, DL.andE, DL.orE, DL.notE, DL.ifE, DL.chainE, DL.tupE, DL.lstE, DL.lstC, DL.isNP, DL.notNP, DL.isNon, DL.lenP, DL.runD, DL.Res.out, DL.startD, DL.itE, DL.itR, DL.seqF, DL.rng1, DL.rng2, DL.forS, DL.tgN, DL.tgT, DL.tgCons, DL.tgNil, DL.slE, DL.slL, DL.noO, DL.someO, DL.inP, DL.notInP, DL.wipeD, DL.endW, DL.turn, DL.item, DL.forX, DL.ownS, DL.szA, DL.appO, DL.coldS, DL.ownL, DL.revF, DL.allF, DL.anyF, L2.atI, L2.ixN, isiP, isiB, tyN, k7, k8, k9, k10, hl, e, hlen]
    · obtain ⟨z, e⟩ := same_loop (isis := isis) (n := n) (a := .cell k) (e := .lst ys) (c := c) (by simp [seqOf, rlistOf, listOf, hk]) rfl hlen (fun z e => by cases e) (fun z e => by cases e) h
      cases hb : beqDs xs ys <;> rw [hb] at e <;> simp only [Bool.false_eq_true, if_false, if_true] at e <;>
        simp [m_same, b_same, DL.seqS, DL.Res.seq, DL.setIxS, DL.setS, DL.exprS, DL.retS, DL.retN, DL.ifS, DL.nilS, DL.brkS, DL.cntS, DL.callB, DL.callM, DL.intF, DL.boolF, DL.consA, DL.nilA, DL.starA, DL.bin, DL.un1, DL.negP, DL.bnd, DL.Out.bnd, DL.Out.thenS, DL.opt, DL.varE, DL.litE, DL.ixP, DL.seqOf, DL.rlistOf, DL.listOf, DL.setItem, DL.ret, DL.addP, DL.subP, DL.mulP, DL.modP, DL.fdivP, DL.powP, DL.intP, DL.geP, DL.leP, DL.gtP, DL.ltP, DL.ltB, DL.eqP, DL.neP, DL.eqB, DL.eqS, DL.tstE, DL.truB, DL.boolE, DL.andT, DL.orT, DL.notT, DL.andE, DL.orE, DL.notE, DL.ifE, DL.chainE, DL.tupE, DL.lstE, DL.lstC, DL.isNP, DL.notNP, DL.isNon, DL.lenP, DL.runD, DL.Res.out, DL.startD, DL.itE, DL.itR, DL.seqF, DL.rng1, DL.rng2, DL.forS, DL.tgN, DL.tgT, DL.tgCons, DL.tgNil, DL.slE, DL.slL, DL.noO, DL.someO, DL.inP, DL.notInP, DL.wipeD, DL.endW, DL.turn, DL.item, DL.forX, DL.ownS, DL.szA, DL.appO, DL.coldS, DL.ownL, DL.revF, DL.allF, DL.anyF, L2.atI, L2.ixN, isiP, isiB, tyN, k7, k8, k9, k10, hl, e, hlen, hk]
    · obtain ⟨z, e⟩ := same_loop (isis := isis) (n := n) (a := .tup xs) (e := .tup ys) (c := c) rfl rfl hlen (fun z e => by cases e) (fun z e => by cases e) h
      cases hb : beqDs xs ys <;> rw [hb] at e <;> simp only [Bool.false_eq_true, if_false, if_true] at e <;>
        simp [m_same, b_same, DL.seqS, DL.Res.seq, DL.setIxS, DL.setS, DL.exprS, DL.retS, DL.retN, DL.ifS, DL.nilS, DL.brkS, DL.cntS, DL.callB, DL.callM, DL.intF, DL.boolF, DL.consA, DL.nilA, DL.starA, DL.bin, DL.un1, DL.negP, DL.bnd, DL.Out.bnd, DL.Out.thenS, DL.opt, DL.varE, DL.litE, DL.ixP, DL.seqOf, DL.rlistOf, DL.listOf, DL.setItem, DL.ret, DL.addP, DL.subP, DL.mulP, DL.modP, DL.fdivP, DL.powP, DL.intP, DL.geP, DL.leP, DL.gtP, DL.ltP, DL.ltB, DL.eqP, DL.neP, DL.eqB, DL.eqS, DL.tstE, DL.truB, DL.boolE, DL.andT, DL.orT, DL.notT, DL.andE, DL.orE, DL.notE, DL.ifE, DL.chainE, DL.tupE, DL.lstE, DL.lstC, DL.isNP, DL.notNP, DL.isNon, DL.lenP, DL.runD, DL.Res.out, DL.startD, DL.itE, DL.itR, DL.seqF, DL.rng1, DL.rng2, DL.forS, DL.tgN, DL.tgT, DL.tgCons, DL.tgNil, DL.slE, DL.slL, DL.noO, DL.someO, DL.inP, DL.notInP, DL.wipeD, DL.endW, DL.turn, DL.item, DL.forX, DL.ownS, DL.szA, DL.appO, DL.coldS, DL.ownL, DL.revF, DL.allF, DL.anyF, L2.atI, L2.ixN, isiP, isiB, tyN, k11, k12, k13, k14, k15, hl, e, hlen]
  · have hne : beqDs xs ys = false := by
      cases hb : beqDs xs ys
      · rfl
      · exact absurd (congrArg List.length (beqDs_eq hb)) hlen
    have hlen' : ¬ ((xs.length : Int) = ys.length) := by omega
    rw [hne]
    rcases ha with ⟨rfl, rfl⟩ | ⟨⟨k, rfl, hk⟩, rfl⟩ | ⟨rfl, rfl⟩
    · simp [m_same, b_same, DL.seqS, DL.Res.seq, DL.setIxS, DL.setS, DL.exprS, DL.retS, DL.retN, DL.ifS, DL.nilS, DL.brkS, DL.cntS, DL.callB, DL.callM, DL.intF, DL.boolF, DL.consA, DL.nilA, DL.starA, DL.bin, DL.un1, DL.negP, DL.bnd, DL.Out.bnd, DL.Out.thenS, DL.opt, DL.varE, DL.litE, DL.ixP, DL.seqOf, DL.rlistOf, DL.listOf, DL.setItem, DL.ret, DL.addP, DL.subP, DL.mulP, DL.modP, DL.fdivP, DL.powP, DL.intP, DL.geP, DL.leP, DL.gtP, DL.ltP, DL.ltB, DL.eqP, DL.neP, DL.eqB, DL.eqS, DL.tstE, DL.truB, DL.boolE, DL.andT, DL.orT, DL.notT, DL.andE, DL.orE, DL.notE, DL.ifE, DL.chainE, DL.tupE, DL.lstE, DL.lstC, DL.isNP, DL.notNP, DL.isNon, DL.lenP, DL.runD, DL.Res.out, DL.startD, DL.itE, DL.itR, DL.seqF, DL.rng1, DL.rng2, DL.forS, DL.tgN, DL.tgT, DL.tgCons, DL.tgNil, DL.slE, DL.slL, DL.noO, DL.someO, DL.inP, DL.notInP, DL.wipeD, DL.endW, DL.turn, DL.item, DL.forX, DL.ownS, DL.szA, DL.appO, DL.coldS, DL.ownL, DL.revF, DL.allF, DL.anyF, L2.atI, L2.ixN, isiP, isiB, tyN, k7, k8, k9, k10, hlen']
    · simp [m_same, b_same, DL.seqS, DL.Res.seq, DL.setIxS, DL.setS, DL.exprS, DL.retS, DL.retN, DL.ifS, DL.nilS, DL.brkS, DL.cntS, DL.callB, DL.callM, DL.intF, DL.boolF, DL.consA, DL.nilA, DL.starA, DL.bin, DL.un1, DL.negP, DL.bnd, DL.Out.bnd, DL.Out.thenS, DL.opt, DL.varE, DL.litE, DL.ixP, DL.seqOf, DL.rlistOf, DL.listOf, DL.setItem, DL.ret, DL.addP, DL.subP, DL.mulP, DL.modP, DL.fdivP, DL.powP, DL.intP, DL.geP, DL.leP, DL.gtP, DL.ltP, DL.ltB, DL.eqP, DL.neP, DL.eqB, DL.eqS, DL.tstE, DL.truB, DL.boolE, DL.andT, DL.orT, DL.notT, DL.andE, DL.orE, DL.notE, DL.ifE, DL.chainE, DL.tupE, DL.lstE, DL.lstC, DL.isNP, DL.notNP, DL.isNon, DL.lenP, DL.runD, DL.Res.out, DL.startD, DL.itE, DL.itR, DL.seqF, DL.rng1, DL.rng2, DL.forS, DL.tgN, DL.tgT, DL.tgCons, DL.tgNil, DL.slE, DL.slL, DL.noO, DL.someO, DL.inP, DL.notInP, DL.wipeD, DL.endW, DL.turn, DL.item, DL.forX, DL.ownS, DL.szA, DL.appO, DL.coldS, DL.ownL, DL.revF, DL.allF, DL.anyF, L2.atI, L2.ixN, isiP, isiB, tyN, k7, k8, k9, k10, hlen', hk]
    · simp [m_same, b_same, DL.seqS, DL.Res.seq, DL.setIxS, DL.setS, DL.exprS, DL.retS, DL.retN, DL.ifS, DL.nilS, DL.brkS, DL.cntS, DL.callB, DL.callM, DL.intF, DL.boolF, DL.consA, DL.nilA, DL.starA, DL.bin, DL.un1, DL.negP, DL.bnd, DL.Out.bnd, DL.Out.thenS, DL.opt, DL.varE, DL.litE, DL.ixP, DL.seqOf, DL.rlistOf, DL.listOf, DL.setItem, DL.ret, DL.addP, DL.subP, DL.mulP, DL.modP, DL.fdivP, DL.powP, DL.intP, DL.geP, DL.leP, DL.gtP, DL.ltP, DL.ltB, DL.eqP, DL.neP, DL.eqB, DL.eqS, DL.tstE, DL.truB, DL.boolE, DL.andT, DL.orT, DL.notT, DL.andE, DL.orE, DL.notE, DL.ifE, DL.chainE, DL.tupE, DL.lstE, DL.lstC, DL.isNP, DL.notNP, DL.isNon, DL.lenP, DL.runD, DL.Res.out, DL.startD, DL.itE, DL.itR, DL.seqF, DL.rng1, DL.rng2, DL.forS, DL.tgN, DL.tgT, DL.tgCons, DL.tgNil, DL.slE, DL.slL, DL.noO, DL.someO, DL.inP, DL.notInP, DL.wipeD, DL.endW, DL.turn, DL.item, DL.forX, DL.ownS, DL.szA, DL.appO, DL.coldS, DL.ownL, DL.revF, DL.allF, DL.anyF, L2.atI, L2.ixN, isiP, isiB, tyN, k11, k12, k13, k14, k15, hlen']
theorem kit_c : kitB "list" "tuple" = some false ∧ kitB "NoneType" "bool" = some false ∧ kitB "NoneType" "int" = some false ∧ kitB "NoneType" "str" = some false ∧ kitB "NoneType" "list" = some false ∧ kitB "NoneType" "tuple" = some false ∧
    kitB "bool" "int" = some true ∧ kitB "bool" "str" = some false ∧ kitB "bool" "list" = some false ∧ kitB "bool" "tuple" = some false ∧ kitB "int" "str" = some false ∧ kitB "int" "list" = some false ∧ kitB "int" "tuple" = some false ∧
    kitB "str" "list" = some false ∧ kitB "str" "tuple" = some false ∧ kitB "list" "bool" = some false ∧ kitB "tuple" "int" = some false := by decide +kernel
/-- data are the same exactly if they are equal -/
theorem same_eq {isis : List Nat} {c : Cells} : ∀ {n : Nat} {a e : D}, plainN n a = true → plainN n e = true → m_same isis n [a, e] c = .ok (.bl (beqD a e)) c
  | 0, _, _, h, _ => by simp [plainN] at h
  | n + 1, a, e, h1, h2 => by
    obtain ⟨k1, k2, k3, k4, k5, k6, k7, k8, k9, k10, k11, k12, k13, k14, k15⟩ := kit_b
    obtain ⟨j1, j2, j3, j4, j5, j6, j7, j8, j9, j10, j11, j12, j13, j14, j15, j16, j17⟩ := kit_c
    have go : ∀ xs ys : List D, (∀ x ∈ xs, plainN n x = true) → (∀ y ∈ ys, plainN n y = true) → ∀ (i : Nat) (h1 : i < xs.length) (h2 : i < ys.length), m_same isis n [xs[i], ys[i]] c = .ok (.bl (beqD xs[i] ys[i])) c := fun xs ys g1 g2 i i1 i2 =>
      same_eq (g1 _ (List.getElem_mem i1)) (g2 _ (List.getElem_mem i2))
    cases e <;> try (simp [plainN] at h2; done)
    case non => cases a <;> first | (simp [plainN] at h1; done) | simp [m_same, b_same, DL.seqS, DL.Res.seq, DL.setIxS, DL.setS, DL.exprS, DL.retS, DL.retN, DL.ifS, DL.nilS, DL.brkS, DL.cntS, DL.callB, DL.callM, DL.intF, DL.boolF, DL.consA, DL.nilA, DL.starA, DL.bin, DL.un1, DL.negP, DL.bnd, DL.Out.bnd, DL.Out.thenS, DL.opt, DL.varE, DL.litE, DL.ixP, DL.seqOf, DL.rlistOf, DL.listOf, DL.setItem, DL.ret, DL.addP, DL.subP, DL.mulP, DL.modP, DL.fdivP, DL.powP, DL.intP, DL.geP, DL.leP, DL.gtP, DL.ltP, DL.ltB, DL.eqP, DL.neP, DL.eqB, DL.eqS, DL.tstE, DL.truB, DL.boolE, DL.andT, DL.orT, DL.notT, DL.andE, DL.orE, DL.notE, DL.ifE, DL.chainE, DL.tupE, DL.lstE, DL.lstC, DL.isNP, DL.notNP, DL.isNon, DL.lenP, DL.runD, DL.Res.out, DL.startD, DL.itE, DL.itR, DL.seqF, DL.rng1, DL.rng2, DL.forS, DL.tgN, DL.tgT, DL.tgCons, DL.tgNil, DL.slE, DL.slL, DL.noO, DL.someO, DL.inP, DL.notInP, DL.wipeD, DL.endW, DL.turn, DL.item, DL.forX, DL.ownS, DL.szA, DL.appO, DL.coldS, DL.ownL, DL.revF, DL.allF, DL.anyF, L2.atI, L2.ixN, beqD]
    case bl b =>
      cases a <;> first | (simp [plainN] at h1; done) | (simp [m_same, b_same, DL.seqS, DL.Res.seq, DL.setIxS, DL.setS, DL.exprS, DL.retS, DL.retN, DL.ifS, DL.nilS, DL.brkS, DL.cntS, DL.callB, DL.callM, DL.intF, DL.boolF, DL.consA, DL.nilA, DL.starA, DL.bin, DL.un1, DL.negP, DL.bnd, DL.Out.bnd, DL.Out.thenS, DL.opt, DL.varE, DL.litE, DL.ixP, DL.seqOf, DL.rlistOf, DL.listOf, DL.setItem, DL.ret, DL.addP, DL.subP, DL.mulP, DL.modP, DL.fdivP, DL.powP, DL.intP, DL.geP, DL.leP, DL.gtP, DL.ltP, DL.ltB, DL.eqP, DL.neP, DL.eqB, DL.eqS, DL.tstE, DL.truB, DL.boolE, DL.andT, DL.orT, DL.notT, DL.andE, DL.orE, DL.notE, DL.ifE, DL.chainE, DL.tupE, DL.lstE, DL.lstC, DL.isNP, DL.notNP, DL.isNon, DL.lenP, DL.runD, DL.Res.out, DL.startD, DL.itE, DL.itR, DL.seqF, DL.rng1, DL.rng2, DL.forS, DL.tgN, DL.tgT, DL.tgCons, DL.tgNil, DL.slE, DL.slL, DL.noO, DL.someO, DL.inP, DL.notInP, DL.wipeD, DL.endW, DL.turn, DL.item, DL.forX, DL.ownS, DL.szA, DL.appO, DL.coldS, DL.ownL, DL.revF, DL.allF, DL.anyF, L2.atI, L2.ixN, isiP, isiB, tyN, k1, k2, k4, k7, k11, j2, beqD]; done) | (rename_i b'; cases b <;> cases b' <;> simp [m_same, b_same, DL.seqS, DL.Res.seq, DL.setIxS, DL.setS, DL.exprS, DL.retS, DL.retN, DL.ifS, DL.nilS, DL.brkS, DL.cntS, DL.callB, DL.callM, DL.intF, DL.boolF, DL.consA, DL.nilA, DL.starA, DL.bin, DL.un1, DL.negP, DL.bnd, DL.Out.bnd, DL.Out.thenS, DL.opt, DL.varE, DL.litE, DL.ixP, DL.seqOf, DL.rlistOf, DL.listOf, DL.setItem, DL.ret, DL.addP, DL.subP, DL.mulP, DL.modP, DL.fdivP, DL.powP, DL.intP, DL.geP, DL.leP, DL.gtP, DL.ltP, DL.ltB, DL.eqP, DL.neP, DL.eqB, DL.eqS, DL.tstE, DL.truB, DL.boolE, DL.andT, DL.orT, DL.notT, DL.andE, DL.orE, DL.notE, DL.ifE, DL.chainE, DL.tupE, DL.lstE, DL.lstC, DL.isNP, DL.notNP, DL.isNon, DL.lenP, DL.runD, DL.Res.out, DL.startD, DL.itE, DL.itR, DL.seqF, DL.rng1, DL.rng2, DL.forS, DL.tgN, DL.tgT, DL.tgCons, DL.tgNil, DL.slE, DL.slL, DL.noO, DL.someO, DL.inP, DL.notInP, DL.wipeD, DL.endW, DL.turn, DL.item, DL.forX, DL.ownS, DL.szA, DL.appO, DL.coldS, DL.ownL, DL.revF, DL.allF, DL.anyF, L2.atI, L2.ixN, isiP, isiB, tyN, k1, beqD])
    case int i =>
      cases a <;> first | (simp [plainN] at h1; done) | simp [m_same, b_same, DL.seqS, DL.Res.seq, DL.setIxS, DL.setS, DL.exprS, DL.retS, DL.retN, DL.ifS, DL.nilS, DL.brkS, DL.cntS, DL.callB, DL.callM, DL.intF, DL.boolF, DL.consA, DL.nilA, DL.starA, DL.bin, DL.un1, DL.negP, DL.bnd, DL.Out.bnd, DL.Out.thenS, DL.opt, DL.varE, DL.litE, DL.ixP, DL.seqOf, DL.rlistOf, DL.listOf, DL.setItem, DL.ret, DL.addP, DL.subP, DL.mulP, DL.modP, DL.fdivP, DL.powP, DL.intP, DL.geP, DL.leP, DL.gtP, DL.ltP, DL.ltB, DL.eqP, DL.neP, DL.eqB, DL.eqS, DL.tstE, DL.truB, DL.boolE, DL.andT, DL.orT, DL.notT, DL.andE, DL.orE, DL.notE, DL.ifE, DL.chainE, DL.tupE, DL.lstE, DL.lstC, DL.isNP, DL.notNP, DL.isNon, DL.lenP, DL.runD, DL.Res.out, DL.startD, DL.itE, DL.itR, DL.seqF, DL.rng1, DL.rng2, DL.forS, DL.tgN, DL.tgT, DL.tgCons, DL.tgNil, DL.slE, DL.slL, DL.noO, DL.someO, DL.inP, DL.notInP, DL.wipeD, DL.endW, DL.turn, DL.item, DL.forX, DL.ownS, DL.szA, DL.appO, DL.coldS, DL.ownL, DL.revF, DL.allF, DL.anyF, L2.atI, L2.ixN, isiP, isiB, tyN, k1, k2, k3, k5, k8, k12, j3, j7, beqD]
    case str i =>
      cases a <;> first | (simp [plainN] at h1; done) | simp [m_same, b_same, DL.seqS, DL.Res.seq, DL.setIxS, DL.setS, DL.exprS, DL.retS, DL.retN, DL.ifS, DL.nilS, DL.brkS, DL.cntS, DL.callB, DL.callM, DL.intF, DL.boolF, DL.consA, DL.nilA, DL.starA, DL.bin, DL.un1, DL.negP, DL.bnd, DL.Out.bnd, DL.Out.thenS, DL.opt, DL.varE, DL.litE, DL.ixP, DL.seqOf, DL.rlistOf, DL.listOf, DL.setItem, DL.ret, DL.addP, DL.subP, DL.mulP, DL.modP, DL.fdivP, DL.powP, DL.intP, DL.geP, DL.leP, DL.gtP, DL.ltP, DL.ltB, DL.eqP, DL.neP, DL.eqB, DL.eqS, DL.tstE, DL.truB, DL.boolE, DL.andT, DL.orT, DL.notT, DL.andE, DL.orE, DL.notE, DL.ifE, DL.chainE, DL.tupE, DL.lstE, DL.lstC, DL.isNP, DL.notNP, DL.isNon, DL.lenP, DL.runD, DL.Res.out, DL.startD, DL.itE, DL.itR, DL.seqF, DL.rng1, DL.rng2, DL.forS, DL.tgN, DL.tgT, DL.tgCons, DL.tgNil, DL.slE, DL.slL, DL.noO, DL.someO, DL.inP, DL.notInP, DL.wipeD, DL.endW, DL.turn, DL.item, DL.forX, DL.ownS, DL.szA, DL.appO, DL.coldS, DL.ownL, DL.revF, DL.allF, DL.anyF, L2.atI, L2.ixN, isiP, isiB, tyN, k4, k5, k6, k9, k13, j4, j8, j11, beqD]
    case tup ys =>
      simp only [plainN, Bool.and_eq_true, List.all_eq_true, decide_eq_true_eq] at h2
      cases a <;> try (simp [plainN] at h1; done)
      case tup xs =>
        simp only [plainN, Bool.and_eq_true, List.all_eq_true, decide_eq_true_eq] at h1
        simpa only [beqD] using same_seq (.inr (.inr ⟨rfl, rfl⟩)) h2.2 (go xs ys h1.1 h2.1)
      all_goals simp [m_same, b_same, DL.seqS, DL.Res.seq, DL.setIxS, DL.setS, DL.exprS, DL.retS, DL.retN, DL.ifS, DL.nilS, DL.brkS, DL.cntS, DL.callB, DL.callM, DL.intF, DL.boolF, DL.consA, DL.nilA, DL.starA, DL.bin, DL.un1, DL.negP, DL.bnd, DL.Out.bnd, DL.Out.thenS, DL.opt, DL.varE, DL.litE, DL.ixP, DL.seqOf, DL.rlistOf, DL.listOf, DL.setItem, DL.ret, DL.addP, DL.subP, DL.mulP, DL.modP, DL.fdivP, DL.powP, DL.intP, DL.geP, DL.leP, DL.gtP, DL.ltP, DL.ltB, DL.eqP, DL.neP, DL.eqB, DL.eqS, DL.tstE, DL.truB, DL.boolE, DL.andT, DL.orT, DL.notT, DL.andE, DL.orE, DL.notE, DL.ifE, DL.chainE, DL.tupE, DL.lstE, DL.lstC, DL.isNP, DL.notNP, DL.isNon, DL.lenP, DL.runD, DL.Res.out, DL.startD, DL.itE, DL.itR, DL.seqF, DL.rng1, DL.rng2, DL.forS, DL.tgN, DL.tgT, DL.tgCons, DL.tgNil, DL.slE, DL.slL, DL.noO, DL.someO, DL.inP, DL.notInP, DL.wipeD, DL.endW, DL.turn, DL.item, DL.forX, DL.ownS, DL.szA, DL.appO, DL.coldS, DL.ownL, DL.revF, DL.allF, DL.anyF, L2.atI, L2.ixN, isiP, isiB, tyN, k11, k12, k13, k14, j1, j6, j10, j13, j15, beqD]
    case lst ys =>
      simp only [plainN, Bool.and_eq_true, List.all_eq_true, decide_eq_true_eq] at h2
      cases a <;> try (simp [plainN] at h1; done)
      case lst xs =>
        simp only [plainN, Bool.and_eq_true, List.all_eq_true, decide_eq_true_eq] at h1
        simpa only [beqD] using same_seq (.inl ⟨rfl, rfl⟩) h2.2 (go xs ys h1.1 h2.1)
      all_goals simp [m_same, b_same, DL.seqS, DL.Res.seq, DL.setIxS, DL.setS, DL.exprS, DL.retS, DL.retN, DL.ifS, DL.nilS, DL.brkS, DL.cntS, DL.callB, DL.callM, DL.intF, DL.boolF, DL.consA, DL.nilA, DL.starA, DL.bin, DL.un1, DL.negP, DL.bnd, DL.Out.bnd, DL.Out.thenS, DL.opt, DL.varE, DL.litE, DL.ixP, DL.seqOf, DL.rlistOf, DL.listOf, DL.setItem, DL.ret, DL.addP, DL.subP, DL.mulP, DL.modP, DL.fdivP, DL.powP, DL.intP, DL.geP, DL.leP, DL.gtP, DL.ltP, DL.ltB, DL.eqP, DL.neP, DL.eqB, DL.eqS, DL.tstE, DL.truB, DL.boolE, DL.andT, DL.orT, DL.notT, DL.andE, DL.orE, DL.notE, DL.ifE, DL.chainE, DL.tupE, DL.lstE, DL.lstC, DL.isNP, DL.notNP, DL.isNon, DL.lenP, DL.runD, DL.Res.out, DL.startD, DL.itE, DL.itR, DL.seqF, DL.rng1, DL.rng2, DL.forS, DL.tgN, DL.tgT, DL.tgCons, DL.tgNil, DL.slE, DL.slL, DL.noO, DL.someO, DL.inP, DL.notInP, DL.wipeD, DL.endW, DL.turn, DL.item, DL.forX, DL.ownS, DL.szA, DL.appO, DL.coldS, DL.ownL, DL.revF, DL.allF, DL.anyF, L2.atI, L2.ixN, isiP, isiB, tyN, k7, k8, k9, k10, k14, j5, j9, j12, j14, beqD]
/-- a mutable list -/
theorem same_cell {isis : List Nat} {c : Cells} {n k : Nat} {xs ys : List D} (hk : c[k]? = some (Cell.lst xs)) (hx : ys.length ≤ 1000000) (h1 : ∀ x ∈ xs, plainN n x = true) (h2 : ∀ y ∈ ys, plainN n y = true) :
    m_same isis (n + 1) [.cell k, .lst ys] c = .ok (.bl (beqDs xs ys)) c :=
  same_seq (.inr (.inl ⟨⟨k, rfl, hk⟩, rfl⟩)) hx fun i i1 i2 => same_eq (h1 _ (List.getElem_mem i1)) (h2 _ (List.getElem_mem i2))
end DL

namespace DL
open PySem PySem.Spec PyProof.Rows L2

abbrev DS := { d : Dr // d.Ok }
def DS.c (s : DS) : Cell := s.1.cell
theorem draw_dep (s : DS) (n : Int) : ∃ r : Int × DS, 0 ≤ r.1 ∧ (1 ≤ n → r.1 < n) ∧ (1 ≤ n → n ≤ 10 ^ 40 → ∀ cs, m_draw [.cell 0, .int n] (s.c :: cs) = .ok (.int r.1) (r.2.c :: cs)) := by
  by_cases h : 1 ≤ n ∧ n ≤ 10 ^ 40
  · have hl : n.natAbs.log2 < 9000 := by
      have h1 : n.natAbs < 2 ^ 9000 := by
        have : n.natAbs ≤ 10 ^ 40 := by omega
        exact Nat.lt_of_le_of_lt this (by decide +kernel)
      by_cases hz : n.natAbs = 0
      · rw [hz]; decide
      · exact (Nat.log2_lt hz).mpr h1
    obtain ⟨v, e, eo, v0, v1, q⟩ := draw_ex s.2 hl h.1
    exact ⟨(v, ⟨e, eo⟩), v0, fun _ => v1, fun _ _ cs => q cs⟩
  · refine ⟨(0, s), Int.le_refl _, fun h => ?_, fun h1 h2 => absurd ⟨h1, h2⟩ h⟩
    show (0 : Int) < n
    omega
noncomputable def dv (s : DS) (n : Int) : Int := (draw_dep s n).choose.1
noncomputable def ds (s : DS) (n : Int) : DS := (draw_dep s n).choose.2
theorem dv_lo (s : DS) (n : Int) : 0 ≤ dv s n := (draw_dep s n).choose_spec.1
theorem dv_hi (s : DS) {n : Int} (h : 1 ≤ n) : dv s n < n := (draw_dep s n).choose_spec.2.1 h
theorem draw_s {s : DS} {n : Int} {cs : Cells} (h1 : 1 ≤ n) (h2 : n ≤ 10 ^ 40) : m_draw [.cell 0, .int n] (s.c :: cs) = .ok (.int (dv s n)) ((ds s n).c :: cs) := (draw_dep s n).choose_spec.2.2 h1 h2 cs
theorem start_s {ns : List Int} (h : ns.length ≤ 63) : ∃ s : DS, m_start [.rol (ns.map .int)] [] = .ok (.cell 0) [s.c] :=
  ⟨⟨⟨ns, 0, 0, 0, 0, false⟩, ⟨h, Int.le_refl 0, Int.le_refl 0, by show (0 : Int) + 0 ≤ 60; decide⟩⟩, start_eq h⟩
/-- a draw out of a written list -/
theorem pick_get {xs : List D} {i : Int} (h0 : 0 ≤ i) (h1 : i < xs.length) : ∃ d ∈ xs, atI xs i = some d := by
  obtain ⟨k, rfl⟩ := Int.eq_ofNat_of_zero_le h0
  have hk : k < xs.length := by omega
  exact ⟨xs[k], List.getElem_mem hk, by simp [atI, ixN, hk]⟩
theorem atI_get {xs : List D} {k : Nat} (h : k < xs.length) : atI xs (k : Int) = some xs[k] := by simp [atI, ixN, h]
abbrev S (l : List Nat) : PySem.Str := ⟨l.toArray⟩
theorem S_len (l : List Nat) : (S l).length = l.length := rfl
theorem S_add (a b : List Nat) : S a ++ S b = S (a ++ b) := by
  show (⟨a.toArray ++ b.toArray⟩ : PySem.Str) = _
  simp
theorem S_inj {a b : List Nat} : S a = S b ↔ a = b := ⟨fun h => by
  have := congrArg (fun s : PySem.Str => s.cps.toList) h
  simpa using this, fun h => by rw [h]⟩
theorem S_chars (l : List Nat) : chars (S l) = l.map fun n => .str (S [n]) := by simp [chars]
theorem cutS_from (l : List Nat) {i : Int} (n : Nat) (h : i = n) : cutS (S l) (some i) none = S (l.drop n) := by
  subst h
  unfold cutS
  simp only [HT.sIx_nat, HT.sIx_none, S_len]
  congr 1
  by_cases h : n ≤ l.length
  · rw [Nat.min_eq_left h, List.take_of_length_le (by simp)]
  · rw [Nat.min_eq_right (by omega), Nat.sub_self, List.take_zero, List.drop_eq_nil_of_le (by omega)]
theorem cutS_to (l : List Nat) {i : Int} (n : Nat) (h : i = n) : cutS (S l) none (some i) = S (l.take n) := by
  subst h
  unfold cutS
  simp only [HT.sIx_nat, HT.sIx_none, S_len, List.drop_zero, Nat.sub_zero]
  congr 1
  by_cases h : n ≤ l.length
  · rw [Nat.min_eq_left h]
  · rw [Nat.min_eq_right (by omega), List.take_of_length_le (Nat.le_refl _), List.take_of_length_le (by omega)]
theorem S_flat (l : List Nat) : ∀ (n : Nat) (b : Array Nat), (List.replicate n l.toArray).foldl (· ++ ·) b = b ++ ((List.replicate n l).flatten).toArray
  | 0, b => by simp
  | n + 1, b => by
    rw [List.replicate_succ, List.foldl_cons, S_flat l n]
    simp [List.replicate_succ, Array.append_assoc]
theorem repS_S (l : List Nat) (n : Nat) : repS (S l) (n : Int) = S (List.replicate n l).flatten := by
  unfold repS
  split
  · have : n = 0 := by omega
    subst this; rfl
  · split
    · rename_i h1 h2
      simp only [Bool.or_eq_true, beq_iff_eq] at h2
      rcases h2 with h2 | h2
      · have : n = 1 := by omega
        subst this; simp
      · rw [S_len] at h2
        have : l = [] := List.length_eq_zero_iff.mp h2
        subst this
        simp
    · rw [S_inj.mpr rfl]
      show (⟨_⟩ : PySem.Str) = ⟨_⟩
      congr 1
      rw [Int.toNat_natCast, S_flat]
      simp
theorem strIn_one (n : Nat) (l : List Nat) : strIn (S [n]) (S l) = l.contains n := by
  unfold strIn
  have := PySem.StrLaws.found_one (S l) n
  rw [Bool.eq_iff_iff]
  simp only [List.contains_iff_mem]
  first
    | simpa using this
    | (rw [this]; simp)
theorem S_ok {l : List Nat} (h : ∀ n ∈ l, n < 1000) : PyData.strOk (S l) = true := by
  unfold PyData.strOk
  simp
  intro n hn
  have := h n hn
  omega
end DL

namespace L26
open PySem PySem.Spec PyProof.Rows L2 DL
def topS (i : Nat) : Stmt := PySem.Challenge.pw_promiseshapes_k26_promise_parts.main.body.getD i (.Pass ⟨0, 0, 0, 0⟩)
structure Ad where
  a__law_start : Addr
  f__law_start : FuncData
  a__law_draw : Addr
  f__law_draw : FuncData
  a__law_way : Addr
  f__law_way : FuncData
  a__law_atom : Addr
  f__law_atom : FuncData
  a__law_occurs : Addr
  f__law_occurs : FuncData
  a__law_known : Addr
  f__law_known : FuncData
  a__law_size : Addr
  f__law_size : FuncData
  a__law_shape : Addr
  f__law_shape : FuncData
  a__law_word : Addr
  f__law_word : FuncData
  a__law_names : Addr
  f__law_names : FuncData
  a__law_full : Addr
  f__law_full : FuncData
  a__law_good : Addr
  f__law_good : FuncData
  a__law_bad_names : Addr
  f__law_bad_names : FuncData
  a__law_bad_bodies : Addr
  f__law_bad_bodies : FuncData
  a__law_bad_heads : Addr
  f__law_bad_heads : FuncData
  a_places_of : Addr
  f_places_of : FuncData
  a_is_place : Addr
  f_is_place : FuncData
  a_is_mark : Addr
  f_is_mark : FuncData
  a_is_atom : Addr
  f_is_atom : FuncData
  a_size_of : Addr
  f_size_of : FuncData
  a_is_name : Addr
  f_is_name : FuncData
  a_Promise___init__ : Addr
  f_Promise___init__ : FuncData
  a__law_same : Addr
  f__law_same : FuncData
  a_Promise___eq__ : Addr
  f_Promise___eq__ : FuncData
  a__law_equals : Addr
  f__law_equals : FuncData
  a__law_refused : Addr
  f__law_refused : FuncData
  a__law_told : Addr
  f__law_told : FuncData
  a__law_let_in : Addr
  f__law_let_in : FuncData
  a_law : Addr
  f_law : FuncData
  a_PromiseError : Addr
  a_InvalidPromise : Addr
  a_InvalidText : Addr
  a_Promise : Addr
def ceOf (A : Ad) : CEnv := fun C => match C with
  | 0 => (A.a_PromiseError, [])
  | 1 => (A.a_InvalidPromise, [])
  | 2 => (A.a_InvalidText, [])
  | 3 => (A.a_Promise, ["name", "body", "head", "size"])
  | _ => (0, [])
def exTab : ExTab := [(1, [(.c 1, true), (.t "ValueError", true), (.c 2, false)])]
def isis : List Nat := [3]
abbrev s__law_start : Stmt := topS 27
abbrev s__law_draw : Stmt := topS 28
abbrev s__law_way : Stmt := topS 36
abbrev s__law_atom : Stmt := topS 34
abbrev s__law_occurs : Stmt := topS 35
abbrev s__law_known : Stmt := topS 32
abbrev s__law_size : Stmt := topS 33
abbrev s__law_shape : Stmt := topS 37
abbrev s__law_word : Stmt := topS 30
abbrev s__law_names : Stmt := topS 31
abbrev s__law_full : Stmt := topS 41
abbrev s__law_good : Stmt := topS 42
abbrev s__law_bad_names : Stmt := topS 43
abbrev s__law_bad_bodies : Stmt := topS 44
abbrev s__law_bad_heads : Stmt := topS 45
abbrev s_places_of : Stmt := topS 13
abbrev s_is_place : Stmt := topS 11
abbrev s_is_mark : Stmt := topS 10
abbrev s_is_atom : Stmt := topS 12
abbrev s_size_of : Stmt := topS 23
abbrev s_is_name : Stmt := topS 22
abbrev s_Promise___init__ : Stmt := inClass (topS 24) 0
abbrev s__law_same : Stmt := topS 29
abbrev s_Promise___eq__ : Stmt := inClass (topS 24) 1
abbrev s__law_equals : Stmt := topS 46
abbrev s__law_refused : Stmt := topS 38
abbrev s__law_told : Stmt := topS 39
abbrev s__law_let_in : Stmt := topS 40
abbrev s_law : Stmt := topS 47
structure TT (K : PySem.W.Frag) (mg : PySem.Str → Option Value) (A : Ad) : Prop where
  n_list : mg "list" = none
  F__law_start : Fun K "_law_start" "_law_start" s__law_start A.a__law_start A.f__law_start
  n_len : mg "len" = none
  n_int : mg "int" = none
  F__law_draw : Fun K "_law_draw" "_law_draw" s__law_draw A.a__law_draw A.f__law_draw
  g__law_draw : mg "_law_draw" = some (.ref A.a__law_draw)
  n_range : mg "range" = none
  F__law_way : Fun K "_law_way" "_law_way" s__law_way A.a__law_way A.f__law_way
  F__law_atom : Fun K "_law_atom" "_law_atom" s__law_atom A.a__law_atom A.f__law_atom
  F__law_occurs : Fun K "_law_occurs" "_law_occurs" s__law_occurs A.a__law_occurs A.f__law_occurs
  F__law_known : Fun K "_law_known" "_law_known" s__law_known A.a__law_known A.f__law_known
  F__law_size : Fun K "_law_size" "_law_size" s__law_size A.a__law_size A.f__law_size
  g__law_known : mg "_law_known" = some (.ref A.a__law_known)
  g__law_size : mg "_law_size" = some (.ref A.a__law_size)
  g__law_way : mg "_law_way" = some (.ref A.a__law_way)
  g__law_atom : mg "_law_atom" = some (.ref A.a__law_atom)
  g__law_occurs : mg "_law_occurs" = some (.ref A.a__law_occurs)
  F__law_shape : Fun K "_law_shape" "_law_shape" s__law_shape A.a__law_shape A.f__law_shape
  F__law_word : Fun K "_law_word" "_law_word" s__law_word A.a__law_word A.f__law_word
  g__law_word : mg "_law_word" = some (.ref A.a__law_word)
  F__law_names : Fun K "_law_names" "_law_names" s__law_names A.a__law_names A.f__law_names
  F__law_full : Fun K "_law_full" "_law_full" s__law_full A.a__law_full A.f__law_full
  g__law_full : mg "_law_full" = some (.ref A.a__law_full)
  F__law_good : Fun K "_law_good" "_law_good" s__law_good A.a__law_good A.f__law_good
  F__law_bad_names : Fun K "_law_bad_names" "_law_bad_names" s__law_bad_names A.a__law_bad_names A.f__law_bad_names
  F__law_bad_bodies : Fun K "_law_bad_bodies" "_law_bad_bodies" s__law_bad_bodies A.a__law_bad_bodies A.f__law_bad_bodies
  F__law_bad_heads : Fun K "_law_bad_heads" "_law_bad_heads" s__law_bad_heads A.a__law_bad_heads A.f__law_bad_heads
  F_places_of : Fun K "places_of" "places_of" s_places_of A.a_places_of A.f_places_of
  isi : IsOk K (ceOf A) isis
  n_isinstance : mg "isinstance" = none
  F_is_place : Fun K "is_place" "is_place" s_is_place A.a_is_place A.f_is_place
  n_str : mg "str" = none
  c_CAPITALS : Con K mg "CAPITALS" (.str "ABCDEFGHIJKLMNOPQRSTUVWXYZ")
  F_is_mark : Fun K "is_mark" "is_mark" s_is_mark A.a_is_mark A.f_is_mark
  n_tuple : mg "tuple" = none
  c_NEVER : Con K mg "NEVER" (.tup [(.str "never")])
  g_is_mark : mg "is_mark" = some (.ref A.a_is_mark)
  g_is_place : mg "is_place" = some (.ref A.a_is_place)
  c_RELATIONS : Con K mg "RELATIONS" (.tup [(.str "bf"), (.str "so"), (.str "vis"), (.str "ar"), (.str "ss"), (.str "si")])
  F_is_atom : Fun K "is_atom" "is_atom" s_is_atom A.a_is_atom A.f_is_atom
  c_MOST_ATOMS : Con K mg "MOST_ATOMS" (.int 8)
  x_InvalidPromise : PySem.W.excIn K A.a_InvalidPromise [.type "ValueError", .type "Exception", .type "BaseException", .type "object"] "ValueError.__new__" = true
  kp_InvalidPromise : PySem.W.keepIn K (.ref A.a_InvalidPromise) = true
  eb_InvalidPromise : PySem.W.subIn K (.ref A.a_InvalidPromise) (.type "BaseException") = some true
  et_InvalidPromise : PySem.W.typeIn K (.ref A.a_InvalidPromise) = some (.type "type")
  g_InvalidPromise : mg "InvalidPromise" = some (.ref A.a_InvalidPromise)
  g_is_atom : mg "is_atom" = some (.ref A.a_is_atom)
  c_MOST_EVENTS : Con K mg "MOST_EVENTS" (.int 4)
  g_places_of : mg "places_of" = some (.ref A.a_places_of)
  n_max : mg "max" = none
  F_size_of : Fun K "size_of" "size_of" s_size_of A.a_size_of A.f_size_of
  c_MOST_NAME : Con K mg "MOST_NAME" (.int 12)
  c_SMALL_LETTERS : Con K mg "SMALL_LETTERS" (.str "abcdefghijklmnopqrstuvwxyz")
  n_all : mg "all" = none
  F_is_name : Fun K "is_name" "is_name" s_is_name A.a_is_name A.f_is_name
  g_is_name : mg "is_name" = some (.ref A.a_is_name)
  g_size_of : mg "size_of" = some (.ref A.a_size_of)
  at_Promise_name : AtF K (ceOf A) 3 0 "name"
  at_Promise_body : AtF K (ceOf A) 3 1 "body"
  at_Promise_head : AtF K (ceOf A) 3 2 "head"
  at_Promise_size : AtF K (ceOf A) 3 3 "size"
  F_Promise___init__ : Fun K "__init__" "Promise.__init__" s_Promise___init__ A.a_Promise___init__ A.f_Promise___init__
  n_bool : mg "bool" = none
  g__law_same : mg "_law_same" = some (.ref A.a__law_same)
  F__law_same : Fun K "_law_same" "_law_same" s__law_same A.a__law_same A.f__law_same
  g_Promise : mg "Promise" = some (.ref A.a_Promise)
  F_Promise___eq__ : Fun K "__eq__" "Promise.__eq__" s_Promise___eq__ A.a_Promise___eq__ A.f_Promise___eq__
  mk_Promise : Mk K (ceOf A 3).1 A.a_Promise___init__
  me_Promise___eq__ : Meth K (ceOf A 3).1 "__eq__" A.a_Promise___eq__
  F__law_equals : Fun K "_law_equals" "_law_equals" s__law_equals A.a__law_equals A.f__law_equals
  isE : ExTabOk K (ceOf A) exTab
  n_ValueError : mg "ValueError" = none
  g_InvalidText : mg "InvalidText" = some (.ref A.a_InvalidText)
  ex_InvalidPromise_PromiseError : PySem.W.exmOne K (.ref A.a_InvalidPromise) (.ref A.a_PromiseError) = some true
  g_PromiseError : mg "PromiseError" = some (.ref A.a_PromiseError)
  F__law_refused : Fun K "_law_refused" "_law_refused" s__law_refused A.a__law_refused A.f__law_refused
  F__law_told : Fun K "_law_told" "_law_told" s__law_told A.a__law_told A.f__law_told
  g__law_told : mg "_law_told" = some (.ref A.a__law_told)
  F__law_let_in : Fun K "_law_let_in" "_law_let_in" s__law_let_in A.a__law_let_in A.f__law_let_in
  g__law_start : mg "_law_start" = some (.ref A.a__law_start)
  g__law_shape : mg "_law_shape" = some (.ref A.a__law_shape)
  g__law_names : mg "_law_names" = some (.ref A.a__law_names)
  g__law_good : mg "_law_good" = some (.ref A.a__law_good)
  g__law_let_in : mg "_law_let_in" = some (.ref A.a__law_let_in)
  g__law_bad_names : mg "_law_bad_names" = some (.ref A.a__law_bad_names)
  g__law_refused : mg "_law_refused" = some (.ref A.a__law_refused)
  g__law_bad_bodies : mg "_law_bad_bodies" = some (.ref A.a__law_bad_bodies)
  g__law_bad_heads : mg "_law_bad_heads" = some (.ref A.a__law_bad_heads)
  g__law_equals : mg "_law_equals" = some (.ref A.a__law_equals)
  F_law : Fun K "law" "law" s_law A.a_law A.f_law
section
variable {P : Program} {w : World} {K : PySem.W.Frag} {mg : PySem.Str → Option Value} {base : Heap} {A : Ad}
theorem sc__law_start : FnScope ["script"] ["script"] (defScope s__law_start) := ⟨rfl, rfl, rfl, by decide +kernel, rfl, by decide +kernel, by decide +kernel⟩
abbrev b__law_start : SM := DL.b_start
abbrev m__law_start : List D → M D := DL.m_start
theorem d__law_start (t : TT K mg A) : FnD P w K mg base (ceOf A) 1 A.a__law_start A.f__law_start ["script"] m__law_start :=
  fn_d t.F__law_start sc__law_start fun cdv A0 outer s H E hr tk po => have hu := huD hr; have hv := huE hr; sd_one (sd_ret (pd_lstC (pda_cons (pd_callTy (cd_listG rfl) (by rfl) t.n_list (by decide +kernel) (pda_cons (pd_var 0 (pv 0)) (pda_nil))) (pda_cons (pd_int) (pda_cons (pd_int) (pda_cons (pd_int) (pda_cons (pd_int) (pda_cons (pd_bl) (pda_nil)))))))))
theorem f__law_start (t : TT K mg A) : FnP P w K mg base (ceOf A) 1 A.a__law_start m__law_start := (d__law_start t).pos0 (t.F__law_start.binds fun _ _ _ _ _ _ us hl => match us, hl with | [_], _ => rfl)
theorem sc__law_draw : FnScope ["draws", "limit", "step", "mixed", "value"] ["draws", "limit"] (defScope s__law_draw) := ⟨rfl, rfl, rfl, by decide +kernel, rfl, by decide +kernel, by decide +kernel⟩
abbrev b__law_draw : SM := DL.b_draw
abbrev m__law_draw : List D → M D := DL.m_draw
theorem d__law_draw (t : TT K mg A) : FnD P w K mg base (ceOf A) 1 A.a__law_draw A.f__law_draw ["draws", "limit"] m__law_draw :=
  fn_d t.F__law_draw sc__law_draw fun cdv A0 outer s H E hr tk po => have hu := huD hr; have hv := huE hr; sd_cons (sd_if (pdw_pt (pdw_and (pt_cmp (od_eq hu) (pd_ix (pd_var 0 (pv 0)) (pd_int)) (pd_int) (by rfl)) (pdw_and1 (pt_cmp (od_lt hu) (pd_ix (pd_var 0 (pv 0)) (pd_int)) (pd_callB cd_len (by rfl) t.n_len (by decide +kernel) (pda_cons (pd_ix (pd_var 0 (pv 0)) (pd_int)) (pda_nil))) (by rfl))))) (sd_cons (sd_setIx (pd_var 0 (pv 0)) (pd_int) (pd_callTy cd_int (by rfl) t.n_int (by decide +kernel) (pda_cons (pd_ix (pd_ix (pd_var 0 (pv 0)) (pd_int)) (pd_ix (pd_var 0 (pv 0)) (pd_int))) (pda_nil)))) (sd_cons (sd_setIx (pd_var 0 (pv 0)) (pd_int) (pd_bin od_add (pd_ix (pd_var 0 (pv 0)) (pd_int)) (pd_int))) (sd_cons (sd_setIx (pd_var 0 (pv 0)) (pd_int) (pd_int)) (sd_cons (sd_setIx (pd_var 0 (pv 0)) (pd_int) (pd_int)) (sd_cons (sd_setIx (pd_var 0 (pv 0)) (pd_int) (pd_cmp (od_ge hu) (pd_ix (pd_var 0 (pv 0)) (pd_int)) (pd_bin od_pow (pd_int) (pd_int)) (by rfl))) (sd_one (sd_if (pt_tru (pd_ix (pd_var 0 (pv 0)) (pd_int))) (sd_one (sd_setIx (pd_var 0 (pv 0)) (pd_int) (pd_int))) (sd_nil)))))))) (sd_nil)) (sd_cons (sd_if (pdw_pt (pdw_or (pt_cmp (od_eq hu) (pd_ix (pd_var 0 (pv 0)) (pd_int)) (pd_int) (by rfl)) (pdw_or1 (pt_cmp (od_lt hu) (pd_var 1 (pv 1)) (pd_int) (by rfl))))) (sd_one (sd_ret (pd_int))) (sd_nil)) (sd_cons (sd_setIx (pd_var 0 (pv 0)) (pd_int) (pd_bin od_sub (pd_ix (pd_var 0 (pv 0)) (pd_int)) (pd_int))) (sd_cons (sd_setIx (pd_var 0 (pv 0)) (pd_int) (pd_bin od_add (pd_ix (pd_var 0 (pv 0)) (pd_int)) (pd_int))) (sd_cons (sd_if (pt_tru (pd_ix (pd_var 0 (pv 0)) (pd_int))) (sd_cons (sd_set 4 sc__law_draw.nd rfl (by first | exact Or.inl rfl | exact Or.inr rfl) (pd_bin od_mod (pd_callTy cd_int (by rfl) t.n_int (by decide +kernel) (pda_cons (pd_ix (pd_var 0 (pv 0)) (pd_int)) (pda_nil))) (pd_var 1 (pv 1)))) (sd_cons (sd_setIx (pd_var 0 (pv 0)) (pd_int) (pd_bin od_fdiv (pd_callTy cd_int (by rfl) t.n_int (by decide +kernel) (pda_cons (pd_ix (pd_var 0 (pv 0)) (pd_int)) (pda_nil))) (pd_var 1 (pv 1)))) (sd_cons (sd_if (pt_cmp (od_eq hu) (pd_ix (pd_var 0 (pv 0)) (pd_int)) (pd_int) (by rfl)) (sd_one (sd_setIx (pd_var 0 (pv 0)) (pd_int) (pd_int))) (sd_nil)) (sd_one (sd_ret (pd_var 4 (pv 4))))))) (sd_nil)) (sd_cons (sd_set 2 sc__law_draw.nd rfl (by first | exact Or.inl rfl | exact Or.inr rfl) (pd_ix (pd_var 0 (pv 0)) (pd_int))) (sd_cons (sd_set 3 sc__law_draw.nd rfl (by first | exact Or.inl rfl | exact Or.inr rfl) (pd_bin od_mod (pd_callTy cd_int (by rfl) t.n_int (by decide +kernel) (pda_cons (pd_bin od_mul (pd_ix (pd_var 0 (pv 0)) (pd_int)) (pd_int)) (pda_nil))) (pd_int))) (sd_cons (sd_set 3 sc__law_draw.nd rfl (by first | exact Or.inl rfl | exact Or.inr rfl) (pd_bin od_mod (pd_callTy cd_int (by rfl) t.n_int (by decide +kernel) (pda_cons (pd_bin od_mul (pd_var 3 (pv 3)) (pd_bin od_add (pd_bin od_add (pd_bin od_mul (pd_bin od_mul (pd_int) (pd_var 2 (pv 2))) (pd_var 2 (pv 2))) (pd_bin od_mul (pd_int) (pd_var 2 (pv 2)))) (pd_int))) (pda_nil))) (pd_int))) (sd_one (sd_ret (pd_bin od_mod (pd_callTy cd_int (by rfl) t.n_int (by decide +kernel) (pda_cons (pd_var 3 (pv 3)) (pda_nil))) (pd_var 1 (pv 1))))))))))))
theorem f__law_draw (t : TT K mg A) : FnP P w K mg base (ceOf A) 1 A.a__law_draw m__law_draw := (d__law_draw t).pos0 (t.F__law_draw.binds fun _ _ _ _ _ _ us hl => match us, hl with | [_, _], _ => rfl)
noncomputable def lb__law_way_1 : SM := appO 4 (tupE (consA (bin ixP (varE 2) (callM m__law_draw (consA (varE 0) (consA (litE (.int 4)) (nilA))))) (consA (varE 5) (consA (bin addP (varE 5) (litE (.int 1))) (nilA)))))
noncomputable def lp__law_way_1 : List D → Ev' → Cells → Res := forL (tgN 5) (endW [5] (lb__law_way_1))
theorem sc__law_way : FnScope ["draws", "most", "words", "steps", "body", "k"] ["draws", "most"] (defScope s__law_way) := ⟨rfl, rfl, rfl, by decide +kernel, rfl, by decide +kernel, by decide +kernel⟩
noncomputable def b__law_way : SM := seqS (setS 2 (lstE (consA (litE (.str "vis")) (consA (litE (.str "so")) (consA (litE (.str "ar")) (consA (litE (.str "bf")) (nilA))))))) (seqS (setS 3 (bin addP (litE (.int 1)) (callM m__law_draw (consA (varE 0) (consA (bin subP (varE 1) (litE (.int 1))) (nilA)))))) (seqS (ownS 4 (szA (nilA))) (seqS (forX [5] (itR rng1 (consA (varE 3) nilA)) (lp__law_way_1)) (seqS (ifS (boolE (bin eqP (callM m__law_draw (consA (varE 0) (consA (litE (.int 2)) (nilA)))) (litE (.int 1)))) (appO 4 (tupE (consA (litE (.str "W")) (consA (litE (.int 0)) (nilA))))) (nilS)) (coldS 4 (retS (tupE (consA (varE 4) (consA (tupE (consA (bin ixP (varE 2) (callM m__law_draw (consA (varE 0) (consA (litE (.int 4)) (nilA))))) (consA (litE (.int 0)) (consA (varE 3) (nilA))))) (nilA))))))))))
noncomputable def m__law_way : List D → M D := runD 6 2 b__law_way
theorem d__law_way (t : TT K mg A) : FnD P w K mg base (ceOf A) 2 A.a__law_way A.f__law_way ["draws", "most"] m__law_way :=
  fn_d t.F__law_way sc__law_way fun cdv A0 outer s H E hr tk po => have hu := huD hr; have hv := huE hr; sd_cons (sd_set 2 sc__law_way.nd rfl (by first | exact Or.inl rfl | exact Or.inr rfl) (pd_lst (pda_cons (pd_str) (pda_cons (pd_str) (pda_cons (pd_str) (pda_cons (pd_str) (pda_nil))))))) (sd_cons (sd_set 3 sc__law_way.nd rfl (by first | exact Or.inl rfl | exact Or.inr rfl) (pd_bin od_add (pd_int) (pd_call (f__law_draw t) (hr.mono (by decide)) (by rfl) t.g__law_draw t.F__law_draw.kp (passW tk) (pda_cons (pd_var 0 (pv 0)) (pda_cons (pd_bin od_sub (pd_var 1 (pv 1)) (pd_int)) (pda_nil)))))) (sd_cons (sd_own 4 sc__law_way.nd rfl (by first | exact Or.inl rfl | exact Or.inr rfl) (po_lst (pda_nil))) (sd_cons (sd_forW (js := [5]) po rfl (pid_range1 (by rfl) t.n_range (pda_cons (pd_var 3 (pv 3)) pda_nil)) (pgd_name (js := [5]) 5 sc__law_way.nd rfl (by first | exact Or.inl rfl | exact Or.inr rfl)) (sd_one (sd_appO 4 (pv 4) (pd_tup (pda_cons (pd_ix (pd_var 2 (pv 2)) (pd_call (f__law_draw t) (hr.mono (by decide)) (by rfl) t.g__law_draw t.F__law_draw.kp (passW tk) (pda_cons (pd_var 0 (pv 0)) (pda_cons (pd_int) (pda_nil))))) (pda_cons (pd_var 5 (pv 5)) (pda_cons (pd_bin od_add (pd_var 5 (pv 5)) (pd_int)) (pda_nil))))) (pe_bm PySem.F.plainAttrs_list PySem.F.slot_list_append PySem.F.type_list_append mt_append (pv 4) (pa_cons (pd_tup (pda_cons (pd_ix (pd_var 2 (pv 2)) (pd_call (f__law_draw t) (hr.mono (by decide)) (by rfl) t.g__law_draw t.F__law_draw.kp (passW tk) (pda_cons (pd_var 0 (pv 0)) (pda_cons (pd_int) (pda_nil))))) (pda_cons (pd_var 5 (pv 5)) (pda_cons (pd_bin od_add (pd_var 5 (pv 5)) (pd_int)) (pda_nil))))) pa_nil))))) (sd_cons (sd_if (pt_cmp (od_eq hu) (pd_call (f__law_draw t) (hr.mono (by decide)) (by rfl) t.g__law_draw t.F__law_draw.kp (passW tk) (pda_cons (pd_var 0 (pv 0)) (pda_cons (pd_int) (pda_nil)))) (pd_int) (by rfl)) (sd_one (sd_appO 4 (pv 4) (pd_tup (pda_cons (pd_str) (pda_cons (pd_int) (pda_nil)))) (pe_bm PySem.F.plainAttrs_list PySem.F.slot_list_append PySem.F.type_list_append mt_append (pv 4) (pa_cons (pd_tup (pda_cons (pd_str) (pda_cons (pd_int) (pda_nil)))) pa_nil)))) (sd_nil)) (sd_cold 4 (sd_one (sd_ret (pd_tup (pda_cons (pd_var 4 (pv 4)) (pda_cons (pd_tup (pda_cons (pd_ix (pd_var 2 (pv 2)) (pd_call (f__law_draw t) (hr.mono (by decide)) (by rfl) t.g__law_draw t.F__law_draw.kp (passW tk) (pda_cons (pd_var 0 (pv 0)) (pda_cons (pd_int) (pda_nil))))) (pda_cons (pd_int) (pda_cons (pd_var 3 (pv 3)) (pda_nil))))) (pda_nil)))))))))))
theorem f__law_way (t : TT K mg A) : FnP P w K mg base (ceOf A) 2 A.a__law_way m__law_way := (d__law_way t).pos0 (t.F__law_way.binds fun _ _ _ _ _ _ us hl => match us, hl with | [_, _], _ => rfl)
theorem sc__law_atom : FnScope ["draws", "size", "words", "x", "k", "y"] ["draws", "size"] (defScope s__law_atom) := ⟨rfl, rfl, rfl, by decide +kernel, rfl, by decide +kernel, by decide +kernel⟩
noncomputable def b__law_atom : SM := seqS (setS 2 (lstE (consA (litE (.str "vis")) (consA (litE (.str "so")) (consA (litE (.str "ar")) (consA (litE (.str "bf")) (consA (litE (.str "ss")) (consA (litE (.str "si")) (consA (litE (.str "vis")) (consA (litE (.str "so")) (nilA))))))))))) (seqS (setS 3 (callM m__law_draw (consA (varE 0) (consA (varE 1) (nilA))))) (seqS (setS 4 (callM m__law_draw (consA (varE 0) (consA (litE (.int 12)) (nilA))))) (seqS (ifS (andT (boolE (bin gtP (varE 1) (litE (.int 1)))) (boolE (bin ltP (varE 4) (litE (.int 8))))) (seqS (setS 5 (bin modP (callB intF (consA (bin addP (bin addP (varE 3) (litE (.int 1))) (callM m__law_draw (consA (varE 0) (consA (bin subP (varE 1) (litE (.int 1))) (nilA))))) (nilA))) (varE 1))) (retS (tupE (consA (bin ixP (varE 2) (varE 4)) (consA (varE 3) (consA (varE 5) (nilA))))))) (nilS)) (seqS (ifS (boolE (bin eqP (varE 4) (litE (.int 11)))) (retS (tupE (consA (bin ixP (litE (.str "ABCDEFGHIJKLMNOPQRSTUVWXYZ")) (callM m__law_draw (consA (varE 0) (consA (litE (.int 26)) (nilA))))) (consA (varE 3) (nilA))))) (nilS)) (retS (tupE (consA (bin ixP (lstE (consA (litE (.str "W")) (consA (litE (.str "R")) (nilA)))) (bin modP (callB intF (consA (varE 4) (nilA))) (litE (.int 2)))) (consA (varE 3) (nilA)))))))))
noncomputable def m__law_atom : List D → M D := runD 6 2 b__law_atom
theorem d__law_atom (t : TT K mg A) : FnD P w K mg base (ceOf A) 2 A.a__law_atom A.f__law_atom ["draws", "size"] m__law_atom :=
  fn_d t.F__law_atom sc__law_atom fun cdv A0 outer s H E hr tk po => have hu := huD hr; have hv := huE hr; sd_cons (sd_set 2 sc__law_atom.nd rfl (by first | exact Or.inl rfl | exact Or.inr rfl) (pd_lst (pda_cons (pd_str) (pda_cons (pd_str) (pda_cons (pd_str) (pda_cons (pd_str) (pda_cons (pd_str) (pda_cons (pd_str) (pda_cons (pd_str) (pda_cons (pd_str) (pda_nil))))))))))) (sd_cons (sd_set 3 sc__law_atom.nd rfl (by first | exact Or.inl rfl | exact Or.inr rfl) (pd_call (f__law_draw t) (hr.mono (by decide)) (by rfl) t.g__law_draw t.F__law_draw.kp (passW tk) (pda_cons (pd_var 0 (pv 0)) (pda_cons (pd_var 1 (pv 1)) (pda_nil))))) (sd_cons (sd_set 4 sc__law_atom.nd rfl (by first | exact Or.inl rfl | exact Or.inr rfl) (pd_call (f__law_draw t) (hr.mono (by decide)) (by rfl) t.g__law_draw t.F__law_draw.kp (passW tk) (pda_cons (pd_var 0 (pv 0)) (pda_cons (pd_int) (pda_nil))))) (sd_cons (sd_if (pdw_pt (pdw_and (pt_cmp (od_gt hu) (pd_var 1 (pv 1)) (pd_int) (by rfl)) (pdw_and1 (pt_cmp (od_lt hu) (pd_var 4 (pv 4)) (pd_int) (by rfl))))) (sd_cons (sd_set 5 sc__law_atom.nd rfl (by first | exact Or.inl rfl | exact Or.inr rfl) (pd_bin od_mod (pd_callTy cd_int (by rfl) t.n_int (by decide +kernel) (pda_cons (pd_bin od_add (pd_bin od_add (pd_var 3 (pv 3)) (pd_int)) (pd_call (f__law_draw t) (hr.mono (by decide)) (by rfl) t.g__law_draw t.F__law_draw.kp (passW tk) (pda_cons (pd_var 0 (pv 0)) (pda_cons (pd_bin od_sub (pd_var 1 (pv 1)) (pd_int)) (pda_nil))))) (pda_nil))) (pd_var 1 (pv 1)))) (sd_one (sd_ret (pd_tup (pda_cons (pd_ix (pd_var 2 (pv 2)) (pd_var 4 (pv 4))) (pda_cons (pd_var 3 (pv 3)) (pda_cons (pd_var 5 (pv 5)) (pda_nil)))))))) (sd_nil)) (sd_cons (sd_if (pt_cmp (od_eq hu) (pd_var 4 (pv 4)) (pd_int) (by rfl)) (sd_one (sd_ret (pd_tup (pda_cons (pd_ix (pd_str) (pd_call (f__law_draw t) (hr.mono (by decide)) (by rfl) t.g__law_draw t.F__law_draw.kp (passW tk) (pda_cons (pd_var 0 (pv 0)) (pda_cons (pd_int) (pda_nil))))) (pda_cons (pd_var 3 (pv 3)) (pda_nil)))))) (sd_nil)) (sd_one (sd_ret (pd_tup (pda_cons (pd_ix (pd_lst (pda_cons (pd_str) (pda_cons (pd_str) (pda_nil)))) (pd_bin od_mod (pd_callTy cd_int (by rfl) t.n_int (by decide +kernel) (pda_cons (pd_var 4 (pv 4)) (pda_nil))) (pd_int))) (pda_cons (pd_var 3 (pv 3)) (pda_nil))))))))))
theorem f__law_atom (t : TT K mg A) : FnP P w K mg base (ceOf A) 2 A.a__law_atom m__law_atom := (d__law_atom t).pos0 (t.F__law_atom.binds fun _ _ _ _ _ _ us hl => match us, hl with | [_, _], _ => rfl)
noncomputable def lb__law_occurs_1 : SM := ifS (boolE (bin inP (varE 1) (callB listG (consA (slE (varE 2) (someO (litE (.int 1))) (noO)) (nilA))))) (retS (litE (.bl true))) (nilS)
noncomputable def lp__law_occurs_1 (G : Cells → Prop) : List D → Ev' → Cells → Res := forG G (tgN 2) (endW [2] (lb__law_occurs_1))
theorem sc__law_occurs : FnScope ["body", "place", "atom"] ["body", "place"] (defScope s__law_occurs) := ⟨rfl, rfl, rfl, by decide +kernel, rfl, by decide +kernel, by decide +kernel⟩
noncomputable def b__law_occurs : SM := seqS (forXG [2] (itG (varE 0)) (lp__law_occurs_1)) (retS (litE (.bl false)))
noncomputable def m__law_occurs : List D → M D := runD 3 2 b__law_occurs
theorem d__law_occurs (t : TT K mg A) : FnD P w K mg base (ceOf A) 1 A.a__law_occurs A.f__law_occurs ["body", "place"] m__law_occurs :=
  fn_d t.F__law_occurs sc__law_occurs fun cdv A0 outer s H E hr tk po => have hu := huD hr; have hv := huE hr; sd_cons (sd_forXG (js := [2]) po rfl (pid_seqG (pd_var 0 (pv 0))) (pgd_name (js := [2]) 2 sc__law_occurs.nd rfl (by first | exact Or.inl rfl | exact Or.inr rfl)) (sd_one (sd_if (pt_cmp (od_in hv) (pd_var 1 (pv 1)) (pd_callTy (cd_listG rfl) (by rfl) t.n_list (by decide +kernel) (pda_cons (pd_slice (pd_var 2 (pv 2)) (pdo_some (pd_int)) (pdo_none)) (pda_nil))) (by rfl)) (sd_one (sd_ret (pd_bl))) (sd_nil)))) (sd_one (sd_ret (pd_bl)))
theorem f__law_occurs (t : TT K mg A) : FnP P w K mg base (ceOf A) 1 A.a__law_occurs m__law_occurs := (d__law_occurs t).pos0 (t.F__law_occurs.binds fun _ _ _ _ _ _ us hl => match us, hl with | [_, _], _ => rfl)
theorem sc__law_known : FnScope [] [] (defScope s__law_known) := ⟨rfl, rfl, rfl, by decide +kernel, rfl, by decide +kernel, by decide +kernel⟩
noncomputable def b__law_known : SM := retS (lstE (consA (tupE (consA (litE (.str "own")) (consA (lstE (consA (tupE (consA (litE (.str "W")) (consA (litE (.int 0)) (nilA)))) (consA (tupE (consA (litE (.str "so")) (consA (litE (.int 0)) (consA (litE (.int 1)) (nilA))))) (consA (tupE (consA (litE (.str "R")) (consA (litE (.int 1)) (nilA)))) (nilA))))) (consA (tupE (consA (litE (.str "vis")) (consA (litE (.int 0)) (consA (litE (.int 1)) (nilA))))) (nilA))))) (consA (tupE (consA (litE (.str "onward")) (consA (lstE (consA (tupE (consA (litE (.str "W")) (consA (litE (.int 0)) (nilA)))) (consA (tupE (consA (litE (.str "vis")) (consA (litE (.int 0)) (consA (litE (.int 1)) (nilA))))) (consA (tupE (consA (litE (.str "R")) (consA (litE (.int 1)) (nilA)))) (consA (tupE (consA (litE (.str "so")) (consA (litE (.int 1)) (consA (litE (.int 2)) (nilA))))) (consA (tupE (consA (litE (.str "R")) (consA (litE (.int 2)) (nilA)))) (nilA))))))) (consA (tupE (consA (litE (.str "vis")) (consA (litE (.int 0)) (consA (litE (.int 2)) (nilA))))) (nilA))))) (consA (tupE (consA (litE (.str "inorder")) (consA (lstE (consA (tupE (consA (litE (.str "W")) (consA (litE (.int 0)) (nilA)))) (consA (tupE (consA (litE (.str "so")) (consA (litE (.int 0)) (consA (litE (.int 1)) (nilA))))) (consA (tupE (consA (litE (.str "W")) (consA (litE (.int 1)) (nilA)))) (consA (tupE (consA (litE (.str "vis")) (consA (litE (.int 1)) (consA (litE (.int 2)) (nilA))))) (consA (tupE (consA (litE (.str "R")) (consA (litE (.int 2)) (nilA)))) (nilA))))))) (consA (tupE (consA (litE (.str "vis")) (consA (litE (.int 0)) (consA (litE (.int 2)) (nilA))))) (nilA))))) (consA (tupE (consA (litE (.str "behind")) (consA (lstE (consA (tupE (consA (litE (.str "W")) (consA (litE (.int 0)) (nilA)))) (consA (tupE (consA (litE (.str "vis")) (consA (litE (.int 0)) (consA (litE (.int 1)) (nilA))))) (consA (tupE (consA (litE (.str "R")) (consA (litE (.int 1)) (nilA)))) (consA (tupE (consA (litE (.str "so")) (consA (litE (.int 1)) (consA (litE (.int 2)) (nilA))))) (consA (tupE (consA (litE (.str "W")) (consA (litE (.int 2)) (nilA)))) (consA (tupE (consA (litE (.str "vis")) (consA (litE (.int 2)) (consA (litE (.int 3)) (nilA))))) (consA (tupE (consA (litE (.str "R")) (consA (litE (.int 3)) (nilA)))) (nilA))))))))) (consA (tupE (consA (litE (.str "vis")) (consA (litE (.int 0)) (consA (litE (.int 3)) (nilA))))) (nilA))))) (consA (tupE (consA (litE (.str "through")) (consA (lstE (consA (tupE (consA (litE (.str "W")) (consA (litE (.int 0)) (nilA)))) (consA (tupE (consA (litE (.str "vis")) (consA (litE (.int 0)) (consA (litE (.int 1)) (nilA))))) (consA (tupE (consA (litE (.str "R")) (consA (litE (.int 1)) (nilA)))) (consA (tupE (consA (litE (.str "W")) (consA (litE (.int 1)) (nilA)))) (consA (tupE (consA (litE (.str "vis")) (consA (litE (.int 1)) (consA (litE (.int 2)) (nilA))))) (consA (tupE (consA (litE (.str "R")) (consA (litE (.int 2)) (nilA)))) (nilA)))))))) (consA (tupE (consA (litE (.str "vis")) (consA (litE (.int 0)) (consA (litE (.int 2)) (nilA))))) (nilA))))) (consA (tupE (consA (litE (.str "queue")) (consA (lstE (consA (tupE (consA (litE (.str "W")) (consA (litE (.int 0)) (nilA)))) (consA (tupE (consA (litE (.str "so")) (consA (litE (.int 0)) (consA (litE (.int 1)) (nilA))))) (consA (tupE (consA (litE (.str "W")) (consA (litE (.int 1)) (nilA)))) (consA (tupE (consA (litE (.str "vis")) (consA (litE (.int 1)) (consA (litE (.int 2)) (nilA))))) (nilA)))))) (consA (tupE (consA (litE (.str "vis")) (consA (litE (.int 0)) (consA (litE (.int 2)) (nilA))))) (nilA))))) (consA (tupE (consA (litE (.str "carry")) (consA (lstE (consA (tupE (consA (litE (.str "W")) (consA (litE (.int 0)) (nilA)))) (consA (tupE (consA (litE (.str "vis")) (consA (litE (.int 0)) (consA (litE (.int 1)) (nilA))))) (consA (tupE (consA (litE (.str "R")) (consA (litE (.int 1)) (nilA)))) (consA (tupE (consA (litE (.str "so")) (consA (litE (.int 1)) (consA (litE (.int 2)) (nilA))))) (consA (tupE (consA (litE (.str "W")) (consA (litE (.int 2)) (nilA)))) (consA (tupE (consA (litE (.str "vis")) (consA (litE (.int 2)) (consA (litE (.int 3)) (nilA))))) (nilA)))))))) (consA (tupE (consA (litE (.str "vis")) (consA (litE (.int 0)) (consA (litE (.int 3)) (nilA))))) (nilA))))) (consA (tupE (consA (litE (.str "link")) (consA (lstE (consA (tupE (consA (litE (.str "W")) (consA (litE (.int 0)) (nilA)))) (consA (tupE (consA (litE (.str "vis")) (consA (litE (.int 0)) (consA (litE (.int 1)) (nilA))))) (consA (tupE (consA (litE (.str "W")) (consA (litE (.int 1)) (nilA)))) (consA (tupE (consA (litE (.str "vis")) (consA (litE (.int 1)) (consA (litE (.int 2)) (nilA))))) (nilA)))))) (consA (tupE (consA (litE (.str "vis")) (consA (litE (.int 0)) (consA (litE (.int 2)) (nilA))))) (nilA))))) (consA (tupE (consA (litE (.str "clock")) (consA (lstE (consA (tupE (consA (litE (.str "vis")) (consA (litE (.int 0)) (consA (litE (.int 1)) (nilA))))) (nilA))) (consA (tupE (consA (litE (.str "ar")) (consA (litE (.int 0)) (consA (litE (.int 1)) (nilA))))) (nilA))))) (consA (tupE (consA (litE (.str "steady")) (consA (lstE (consA (tupE (consA (litE (.str "so")) (consA (litE (.int 0)) (consA (litE (.int 1)) (nilA))))) (nilA))) (consA (tupE (consA (litE (.str "ar")) (consA (litE (.int 0)) (consA (litE (.int 1)) (nilA))))) (nilA))))) (consA (tupE (consA (litE (.str "prefix")) (consA (lstE (consA (tupE (consA (litE (.str "ar")) (consA (litE (.int 0)) (consA (litE (.int 1)) (nilA))))) (consA (tupE (consA (litE (.str "vis")) (consA (litE (.int 1)) (consA (litE (.int 2)) (nilA))))) (nilA)))) (consA (tupE (consA (litE (.str "vis")) (consA (litE (.int 0)) (consA (litE (.int 2)) (nilA))))) (nilA))))) (consA (tupE (consA (litE (.str "real")) (consA (lstE (consA (tupE (consA (litE (.str "bf")) (consA (litE (.int 0)) (consA (litE (.int 1)) (nilA))))) (nilA))) (consA (tupE (consA (litE (.str "ar")) (consA (litE (.int 0)) (consA (litE (.int 1)) (nilA))))) (nilA))))) (consA (tupE (consA (litE (.str "serial")) (consA (lstE (consA (tupE (consA (litE (.str "ar")) (consA (litE (.int 0)) (consA (litE (.int 1)) (nilA))))) (nilA))) (consA (tupE (consA (litE (.str "vis")) (consA (litE (.int 0)) (consA (litE (.int 1)) (nilA))))) (nilA))))) (consA (tupE (consA (litE (.str "writes")) (consA (lstE (consA (tupE (consA (litE (.str "vis")) (consA (litE (.int 0)) (consA (litE (.int 1)) (nilA))))) (nilA))) (consA (tupE (consA (litE (.str "W")) (consA (litE (.int 0)) (nilA)))) (nilA))))) (consA (tupE (consA (litE (.str "history")) (consA (lstE (consA (tupE (consA (litE (.str "vis")) (consA (litE (.int 0)) (consA (litE (.int 1)) (nilA))))) (consA (tupE (consA (litE (.str "vis")) (consA (litE (.int 1)) (consA (litE (.int 2)) (nilA))))) (nilA)))) (consA (tupE (consA (litE (.str "vis")) (consA (litE (.int 0)) (consA (litE (.int 2)) (nilA))))) (nilA))))) (consA (tupE (consA (litE (.str "session")) (consA (lstE (consA (tupE (consA (litE (.str "so")) (consA (litE (.int 0)) (consA (litE (.int 1)) (nilA))))) (nilA))) (consA (tupE (consA (litE (.str "vis")) (consA (litE (.int 0)) (consA (litE (.int 1)) (nilA))))) (nilA))))) (consA (tupE (consA (litE (.str "ownitem")) (consA (lstE (consA (tupE (consA (litE (.str "W")) (consA (litE (.int 0)) (nilA)))) (consA (tupE (consA (litE (.str "so")) (consA (litE (.int 0)) (consA (litE (.int 1)) (nilA))))) (consA (tupE (consA (litE (.str "si")) (consA (litE (.int 0)) (consA (litE (.int 1)) (nilA))))) (consA (tupE (consA (litE (.str "R")) (consA (litE (.int 1)) (nilA)))) (nilA)))))) (consA (tupE (consA (litE (.str "vis")) (consA (litE (.int 0)) (consA (litE (.int 1)) (nilA))))) (nilA))))) (consA (tupE (consA (litE (.str "itemorder")) (consA (lstE (consA (tupE (consA (litE (.str "so")) (consA (litE (.int 0)) (consA (litE (.int 1)) (nilA))))) (consA (tupE (consA (litE (.str "si")) (consA (litE (.int 0)) (consA (litE (.int 1)) (nilA))))) (nilA)))) (consA (tupE (consA (litE (.str "ar")) (consA (litE (.int 0)) (consA (litE (.int 1)) (nilA))))) (nilA))))) (nilA))))))))))))))))))))
noncomputable def m__law_known : List D → M D := runD 0 0 b__law_known
theorem d__law_known (t : TT K mg A) : FnD P w K mg base (ceOf A) 1 A.a__law_known A.f__law_known [] m__law_known :=
  fn_d t.F__law_known sc__law_known fun cdv A0 outer s H E hr tk po => have hu := huD hr; have hv := huE hr; sd_one (sd_ret (pd_lst (pda_cons (pd_tup (pda_cons (pd_str) (pda_cons (pd_lst (pda_cons (pd_tup (pda_cons (pd_str) (pda_cons (pd_int) (pda_nil)))) (pda_cons (pd_tup (pda_cons (pd_str) (pda_cons (pd_int) (pda_cons (pd_int) (pda_nil))))) (pda_cons (pd_tup (pda_cons (pd_str) (pda_cons (pd_int) (pda_nil)))) (pda_nil))))) (pda_cons (pd_tup (pda_cons (pd_str) (pda_cons (pd_int) (pda_cons (pd_int) (pda_nil))))) (pda_nil))))) (pda_cons (pd_tup (pda_cons (pd_str) (pda_cons (pd_lst (pda_cons (pd_tup (pda_cons (pd_str) (pda_cons (pd_int) (pda_nil)))) (pda_cons (pd_tup (pda_cons (pd_str) (pda_cons (pd_int) (pda_cons (pd_int) (pda_nil))))) (pda_cons (pd_tup (pda_cons (pd_str) (pda_cons (pd_int) (pda_nil)))) (pda_cons (pd_tup (pda_cons (pd_str) (pda_cons (pd_int) (pda_cons (pd_int) (pda_nil))))) (pda_cons (pd_tup (pda_cons (pd_str) (pda_cons (pd_int) (pda_nil)))) (pda_nil))))))) (pda_cons (pd_tup (pda_cons (pd_str) (pda_cons (pd_int) (pda_cons (pd_int) (pda_nil))))) (pda_nil))))) (pda_cons (pd_tup (pda_cons (pd_str) (pda_cons (pd_lst (pda_cons (pd_tup (pda_cons (pd_str) (pda_cons (pd_int) (pda_nil)))) (pda_cons (pd_tup (pda_cons (pd_str) (pda_cons (pd_int) (pda_cons (pd_int) (pda_nil))))) (pda_cons (pd_tup (pda_cons (pd_str) (pda_cons (pd_int) (pda_nil)))) (pda_cons (pd_tup (pda_cons (pd_str) (pda_cons (pd_int) (pda_cons (pd_int) (pda_nil))))) (pda_cons (pd_tup (pda_cons (pd_str) (pda_cons (pd_int) (pda_nil)))) (pda_nil))))))) (pda_cons (pd_tup (pda_cons (pd_str) (pda_cons (pd_int) (pda_cons (pd_int) (pda_nil))))) (pda_nil))))) (pda_cons (pd_tup (pda_cons (pd_str) (pda_cons (pd_lst (pda_cons (pd_tup (pda_cons (pd_str) (pda_cons (pd_int) (pda_nil)))) (pda_cons (pd_tup (pda_cons (pd_str) (pda_cons (pd_int) (pda_cons (pd_int) (pda_nil))))) (pda_cons (pd_tup (pda_cons (pd_str) (pda_cons (pd_int) (pda_nil)))) (pda_cons (pd_tup (pda_cons (pd_str) (pda_cons (pd_int) (pda_cons (pd_int) (pda_nil))))) (pda_cons (pd_tup (pda_cons (pd_str) (pda_cons (pd_int) (pda_nil)))) (pda_cons (pd_tup (pda_cons (pd_str) (pda_cons (pd_int) (pda_cons (pd_int) (pda_nil))))) (pda_cons (pd_tup (pda_cons (pd_str) (pda_cons (pd_int) (pda_nil)))) (pda_nil))))))))) (pda_cons (pd_tup (pda_cons (pd_str) (pda_cons (pd_int) (pda_cons (pd_int) (pda_nil))))) (pda_nil))))) (pda_cons (pd_tup (pda_cons (pd_str) (pda_cons (pd_lst (pda_cons (pd_tup (pda_cons (pd_str) (pda_cons (pd_int) (pda_nil)))) (pda_cons (pd_tup (pda_cons (pd_str) (pda_cons (pd_int) (pda_cons (pd_int) (pda_nil))))) (pda_cons (pd_tup (pda_cons (pd_str) (pda_cons (pd_int) (pda_nil)))) (pda_cons (pd_tup (pda_cons (pd_str) (pda_cons (pd_int) (pda_nil)))) (pda_cons (pd_tup (pda_cons (pd_str) (pda_cons (pd_int) (pda_cons (pd_int) (pda_nil))))) (pda_cons (pd_tup (pda_cons (pd_str) (pda_cons (pd_int) (pda_nil)))) (pda_nil)))))))) (pda_cons (pd_tup (pda_cons (pd_str) (pda_cons (pd_int) (pda_cons (pd_int) (pda_nil))))) (pda_nil))))) (pda_cons (pd_tup (pda_cons (pd_str) (pda_cons (pd_lst (pda_cons (pd_tup (pda_cons (pd_str) (pda_cons (pd_int) (pda_nil)))) (pda_cons (pd_tup (pda_cons (pd_str) (pda_cons (pd_int) (pda_cons (pd_int) (pda_nil))))) (pda_cons (pd_tup (pda_cons (pd_str) (pda_cons (pd_int) (pda_nil)))) (pda_cons (pd_tup (pda_cons (pd_str) (pda_cons (pd_int) (pda_cons (pd_int) (pda_nil))))) (pda_nil)))))) (pda_cons (pd_tup (pda_cons (pd_str) (pda_cons (pd_int) (pda_cons (pd_int) (pda_nil))))) (pda_nil))))) (pda_cons (pd_tup (pda_cons (pd_str) (pda_cons (pd_lst (pda_cons (pd_tup (pda_cons (pd_str) (pda_cons (pd_int) (pda_nil)))) (pda_cons (pd_tup (pda_cons (pd_str) (pda_cons (pd_int) (pda_cons (pd_int) (pda_nil))))) (pda_cons (pd_tup (pda_cons (pd_str) (pda_cons (pd_int) (pda_nil)))) (pda_cons (pd_tup (pda_cons (pd_str) (pda_cons (pd_int) (pda_cons (pd_int) (pda_nil))))) (pda_cons (pd_tup (pda_cons (pd_str) (pda_cons (pd_int) (pda_nil)))) (pda_cons (pd_tup (pda_cons (pd_str) (pda_cons (pd_int) (pda_cons (pd_int) (pda_nil))))) (pda_nil)))))))) (pda_cons (pd_tup (pda_cons (pd_str) (pda_cons (pd_int) (pda_cons (pd_int) (pda_nil))))) (pda_nil))))) (pda_cons (pd_tup (pda_cons (pd_str) (pda_cons (pd_lst (pda_cons (pd_tup (pda_cons (pd_str) (pda_cons (pd_int) (pda_nil)))) (pda_cons (pd_tup (pda_cons (pd_str) (pda_cons (pd_int) (pda_cons (pd_int) (pda_nil))))) (pda_cons (pd_tup (pda_cons (pd_str) (pda_cons (pd_int) (pda_nil)))) (pda_cons (pd_tup (pda_cons (pd_str) (pda_cons (pd_int) (pda_cons (pd_int) (pda_nil))))) (pda_nil)))))) (pda_cons (pd_tup (pda_cons (pd_str) (pda_cons (pd_int) (pda_cons (pd_int) (pda_nil))))) (pda_nil))))) (pda_cons (pd_tup (pda_cons (pd_str) (pda_cons (pd_lst (pda_cons (pd_tup (pda_cons (pd_str) (pda_cons (pd_int) (pda_cons (pd_int) (pda_nil))))) (pda_nil))) (pda_cons (pd_tup (pda_cons (pd_str) (pda_cons (pd_int) (pda_cons (pd_int) (pda_nil))))) (pda_nil))))) (pda_cons (pd_tup (pda_cons (pd_str) (pda_cons (pd_lst (pda_cons (pd_tup (pda_cons (pd_str) (pda_cons (pd_int) (pda_cons (pd_int) (pda_nil))))) (pda_nil))) (pda_cons (pd_tup (pda_cons (pd_str) (pda_cons (pd_int) (pda_cons (pd_int) (pda_nil))))) (pda_nil))))) (pda_cons (pd_tup (pda_cons (pd_str) (pda_cons (pd_lst (pda_cons (pd_tup (pda_cons (pd_str) (pda_cons (pd_int) (pda_cons (pd_int) (pda_nil))))) (pda_cons (pd_tup (pda_cons (pd_str) (pda_cons (pd_int) (pda_cons (pd_int) (pda_nil))))) (pda_nil)))) (pda_cons (pd_tup (pda_cons (pd_str) (pda_cons (pd_int) (pda_cons (pd_int) (pda_nil))))) (pda_nil))))) (pda_cons (pd_tup (pda_cons (pd_str) (pda_cons (pd_lst (pda_cons (pd_tup (pda_cons (pd_str) (pda_cons (pd_int) (pda_cons (pd_int) (pda_nil))))) (pda_nil))) (pda_cons (pd_tup (pda_cons (pd_str) (pda_cons (pd_int) (pda_cons (pd_int) (pda_nil))))) (pda_nil))))) (pda_cons (pd_tup (pda_cons (pd_str) (pda_cons (pd_lst (pda_cons (pd_tup (pda_cons (pd_str) (pda_cons (pd_int) (pda_cons (pd_int) (pda_nil))))) (pda_nil))) (pda_cons (pd_tup (pda_cons (pd_str) (pda_cons (pd_int) (pda_cons (pd_int) (pda_nil))))) (pda_nil))))) (pda_cons (pd_tup (pda_cons (pd_str) (pda_cons (pd_lst (pda_cons (pd_tup (pda_cons (pd_str) (pda_cons (pd_int) (pda_cons (pd_int) (pda_nil))))) (pda_nil))) (pda_cons (pd_tup (pda_cons (pd_str) (pda_cons (pd_int) (pda_nil)))) (pda_nil))))) (pda_cons (pd_tup (pda_cons (pd_str) (pda_cons (pd_lst (pda_cons (pd_tup (pda_cons (pd_str) (pda_cons (pd_int) (pda_cons (pd_int) (pda_nil))))) (pda_cons (pd_tup (pda_cons (pd_str) (pda_cons (pd_int) (pda_cons (pd_int) (pda_nil))))) (pda_nil)))) (pda_cons (pd_tup (pda_cons (pd_str) (pda_cons (pd_int) (pda_cons (pd_int) (pda_nil))))) (pda_nil))))) (pda_cons (pd_tup (pda_cons (pd_str) (pda_cons (pd_lst (pda_cons (pd_tup (pda_cons (pd_str) (pda_cons (pd_int) (pda_cons (pd_int) (pda_nil))))) (pda_nil))) (pda_cons (pd_tup (pda_cons (pd_str) (pda_cons (pd_int) (pda_cons (pd_int) (pda_nil))))) (pda_nil))))) (pda_cons (pd_tup (pda_cons (pd_str) (pda_cons (pd_lst (pda_cons (pd_tup (pda_cons (pd_str) (pda_cons (pd_int) (pda_nil)))) (pda_cons (pd_tup (pda_cons (pd_str) (pda_cons (pd_int) (pda_cons (pd_int) (pda_nil))))) (pda_cons (pd_tup (pda_cons (pd_str) (pda_cons (pd_int) (pda_cons (pd_int) (pda_nil))))) (pda_cons (pd_tup (pda_cons (pd_str) (pda_cons (pd_int) (pda_nil)))) (pda_nil)))))) (pda_cons (pd_tup (pda_cons (pd_str) (pda_cons (pd_int) (pda_cons (pd_int) (pda_nil))))) (pda_nil))))) (pda_cons (pd_tup (pda_cons (pd_str) (pda_cons (pd_lst (pda_cons (pd_tup (pda_cons (pd_str) (pda_cons (pd_int) (pda_cons (pd_int) (pda_nil))))) (pda_cons (pd_tup (pda_cons (pd_str) (pda_cons (pd_int) (pda_cons (pd_int) (pda_nil))))) (pda_nil)))) (pda_cons (pd_tup (pda_cons (pd_str) (pda_cons (pd_int) (pda_cons (pd_int) (pda_nil))))) (pda_nil))))) (pda_nil)))))))))))))))))))))
theorem f__law_known (t : TT K mg A) : FnP P w K mg base (ceOf A) 1 A.a__law_known m__law_known := (d__law_known t).pos0 (t.F__law_known.binds fun _ _ _ _ _ _ us hl => match us, hl with | [], _ => rfl)
noncomputable def lb__law_size_2 : SM := ifS (boolE (bin geP (varE 3) (varE 1))) (setS 1 (bin addP (varE 3) (litE (.int 1)))) (nilS)
noncomputable def lp__law_size_2 : List D → Ev' → Cells → Res := forL (tgN 3) (endW [3] (lb__law_size_2))
noncomputable def lb__law_size_1 : SM := forX [3] (itE (callB listG (consA (slE (varE 2) (someO (litE (.int 1))) (noO)) (nilA)))) (lp__law_size_2)
noncomputable def lp__law_size_1 : List D → Ev' → Cells → Res := forL (tgN 2) (endW [2, 3] (lb__law_size_1))
theorem sc__law_size : FnScope ["body", "size", "atom", "place"] ["body"] (defScope s__law_size) := ⟨rfl, rfl, rfl, by decide +kernel, rfl, by decide +kernel, by decide +kernel⟩
noncomputable def b__law_size : SM := seqS (setS 1 (litE (.int 0))) (seqS (forX [2, 3] (itE (varE 0)) (lp__law_size_1)) (retS (varE 1)))
noncomputable def m__law_size : List D → M D := runD 4 1 b__law_size
theorem d__law_size (t : TT K mg A) : FnD P w K mg base (ceOf A) 1 A.a__law_size A.f__law_size ["body"] m__law_size :=
  fn_d t.F__law_size sc__law_size fun cdv A0 outer s H E hr tk po => have hu := huD hr; have hv := huE hr; sd_cons (sd_set 1 sc__law_size.nd rfl (by first | exact Or.inl rfl | exact Or.inr rfl) (pd_int)) (sd_cons (sd_forW (js := [2, 3]) po rfl (pid_seq (pd_var 0 (pv 0))) (pgd_name (js := [2]) 2 sc__law_size.nd rfl (by first | exact Or.inl rfl | exact Or.inr rfl)) (sd_one (sd_forW (js := [3]) po rfl (pid_seq (pd_callTy (cd_listG rfl) (by rfl) t.n_list (by decide +kernel) (pda_cons (pd_slice (pd_var 2 (pv 2)) (pdo_some (pd_int)) (pdo_none)) (pda_nil)))) (pgd_name (js := [3]) 3 sc__law_size.nd rfl (by first | exact Or.inl rfl | exact Or.inr rfl)) (sd_one (sd_if (pt_cmp (od_ge hu) (pd_var 3 (pv 3)) (pd_var 1 (pv 1)) (by rfl)) (sd_one (sd_set 1 sc__law_size.nd rfl (by first | exact Or.inl rfl | exact Or.inr rfl) (pd_bin od_add (pd_var 3 (pv 3)) (pd_int)))) (sd_nil)))))) (sd_one (sd_ret (pd_var 1 (pv 1)))))
theorem f__law_size (t : TT K mg A) : FnP P w K mg base (ceOf A) 1 A.a__law_size m__law_size := (d__law_size t).pos0 (t.F__law_size.binds fun _ _ _ _ _ _ us hl => match us, hl with | [_], _ => rfl)
noncomputable def lb__law_shape_1 : SM := ifS (notT (tstE (callM m__law_occurs (consA (varE 4) (consA (varE 5) (nilA)))))) (appC (varE 4) (tupE (consA (bin ixP (lstE (consA (litE (.str "W")) (consA (litE (.str "R")) (nilA)))) (callM m__law_draw (consA (varE 0) (consA (litE (.int 2)) (nilA))))) (consA (varE 5) (nilA))))) (nilS)
noncomputable def lp__law_shape_1 : List D → Ev' → Cells → Res := forL (tgN 5) (endW [5] (lb__law_shape_1))
theorem sc__law_shape : FnScope ["draws", "most", "mode", "size", "body", "place", "near", "row", "k"] ["draws", "most"] (defScope s__law_shape) := ⟨rfl, rfl, rfl, by decide +kernel, rfl, by decide +kernel, by decide +kernel⟩
noncomputable def b__law_shape : SM := seqS (setS 2 (callM m__law_draw (consA (varE 0) (consA (litE (.int 4)) (nilA))))) (seqS (ifS (boolE (bin eqP (varE 2) (litE (.int 0)))) (seqS (setS 6 (lcE (itE (callM m__law_known nilA)) [7] (tgN 7) (boolE (bin leP (callM m__law_size (consA (bin ixP (varE 7) (litE (.int 1))) (nilA))) (varE 1))) (varE 7))) (seqS (setS 7 (bin ixP (varE 6) (callM m__law_draw (consA (varE 0) (consA (callB lenP (consA (varE 6) (nilA))) (nilA)))))) (retS (tupE (consA (bin ixP (varE 7) (litE (.int 1))) (consA (bin ixP (varE 7) (litE (.int 2))) (nilA))))))) (nilS)) (seqS (ifS (boolE (bin eqP (varE 2) (litE (.int 1)))) (retS (callM m__law_way (consA (varE 0) (consA (varE 1) (nilA))))) (nilS)) (seqS (setS 3 (bin addP (litE (.int 1)) (callM m__law_draw (consA (varE 0) (consA (varE 1) (nilA)))))) (seqS (setS 4 (ceE (lcA (itR rng1 (consA (bin addP (litE (.int 1)) (callM m__law_draw (consA (varE 0) (consA (litE (.int 4)) (nilA))))) nilA)) [8] (tgN 8) (yesT) (callM m__law_atom (consA (varE 0) (consA (varE 3) (nilA))))))) (seqS (forX [5] (itR rng1 (consA (varE 3) nilA)) (lp__law_shape_1)) (seqS (ifS (boolE (bin eqP (callM m__law_draw (consA (varE 0) (consA (litE (.int 10)) (nilA)))) (litE (.int 1)))) (retS (tupE (consA (varE 4) (consA (tupE (consA (litE (.str "never")) (nilA))) (nilA))))) (nilS)) (retS (tupE (consA (varE 4) (consA (callM m__law_atom (consA (varE 0) (consA (varE 3) (nilA)))) (nilA)))))))))))
noncomputable def m__law_shape : List D → M D := runD 9 2 b__law_shape
theorem d__law_shape (t : TT K mg A) : FnD P w K mg base (ceOf A) 3 A.a__law_shape A.f__law_shape ["draws", "most"] m__law_shape :=
  fn_d t.F__law_shape sc__law_shape fun cdv A0 outer s H E hr tk po => have hu := huD hr; have hv := huE hr; sd_cons (sd_set 2 sc__law_shape.nd rfl (by first | exact Or.inl rfl | exact Or.inr rfl) (pd_call (f__law_draw t) (hr.mono (by decide)) (by rfl) t.g__law_draw t.F__law_draw.kp (passW tk) (pda_cons (pd_var 0 (pv 0)) (pda_cons (pd_int) (pda_nil))))) (sd_cons (sd_if (pt_cmp (od_eq hu) (pd_var 2 (pv 2)) (pd_int) (by rfl)) (sd_cons (sd_setLc (i := 6) (own := [("row", 7)]) rfl sc__law_shape.nd rfl (by rfl) (by rfl) (pid_seq (pd_call0 (f__law_known t) (hr.mono (by decide)) (by rfl) t.g__law_known t.F__law_known.kp (passW tk))) (blkT (by rfl)) (fun _ _ _ _ _ => pgd_name (js := [7]) 7 sc__law_shape.nd rfl (by first | exact Or.inl rfl | exact Or.inr rfl)) (fun _ _ _ _ _ => pdts_one (pt_cmp (od_le hu) (pd_call (f__law_size t) (hr.mono (by decide)) (by rfl) t.g__law_size t.F__law_size.kp passW0 (pda_cons (pd_ix (pd_var 7 (pv 7)) (pd_int)) (pda_nil))) (pd_var 1 (pv 1)) (by rfl))) (fun _ _ _ _ _ => pd_var 7 (pv 7))) (sd_cons (sd_set 7 sc__law_shape.nd rfl (by first | exact Or.inl rfl | exact Or.inr rfl) (pd_ix (pd_var 6 (pv 6)) (pd_call (f__law_draw t) (hr.mono (by decide)) (by rfl) t.g__law_draw t.F__law_draw.kp (passW tk) (pda_cons (pd_var 0 (pv 0)) (pda_cons (pd_callB cd_len (by rfl) t.n_len (by decide +kernel) (pda_cons (pd_var 6 (pv 6)) (pda_nil))) (pda_nil)))))) (sd_one (sd_ret (pd_tup (pda_cons (pd_ix (pd_var 7 (pv 7)) (pd_int)) (pda_cons (pd_ix (pd_var 7 (pv 7)) (pd_int)) (pda_nil)))))))) (sd_nil)) (sd_cons (sd_if (pt_cmp (od_eq hu) (pd_var 2 (pv 2)) (pd_int) (by rfl)) (sd_one (sd_ret (pd_call (f__law_way t) (hr.mono (by decide)) (by rfl) t.g__law_way t.F__law_way.kp (passW tk) (pda_cons (pd_var 0 (pv 0)) (pda_cons (pd_var 1 (pv 1)) (pda_nil)))))) (sd_nil)) (sd_cons (sd_set 3 sc__law_shape.nd rfl (by first | exact Or.inl rfl | exact Or.inr rfl) (pd_bin od_add (pd_int) (pd_call (f__law_draw t) (hr.mono (by decide)) (by rfl) t.g__law_draw t.F__law_draw.kp (passW tk) (pda_cons (pd_var 0 (pv 0)) (pda_cons (pd_var 1 (pv 1)) (pda_nil)))))) (sd_cons (sd_setLcC (i := 4) (own := [("k", 8)]) rfl sc__law_shape.nd rfl (by rfl) (by rfl) (pid_range1 (by rfl) t.n_range (pda_cons (pd_bin od_add (pd_int) (pd_call (f__law_draw t) (hr.mono (by decide)) (by rfl) t.g__law_draw t.F__law_draw.kp (passW tk) (pda_cons (pd_var 0 (pv 0)) (pda_cons (pd_int) (pda_nil))))) pda_nil)) (blkT (by rfl)) (fun _ _ _ _ _ => pgd_name (js := [8]) 8 sc__law_shape.nd rfl (by first | exact Or.inl rfl | exact Or.inr rfl)) (fun _ _ _ _ _ => pdts_nil) (fun _ _ _ _ _ => pd_call (f__law_atom t) (hr.mono (by decide)) (by rfl) t.g__law_atom t.F__law_atom.kp passW0 (pda_cons (pd_var 0 (pv 0)) (pda_cons (pd_var 3 (pv 3)) (pda_nil))))) (sd_cons (sd_forW (js := [5]) po rfl (pid_range1 (by rfl) t.n_range (pda_cons (pd_var 3 (pv 3)) pda_nil)) (pgd_name (js := [5]) 5 sc__law_shape.nd rfl (by first | exact Or.inl rfl | exact Or.inr rfl)) (sd_one (sd_if (pdt_not (pt_tru (pd_call (f__law_occurs t) (hr.mono (by decide)) (by rfl) t.g__law_occurs t.F__law_occurs.kp (passW tk) (pda_cons (pd_var 4 (pv 4)) (pda_cons (pd_var 5 (pv 5)) (pda_nil)))))) (sd_one (sd_appC (pd_var 4 (pv 4)) (pd_tup (pda_cons (pd_ix (pd_lst (pda_cons (pd_str) (pda_cons (pd_str) (pda_nil)))) (pd_call (f__law_draw t) (hr.mono (by decide)) (by rfl) t.g__law_draw t.F__law_draw.kp (passW tk) (pda_cons (pd_var 0 (pv 0)) (pda_cons (pd_int) (pda_nil))))) (pda_cons (pd_var 5 (pv 5)) (pda_nil)))) (pe_bm PySem.F.plainAttrs_list PySem.F.slot_list_append PySem.F.type_list_append mt_append (pd_var 4 (pv 4)) (pa_cons (pd_tup (pda_cons (pd_ix (pd_lst (pda_cons (pd_str) (pda_cons (pd_str) (pda_nil)))) (pd_call (f__law_draw t) (hr.mono (by decide)) (by rfl) t.g__law_draw t.F__law_draw.kp (passW tk) (pda_cons (pd_var 0 (pv 0)) (pda_cons (pd_int) (pda_nil))))) (pda_cons (pd_var 5 (pv 5)) (pda_nil)))) pa_nil)))) (sd_nil)))) (sd_cons (sd_if (pt_cmp (od_eq hu) (pd_call (f__law_draw t) (hr.mono (by decide)) (by rfl) t.g__law_draw t.F__law_draw.kp (passW tk) (pda_cons (pd_var 0 (pv 0)) (pda_cons (pd_int) (pda_nil)))) (pd_int) (by rfl)) (sd_one (sd_ret (pd_tup (pda_cons (pd_var 4 (pv 4)) (pda_cons (pd_tup (pda_cons (pd_str) (pda_nil))) (pda_nil)))))) (sd_nil)) (sd_one (sd_ret (pd_tup (pda_cons (pd_var 4 (pv 4)) (pda_cons (pd_call (f__law_atom t) (hr.mono (by decide)) (by rfl) t.g__law_atom t.F__law_atom.kp (passW tk) (pda_cons (pd_var 0 (pv 0)) (pda_cons (pd_var 3 (pv 3)) (pda_nil)))) (pda_nil))))))))))))
theorem f__law_shape (t : TT K mg A) : FnP P w K mg base (ceOf A) 3 A.a__law_shape m__law_shape := (d__law_shape t).pos0 (t.F__law_shape.binds fun _ _ _ _ _ _ us hl => match us, hl with | [_, _], _ => rfl)
noncomputable def lb__law_word_1 : SM := setS 3 (bin addP (varE 3) (bin ixP (varE 2) (callM m__law_draw (consA (varE 0) (consA (litE (.int 26)) (nilA))))))
noncomputable def lp__law_word_1 : List D → Ev' → Cells → Res := forL (tgN 4) (endW [4] (lb__law_word_1))
theorem sc__law_word : FnScope ["draws", "most", "letters", "word", "k"] ["draws", "most"] (defScope s__law_word) := ⟨rfl, rfl, rfl, by decide +kernel, rfl, by decide +kernel, by decide +kernel⟩
noncomputable def b__law_word : SM := seqS (setS 2 (litE (.str "abcdefghijklmnopqrstuvwxyz"))) (seqS (setS 3 (litE (.str ""))) (seqS (forX [4] (itR rng1 (consA (bin addP (litE (.int 1)) (callM m__law_draw (consA (varE 0) (consA (varE 1) (nilA))))) nilA)) (lp__law_word_1)) (retS (varE 3))))
noncomputable def m__law_word : List D → M D := runD 5 2 b__law_word
theorem d__law_word (t : TT K mg A) : FnD P w K mg base (ceOf A) 2 A.a__law_word A.f__law_word ["draws", "most"] m__law_word :=
  fn_d t.F__law_word sc__law_word fun cdv A0 outer s H E hr tk po => have hu := huD hr; have hv := huE hr; sd_cons (sd_set 2 sc__law_word.nd rfl (by first | exact Or.inl rfl | exact Or.inr rfl) (pd_str)) (sd_cons (sd_set 3 sc__law_word.nd rfl (by first | exact Or.inl rfl | exact Or.inr rfl) (pd_str)) (sd_cons (sd_forW (js := [4]) po rfl (pid_range1 (by rfl) t.n_range (pda_cons (pd_bin od_add (pd_int) (pd_call (f__law_draw t) (hr.mono (by decide)) (by rfl) t.g__law_draw t.F__law_draw.kp (passW tk) (pda_cons (pd_var 0 (pv 0)) (pda_cons (pd_var 1 (pv 1)) (pda_nil))))) pda_nil)) (pgd_name (js := [4]) 4 sc__law_word.nd rfl (by first | exact Or.inl rfl | exact Or.inr rfl)) (sd_one (sd_set 3 sc__law_word.nd rfl (by first | exact Or.inl rfl | exact Or.inr rfl) (pd_bin od_add (pd_var 3 (pv 3)) (pd_ix (pd_var 2 (pv 2)) (pd_call (f__law_draw t) (hr.mono (by decide)) (by rfl) t.g__law_draw t.F__law_draw.kp (passW tk) (pda_cons (pd_var 0 (pv 0)) (pda_cons (pd_int) (pda_nil))))))))) (sd_one (sd_ret (pd_var 3 (pv 3))))))
theorem f__law_word (t : TT K mg A) : FnP P w K mg base (ceOf A) 2 A.a__law_word m__law_word := (d__law_word t).pos0 (t.F__law_word.binds fun _ _ _ _ _ _ us hl => match us, hl with | [_, _], _ => rfl)
noncomputable def lb__law_names_1 : SM := seqS (setS 9 (bin ixP (varE 2) (bin modP (callB intF (consA (bin addP (varE 5) (bin mulP (litE (.int 5)) (varE 8))) (nilA))) (litE (.int 26))))) (ifS (boolE (bin eqP (varE 6) (litE (.int 0)))) (appO 7 (bin addP (bin addP (slE (varE 3) (noO) (someO (varE 4))) (varE 9)) (slE (varE 3) (someO (bin addP (varE 4) (litE (.int 1)))) (noO)))) (appO 7 (bin mulG (varE 9) (bin addP (litE (.int 1)) (bin modP (callB intF (consA (bin addP (varE 5) (bin mulP (litE (.int 7)) (varE 8))) (nilA))) (litE (.int 12)))))))
noncomputable def lp__law_names_1 : List D → Ev' → Cells → Res := forL (tgN 8) (endW [8, 9] (lb__law_names_1))
theorem sc__law_names : FnScope ["draws", "count", "letters", "word", "at", "shift", "mode", "names", "k", "letter"] ["draws", "count"] (defScope s__law_names) := ⟨rfl, rfl, rfl, by decide +kernel, rfl, by decide +kernel, by decide +kernel⟩
noncomputable def b__law_names : SM := seqS (setS 2 (litE (.str "abcdefghijklmnopqrstuvwxyz"))) (seqS (setS 3 (callM m__law_word (consA (varE 0) (consA (litE (.int 12)) (nilA))))) (seqS (setS 4 (callM m__law_draw (consA (varE 0) (consA (callB lenP (consA (varE 3) (nilA))) (nilA))))) (seqS (setS 5 (callM m__law_draw (consA (varE 0) (consA (litE (.int 26)) (nilA))))) (seqS (setS 6 (callM m__law_draw (consA (varE 0) (consA (litE (.int 2)) (nilA))))) (seqS (ownS 7 (szA (nilA))) (seqS (forX [8, 9] (itR rng1 (consA (varE 1) nilA)) (lp__law_names_1)) (coldS 7 (retS (varE 7)))))))))
noncomputable def m__law_names : List D → M D := runD 10 2 b__law_names
theorem d__law_names (t : TT K mg A) : FnD P w K mg base (ceOf A) 3 A.a__law_names A.f__law_names ["draws", "count"] m__law_names :=
  fn_d t.F__law_names sc__law_names fun cdv A0 outer s H E hr tk po => have hu := huD hr; have hv := huE hr; sd_cons (sd_set 2 sc__law_names.nd rfl (by first | exact Or.inl rfl | exact Or.inr rfl) (pd_str)) (sd_cons (sd_set 3 sc__law_names.nd rfl (by first | exact Or.inl rfl | exact Or.inr rfl) (pd_call (f__law_word t) (hr.mono (by decide)) (by rfl) t.g__law_word t.F__law_word.kp (passW tk) (pda_cons (pd_var 0 (pv 0)) (pda_cons (pd_int) (pda_nil))))) (sd_cons (sd_set 4 sc__law_names.nd rfl (by first | exact Or.inl rfl | exact Or.inr rfl) (pd_call (f__law_draw t) (hr.mono (by decide)) (by rfl) t.g__law_draw t.F__law_draw.kp (passW tk) (pda_cons (pd_var 0 (pv 0)) (pda_cons (pd_callB cd_len (by rfl) t.n_len (by decide +kernel) (pda_cons (pd_var 3 (pv 3)) (pda_nil))) (pda_nil))))) (sd_cons (sd_set 5 sc__law_names.nd rfl (by first | exact Or.inl rfl | exact Or.inr rfl) (pd_call (f__law_draw t) (hr.mono (by decide)) (by rfl) t.g__law_draw t.F__law_draw.kp (passW tk) (pda_cons (pd_var 0 (pv 0)) (pda_cons (pd_int) (pda_nil))))) (sd_cons (sd_set 6 sc__law_names.nd rfl (by first | exact Or.inl rfl | exact Or.inr rfl) (pd_call (f__law_draw t) (hr.mono (by decide)) (by rfl) t.g__law_draw t.F__law_draw.kp (passW tk) (pda_cons (pd_var 0 (pv 0)) (pda_cons (pd_int) (pda_nil))))) (sd_cons (sd_own 7 sc__law_names.nd rfl (by first | exact Or.inl rfl | exact Or.inr rfl) (po_lst (pda_nil))) (sd_cons (sd_forW (js := [8, 9]) po rfl (pid_range1 (by rfl) t.n_range (pda_cons (pd_var 1 (pv 1)) pda_nil)) (pgd_name (js := [8]) 8 sc__law_names.nd rfl (by first | exact Or.inl rfl | exact Or.inr rfl)) (sd_cons (sd_set 9 sc__law_names.nd rfl (by first | exact Or.inl rfl | exact Or.inr rfl) (pd_ix (pd_var 2 (pv 2)) (pd_bin od_mod (pd_callTy cd_int (by rfl) t.n_int (by decide +kernel) (pda_cons (pd_bin od_add (pd_var 5 (pv 5)) (pd_bin od_mul (pd_int) (pd_var 8 (pv 8)))) (pda_nil))) (pd_int)))) (sd_one (sd_if (pt_cmp (od_eq hu) (pd_var 6 (pv 6)) (pd_int) (by rfl)) (sd_one (sd_appO 7 (pv 7) (pd_bin od_add (pd_bin od_add (pd_slice (pd_var 3 (pv 3)) (pdo_none) (pdo_some (pd_var 4 (pv 4)))) (pd_var 9 (pv 9))) (pd_slice (pd_var 3 (pv 3)) (pdo_some (pd_bin od_add (pd_var 4 (pv 4)) (pd_int))) (pdo_none))) (pe_bm PySem.F.plainAttrs_list PySem.F.slot_list_append PySem.F.type_list_append mt_append (pv 7) (pa_cons (pd_bin od_add (pd_bin od_add (pd_slice (pd_var 3 (pv 3)) (pdo_none) (pdo_some (pd_var 4 (pv 4)))) (pd_var 9 (pv 9))) (pd_slice (pd_var 3 (pv 3)) (pdo_some (pd_bin od_add (pd_var 4 (pv 4)) (pd_int))) (pdo_none))) pa_nil)))) (sd_one (sd_appO 7 (pv 7) (pd_bin od_mulG (pd_var 9 (pv 9)) (pd_bin od_add (pd_int) (pd_bin od_mod (pd_callTy cd_int (by rfl) t.n_int (by decide +kernel) (pda_cons (pd_bin od_add (pd_var 5 (pv 5)) (pd_bin od_mul (pd_int) (pd_var 8 (pv 8)))) (pda_nil))) (pd_int)))) (pe_bm PySem.F.plainAttrs_list PySem.F.slot_list_append PySem.F.type_list_append mt_append (pv 7) (pa_cons (pd_bin od_mulG (pd_var 9 (pv 9)) (pd_bin od_add (pd_int) (pd_bin od_mod (pd_callTy cd_int (by rfl) t.n_int (by decide +kernel) (pda_cons (pd_bin od_add (pd_var 5 (pv 5)) (pd_bin od_mul (pd_int) (pd_var 8 (pv 8)))) (pda_nil))) (pd_int)))) pa_nil)))))))) (sd_cold 7 (sd_one (sd_ret (pd_var 7 (pv 7)))))))))))
theorem f__law_names (t : TT K mg A) : FnP P w K mg base (ceOf A) 3 A.a__law_names m__law_names := (d__law_names t).pos0 (t.F__law_names.binds fun _ _ _ _ _ _ us hl => match us, hl with | [_, _], _ => rfl)
theorem sc__law_full : FnScope ["top", "place"] ["top"] (defScope s__law_full) := ⟨rfl, rfl, rfl, by decide +kernel, rfl, by decide +kernel, by decide +kernel⟩
noncomputable def b__law_full : SM := retS (lcE (itR rng1 (consA (bin addP (varE 0) (litE (.int 1))) nilA)) [1] (tgN 1) (yesT) (tupE (consA (litE (.str "W")) (consA (varE 1) (nilA)))))
noncomputable def m__law_full : List D → M D := runD 2 1 b__law_full
theorem d__law_full (t : TT K mg A) : FnD P w K mg base (ceOf A) 1 A.a__law_full A.f__law_full ["top"] m__law_full :=
  fn_d t.F__law_full sc__law_full fun cdv A0 outer s H E hr tk po => have hu := huD hr; have hv := huE hr; sd_one (sd_ret (pd_lc (own := [("place", 1)]) rfl sc__law_full.nd (pid_range1 (by rfl) t.n_range (pda_cons (pd_bin od_add (pd_var 0 (pv 0)) (pd_int)) pda_nil)) (blkT (by rfl)) (fun _ _ _ _ _ => pgd_name (js := [1]) 1 sc__law_full.nd rfl (by first | exact Or.inl rfl | exact Or.inr rfl)) (fun _ _ _ _ _ => pdts_nil) (fun _ _ _ _ _ => pd_tup (pda_cons (pd_str) (pda_cons (pd_var 1 (pv 1)) (pda_nil))))))
theorem f__law_full (t : TT K mg A) : FnP P w K mg base (ceOf A) 1 A.a__law_full m__law_full := (d__law_full t).pos0 (t.F__law_full.binds fun _ _ _ _ _ _ us hl => match us, hl with | [_], _ => rfl)
theorem sc__law_good : FnScope ["names", "body", "head", "top", "name"] ["names", "body", "head", "top"] (defScope s__law_good) := ⟨rfl, rfl, rfl, by decide +kernel, rfl, by decide +kernel, by decide +kernel⟩
noncomputable def b__law_good : SM := seqS (setS 4 (bin ixP (varE 0) (litE (.int 0)))) (retS (lstE (consA (tupE (consA (varE 4) (consA (varE 1) (consA (varE 2) (nilA))))) (consA (tupE (consA (bin ixP (varE 0) (litE (.int 1))) (consA (varE 1) (consA (varE 2) (nilA))))) (consA (tupE (consA (slE (bin mulG (varE 4) (litE (.int 12))) (noO) (someO (litE (.int 12)))) (consA (varE 1) (consA (varE 2) (nilA))))) (consA (tupE (consA (litE (.str "z")) (consA (varE 1) (consA (tupE (consA (litE (.str "never")) (nilA))) (nilA))))) (consA (tupE (consA (varE 4) (consA (slE (bin mulG (varE 1) (litE (.int 8))) (noO) (someO (litE (.int 8)))) (consA (varE 2) (nilA))))) (consA (tupE (consA (varE 4) (consA (callM m__law_full (consA (varE 3) (nilA))) (consA (tupE (consA (litE (.str "ar")) (consA (varE 3) (consA (litE (.int 0)) (nilA))))) (nilA))))) (consA (tupE (consA (varE 4) (consA (callM m__law_full (consA (varE 3) (nilA))) (consA (tupE (consA (litE (.str "R")) (consA (varE 3) (nilA)))) (nilA))))) (consA (tupE (consA (varE 4) (consA (callM m__law_full (consA (varE 3) (nilA))) (consA (tupE (consA (litE (.str "never")) (nilA))) (nilA))))) (consA (tupE (consA (varE 4) (consA (lstE (consA (tupE (consA (litE (.str "si")) (consA (litE (.int 0)) (consA (litE (.int 1)) (nilA))))) (nilA))) (consA (tupE (consA (litE (.str "Z")) (consA (litE (.int 1)) (nilA)))) (nilA))))) (consA (tupE (consA (varE 4) (consA (lstE (consA (tupE (consA (litE (.str "B")) (consA (litE (.int 0)) (nilA)))) (nilA))) (consA (tupE (consA (litE (.str "B")) (consA (litE (.int 0)) (nilA)))) (nilA))))) (nilA)))))))))))))
noncomputable def m__law_good : List D → M D := runD 5 4 b__law_good
theorem d__law_good (t : TT K mg A) : FnD P w K mg base (ceOf A) 2 A.a__law_good A.f__law_good ["names", "body", "head", "top"] m__law_good :=
  fn_d t.F__law_good sc__law_good fun cdv A0 outer s H E hr tk po => have hu := huD hr; have hv := huE hr; sd_cons (sd_set 4 sc__law_good.nd rfl (by first | exact Or.inl rfl | exact Or.inr rfl) (pd_ix (pd_var 0 (pv 0)) (pd_int))) (sd_one (sd_ret (pd_lst (pda_cons (pd_tup (pda_cons (pd_var 4 (pv 4)) (pda_cons (pd_var 1 (pv 1)) (pda_cons (pd_var 2 (pv 2)) (pda_nil))))) (pda_cons (pd_tup (pda_cons (pd_ix (pd_var 0 (pv 0)) (pd_int)) (pda_cons (pd_var 1 (pv 1)) (pda_cons (pd_var 2 (pv 2)) (pda_nil))))) (pda_cons (pd_tup (pda_cons (pd_slice (pd_bin od_mulG (pd_var 4 (pv 4)) (pd_int)) (pdo_none) (pdo_some (pd_int))) (pda_cons (pd_var 1 (pv 1)) (pda_cons (pd_var 2 (pv 2)) (pda_nil))))) (pda_cons (pd_tup (pda_cons (pd_str) (pda_cons (pd_var 1 (pv 1)) (pda_cons (pd_tup (pda_cons (pd_str) (pda_nil))) (pda_nil))))) (pda_cons (pd_tup (pda_cons (pd_var 4 (pv 4)) (pda_cons (pd_slice (pd_bin od_mulG (pd_var 1 (pv 1)) (pd_int)) (pdo_none) (pdo_some (pd_int))) (pda_cons (pd_var 2 (pv 2)) (pda_nil))))) (pda_cons (pd_tup (pda_cons (pd_var 4 (pv 4)) (pda_cons (pd_call (f__law_full t) (hr.mono (by decide)) (by rfl) t.g__law_full t.F__law_full.kp (passW tk) (pda_cons (pd_var 3 (pv 3)) (pda_nil))) (pda_cons (pd_tup (pda_cons (pd_str) (pda_cons (pd_var 3 (pv 3)) (pda_cons (pd_int) (pda_nil))))) (pda_nil))))) (pda_cons (pd_tup (pda_cons (pd_var 4 (pv 4)) (pda_cons (pd_call (f__law_full t) (hr.mono (by decide)) (by rfl) t.g__law_full t.F__law_full.kp (passW tk) (pda_cons (pd_var 3 (pv 3)) (pda_nil))) (pda_cons (pd_tup (pda_cons (pd_str) (pda_cons (pd_var 3 (pv 3)) (pda_nil)))) (pda_nil))))) (pda_cons (pd_tup (pda_cons (pd_var 4 (pv 4)) (pda_cons (pd_call (f__law_full t) (hr.mono (by decide)) (by rfl) t.g__law_full t.F__law_full.kp (passW tk) (pda_cons (pd_var 3 (pv 3)) (pda_nil))) (pda_cons (pd_tup (pda_cons (pd_str) (pda_nil))) (pda_nil))))) (pda_cons (pd_tup (pda_cons (pd_var 4 (pv 4)) (pda_cons (pd_lst (pda_cons (pd_tup (pda_cons (pd_str) (pda_cons (pd_int) (pda_cons (pd_int) (pda_nil))))) (pda_nil))) (pda_cons (pd_tup (pda_cons (pd_str) (pda_cons (pd_int) (pda_nil)))) (pda_nil))))) (pda_cons (pd_tup (pda_cons (pd_var 4 (pv 4)) (pda_cons (pd_lst (pda_cons (pd_tup (pda_cons (pd_str) (pda_cons (pd_int) (pda_nil)))) (pda_nil))) (pda_cons (pd_tup (pda_cons (pd_str) (pda_cons (pd_int) (pda_nil)))) (pda_nil))))) (pda_nil))))))))))))))
theorem f__law_good (t : TT K mg A) : FnP P w K mg base (ceOf A) 2 A.a__law_good m__law_good := (d__law_good t).pos0 (t.F__law_good.binds fun _ _ _ _ _ _ us hl => match us, hl with | [_, _, _, _], _ => rfl)
theorem sc__law_bad_names : FnScope ["name"] ["name"] (defScope s__law_bad_names) := ⟨rfl, rfl, rfl, by decide +kernel, rfl, by decide +kernel, by decide +kernel⟩
noncomputable def b__law_bad_names : SM := retS (lstE (consA (litE (.str "")) (consA (slE (bin mulG (varE 0) (litE (.int 13))) (noO) (someO (litE (.int 13)))) (consA (bin addP (litE (.str "A")) (slE (varE 0) (someO (litE (.int 1))) (noO))) (consA (bin addP (slE (varE 0) (someO (litE (.int 1))) (noO)) (litE (.str "1"))) (consA (bin addP (slE (varE 0) (someO (litE (.int 1))) (noO)) (litE (.str " "))) (consA (bin addP (litE (.str " ")) (slE (varE 0) (someO (litE (.int 1))) (noO))) (consA (bin addP (slE (varE 0) (someO (litE (.int 1))) (noO)) (litE (.str "-"))) (consA (bin addP (litE (.str "_")) (slE (varE 0) (someO (litE (.int 1))) (noO))) (consA (litE (.str "Z")) (consA (litE (.str "0")) (nilA))))))))))))
noncomputable def m__law_bad_names : List D → M D := runD 1 1 b__law_bad_names
theorem d__law_bad_names (t : TT K mg A) : FnD P w K mg base (ceOf A) 1 A.a__law_bad_names A.f__law_bad_names ["name"] m__law_bad_names :=
  fn_d t.F__law_bad_names sc__law_bad_names fun cdv A0 outer s H E hr tk po => have hu := huD hr; have hv := huE hr; sd_one (sd_ret (pd_lst (pda_cons (pd_str) (pda_cons (pd_slice (pd_bin od_mulG (pd_var 0 (pv 0)) (pd_int)) (pdo_none) (pdo_some (pd_int))) (pda_cons (pd_bin od_add (pd_str) (pd_slice (pd_var 0 (pv 0)) (pdo_some (pd_int)) (pdo_none))) (pda_cons (pd_bin od_add (pd_slice (pd_var 0 (pv 0)) (pdo_some (pd_int)) (pdo_none)) (pd_str)) (pda_cons (pd_bin od_add (pd_slice (pd_var 0 (pv 0)) (pdo_some (pd_int)) (pdo_none)) (pd_str)) (pda_cons (pd_bin od_add (pd_str) (pd_slice (pd_var 0 (pv 0)) (pdo_some (pd_int)) (pdo_none))) (pda_cons (pd_bin od_add (pd_slice (pd_var 0 (pv 0)) (pdo_some (pd_int)) (pdo_none)) (pd_str)) (pda_cons (pd_bin od_add (pd_str) (pd_slice (pd_var 0 (pv 0)) (pdo_some (pd_int)) (pdo_none))) (pda_cons (pd_str) (pda_cons (pd_str) (pda_nil)))))))))))))
theorem f__law_bad_names (t : TT K mg A) : FnP P w K mg base (ceOf A) 1 A.a__law_bad_names m__law_bad_names := (d__law_bad_names t).pos0 (t.F__law_bad_names.binds fun _ _ _ _ _ _ us hl => match us, hl with | [_], _ => rfl)
noncomputable def lb__law_bad_bodies_1 : SM := appO 4 (bin addP (bin addP (slE (varE 5) (noO) (someO (varE 3))) (lstE (consA (varE 7) (nilA)))) (slE (varE 5) (someO (varE 3)) (noO)))
noncomputable def lp__law_bad_bodies_1 : List D → Ev' → Cells → Res := forL (tgN 7) (endW [7] (lb__law_bad_bodies_1))
theorem sc__law_bad_bodies : FnScope ["body", "top", "hole", "at", "found", "full", "wrong", "atom", "place"] ["body", "top", "hole", "at"] (defScope s__law_bad_bodies) := ⟨rfl, rfl, rfl, by decide +kernel, rfl, by decide +kernel, by decide +kernel⟩
noncomputable def b__law_bad_bodies : SM := seqS (ownS 4 (szA (consA (lstE (nilA)) (consA (slE (bin mulG (varE 0) (litE (.int 9))) (noO) (someO (litE (.int 9)))) (consA (lcE (itR rng1 (consA (bin addP (varE 1) (litE (.int 1))) nilA)) [8] (tgN 8) (boolE (bin neP (varE 8) (varE 2))) (tupE (consA (litE (.str "W")) (consA (varE 8) (nilA))))) (consA (callM m__law_full (consA (litE (.int 4)) (nilA))) (nilA))))))) (seqS (setS 5 (callM m__law_full (consA (varE 1) (nilA)))) (seqS (setS 6 (lstE (consA (tupE (consA (litE (.str "never")) (nilA))) (consA (tupE (consA (litE (.str "so")) (consA (varE 2) (consA (varE 2) (nilA))))) (consA (tupE (consA (litE (.str "W")) (consA (litE (.int 4)) (nilA)))) (consA (tupE (consA (litE (.str "vis")) (consA (litE (.int 4)) (consA (litE (.int 0)) (nilA))))) (consA (tupE (consA (litE (.str "W")) (consA (un1 negP (litE (.int 1))) (nilA)))) (consA (tupE (consA (litE (.str "ar")) (consA (un1 negP (litE (.int 1))) (consA (litE (.int 0)) (nilA))))) (consA (tupE (consA (litE (.str "w")) (consA (litE (.int 0)) (nilA)))) (consA (tupE (consA (litE (.str "WW")) (consA (litE (.int 0)) (nilA)))) (consA (tupE (consA (litE (.str "vis")) (consA (litE (.int 0)) (nilA)))) (consA (tupE (consA (litE (.str "W")) (consA (litE (.int 0)) (consA (litE (.int 1)) (nilA))))) (consA (tupE (consA (litE (.str "see")) (consA (litE (.int 0)) (consA (litE (.int 1)) (nilA))))) (consA (tupE (consA (litE (.str "never")) (consA (litE (.int 0)) (nilA)))) (nilA))))))))))))))) (seqS (forX [7] (itE (varE 6)) (lp__law_bad_bodies_1)) (coldS 4 (retS (varE 4))))))
noncomputable def m__law_bad_bodies : List D → M D := runD 9 4 b__law_bad_bodies
theorem d__law_bad_bodies (t : TT K mg A) : FnD P w K mg base (ceOf A) 2 A.a__law_bad_bodies A.f__law_bad_bodies ["body", "top", "hole", "at"] m__law_bad_bodies :=
  fn_d t.F__law_bad_bodies sc__law_bad_bodies fun cdv A0 outer s H E hr tk po => have hu := huD hr; have hv := huE hr; sd_cons (sd_own 4 sc__law_bad_bodies.nd rfl (by first | exact Or.inl rfl | exact Or.inr rfl) (po_lst (pda_cons (pd_lst (pda_nil)) (pda_cons (pd_slice (pd_bin od_mulG (pd_var 0 (pv 0)) (pd_int)) (pdo_none) (pdo_some (pd_int))) (pda_cons (pd_lc (own := [("place", 8)]) rfl sc__law_bad_bodies.nd (pid_range1 (by rfl) t.n_range (pda_cons (pd_bin od_add (pd_var 1 (pv 1)) (pd_int)) pda_nil)) (blkT (by rfl)) (fun _ _ _ _ _ => pgd_name (js := [8]) 8 sc__law_bad_bodies.nd rfl (by first | exact Or.inl rfl | exact Or.inr rfl)) (fun _ _ _ _ _ => pdts_one (pt_cmp (od_ne hu) (pd_var 8 (pv 8)) (pd_var 2 (pv 2)) (by rfl))) (fun _ _ _ _ _ => pd_tup (pda_cons (pd_str) (pda_cons (pd_var 8 (pv 8)) (pda_nil))))) (pda_cons (pd_call (f__law_full t) (hr.mono (by decide)) (by rfl) t.g__law_full t.F__law_full.kp (passW tk) (pda_cons (pd_int) (pda_nil))) (pda_nil))))))) (sd_cons (sd_set 5 sc__law_bad_bodies.nd rfl (by first | exact Or.inl rfl | exact Or.inr rfl) (pd_call (f__law_full t) (hr.mono (by decide)) (by rfl) t.g__law_full t.F__law_full.kp (passW tk) (pda_cons (pd_var 1 (pv 1)) (pda_nil)))) (sd_cons (sd_set 6 sc__law_bad_bodies.nd rfl (by first | exact Or.inl rfl | exact Or.inr rfl) (pd_lst (pda_cons (pd_tup (pda_cons (pd_str) (pda_nil))) (pda_cons (pd_tup (pda_cons (pd_str) (pda_cons (pd_var 2 (pv 2)) (pda_cons (pd_var 2 (pv 2)) (pda_nil))))) (pda_cons (pd_tup (pda_cons (pd_str) (pda_cons (pd_int) (pda_nil)))) (pda_cons (pd_tup (pda_cons (pd_str) (pda_cons (pd_int) (pda_cons (pd_int) (pda_nil))))) (pda_cons (pd_tup (pda_cons (pd_str) (pda_cons (pd_un ud_neg (pd_int)) (pda_nil)))) (pda_cons (pd_tup (pda_cons (pd_str) (pda_cons (pd_un ud_neg (pd_int)) (pda_cons (pd_int) (pda_nil))))) (pda_cons (pd_tup (pda_cons (pd_str) (pda_cons (pd_int) (pda_nil)))) (pda_cons (pd_tup (pda_cons (pd_str) (pda_cons (pd_int) (pda_nil)))) (pda_cons (pd_tup (pda_cons (pd_str) (pda_cons (pd_int) (pda_nil)))) (pda_cons (pd_tup (pda_cons (pd_str) (pda_cons (pd_int) (pda_cons (pd_int) (pda_nil))))) (pda_cons (pd_tup (pda_cons (pd_str) (pda_cons (pd_int) (pda_cons (pd_int) (pda_nil))))) (pda_cons (pd_tup (pda_cons (pd_str) (pda_cons (pd_int) (pda_nil)))) (pda_nil))))))))))))))) (sd_cons (sd_forW (js := [7]) po rfl (pid_seq (pd_var 6 (pv 6))) (pgd_name (js := [7]) 7 sc__law_bad_bodies.nd rfl (by first | exact Or.inl rfl | exact Or.inr rfl)) (sd_one (sd_appO 4 (pv 4) (pd_bin od_add (pd_bin od_add (pd_slice (pd_var 5 (pv 5)) (pdo_none) (pdo_some (pd_var 3 (pv 3)))) (pd_lst (pda_cons (pd_var 7 (pv 7)) (pda_nil)))) (pd_slice (pd_var 5 (pv 5)) (pdo_some (pd_var 3 (pv 3))) (pdo_none))) (pe_bm PySem.F.plainAttrs_list PySem.F.slot_list_append PySem.F.type_list_append mt_append (pv 4) (pa_cons (pd_bin od_add (pd_bin od_add (pd_slice (pd_var 5 (pv 5)) (pdo_none) (pdo_some (pd_var 3 (pv 3)))) (pd_lst (pda_cons (pd_var 7 (pv 7)) (pda_nil)))) (pd_slice (pd_var 5 (pv 5)) (pdo_some (pd_var 3 (pv 3))) (pdo_none))) pa_nil))))) (sd_cold 4 (sd_one (sd_ret (pd_var 4 (pv 4))))))))
theorem f__law_bad_bodies (t : TT K mg A) : FnP P w K mg base (ceOf A) 2 A.a__law_bad_bodies m__law_bad_bodies := (d__law_bad_bodies t).pos0 (t.F__law_bad_bodies.binds fun _ _ _ _ _ _ us hl => match us, hl with | [_, _, _, _], _ => rfl)
theorem sc__law_bad_heads : FnScope ["top"] ["top"] (defScope s__law_bad_heads) := ⟨rfl, rfl, rfl, by decide +kernel, rfl, by decide +kernel, by decide +kernel⟩
noncomputable def b__law_bad_heads : SM := retS (lstE (consA (tupE (consA (litE (.str "W")) (consA (bin addP (varE 0) (litE (.int 1))) (nilA)))) (consA (tupE (consA (litE (.str "vis")) (consA (litE (.int 0)) (consA (bin addP (varE 0) (litE (.int 1))) (nilA))))) (consA (tupE (consA (litE (.str "vis")) (consA (bin addP (varE 0) (litE (.int 1))) (consA (litE (.int 0)) (nilA))))) (consA (tupE (consA (litE (.str "so")) (consA (varE 0) (consA (varE 0) (nilA))))) (consA (tupE (consA (litE (.str "W")) (consA (un1 negP (litE (.int 1))) (nilA)))) (consA (tupE (consA (litE (.str "ar")) (consA (un1 negP (litE (.int 1))) (consA (litE (.int 0)) (nilA))))) (consA (tupE (consA (litE (.str "w")) (consA (litE (.int 0)) (nilA)))) (consA (tupE (consA (litE (.str "WR")) (consA (litE (.int 0)) (nilA)))) (consA (tupE (consA (litE (.str "vis")) (consA (litE (.int 0)) (nilA)))) (consA (tupE (consA (litE (.str "never")) (consA (litE (.int 0)) (nilA)))) (consA (tupE (consA (litE (.str "see")) (consA (litE (.int 0)) (consA (litE (.int 1)) (nilA))))) (nilA)))))))))))))
noncomputable def m__law_bad_heads : List D → M D := runD 1 1 b__law_bad_heads
theorem d__law_bad_heads (t : TT K mg A) : FnD P w K mg base (ceOf A) 1 A.a__law_bad_heads A.f__law_bad_heads ["top"] m__law_bad_heads :=
  fn_d t.F__law_bad_heads sc__law_bad_heads fun cdv A0 outer s H E hr tk po => have hu := huD hr; have hv := huE hr; sd_one (sd_ret (pd_lst (pda_cons (pd_tup (pda_cons (pd_str) (pda_cons (pd_bin od_add (pd_var 0 (pv 0)) (pd_int)) (pda_nil)))) (pda_cons (pd_tup (pda_cons (pd_str) (pda_cons (pd_int) (pda_cons (pd_bin od_add (pd_var 0 (pv 0)) (pd_int)) (pda_nil))))) (pda_cons (pd_tup (pda_cons (pd_str) (pda_cons (pd_bin od_add (pd_var 0 (pv 0)) (pd_int)) (pda_cons (pd_int) (pda_nil))))) (pda_cons (pd_tup (pda_cons (pd_str) (pda_cons (pd_var 0 (pv 0)) (pda_cons (pd_var 0 (pv 0)) (pda_nil))))) (pda_cons (pd_tup (pda_cons (pd_str) (pda_cons (pd_un ud_neg (pd_int)) (pda_nil)))) (pda_cons (pd_tup (pda_cons (pd_str) (pda_cons (pd_un ud_neg (pd_int)) (pda_cons (pd_int) (pda_nil))))) (pda_cons (pd_tup (pda_cons (pd_str) (pda_cons (pd_int) (pda_nil)))) (pda_cons (pd_tup (pda_cons (pd_str) (pda_cons (pd_int) (pda_nil)))) (pda_cons (pd_tup (pda_cons (pd_str) (pda_cons (pd_int) (pda_nil)))) (pda_cons (pd_tup (pda_cons (pd_str) (pda_cons (pd_int) (pda_nil)))) (pda_cons (pd_tup (pda_cons (pd_str) (pda_cons (pd_int) (pda_cons (pd_int) (pda_nil))))) (pda_nil))))))))))))))
theorem f__law_bad_heads (t : TT K mg A) : FnP P w K mg base (ceOf A) 1 A.a__law_bad_heads m__law_bad_heads := (d__law_bad_heads t).pos0 (t.F__law_bad_heads.binds fun _ _ _ _ _ _ us hl => match us, hl with | [_], _ => rfl)
theorem sc_places_of : FnScope ["atom"] ["atom"] (defScope s_places_of) := ⟨rfl, rfl, rfl, by decide +kernel, rfl, by decide +kernel, by decide +kernel⟩
noncomputable def b_places_of : SM := retS (callB listG (consA (slE (varE 0) (someO (litE (.int 1))) (noO)) (nilA)))
noncomputable def m_places_of : List D → M D := runD 1 1 b_places_of
theorem d_places_of (t : TT K mg A) : FnD P w K mg base (ceOf A) 1 A.a_places_of A.f_places_of ["atom"] m_places_of :=
  fn_d t.F_places_of sc_places_of fun cdv A0 outer s H E hr tk po => have hu := huD hr; have hv := huE hr; sd_one (sd_ret (pd_callTy (cd_listG rfl) (by rfl) t.n_list (by decide +kernel) (pda_cons (pd_slice (pd_var 0 (pv 0)) (pdo_some (pd_int)) (pdo_none)) (pda_nil))))
theorem f_places_of (t : TT K mg A) : FnP P w K mg base (ceOf A) 1 A.a_places_of m_places_of := (d_places_of t).pos0 (t.F_places_of.binds fun _ _ _ _ _ _ us hl => match us, hl with | [_], _ => rfl)
theorem sc_is_place : FnScope ["value", "size"] ["value", "size"] (defScope s_is_place) := ⟨rfl, rfl, rfl, by decide +kernel, rfl, by decide +kernel, by decide +kernel⟩
noncomputable def b_is_place : SM := retS (andE (callB (isiP isis) (consA (varE 0) (consA (litE (.ty "int")) (nilA)))) (chainE leP ltP (litE (.int 0)) (varE 0) (varE 1)))
noncomputable def m_is_place : List D → M D := runD 2 2 b_is_place
theorem d_is_place (t : TT K mg A) : FnD P w K mg base (ceOf A) 1 A.a_is_place A.f_is_place ["value", "size"] m_is_place :=
  fn_d t.F_is_place sc_is_place fun cdv A0 outer s H E hr tk po => have hu := huD hr; have hv := huE hr; sd_one (sd_ret (pd_and (pd_callB (cd_isi t.isi) (by rfl) t.n_isinstance (by decide +kernel) (pda_cons (pd_var 0 (pv 0)) (pda_cons (pd_tyV (by rfl) t.n_int (by decide +kernel)) (pda_nil)))) (pd_one (pd_chain (od_le hu) (od_lt hu) (pd_int) (pd_var 0 (pv 0)) (pd_var 1 (pv 1))))))
theorem f_is_place (t : TT K mg A) : FnP P w K mg base (ceOf A) 1 A.a_is_place m_is_place := (d_is_place t).pos0 (t.F_is_place.binds fun _ _ _ _ _ _ us hl => match us, hl with | [_, _], _ => rfl)
theorem sc_is_mark : FnScope ["word"] ["word"] (defScope s_is_mark) := ⟨rfl, rfl, rfl, by decide +kernel, rfl, by decide +kernel, by decide +kernel⟩
noncomputable def b_is_mark : SM := retS (andE (callB (isiP isis) (consA (varE 0) (consA (litE (.ty "str")) (nilA)))) (andE (bin eqP (callB lenP (consA (varE 0) (nilA))) (litE (.int 1))) (bin inP (varE 0) (litE (.str "ABCDEFGHIJKLMNOPQRSTUVWXYZ")))))
noncomputable def m_is_mark : List D → M D := runD 1 1 b_is_mark
theorem d_is_mark (t : TT K mg A) : FnD P w K mg base (ceOf A) 1 A.a_is_mark A.f_is_mark ["word"] m_is_mark :=
  fn_d t.F_is_mark sc_is_mark fun cdv A0 outer s H E hr tk po => have hu := huD hr; have hv := huE hr; sd_one (sd_ret (pd_and (pd_callB (cd_isi t.isi) (by rfl) t.n_isinstance (by decide +kernel) (pda_cons (pd_var 0 (pv 0)) (pda_cons (pd_tyV (by rfl) t.n_str (by decide +kernel)) (pda_nil)))) (pd_and (pd_cmp (od_eq hu) (pd_callB cd_len (by rfl) t.n_len (by decide +kernel) (pda_cons (pd_var 0 (pv 0)) (pda_nil))) (pd_int) (by rfl)) (pd_one (pd_cmp (od_in hv) (pd_var 0 (pv 0)) (pd_con (by rfl) t.c_CAPITALS) (by rfl))))))
theorem f_is_mark (t : TT K mg A) : FnP P w K mg base (ceOf A) 1 A.a_is_mark m_is_mark := (d_is_mark t).pos0 (t.F_is_mark.binds fun _ _ _ _ _ _ us hl => match us, hl with | [_], _ => rfl)
theorem sc_is_atom : FnScope ["value", "size"] ["value", "size"] (defScope s_is_atom) := ⟨rfl, rfl, rfl, by decide +kernel, rfl, by decide +kernel, by decide +kernel⟩
noncomputable def b_is_atom : SM := seqS (ifS (notT (tstE (callB (isiP isis) (consA (varE 0) (consA (litE (.ty "tuple")) (nilA)))))) (retS (litE (.bl false))) (nilS)) (seqS (ifS (boolE (bin eqP (varE 0) (litE (.tup [(.str "never")])))) (retS (litE (.bl true))) (nilS)) (seqS (ifS (boolE (bin eqP (callB lenP (consA (varE 0) (nilA))) (litE (.int 2)))) (retS (andE (callM m_is_mark (consA (bin ixP (varE 0) (litE (.int 0))) (nilA))) (callM m_is_place (consA (bin ixP (varE 0) (litE (.int 1))) (consA (varE 1) (nilA)))))) (nilS)) (seqS (ifS (orT (boolE (bin neP (callB lenP (consA (varE 0) (nilA))) (litE (.int 3)))) (boolE (bin notInP (bin ixP (varE 0) (litE (.int 0))) (litE (.tup [(.str "bf"), (.str "so"), (.str "vis"), (.str "ar"), (.str "ss"), (.str "si")]))))) (retS (litE (.bl false))) (nilS)) (retS (andE (callM m_is_place (consA (bin ixP (varE 0) (litE (.int 1))) (consA (varE 1) (nilA)))) (andE (callM m_is_place (consA (bin ixP (varE 0) (litE (.int 2))) (consA (varE 1) (nilA)))) (bin neP (bin ixP (varE 0) (litE (.int 1))) (bin ixP (varE 0) (litE (.int 2))))))))))
noncomputable def m_is_atom : List D → M D := runD 2 2 b_is_atom
theorem d_is_atom (t : TT K mg A) : FnD P w K mg base (ceOf A) 2 A.a_is_atom A.f_is_atom ["value", "size"] m_is_atom :=
  fn_d t.F_is_atom sc_is_atom fun cdv A0 outer s H E hr tk po => have hu := huD hr; have hv := huE hr; sd_cons (sd_if (pdt_not (pt_tru (pd_callB (cd_isi t.isi) (by rfl) t.n_isinstance (by decide +kernel) (pda_cons (pd_var 0 (pv 0)) (pda_cons (pd_tyV (by rfl) t.n_tuple (by decide +kernel)) (pda_nil)))))) (sd_one (sd_ret (pd_bl))) (sd_nil)) (sd_cons (sd_if (pt_cmp (od_eq hu) (pd_var 0 (pv 0)) (pd_con (by rfl) t.c_NEVER) (by rfl)) (sd_one (sd_ret (pd_bl))) (sd_nil)) (sd_cons (sd_if (pt_cmp (od_eq hu) (pd_callB cd_len (by rfl) t.n_len (by decide +kernel) (pda_cons (pd_var 0 (pv 0)) (pda_nil))) (pd_int) (by rfl)) (sd_one (sd_ret (pd_and (pd_call (f_is_mark t) (hr.mono (by decide)) (by rfl) t.g_is_mark t.F_is_mark.kp (passW tk) (pda_cons (pd_ix (pd_var 0 (pv 0)) (pd_int)) (pda_nil))) (pd_one (pd_call (f_is_place t) (hr.mono (by decide)) (by rfl) t.g_is_place t.F_is_place.kp (passW tk) (pda_cons (pd_ix (pd_var 0 (pv 0)) (pd_int)) (pda_cons (pd_var 1 (pv 1)) (pda_nil)))))))) (sd_nil)) (sd_cons (sd_if (pdw_pt (pdw_or (pt_cmp (od_ne hu) (pd_callB cd_len (by rfl) t.n_len (by decide +kernel) (pda_cons (pd_var 0 (pv 0)) (pda_nil))) (pd_int) (by rfl)) (pdw_or1 (pt_cmp (od_notIn hv) (pd_ix (pd_var 0 (pv 0)) (pd_int)) (pd_con (by rfl) t.c_RELATIONS) (by rfl))))) (sd_one (sd_ret (pd_bl))) (sd_nil)) (sd_one (sd_ret (pd_and (pd_call (f_is_place t) (hr.mono (by decide)) (by rfl) t.g_is_place t.F_is_place.kp (passW tk) (pda_cons (pd_ix (pd_var 0 (pv 0)) (pd_int)) (pda_cons (pd_var 1 (pv 1)) (pda_nil)))) (pd_and (pd_call (f_is_place t) (hr.mono (by decide)) (by rfl) t.g_is_place t.F_is_place.kp (passW tk) (pda_cons (pd_ix (pd_var 0 (pv 0)) (pd_int)) (pda_cons (pd_var 1 (pv 1)) (pda_nil)))) (pd_one (pd_cmp (od_ne hu) (pd_ix (pd_var 0 (pv 0)) (pd_int)) (pd_ix (pd_var 0 (pv 0)) (pd_int)) (by rfl))))))))))
theorem f_is_atom (t : TT K mg A) : FnP P w K mg base (ceOf A) 2 A.a_is_atom m_is_atom := (d_is_atom t).pos0 (t.F_is_atom.binds fun _ _ _ _ _ _ us hl => match us, hl with | [_, _], _ => rfl)
noncomputable def lb_size_of_1 : SM := ifS (orT (boolE (bin eqP (varE 1) (litE (.tup [(.str "never")])))) (notT (tstE (callM m_is_atom (consA (varE 1) (consA (litE (.int 4)) (nilA))))))) (raiseS 1) (nilS)
noncomputable def lp_size_of_1 (G : Cells → Prop) : List D → Ev' → Cells → Res := forG G (tgN 1) (endW [1] (lb_size_of_1))
noncomputable def lb_size_of_2 : SM := ifS (boolE (bin notInP (varE 4) (varE 2))) (raiseS 1) (nilS)
noncomputable def lp_size_of_2 : List D → Ev' → Cells → Res := forL (tgN 4) (endW [4] (lb_size_of_2))
theorem sc_size_of : FnScope ["body", "atom", "places", "size", "place"] ["body"] (defScope s_size_of) := ⟨rfl, rfl, rfl, by decide +kernel, rfl, by decide +kernel, by decide +kernel⟩
noncomputable def b_size_of : SM := seqS (ifS (notT (boolE (chainE leP leP (litE (.int 1)) (callB lenP (consA (varE 0) (nilA))) (litE (.int 8))))) (raiseS 1) (nilS)) (seqS (forXG [1] (itG (varE 0)) (lp_size_of_1)) (seqS (setS 2 (lc2EG (itG (varE 0)) [1, 4] (tgN 1) (yesT) (itE (callM m_places_of (consA (varE 1) (nilA)))) [4] (tgN 4) (yesT) (varE 4))) (seqS (setS 3 (bin addP (litE (.int 1)) (callB maxG (consA (varE 2) (nilA))))) (seqS (forX [4] (itR rng1 (consA (varE 3) nilA)) (lp_size_of_2)) (retS (varE 3))))))
noncomputable def m_size_of : List D → M D := runD 5 1 b_size_of
theorem d_size_of (t : TT K mg A) : FnD P w K mg base (ceOf A) 3 A.a_size_of A.f_size_of ["body"] m_size_of :=
  fn_d t.F_size_of sc_size_of fun cdv A0 outer s H E hr tk po => have hu := huD hr; have hv := huE hr; sd_cons (sd_if (pdt_not (pt_chainD (od_le hu) (od_le hu) (pd_int) (pd_callB cd_len (by rfl) t.n_len (by decide +kernel) (pda_cons (pd_var 0 (pv 0)) (pda_nil))) (pd_con (by rfl) t.c_MOST_ATOMS))) (sd_one (sd_raise (C := 1) rfl tk (pmk_own PySem.F.excBase_ValueError t.x_InvalidPromise t.g_InvalidPromise t.kp_InvalidPromise (raises_own t.eb_InvalidPromise t.et_InvalidPromise) (by rfl)))) (sd_nil)) (sd_cons (sd_forXG (js := [1]) po rfl (pid_seqG (pd_var 0 (pv 0))) (pgd_name (js := [1]) 1 sc_size_of.nd rfl (by first | exact Or.inl rfl | exact Or.inr rfl)) (sd_one (sd_if (pdw_pt (pdw_or (pt_cmp (od_eq hu) (pd_var 1 (pv 1)) (pd_con (by rfl) t.c_NEVER) (by rfl)) (pdw_or1 (pdt_not (pt_tru (pd_call (f_is_atom t) (hr.mono (by decide)) (by rfl) t.g_is_atom t.F_is_atom.kp (passW tk) (pda_cons (pd_var 1 (pv 1)) (pda_cons (pd_con (by rfl) t.c_MOST_EVENTS) (pda_nil))))))))) (sd_one (sd_raise (C := 1) rfl tk (pmk_own PySem.F.excBase_ValueError t.x_InvalidPromise t.g_InvalidPromise t.kp_InvalidPromise (raises_own t.eb_InvalidPromise t.et_InvalidPromise) (by rfl)))) (sd_nil)))) (sd_cons (sd_setLc2G (i := 2) (own := [("atom", 1), ("place", 4)]) [4] rfl sc_size_of.nd rfl (by rfl) (by rfl) (pid_seqG (pd_var 0 (pv 0))) (blkT (by rfl)) (by decide) (fun _ _ _ _ _ => pgd_name (js := [1, 4]) 1 sc_size_of.nd rfl (by first | exact Or.inl rfl | exact Or.inr rfl)) (fun _ _ _ _ _ => pdts_nil) (fun _ _ _ _ _ => pid_seq (pd_call (f_places_of t) (hr.mono (by decide)) (by rfl) t.g_places_of t.F_places_of.kp passW0 (pda_cons (pd_var 1 (pv 1)) (pda_nil)))) (fun _ _ _ _ _ => pgd_name (js := [4]) 4 sc_size_of.nd rfl (by first | exact Or.inl rfl | exact Or.inr rfl)) (fun _ _ _ _ _ => pdts_nil) (fun _ _ _ _ _ => pd_var 4 (pv 4))) (sd_cons (sd_set 3 sc_size_of.nd rfl (by first | exact Or.inl rfl | exact Or.inr rfl) (pd_bin od_add (pd_int) (pd_callB (cd_maxG rfl) (by rfl) t.n_max (by decide +kernel) (pda_cons (pd_var 2 (pv 2)) (pda_nil))))) (sd_cons (sd_forW (js := [4]) po rfl (pid_range1 (by rfl) t.n_range (pda_cons (pd_var 3 (pv 3)) pda_nil)) (pgd_name (js := [4]) 4 sc_size_of.nd rfl (by first | exact Or.inl rfl | exact Or.inr rfl)) (sd_one (sd_if (pt_cmp (od_notIn hv) (pd_var 4 (pv 4)) (pd_var 2 (pv 2)) (by rfl)) (sd_one (sd_raise (C := 1) rfl tk (pmk_own PySem.F.excBase_ValueError t.x_InvalidPromise t.g_InvalidPromise t.kp_InvalidPromise (raises_own t.eb_InvalidPromise t.et_InvalidPromise) (by rfl)))) (sd_nil)))) (sd_one (sd_ret (pd_var 3 (pv 3))))))))
theorem f_size_of (t : TT K mg A) : FnP P w K mg base (ceOf A) 3 A.a_size_of m_size_of := (d_size_of t).pos0 (t.F_size_of.binds fun _ _ _ _ _ _ us hl => match us, hl with | [_], _ => rfl)
theorem sc_is_name : FnScope ["name", "char"] ["name"] (defScope s_is_name) := ⟨rfl, rfl, rfl, by decide +kernel, rfl, by decide +kernel, by decide +kernel⟩
noncomputable def b_is_name : SM := seqS (ifS (notT (boolE (chainE leP leP (litE (.int 1)) (callB lenP (consA (varE 0) (nilA))) (litE (.int 12))))) (retS (litE (.bl false))) (nilS)) (retS (callB allF (consA (lcE (itSE (varE 0)) [1] (tgN 1) (yesT) (bin inP (varE 1) (litE (.str "abcdefghijklmnopqrstuvwxyz")))) (nilA))))
noncomputable def m_is_name : List D → M D := runD 2 1 b_is_name
theorem d_is_name (t : TT K mg A) : FnD P w K mg base (ceOf A) 1 A.a_is_name A.f_is_name ["name"] m_is_name :=
  fn_d t.F_is_name sc_is_name fun cdv A0 outer s H E hr tk po => have hu := huD hr; have hv := huE hr; sd_cons (sd_if (pdt_not (pt_chainD (od_le hu) (od_le hu) (pd_int) (pd_callB cd_len (by rfl) t.n_len (by decide +kernel) (pda_cons (pd_var 0 (pv 0)) (pda_nil))) (pd_con (by rfl) t.c_MOST_NAME))) (sd_one (sd_ret (pd_bl))) (sd_nil)) (sd_one (sd_ret (pd_callB (cd_all rfl) (by rfl) t.n_all (by decide +kernel) (pda_cons (pd_lc (own := [("char", 1)]) rfl sc_is_name.nd (pid_str (pd_var 0 (pv 0))) (blkT (by rfl)) (fun _ _ _ _ _ => pgd_name (js := [1]) 1 sc_is_name.nd rfl (by first | exact Or.inl rfl | exact Or.inr rfl)) (fun _ _ _ _ _ => pdts_nil) (fun _ _ _ _ _ => pd_cmp (od_in hv) (pd_var 1 (pv 1)) (pd_con (by rfl) t.c_SMALL_LETTERS) (by rfl))) (pda_nil)))))
theorem f_is_name (t : TT K mg A) : FnP P w K mg base (ceOf A) 1 A.a_is_name m_is_name := (d_is_name t).pos0 (t.F_is_name.binds fun _ _ _ _ _ _ us hl => match us, hl with | [_], _ => rfl)
theorem sc_Promise___init__ : FnScope ["self", "name", "body", "head", "size"] ["self", "name", "body", "head"] (defScope s_Promise___init__) := ⟨rfl, rfl, rfl, by decide +kernel, rfl, by decide +kernel, by decide +kernel⟩
noncomputable def b_Promise___init__ : SM := seqS (ifS (notT (tstE (callM m_is_name (consA (varE 1) (nilA))))) (raiseS 1) (nilS)) (seqS (setS 4 (callM m_size_of (consA (varE 2) (nilA)))) (seqS (ifS (notT (tstE (callM m_is_atom (consA (varE 3) (consA (varE 4) (nilA)))))) (raiseS 1) (nilS)) (seqS (slfS 0 3 0 (varE 1)) (seqS (slfS 0 3 1 (callB tupleF (consA (varE 2) (nilA)))) (seqS (slfS 0 3 2 (varE 3)) (slfS 0 3 3 (varE 4)))))))
noncomputable def m_Promise___init__ : List D → M (List D) := mI 4 4 3 b_Promise___init__
theorem f_Promise___init__ (t : TT K mg A) : FnPI P w K mg base (ceOf A) 3 4 A.a_Promise___init__ m_Promise___init__ := (fn_i t.F_Promise___init__ sc_Promise___init__ rfl mI_is fun cdv A0 outer s H E hr tk po => have hu := huD hr; have hv := huE hr; sd_cons (sd_if (pdt_not (pt_tru (pd_call (f_is_name t) (hr.mono (by decide)) (by rfl) t.g_is_name t.F_is_name.kp (passW tk) (pda_cons (pd_var 1 (pv 1)) (pda_nil))))) (sd_one (sd_raise (C := 1) rfl tk (pmk_own PySem.F.excBase_ValueError t.x_InvalidPromise t.g_InvalidPromise t.kp_InvalidPromise (raises_own t.eb_InvalidPromise t.et_InvalidPromise) (by rfl)))) (sd_nil)) (sd_cons (sd_set 4 sc_Promise___init__.nd rfl (by first | exact Or.inl rfl | exact Or.inr rfl) (pd_call (f_size_of t) (hr.mono (by decide)) (by rfl) t.g_size_of t.F_size_of.kp (passW tk) (pda_cons (pd_var 2 (pv 2)) (pda_nil)))) (sd_cons (sd_if (pdt_not (pt_tru (pd_call (f_is_atom t) (hr.mono (by decide)) (by rfl) t.g_is_atom t.F_is_atom.kp (passW tk) (pda_cons (pd_var 3 (pv 3)) (pda_cons (pd_var 4 (pv 4)) (pda_nil)))))) (sd_one (sd_raise (C := 1) rfl tk (pmk_own PySem.F.excBase_ValueError t.x_InvalidPromise t.g_InvalidPromise t.kp_InvalidPromise (raises_own t.eb_InvalidPromise t.et_InvalidPromise) (by rfl)))) (sd_nil)) (sd_cons (sd_slf 0 t.at_Promise_name (pv 0) (pd_var 1 (pv 1))) (sd_cons (sd_slf 0 t.at_Promise_body (pv 0) (pd_callTy cd_tuple (by rfl) t.n_tuple (by decide +kernel) (pda_cons (pd_var 2 (pv 2)) (pda_nil)))) (sd_cons (sd_slf 0 t.at_Promise_head (pv 0) (pd_var 3 (pv 3))) (sd_one (sd_slf 0 t.at_Promise_size (pv 0) (pd_var 4 (pv 4))))))))) : FnI P w K mg base (ceOf A) 3 4 A.a_Promise___init__ A.f_Promise___init__ ["self", "name", "body", "head"] m_Promise___init__).pos0 (t.F_Promise___init__.binds fun _ _ _ _ _ _ us hl => match us, hl with | [_, _, _, _], _ => rfl)
theorem sc__law_same : FnScope ["actual", "expected", "k"] ["actual", "expected"] (defScope s__law_same) := ⟨rfl, rfl, rfl, by decide +kernel, rfl, by decide +kernel, by decide +kernel⟩
abbrev b__law_same (self : List D → M D) : SM := DL.b_same isis self
abbrev m__law_same : Nat → List D → M D := DL.m_same isis
theorem f__law_same (t : TT K mg A) : ∀ n, FnP P w K mg base (ceOf A) (0 + n) A.a__law_same (m__law_same n)
  | 0 => FnP.non
  | n + 1 => (fn_d t.F__law_same sc__law_same fun cdv A0 outer s H E hr tk po => have hu := huD hr; have hv := huE hr; sd_cons (sd_if (pt_cmp od_isN (pd_var 1 (pv 1)) (pd_non) (by rfl)) (sd_one (sd_ret (pd_cmp od_isN (pd_var 0 (pv 0)) (pd_non) (by rfl)))) (sd_nil)) (sd_cons (sd_if (pt_tru (pd_callB (cd_isi t.isi) (by rfl) t.n_isinstance (by decide +kernel) (pda_cons (pd_var 1 (pv 1)) (pda_cons (pd_tyV (by rfl) t.n_bool (by decide +kernel)) (pda_nil))))) (sd_one (sd_ret (pd_and (pd_callB (cd_isi t.isi) (by rfl) t.n_isinstance (by decide +kernel) (pda_cons (pd_var 0 (pv 0)) (pda_cons (pd_tyV (by rfl) t.n_bool (by decide +kernel)) (pda_nil)))) (pd_one (pd_cmp (od_eq hu) (pd_var 0 (pv 0)) (pd_var 1 (pv 1)) (by rfl)))))) (sd_nil)) (sd_cons (sd_if (pt_tru (pd_callB (cd_isi t.isi) (by rfl) t.n_isinstance (by decide +kernel) (pda_cons (pd_var 1 (pv 1)) (pda_cons (pd_tyV (by rfl) t.n_int (by decide +kernel)) (pda_nil))))) (sd_one (sd_ret (pd_and (pd_callB (cd_isi t.isi) (by rfl) t.n_isinstance (by decide +kernel) (pda_cons (pd_var 0 (pv 0)) (pda_cons (pd_tyV (by rfl) t.n_int (by decide +kernel)) (pda_nil)))) (pd_and (pd_not (pd_callB (cd_isi t.isi) (by rfl) t.n_isinstance (by decide +kernel) (pda_cons (pd_var 0 (pv 0)) (pda_cons (pd_tyV (by rfl) t.n_bool (by decide +kernel)) (pda_nil))))) (pd_one (pd_cmp (od_eq hu) (pd_var 0 (pv 0)) (pd_var 1 (pv 1)) (by rfl))))))) (sd_nil)) (sd_cons (sd_if (pt_tru (pd_callB (cd_isi t.isi) (by rfl) t.n_isinstance (by decide +kernel) (pda_cons (pd_var 1 (pv 1)) (pda_cons (pd_tyV (by rfl) t.n_str (by decide +kernel)) (pda_nil))))) (sd_one (sd_ret (pd_and (pd_callB (cd_isi t.isi) (by rfl) t.n_isinstance (by decide +kernel) (pda_cons (pd_var 0 (pv 0)) (pda_cons (pd_tyV (by rfl) t.n_str (by decide +kernel)) (pda_nil)))) (pd_one (pd_cmp (od_eq hu) (pd_var 0 (pv 0)) (pd_var 1 (pv 1)) (by rfl)))))) (sd_nil)) (sd_cons (sd_if (pt_tru (pd_callB (cd_isi t.isi) (by rfl) t.n_isinstance (by decide +kernel) (pda_cons (pd_var 1 (pv 1)) (pda_cons (pd_tyV (by rfl) t.n_list (by decide +kernel)) (pda_nil))))) (sd_one (sd_if (pdt_not (pt_tru (pd_callB (cd_isi t.isi) (by rfl) t.n_isinstance (by decide +kernel) (pda_cons (pd_var 0 (pv 0)) (pda_cons (pd_tyV (by rfl) t.n_list (by decide +kernel)) (pda_nil)))))) (sd_one (sd_ret (pd_bl))) (sd_nil))) (sd_one (sd_if (pdt_not (pt_tru (pd_callB (cd_isi t.isi) (by rfl) t.n_isinstance (by decide +kernel) (pda_cons (pd_var 0 (pv 0)) (pda_cons (pd_tyV (by rfl) t.n_tuple (by decide +kernel)) (pda_nil)))))) (sd_one (sd_ret (pd_bl))) (sd_nil)))) (sd_cons (sd_if (pt_cmp (od_ne hu) (pd_callB cd_len (by rfl) t.n_len (by decide +kernel) (pda_cons (pd_var 0 (pv 0)) (pda_nil))) (pd_callB cd_len (by rfl) t.n_len (by decide +kernel) (pda_cons (pd_var 1 (pv 1)) (pda_nil))) (by rfl)) (sd_one (sd_ret (pd_bl))) (sd_nil)) (sd_cons (sd_for po rfl (pid_range1 (by rfl) t.n_range (pda_cons (pd_callB cd_len (by rfl) t.n_len (by decide +kernel) (pda_cons (pd_var 1 (pv 1)) (pda_nil))) pda_nil)) (pgd_name (js := [2]) 2 sc__law_same.nd rfl (by first | exact Or.inl rfl | exact Or.inr rfl)) (sd_one (sd_if (pdt_not (pt_tru (pd_call (f__law_same t n) (hr.mono (Nat.le_refl _)) (by rfl) t.g__law_same t.F__law_same.kp (passW tk) (pda_cons (pd_ix (pd_var 0 (pv 0)) (pd_var 2 (pv 2))) (pda_cons (pd_ix (pd_var 1 (pv 1)) (pd_var 2 (pv 2))) (pda_nil)))))) (sd_one (sd_ret (pd_bl))) (sd_nil)))) (sd_one (sd_ret (pd_bl))))))))) : FnD P w K mg base (ceOf A) (0 + n + 1) A.a__law_same A.f__law_same ["actual", "expected"] (runD 3 2 (b__law_same (m__law_same n)))).pos0 (t.F__law_same.binds fun _ _ _ _ _ _ us hl => match us, hl with | [_, _], _ => rfl)
theorem sc_Promise___eq__ : FnScope ["self", "other"] ["self", "other"] (defScope s_Promise___eq__) := ⟨rfl, rfl, rfl, by decide +kernel, rfl, by decide +kernel, by decide +kernel⟩
noncomputable def b_Promise___eq__ : SM := retS (andE (callB (isiP isis) (consA (varE 1) (consA (litE (.cls 3)) (nilA)))) (andE (bin eqP (un1 (fldP [(3, 0)]) (varE 0)) (un1 (fldP [(3, 0)]) (varE 1))) (andE (bin eqP (un1 (fldP [(3, 1)]) (varE 0)) (un1 (fldP [(3, 1)]) (varE 1))) (bin eqP (un1 (fldP [(3, 2)]) (varE 0)) (un1 (fldP [(3, 2)]) (varE 1))))))
noncomputable def m_Promise___eq__ : List D → M D := runD 2 2 b_Promise___eq__
theorem d_Promise___eq__ (t : TT K mg A) : FnD P w K mg base (ceOf A) 1 A.a_Promise___eq__ A.f_Promise___eq__ ["self", "other"] m_Promise___eq__ :=
  fn_d t.F_Promise___eq__ sc_Promise___eq__ fun cdv A0 outer s H E hr tk po => have hu := huD hr; have hv := huE hr; sd_one (sd_ret (pd_and (pd_callB (cd_isi t.isi) (by rfl) t.n_isinstance (by decide +kernel) (pda_cons (pd_var 1 (pv 1)) (pda_cons (pd_clsV (C := 3) (by rfl) t.g_Promise) (pda_nil)))) (pd_and (pd_cmp (od_eq hu) (pd_fld (atFs_one t.at_Promise_name) (pd_var 0 (pv 0))) (pd_fld (atFs_one t.at_Promise_name) (pd_var 1 (pv 1))) (by rfl)) (pd_and (pd_cmp (od_eq hu) (pd_fld (atFs_one t.at_Promise_body) (pd_var 0 (pv 0))) (pd_fld (atFs_one t.at_Promise_body) (pd_var 1 (pv 1))) (by rfl)) (pd_one (pd_cmp (od_eq hu) (pd_fld (atFs_one t.at_Promise_head) (pd_var 0 (pv 0))) (pd_fld (atFs_one t.at_Promise_head) (pd_var 1 (pv 1))) (by rfl)))))))
theorem f_Promise___eq__ (t : TT K mg A) : FnP P w K mg base (ceOf A) 1 A.a_Promise___eq__ m_Promise___eq__ := (d_Promise___eq__ t).pos0 (t.F_Promise___eq__.binds fun _ _ _ _ _ _ us hl => match us, hl with | [_, _], _ => rfl)
theorem sc__law_equals : FnScope ["names", "body", "head", "first", "other"] ["names", "body", "head"] (defScope s__law_equals) := ⟨rfl, rfl, rfl, by decide +kernel, rfl, by decide +kernel, by decide +kernel⟩
noncomputable def b__law_equals : SM := seqS (setS 3 (makeM 3 m_Promise___init__ (consA (bin ixP (varE 0) (litE (.int 0))) (consA (callB listG (consA (varE 1) (nilA))) (consA (varE 2) (nilA)))))) (seqS (setS 4 (tupE (consA (litE (.str "never")) (nilA)))) (seqS (ifS (boolE (bin eqP (varE 2) (tupE (consA (litE (.str "never")) (nilA))))) (setS 4 (tupE (consA (litE (.str "W")) (consA (litE (.int 0)) (nilA))))) (nilS)) (seqS (ifS (notT (tstE (callM (m__law_same 6) (consA (ownM 3 m_Promise___eq__ (varE 3) (makeM 3 m_Promise___init__ (consA (bin ixP (varE 0) (litE (.int 0))) (consA (callB listG (consA (varE 1) (nilA))) (consA (varE 4) (nilA)))))) (consA (litE (.bl false)) (nilA)))))) (retS (litE (.bl false))) (nilS)) (seqS (ifS (notT (tstE (callM (m__law_same 6) (consA (ownM 3 m_Promise___eq__ (varE 3) (makeM 3 m_Promise___init__ (consA (bin ixP (varE 0) (litE (.int 1))) (consA (callB listG (consA (varE 1) (nilA))) (consA (varE 2) (nilA)))))) (consA (litE (.bl false)) (nilA)))))) (retS (litE (.bl false))) (nilS)) (seqS (ifS (notT (tstE (callM (m__law_same 6) (consA (ownM 3 m_Promise___eq__ (varE 3) (makeM 3 m_Promise___init__ (consA (bin ixP (varE 0) (litE (.int 0))) (consA (un1 revF (varE 1)) (consA (varE 2) (nilA)))))) (consA (bin eqP (un1 revF (varE 1)) (varE 1)) (nilA)))))) (retS (litE (.bl false))) (nilS)) (retS (callM (m__law_same 6) (consA (ownM 3 m_Promise___eq__ (varE 3) (makeM 3 m_Promise___init__ (consA (bin ixP (varE 0) (litE (.int 0))) (consA (slE (bin mulG (varE 1) (litE (.int 8))) (noO) (someO (litE (.int 8)))) (consA (varE 2) (nilA)))))) (consA (bin eqP (callB lenP (consA (varE 1) (nilA))) (litE (.int 8))) (nilA))))))))))
noncomputable def m__law_equals : List D → M D := runD 5 3 b__law_equals
theorem d__law_equals (t : TT K mg A) : FnD P w K mg base (ceOf A) 7 A.a__law_equals A.f__law_equals ["names", "body", "head"] m__law_equals :=
  fn_d t.F__law_equals sc__law_equals fun cdv A0 outer s H E hr tk po => have hu := huD hr; have hv := huE hr; sd_cons (sd_set 3 sc__law_equals.nd rfl (by first | exact Or.inl rfl | exact Or.inr rfl) (pd_make (C := 3) t.mk_Promise (f_Promise___init__ t) (hr.mono (by decide)) (by rfl) t.g_Promise (passW tk) (pda_cons (pd_ix (pd_var 0 (pv 0)) (pd_int)) (pda_cons (pd_callTy (cd_listG rfl) (by rfl) t.n_list (by decide +kernel) (pda_cons (pd_var 1 (pv 1)) (pda_nil))) (pda_cons (pd_var 2 (pv 2)) (pda_nil)))))) (sd_cons (sd_set 4 sc__law_equals.nd rfl (by first | exact Or.inl rfl | exact Or.inr rfl) (pd_tup (pda_cons (pd_str) (pda_nil)))) (sd_cons (sd_if (pt_cmp (od_eq hu) (pd_var 2 (pv 2)) (pd_tup (pda_cons (pd_str) (pda_nil))) (by rfl)) (sd_one (sd_set 4 sc__law_equals.nd rfl (by first | exact Or.inl rfl | exact Or.inr rfl) (pd_tup (pda_cons (pd_str) (pda_cons (pd_int) (pda_nil)))))) (sd_nil)) (sd_cons (sd_if (pdt_not (pt_tru (pd_call (f__law_same t 6) (hr.mono (by decide)) (by rfl) t.g__law_same t.F__law_same.kp (passW tk) (pda_cons (pd_cmpOwn (C := 3) rfl (fun _ _ => rfl) t.me_Promise___eq__ (f_Promise___eq__ t) (hr.mono (by decide)) (passW tk) (pd_var 3 (pv 3)) (pd_make (C := 3) t.mk_Promise (f_Promise___init__ t) (hr.mono (by decide)) (by rfl) t.g_Promise (passW tk) (pda_cons (pd_ix (pd_var 0 (pv 0)) (pd_int)) (pda_cons (pd_callTy (cd_listG rfl) (by rfl) t.n_list (by decide +kernel) (pda_cons (pd_var 1 (pv 1)) (pda_nil))) (pda_cons (pd_var 4 (pv 4)) (pda_nil))))) (by rfl)) (pda_cons (pd_bl) (pda_nil)))))) (sd_one (sd_ret (pd_bl))) (sd_nil)) (sd_cons (sd_if (pdt_not (pt_tru (pd_call (f__law_same t 6) (hr.mono (by decide)) (by rfl) t.g__law_same t.F__law_same.kp (passW tk) (pda_cons (pd_cmpOwn (C := 3) rfl (fun _ _ => rfl) t.me_Promise___eq__ (f_Promise___eq__ t) (hr.mono (by decide)) (passW tk) (pd_var 3 (pv 3)) (pd_make (C := 3) t.mk_Promise (f_Promise___init__ t) (hr.mono (by decide)) (by rfl) t.g_Promise (passW tk) (pda_cons (pd_ix (pd_var 0 (pv 0)) (pd_int)) (pda_cons (pd_callTy (cd_listG rfl) (by rfl) t.n_list (by decide +kernel) (pda_cons (pd_var 1 (pv 1)) (pda_nil))) (pda_cons (pd_var 2 (pv 2)) (pda_nil))))) (by rfl)) (pda_cons (pd_bl) (pda_nil)))))) (sd_one (sd_ret (pd_bl))) (sd_nil)) (sd_cons (sd_if (pdt_not (pt_tru (pd_call (f__law_same t 6) (hr.mono (by decide)) (by rfl) t.g__law_same t.F__law_same.kp (passW tk) (pda_cons (pd_cmpOwn (C := 3) rfl (fun _ _ => rfl) t.me_Promise___eq__ (f_Promise___eq__ t) (hr.mono (by decide)) (passW tk) (pd_var 3 (pv 3)) (pd_make (C := 3) t.mk_Promise (f_Promise___init__ t) (hr.mono (by decide)) (by rfl) t.g_Promise (passW tk) (pda_cons (pd_ix (pd_var 0 (pv 0)) (pd_int)) (pda_cons (pd_rev (pd_var 1 (pv 1))) (pda_cons (pd_var 2 (pv 2)) (pda_nil))))) (by rfl)) (pda_cons (pd_cmp (od_eq hu) (pd_rev (pd_var 1 (pv 1))) (pd_var 1 (pv 1)) (by rfl)) (pda_nil)))))) (sd_one (sd_ret (pd_bl))) (sd_nil)) (sd_one (sd_ret (pd_call (f__law_same t 6) (hr.mono (by decide)) (by rfl) t.g__law_same t.F__law_same.kp (passW tk) (pda_cons (pd_cmpOwn (C := 3) rfl (fun _ _ => rfl) t.me_Promise___eq__ (f_Promise___eq__ t) (hr.mono (by decide)) (passW tk) (pd_var 3 (pv 3)) (pd_make (C := 3) t.mk_Promise (f_Promise___init__ t) (hr.mono (by decide)) (by rfl) t.g_Promise (passW tk) (pda_cons (pd_ix (pd_var 0 (pv 0)) (pd_int)) (pda_cons (pd_slice (pd_bin od_mulG (pd_var 1 (pv 1)) (pd_int)) (pdo_none) (pdo_some (pd_int))) (pda_cons (pd_var 2 (pv 2)) (pda_nil))))) (by rfl)) (pda_cons (pd_cmp (od_eq hu) (pd_callB cd_len (by rfl) t.n_len (by decide +kernel) (pda_cons (pd_var 1 (pv 1)) (pda_nil))) (pd_int) (by rfl)) (pda_nil)))))))))))
theorem f__law_equals (t : TT K mg A) : FnP P w K mg base (ceOf A) 7 A.a__law_equals m__law_equals := (d__law_equals t).pos0 (t.F__law_equals.binds fun _ _ _ _ _ _ us hl => match us, hl with | [_, _, _], _ => rfl)
theorem sc__law_refused : FnScope ["name", "body", "head", "e"] ["name", "body", "head"] (defScope s__law_refused) := ⟨rfl, rfl, rfl, by decide +kernel, rfl, by decide +kernel, by decide +kernel⟩
noncomputable def b__law_refused : SM := seqS (tryAsS [(1, true)] 3 (exprS (makeM 3 m_Promise___init__ (consA (varE 0) (consA (varE 1) (consA (varE 2) (nilA)))))) (fun a d C => retS (andE (callB (isET exTab a d C) (consA (varE 3) (consA (litE (.cls 1)) (nilA)))) (andE (callB (isET exTab a d C) (consA (varE 3) (consA (litE (.ty "ValueError")) (nilA)))) (notE (callB (isET exTab a d C) (consA (varE 3) (consA (litE (.cls 2)) (nilA))))))))) (retS (litE (.bl false)))
noncomputable def m__law_refused : List D → M D := runD 4 3 b__law_refused
theorem d__law_refused (t : TT K mg A) : FnD P w K mg base (ceOf A) 6 A.a__law_refused A.f__law_refused ["name", "body", "head"] m__law_refused :=
  fn_d t.F__law_refused sc__law_refused fun cdv A0 outer s H E hr tk po => have hu := huD hr; have hv := huE hr; sd_cons (sd_tryAs (tab := [(1, true)]) (i := 3) rfl rfl sc__law_refused.nd rfl rfl ⟨by rfl, by decide, Or.inl t.g_PromiseError⟩ (exT_cons t.ex_InvalidPromise_PromiseError exT_nil) tk (fun W' pn xe tk' po' => sd_one (sd_expr (pd_make (C := 3) t.mk_Promise (f_Promise___init__ t) (hr.mono (by decide)) (by rfl) t.g_Promise (passW tk') (pda_cons (pd_var 0 (pv 0)) (pda_cons (pd_var 1 (pv 1)) (pda_cons (pd_var 2 (pv 2)) (pda_nil))))))) (fun C a oe d pn hz hf => sd_one (sd_ret (pd_and (pd_callB (cd_isET List.mem_cons_self hz hf t.isE) (by rfl) t.n_isinstance (by decide +kernel) (pda_cons (pd_var 3 (pv 3)) (pda_cons (pd_clsV (C := 1) (by rfl) t.g_InvalidPromise) (pda_nil)))) (pd_and (pd_callB (cd_isET List.mem_cons_self hz hf t.isE) (by rfl) t.n_isinstance (by decide +kernel) (pda_cons (pd_var 3 (pv 3)) (pda_cons (pd_tyV (by rfl) t.n_ValueError (by decide +kernel)) (pda_nil)))) (pd_one (pd_not (pd_callB (cd_isET List.mem_cons_self hz hf t.isE) (by rfl) t.n_isinstance (by decide +kernel) (pda_cons (pd_var 3 (pv 3)) (pda_cons (pd_clsV (C := 2) (by rfl) t.g_InvalidText) (pda_nil))))))))))) (sd_one (sd_ret (pd_bl)))
theorem f__law_refused (t : TT K mg A) : FnP P w K mg base (ceOf A) 6 A.a__law_refused m__law_refused := (d__law_refused t).pos0 (t.F__law_refused.binds fun _ _ _ _ _ _ us hl => match us, hl with | [_, _, _], _ => rfl)
theorem sc__law_told : FnScope ["promise", "name", "body", "head"] ["promise", "name", "body", "head"] (defScope s__law_told) := ⟨rfl, rfl, rfl, by decide +kernel, rfl, by decide +kernel, by decide +kernel⟩
noncomputable def b__law_told : SM := seqS (ifS (orT (notT (tstE (callM (m__law_same 6) (consA (un1 (fldP [(3, 0)]) (varE 0)) (consA (varE 1) (nilA)))))) (notT (tstE (callM (m__law_same 6) (consA (un1 (fldP [(3, 1)]) (varE 0)) (consA (callB tupleF (consA (varE 2) (nilA))) (nilA))))))) (retS (litE (.bl false))) (nilS)) (retS (andE (callM (m__law_same 6) (consA (un1 (fldP [(3, 2)]) (varE 0)) (consA (varE 3) (nilA)))) (callM (m__law_same 6) (consA (un1 (fldP [(3, 3)]) (varE 0)) (consA (callM m__law_size (consA (varE 2) (nilA))) (nilA))))))
noncomputable def m__law_told : List D → M D := runD 4 4 b__law_told
theorem d__law_told (t : TT K mg A) : FnD P w K mg base (ceOf A) 7 A.a__law_told A.f__law_told ["promise", "name", "body", "head"] m__law_told :=
  fn_d t.F__law_told sc__law_told fun cdv A0 outer s H E hr tk po => have hu := huD hr; have hv := huE hr; sd_cons (sd_if (pdw_pt (pdw_or (pdt_not (pt_tru (pd_call (f__law_same t 6) (hr.mono (by decide)) (by rfl) t.g__law_same t.F__law_same.kp (passW tk) (pda_cons (pd_fld (atFs_one t.at_Promise_name) (pd_var 0 (pv 0))) (pda_cons (pd_var 1 (pv 1)) (pda_nil)))))) (pdw_or1 (pdt_not (pt_tru (pd_call (f__law_same t 6) (hr.mono (by decide)) (by rfl) t.g__law_same t.F__law_same.kp (passW tk) (pda_cons (pd_fld (atFs_one t.at_Promise_body) (pd_var 0 (pv 0))) (pda_cons (pd_callTy cd_tuple (by rfl) t.n_tuple (by decide +kernel) (pda_cons (pd_var 2 (pv 2)) (pda_nil))) (pda_nil))))))))) (sd_one (sd_ret (pd_bl))) (sd_nil)) (sd_one (sd_ret (pd_and (pd_call (f__law_same t 6) (hr.mono (by decide)) (by rfl) t.g__law_same t.F__law_same.kp (passW tk) (pda_cons (pd_fld (atFs_one t.at_Promise_head) (pd_var 0 (pv 0))) (pda_cons (pd_var 3 (pv 3)) (pda_nil)))) (pd_one (pd_call (f__law_same t 6) (hr.mono (by decide)) (by rfl) t.g__law_same t.F__law_same.kp (passW tk) (pda_cons (pd_fld (atFs_one t.at_Promise_size) (pd_var 0 (pv 0))) (pda_cons (pd_call (f__law_size t) (hr.mono (by decide)) (by rfl) t.g__law_size t.F__law_size.kp (passW tk) (pda_cons (pd_var 2 (pv 2)) (pda_nil))) (pda_nil))))))))
theorem f__law_told (t : TT K mg A) : FnP P w K mg base (ceOf A) 7 A.a__law_told m__law_told := (d__law_told t).pos0 (t.F__law_told.binds fun _ _ _ _ _ _ us hl => match us, hl with | [_, _, _, _], _ => rfl)
theorem sc__law_let_in : FnScope ["name", "body", "head", "kept", "first", "second"] ["name", "body", "head"] (defScope s__law_let_in) := ⟨rfl, rfl, rfl, by decide +kernel, rfl, by decide +kernel, by decide +kernel⟩
noncomputable def b__law_let_in : SM := seqS (setS 3 (ceE (copyE (varE 1)))) (seqS (setS 4 (makeM 3 m_Promise___init__ (consA (varE 0) (consA (varE 3) (consA (varE 2) (nilA)))))) (seqS (setS 5 (makeM 3 m_Promise___init__ (consA (varE 0) (consA (callB tupleF (consA (varE 1) (nilA))) (consA (varE 2) (nilA)))))) (seqS (ifS (orT (boolE (bin neP (varE 3) (callB listG (consA (varE 1) (nilA))))) (orT (notT (tstE (callM m__law_told (consA (varE 4) (consA (varE 0) (consA (varE 1) (consA (varE 2) (nilA)))))))) (notT (tstE (callM m__law_told (consA (varE 5) (consA (varE 0) (consA (varE 1) (consA (varE 2) (nilA)))))))))) (retS (litE (.bl false))) (nilS)) (seqS (appC (varE 3) (tupE (consA (litE (.str "Z")) (consA (litE (.int 0)) (nilA))))) (seqS (setIxS (varE 3) (litE (.int 0)) (tupE (consA (litE (.str "Q")) (consA (litE (.int 0)) (nilA))))) (retS (andE (callM m__law_told (consA (varE 4) (consA (varE 0) (consA (varE 1) (consA (varE 2) (nilA)))))) (callM (m__law_same 6) (consA (ownM 3 m_Promise___eq__ (varE 4) (varE 5)) (consA (litE (.bl true)) (nilA)))))))))))
noncomputable def m__law_let_in : List D → M D := runD 6 3 b__law_let_in
theorem d__law_let_in (t : TT K mg A) : FnD P w K mg base (ceOf A) 8 A.a__law_let_in A.f__law_let_in ["name", "body", "head"] m__law_let_in :=
  fn_d t.F__law_let_in sc__law_let_in fun cdv A0 outer s H E hr tk po => have hu := huD hr; have hv := huE hr; sd_cons (sd_set 3 sc__law_let_in.nd rfl (by first | exact Or.inl rfl | exact Or.inr rfl) (pd_ce (po_list (by rfl) t.n_list (pd_var 1 (pv 1))))) (sd_cons (sd_set 4 sc__law_let_in.nd rfl (by first | exact Or.inl rfl | exact Or.inr rfl) (pd_make (C := 3) t.mk_Promise (f_Promise___init__ t) (hr.mono (by decide)) (by rfl) t.g_Promise (passW tk) (pda_cons (pd_var 0 (pv 0)) (pda_cons (pd_var 3 (pv 3)) (pda_cons (pd_var 2 (pv 2)) (pda_nil)))))) (sd_cons (sd_set 5 sc__law_let_in.nd rfl (by first | exact Or.inl rfl | exact Or.inr rfl) (pd_make (C := 3) t.mk_Promise (f_Promise___init__ t) (hr.mono (by decide)) (by rfl) t.g_Promise (passW tk) (pda_cons (pd_var 0 (pv 0)) (pda_cons (pd_callTy cd_tuple (by rfl) t.n_tuple (by decide +kernel) (pda_cons (pd_var 1 (pv 1)) (pda_nil))) (pda_cons (pd_var 2 (pv 2)) (pda_nil)))))) (sd_cons (sd_if (pdw_pt (pdw_or (pt_cmp (od_ne hu) (pd_var 3 (pv 3)) (pd_callTy (cd_listG rfl) (by rfl) t.n_list (by decide +kernel) (pda_cons (pd_var 1 (pv 1)) (pda_nil))) (by rfl)) (pdw_or (pdt_not (pt_tru (pd_call (f__law_told t) (hr.mono (by decide)) (by rfl) t.g__law_told t.F__law_told.kp (passW tk) (pda_cons (pd_var 4 (pv 4)) (pda_cons (pd_var 0 (pv 0)) (pda_cons (pd_var 1 (pv 1)) (pda_cons (pd_var 2 (pv 2)) (pda_nil)))))))) (pdw_or1 (pdt_not (pt_tru (pd_call (f__law_told t) (hr.mono (by decide)) (by rfl) t.g__law_told t.F__law_told.kp (passW tk) (pda_cons (pd_var 5 (pv 5)) (pda_cons (pd_var 0 (pv 0)) (pda_cons (pd_var 1 (pv 1)) (pda_cons (pd_var 2 (pv 2)) (pda_nil)))))))))))) (sd_one (sd_ret (pd_bl))) (sd_nil)) (sd_cons (sd_appC (pd_var 3 (pv 3)) (pd_tup (pda_cons (pd_str) (pda_cons (pd_int) (pda_nil)))) (pe_bm PySem.F.plainAttrs_list PySem.F.slot_list_append PySem.F.type_list_append mt_append (pd_var 3 (pv 3)) (pa_cons (pd_tup (pda_cons (pd_str) (pda_cons (pd_int) (pda_nil)))) pa_nil))) (sd_cons (sd_setIx (pd_var 3 (pv 3)) (pd_int) (pd_tup (pda_cons (pd_str) (pda_cons (pd_int) (pda_nil))))) (sd_one (sd_ret (pd_and (pd_call (f__law_told t) (hr.mono (by decide)) (by rfl) t.g__law_told t.F__law_told.kp (passW tk) (pda_cons (pd_var 4 (pv 4)) (pda_cons (pd_var 0 (pv 0)) (pda_cons (pd_var 1 (pv 1)) (pda_cons (pd_var 2 (pv 2)) (pda_nil)))))) (pd_one (pd_call (f__law_same t 6) (hr.mono (by decide)) (by rfl) t.g__law_same t.F__law_same.kp (passW tk) (pda_cons (pd_cmpOwn (C := 3) rfl (fun _ _ => rfl) t.me_Promise___eq__ (f_Promise___eq__ t) (hr.mono (by decide)) (passW tk) (pd_var 4 (pv 4)) (pd_var 5 (pv 5)) (by rfl)) (pda_cons (pd_bl) (pda_nil)))))))))))))
theorem f__law_let_in (t : TT K mg A) : FnP P w K mg base (ceOf A) 8 A.a__law_let_in m__law_let_in := (d__law_let_in t).pos0 (t.F__law_let_in.binds fun _ _ _ _ _ _ us hl => match us, hl with | [_, _, _], _ => rfl)
noncomputable def lb_law_1 : SM := ifS (notT (tstE (callM m__law_let_in (consA (bin ixP (varE 9) (litE (.int 0))) (consA (bin ixP (varE 9) (litE (.int 1))) (consA (bin ixP (varE 9) (litE (.int 2))) (nilA))))))) (retS (litE (.bl false))) (nilS)
noncomputable def lp_law_1 : List D → Ev' → Cells → Res := forL (tgN 9) (endW [9] (lb_law_1))
noncomputable def lb_law_2 : SM := ifS (notT (tstE (callM m__law_refused (consA (varE 10) (consA (varE 7) (consA (varE 8) (nilA))))))) (retS (litE (.bl false))) (nilS)
noncomputable def lp_law_2 : List D → Ev' → Cells → Res := forL (tgN 10) (endW [10] (lb_law_2))
noncomputable def lb_law_3 : SM := ifS (orT (notT (tstE (callM m__law_refused (consA (bin ixP (varE 3) (litE (.int 0))) (consA (callB listG (consA (varE 11) (nilA))) (consA (tupE (consA (litE (.str "W")) (consA (varE 4) (nilA)))) (nilA))))))) (notT (tstE (callM m__law_refused (consA (bin ixP (varE 3) (litE (.int 0))) (consA (callB tupleF (consA (varE 11) (nilA))) (consA (tupE (consA (litE (.str "W")) (consA (varE 4) (nilA)))) (nilA)))))))) (retS (litE (.bl false))) (nilS)
noncomputable def lp_law_3 : List D → Ev' → Cells → Res := forL (tgN 11) (endW [11] (lb_law_3))
noncomputable def lb_law_4 : SM := ifS (notT (tstE (callM m__law_refused (consA (bin ixP (varE 3) (litE (.int 0))) (consA (callM m__law_full (consA (varE 4) (nilA))) (consA (varE 11) (nilA))))))) (retS (litE (.bl false))) (nilS)
noncomputable def lp_law_4 : List D → Ev' → Cells → Res := forL (tgN 11) (endW [11] (lb_law_4))
theorem sc_law : FnScope ["script", "draws", "shape", "names", "top", "hole", "at", "body", "head", "parts", "name", "wrong"] ["script"] (defScope s_law) := ⟨rfl, rfl, rfl, by decide +kernel, rfl, by decide +kernel, by decide +kernel⟩
noncomputable def b_law : SM := seqS (setS 1 (callM m__law_start (consA (varE 0) (nilA)))) (seqS (setS 2 (callM m__law_shape (consA (varE 1) (consA (litE (.int 4)) (nilA))))) (seqS (setS 3 (callM m__law_names (consA (varE 1) (consA (litE (.int 2)) (nilA))))) (seqS (setS 4 (bin addP (litE (.int 1)) (callM m__law_draw (consA (varE 1) (consA (litE (.int 3)) (nilA)))))) (seqS (setS 5 (callM m__law_draw (consA (varE 1) (consA (varE 4) (nilA))))) (seqS (setS 6 (callM m__law_draw (consA (varE 1) (consA (bin addP (varE 4) (litE (.int 2))) (nilA))))) (seqS (setS 7 (callB listG (consA (bin ixP (varE 2) (litE (.int 0))) (nilA)))) (seqS (setS 8 (bin ixP (varE 2) (litE (.int 1)))) (seqS (forX [9] (itE (callM m__law_good (consA (varE 3) (consA (varE 7) (consA (varE 8) (consA (varE 4) (nilA))))))) (lp_law_1)) (seqS (forX [10] (itE (callM m__law_bad_names (consA (bin ixP (varE 3) (litE (.int 0))) (nilA)))) (lp_law_2)) (seqS (forX [11] (itE (callM m__law_bad_bodies (consA (varE 7) (consA (varE 4) (consA (varE 5) (consA (varE 6) (nilA))))))) (lp_law_3)) (seqS (forX [11] (itE (callM m__law_bad_heads (consA (varE 4) (nilA)))) (lp_law_4)) (seqS (ifS (notT (tstE (callM m__law_refused (consA (bin ixP (varE 3) (litE (.int 0))) (consA (varE 7) (consA (tupE (consA (litE (.str "R")) (consA (callM m__law_size (consA (varE 7) (nilA))) (nilA)))) (nilA))))))) (retS (litE (.bl false))) (nilS)) (retS (callM m__law_equals (consA (varE 3) (consA (varE 7) (consA (varE 8) (nilA))))))))))))))))))
noncomputable def m_law : List D → M D := runD 12 1 b_law
theorem d_law (t : TT K mg A) : FnD P w K mg base (ceOf A) 9 A.a_law A.f_law ["script"] m_law :=
  fn_d t.F_law sc_law fun cdv A0 outer s H E hr tk po => have hu := huD hr; have hv := huE hr; sd_cons (sd_set 1 sc_law.nd rfl (by first | exact Or.inl rfl | exact Or.inr rfl) (pd_call (f__law_start t) (hr.mono (by decide)) (by rfl) t.g__law_start t.F__law_start.kp (passW tk) (pda_cons (pd_var 0 (pv 0)) (pda_nil)))) (sd_cons (sd_set 2 sc_law.nd rfl (by first | exact Or.inl rfl | exact Or.inr rfl) (pd_call (f__law_shape t) (hr.mono (by decide)) (by rfl) t.g__law_shape t.F__law_shape.kp (passW tk) (pda_cons (pd_var 1 (pv 1)) (pda_cons (pd_int) (pda_nil))))) (sd_cons (sd_set 3 sc_law.nd rfl (by first | exact Or.inl rfl | exact Or.inr rfl) (pd_call (f__law_names t) (hr.mono (by decide)) (by rfl) t.g__law_names t.F__law_names.kp (passW tk) (pda_cons (pd_var 1 (pv 1)) (pda_cons (pd_int) (pda_nil))))) (sd_cons (sd_set 4 sc_law.nd rfl (by first | exact Or.inl rfl | exact Or.inr rfl) (pd_bin od_add (pd_int) (pd_call (f__law_draw t) (hr.mono (by decide)) (by rfl) t.g__law_draw t.F__law_draw.kp (passW tk) (pda_cons (pd_var 1 (pv 1)) (pda_cons (pd_int) (pda_nil)))))) (sd_cons (sd_set 5 sc_law.nd rfl (by first | exact Or.inl rfl | exact Or.inr rfl) (pd_call (f__law_draw t) (hr.mono (by decide)) (by rfl) t.g__law_draw t.F__law_draw.kp (passW tk) (pda_cons (pd_var 1 (pv 1)) (pda_cons (pd_var 4 (pv 4)) (pda_nil))))) (sd_cons (sd_set 6 sc_law.nd rfl (by first | exact Or.inl rfl | exact Or.inr rfl) (pd_call (f__law_draw t) (hr.mono (by decide)) (by rfl) t.g__law_draw t.F__law_draw.kp (passW tk) (pda_cons (pd_var 1 (pv 1)) (pda_cons (pd_bin od_add (pd_var 4 (pv 4)) (pd_int)) (pda_nil))))) (sd_cons (sd_set 7 sc_law.nd rfl (by first | exact Or.inl rfl | exact Or.inr rfl) (pd_callTy (cd_listG rfl) (by rfl) t.n_list (by decide +kernel) (pda_cons (pd_ix (pd_var 2 (pv 2)) (pd_int)) (pda_nil)))) (sd_cons (sd_set 8 sc_law.nd rfl (by first | exact Or.inl rfl | exact Or.inr rfl) (pd_ix (pd_var 2 (pv 2)) (pd_int))) (sd_cons (sd_forW (js := [9]) po rfl (pid_seq (pd_call (f__law_good t) (hr.mono (by decide)) (by rfl) t.g__law_good t.F__law_good.kp (passW tk) (pda_cons (pd_var 3 (pv 3)) (pda_cons (pd_var 7 (pv 7)) (pda_cons (pd_var 8 (pv 8)) (pda_cons (pd_var 4 (pv 4)) (pda_nil))))))) (pgd_name (js := [9]) 9 sc_law.nd rfl (by first | exact Or.inl rfl | exact Or.inr rfl)) (sd_one (sd_if (pdt_not (pt_tru (pd_call (f__law_let_in t) (hr.mono (by decide)) (by rfl) t.g__law_let_in t.F__law_let_in.kp (passW tk) (pda_cons (pd_ix (pd_var 9 (pv 9)) (pd_int)) (pda_cons (pd_ix (pd_var 9 (pv 9)) (pd_int)) (pda_cons (pd_ix (pd_var 9 (pv 9)) (pd_int)) (pda_nil))))))) (sd_one (sd_ret (pd_bl))) (sd_nil)))) (sd_cons (sd_forW (js := [10]) po rfl (pid_seq (pd_call (f__law_bad_names t) (hr.mono (by decide)) (by rfl) t.g__law_bad_names t.F__law_bad_names.kp (passW tk) (pda_cons (pd_ix (pd_var 3 (pv 3)) (pd_int)) (pda_nil)))) (pgd_name (js := [10]) 10 sc_law.nd rfl (by first | exact Or.inl rfl | exact Or.inr rfl)) (sd_one (sd_if (pdt_not (pt_tru (pd_call (f__law_refused t) (hr.mono (by decide)) (by rfl) t.g__law_refused t.F__law_refused.kp (passW tk) (pda_cons (pd_var 10 (pv 10)) (pda_cons (pd_var 7 (pv 7)) (pda_cons (pd_var 8 (pv 8)) (pda_nil))))))) (sd_one (sd_ret (pd_bl))) (sd_nil)))) (sd_cons (sd_forW (js := [11]) po rfl (pid_seq (pd_call (f__law_bad_bodies t) (hr.mono (by decide)) (by rfl) t.g__law_bad_bodies t.F__law_bad_bodies.kp (passW tk) (pda_cons (pd_var 7 (pv 7)) (pda_cons (pd_var 4 (pv 4)) (pda_cons (pd_var 5 (pv 5)) (pda_cons (pd_var 6 (pv 6)) (pda_nil))))))) (pgd_name (js := [11]) 11 sc_law.nd rfl (by first | exact Or.inl rfl | exact Or.inr rfl)) (sd_one (sd_if (pdw_pt (pdw_or (pdt_not (pt_tru (pd_call (f__law_refused t) (hr.mono (by decide)) (by rfl) t.g__law_refused t.F__law_refused.kp (passW tk) (pda_cons (pd_ix (pd_var 3 (pv 3)) (pd_int)) (pda_cons (pd_callTy (cd_listG rfl) (by rfl) t.n_list (by decide +kernel) (pda_cons (pd_var 11 (pv 11)) (pda_nil))) (pda_cons (pd_tup (pda_cons (pd_str) (pda_cons (pd_var 4 (pv 4)) (pda_nil)))) (pda_nil))))))) (pdw_or1 (pdt_not (pt_tru (pd_call (f__law_refused t) (hr.mono (by decide)) (by rfl) t.g__law_refused t.F__law_refused.kp (passW tk) (pda_cons (pd_ix (pd_var 3 (pv 3)) (pd_int)) (pda_cons (pd_callTy cd_tuple (by rfl) t.n_tuple (by decide +kernel) (pda_cons (pd_var 11 (pv 11)) (pda_nil))) (pda_cons (pd_tup (pda_cons (pd_str) (pda_cons (pd_var 4 (pv 4)) (pda_nil)))) (pda_nil)))))))))) (sd_one (sd_ret (pd_bl))) (sd_nil)))) (sd_cons (sd_forW (js := [11]) po rfl (pid_seq (pd_call (f__law_bad_heads t) (hr.mono (by decide)) (by rfl) t.g__law_bad_heads t.F__law_bad_heads.kp (passW tk) (pda_cons (pd_var 4 (pv 4)) (pda_nil)))) (pgd_name (js := [11]) 11 sc_law.nd rfl (by first | exact Or.inl rfl | exact Or.inr rfl)) (sd_one (sd_if (pdt_not (pt_tru (pd_call (f__law_refused t) (hr.mono (by decide)) (by rfl) t.g__law_refused t.F__law_refused.kp (passW tk) (pda_cons (pd_ix (pd_var 3 (pv 3)) (pd_int)) (pda_cons (pd_call (f__law_full t) (hr.mono (by decide)) (by rfl) t.g__law_full t.F__law_full.kp (passW tk) (pda_cons (pd_var 4 (pv 4)) (pda_nil))) (pda_cons (pd_var 11 (pv 11)) (pda_nil))))))) (sd_one (sd_ret (pd_bl))) (sd_nil)))) (sd_cons (sd_if (pdt_not (pt_tru (pd_call (f__law_refused t) (hr.mono (by decide)) (by rfl) t.g__law_refused t.F__law_refused.kp (passW tk) (pda_cons (pd_ix (pd_var 3 (pv 3)) (pd_int)) (pda_cons (pd_var 7 (pv 7)) (pda_cons (pd_tup (pda_cons (pd_str) (pda_cons (pd_call (f__law_size t) (hr.mono (by decide)) (by rfl) t.g__law_size t.F__law_size.kp (passW tk) (pda_cons (pd_var 7 (pv 7)) (pda_nil))) (pda_nil)))) (pda_nil))))))) (sd_one (sd_ret (pd_bl))) (sd_nil)) (sd_one (sd_ret (pd_call (f__law_equals t) (hr.mono (by decide)) (by rfl) t.g__law_equals t.F__law_equals.kp (passW tk) (pda_cons (pd_var 3 (pv 3)) (pda_cons (pd_var 7 (pv 7)) (pda_cons (pd_var 8 (pv 8)) (pda_nil)))))))))))))))))))
theorem f_law (t : TT K mg A) : FnP P w K mg base (ceOf A) 9 A.a_law m_law := (d_law t).pos0 (t.F_law.binds fun _ _ _ _ _ _ us hl => match us, hl with | [_], _ => rfl)
end
def OkS (s : PySem.Str) : Bool := PyData.canLay0 (.str s) && decide (s.length ≤ 100)
/-- a string or a number -/
def flat : D → Bool
  | .str s => OkS s
  | .int _ => true
  | _ => false
def flatT : D → Bool
  | .tup xs => xs.all flat && decide (xs.length ≤ 4)
  | _ => false
theorem OkS.lay {s : PySem.Str} (h : OkS s = true) : PyData.canLay0 (.str s) = true := by
  unfold OkS at h; simp at h; exact h.1
theorem OkS.len {s : PySem.Str} (h : OkS s = true) : s.length ≤ 100 := by
  unfold OkS at h; simp at h; exact h.2
def markB (d : D) : Bool := match d with
  | .str s => decide (s.length = 1) && strIn s "ABCDEFGHIJKLMNOPQRSTUVWXYZ"
  | _ => false
def placeB (d : D) (n : Int) : Bool := match d with
  | .int i => decide (0 ≤ i) && decide (i < n)
  | _ => false
def relB (d : D) : Bool := match d with
  | .str s => [("bf" : PySem.Str), "so", "vis", "ar", "ss", "si"].any fun q => q == s
  | _ => false
def difB (d e : D) : Bool := match d, e with
  | .int i, .int j => !decide (i = j)
  | _, _ => false
def isA (xs : List D) (n : Int) : Bool := match xs with
  | [.str s] => ("never" : PySem.Str) == s
  | [a, b] => markB a && placeB b n
  | [a, b, c] => relB a && (placeB b n && (placeB c n && difB b c))
  | _ => false
theorem flat_cases {d : D} (h : flat d = true) : (∃ s, d = .str s ∧ OkS s = true) ∨ ∃ i, d = .int i := by
  cases d <;> simp [flat] at h
  · exact .inr ⟨_, rfl⟩
  · exact .inl ⟨_, rfl, h⟩
theorem mark_eq {d : D} (h : flat d = true) {c : Cells} : m_is_mark [d] c = .ok (.bl (markB d)) c := by
  obtain ⟨k1, k2, k3, k4, k5, k6, k7, k8, k9, k10, k11, k12, k13, k14, k15⟩ := kit_b
  have k16 : kitB "int" "str" = some false := by decide +kernel
  rcases flat_cases h with ⟨s, rfl, hs⟩ | ⟨i, rfl⟩
  · have h1 := OkS.len hs
    have h2 : s.length ≤ sizeLine := Nat.le_trans h1 (by decide)
    simp [m_is_mark, b_is_mark, DL.seqS, DL.Res.seq, DL.setIxS, DL.setS, DL.exprS, DL.retS, DL.retN, DL.ifS, DL.nilS, DL.brkS, DL.cntS, DL.callB, DL.callM, DL.intF, DL.boolF, DL.consA, DL.nilA, DL.starA, DL.bin, DL.un1, DL.negP, DL.bnd, DL.Out.bnd, DL.Out.thenS, DL.opt, DL.varE, DL.litE, DL.ixP, DL.seqOf, DL.rlistOf, DL.listOf, DL.setItem, DL.ret, DL.addP, DL.subP, DL.mulP, DL.modP, DL.fdivP, DL.powP, DL.intP, DL.geP, DL.leP, DL.gtP, DL.ltP, DL.ltB, DL.eqP, DL.neP, DL.eqB, DL.eqS, DL.tstE, DL.truB, DL.boolE, DL.andT, DL.orT, DL.notT, DL.andE, DL.orE, DL.notE, DL.ifE, DL.chainE, DL.tupE, DL.lstE, DL.lstC, DL.isNP, DL.notNP, DL.isNon, DL.lenP, DL.runD, DL.Res.out, DL.startD, DL.itE, DL.itR, DL.seqF, DL.rng1, DL.rng2, DL.forS, DL.tgN, DL.tgT, DL.tgCons, DL.tgNil, DL.slE, DL.slL, DL.noO, DL.someO, DL.inP, DL.notInP, DL.wipeD, DL.endW, DL.turn, DL.item, DL.forX, DL.ownS, DL.szA, DL.appO, DL.coldS, DL.ownL, DL.revF, DL.allF, DL.anyF, L2.atI, L2.ixN, isiP, isiB, tyN, k6, h2, inP, inB, markB]
    by_cases e : (s.length : Int) = 1
    · have e' : s.length = 1 := by omega
      simp [e, e']
    · have e' : ¬ s.length = 1 := by omega
      simp [e, e']
  · simp [m_is_mark, b_is_mark, DL.seqS, DL.Res.seq, DL.setIxS, DL.setS, DL.exprS, DL.retS, DL.retN, DL.ifS, DL.nilS, DL.brkS, DL.cntS, DL.callB, DL.callM, DL.intF, DL.boolF, DL.consA, DL.nilA, DL.starA, DL.bin, DL.un1, DL.negP, DL.bnd, DL.Out.bnd, DL.Out.thenS, DL.opt, DL.varE, DL.litE, DL.ixP, DL.seqOf, DL.rlistOf, DL.listOf, DL.setItem, DL.ret, DL.addP, DL.subP, DL.mulP, DL.modP, DL.fdivP, DL.powP, DL.intP, DL.geP, DL.leP, DL.gtP, DL.ltP, DL.ltB, DL.eqP, DL.neP, DL.eqB, DL.eqS, DL.tstE, DL.truB, DL.boolE, DL.andT, DL.orT, DL.notT, DL.andE, DL.orE, DL.notE, DL.ifE, DL.chainE, DL.tupE, DL.lstE, DL.lstC, DL.isNP, DL.notNP, DL.isNon, DL.lenP, DL.runD, DL.Res.out, DL.startD, DL.itE, DL.itR, DL.seqF, DL.rng1, DL.rng2, DL.forS, DL.tgN, DL.tgT, DL.tgCons, DL.tgNil, DL.slE, DL.slL, DL.noO, DL.someO, DL.inP, DL.notInP, DL.wipeD, DL.endW, DL.turn, DL.item, DL.forX, DL.ownS, DL.szA, DL.appO, DL.coldS, DL.ownL, DL.revF, DL.allF, DL.anyF, L2.atI, L2.ixN, isiP, isiB, tyN, k16, markB]
theorem place_eq {d : D} (h : flat d = true) {n : Int} {c : Cells} : m_is_place [d, .int n] c = .ok (.bl (placeB d n)) c := by
  obtain ⟨k1, k2, k3, k4, k5, k6, k7, k8, k9, k10, k11, k12, k13, k14, k15⟩ := kit_b
  rcases flat_cases h with ⟨s, rfl, hs⟩ | ⟨i, rfl⟩
  · simp [m_is_place, b_is_place, DL.seqS, DL.Res.seq, DL.setIxS, DL.setS, DL.exprS, DL.retS, DL.retN, DL.ifS, DL.nilS, DL.brkS, DL.cntS, DL.callB, DL.callM, DL.intF, DL.boolF, DL.consA, DL.nilA, DL.starA, DL.bin, DL.un1, DL.negP, DL.bnd, DL.Out.bnd, DL.Out.thenS, DL.opt, DL.varE, DL.litE, DL.ixP, DL.seqOf, DL.rlistOf, DL.listOf, DL.setItem, DL.ret, DL.addP, DL.subP, DL.mulP, DL.modP, DL.fdivP, DL.powP, DL.intP, DL.geP, DL.leP, DL.gtP, DL.ltP, DL.ltB, DL.eqP, DL.neP, DL.eqB, DL.eqS, DL.tstE, DL.truB, DL.boolE, DL.andT, DL.orT, DL.notT, DL.andE, DL.orE, DL.notE, DL.ifE, DL.chainE, DL.tupE, DL.lstE, DL.lstC, DL.isNP, DL.notNP, DL.isNon, DL.lenP, DL.runD, DL.Res.out, DL.startD, DL.itE, DL.itR, DL.seqF, DL.rng1, DL.rng2, DL.forS, DL.tgN, DL.tgT, DL.tgCons, DL.tgNil, DL.slE, DL.slL, DL.noO, DL.someO, DL.inP, DL.notInP, DL.wipeD, DL.endW, DL.turn, DL.item, DL.forX, DL.ownS, DL.szA, DL.appO, DL.coldS, DL.ownL, DL.revF, DL.allF, DL.anyF, L2.atI, L2.ixN, isiP, isiB, tyN, k5, placeB]
  · simp [m_is_place, b_is_place, DL.seqS, DL.Res.seq, DL.setIxS, DL.setS, DL.exprS, DL.retS, DL.retN, DL.ifS, DL.nilS, DL.brkS, DL.cntS, DL.callB, DL.callM, DL.intF, DL.boolF, DL.consA, DL.nilA, DL.starA, DL.bin, DL.un1, DL.negP, DL.bnd, DL.Out.bnd, DL.Out.thenS, DL.opt, DL.varE, DL.litE, DL.ixP, DL.seqOf, DL.rlistOf, DL.listOf, DL.setItem, DL.ret, DL.addP, DL.subP, DL.mulP, DL.modP, DL.fdivP, DL.powP, DL.intP, DL.geP, DL.leP, DL.gtP, DL.ltP, DL.ltB, DL.eqP, DL.neP, DL.eqB, DL.eqS, DL.tstE, DL.truB, DL.boolE, DL.andT, DL.orT, DL.notT, DL.andE, DL.orE, DL.notE, DL.ifE, DL.chainE, DL.tupE, DL.lstE, DL.lstC, DL.isNP, DL.notNP, DL.isNon, DL.lenP, DL.runD, DL.Res.out, DL.startD, DL.itE, DL.itR, DL.seqF, DL.rng1, DL.rng2, DL.forS, DL.tgN, DL.tgT, DL.tgCons, DL.tgNil, DL.slE, DL.slL, DL.noO, DL.someO, DL.inP, DL.notInP, DL.wipeD, DL.endW, DL.turn, DL.item, DL.forX, DL.ownS, DL.szA, DL.appO, DL.coldS, DL.ownL, DL.revF, DL.allF, DL.anyF, L2.atI, L2.ixN, isiP, isiB, tyN, k3, placeB]
    by_cases e : i < 0
    · have e' : ¬ 0 ≤ i := by omega
      simp [e, e']
    · have e' : 0 ≤ i := by omega
      simp [e, e']
def fp : D → PyData
  | .str s => .str s
  | .int i => .int i
  | _ => .none
theorem toP_flat {d : D} (h : flat d = true) : toP d = some (fp d) ∧ PyData.canLay0 (fp d) = true ∧ PyData.depth (fp d) = 0 := by
  rcases flat_cases h with ⟨s, rfl, hs⟩ | ⟨i, rfl⟩
  · exact ⟨by simp [toP, fp], OkS.lay hs, by simp [fp, PyData.depth]⟩
  · exact ⟨by simp [toP, fp], by simp [fp, PyData.canLay0], by simp [fp, PyData.depth]⟩
theorem toPs_flat : ∀ {xs : List D}, xs.all flat = true → toPs xs = some (xs.map fp) ∧ PyData.canLayAll0 (xs.map fp) = true ∧ PyData.depthAll (xs.map fp) = 0
  | [], _ => by simp [toPs, PyData.canLayAll0, PyData.depthAll]
  | d :: ds, h => by
    rw [List.all_cons, Bool.and_eq_true] at h
    obtain ⟨h1, h2, h3⟩ := toP_flat h.1
    obtain ⟨g1, g2, g3⟩ := toPs_flat h.2
    simp [toPs, PyData.canLayAll0, PyData.depthAll, h1, h2, h3, g1, g2, g3]
def neverB (xs : List D) : Bool := match xs with
  | [.str s] => s == ("never" : PySem.Str)
  | _ => false
theorem never_eq {xs : List D} (h : xs.all flat = true) {c : Cells} : eqB (.tup xs) (.tup [.str "never"]) c = some (neverB xs) := by
  obtain ⟨g1, g2, g3⟩ := toPs_flat h
  have hn : PyData.canLay0 (.str ("never" : PySem.Str)) = true := by decide +kernel
  have e : PyData.eqvAll (xs.map fp) [.str "never"] = neverB xs := by
    match xs, h with
    | [], _ => simp [PyData.eqvAll, neverB]
    | [d], h =>
      have hd : flat d = true := by simpa using h
      rcases flat_cases hd with ⟨s, rfl, hs⟩ | ⟨i, rfl⟩
      · simp [PyData.eqvAll, PyData.eqv, neverB, fp]
      · simp [PyData.eqvAll, PyData.eqv, neverB, fp]
    | d :: e :: ds, _ => cases d <;> simp [PyData.eqvAll, neverB]
  have hs1 : SeqAt.shaped (.tuple (xs.map fp)) = true := by simp [SeqAt.shaped, PyData.canLay0, g2, PyData.depth, g3]
  have hs2 : SeqAt.shaped (.tuple [.str "never"]) = true := by simp [SeqAt.shaped, PyData.canLay0, PyData.canLayAll0, PyData.depth, PyData.depthAll] ; simpa [PyData.canLay0] using hn
  simp [eqB, eqS, der, toP, toPs, g1, hs1, hs2, PyData.eqv, e]
theorem in_rel {d : D} (h : flat d = true) {c : Cells} (q : D) (hq : seqOf q c = some [.str "bf", .str "so", .str "vis", .str "ar", .str "ss", .str "si"]) (hs : ∀ z, q ≠ .str z) : inB d q c = some (relB d) := by
  obtain ⟨h1, h2, h3⟩ := toP_flat h
  have hl : PyData.canLayAll0 [.str ("bf" : PySem.Str), .str "so", .str "vis", .str "ar", .str "ss", .str "si"] = true := by decide +kernel
  have e : inB d q c = (match seqOf q c with
    | some ys => match toPs ys, toP d with
      | some qs, some p => if PyData.canLayAll0 qs && PyData.canLay0 p && decide (p.depth < 60) then some (qs.any fun q => PyData.eqv q p) else none
      | _, _ => none
    | none => none) := by
    cases q <;> first | rfl | exact absurd rfl (hs _)
  rw [e, hq]
  simp only [toPs, toP, h1, hl, h2, h3]
  rcases flat_cases h with ⟨s, rfl, hs⟩ | ⟨i, rfl⟩
  · simp [fp, PyData.eqv, relB]
  · simp [fp, PyData.eqv, relB]
theorem caps_are : ("ABCDEFGHIJKLMNOPQRSTUVWXYZ" : PySem.Str).cps.toList = (List.range 26).map (65 + ·) := by decide +kernel
theorem toPs_chars : ∀ l : List Nat, toPs (l.map fun n => D.str ⟨#[n]⟩) = some (l.map fun n => PyData.str ⟨#[n]⟩)
  | [] => by simp [toPs]
  | n :: l => by simp [toPs, toP, toPs_chars l]
theorem lay_chars : ∀ l : List Nat, (∀ n ∈ l, n < 1000) → PyData.canLayAll0 (l.map fun n => PyData.str ⟨#[n]⟩) = true
  | [], _ => by simp [PyData.canLayAll0]
  | n :: l, h => by
    have := h n (by simp)
    have ih := lay_chars l fun m hm => h m (by simp [hm])
    simp only [List.map_cons, PyData.canLayAll0, ih, Bool.and_true, PyData.canLay0]
    simp [PyData.strOk]
    omega
theorem in_caps {d : D} (h : flat d = true) {c : Cells} : inB d (.lst (chars "ABCDEFGHIJKLMNOPQRSTUVWXYZ")) c = some (markB d) := by
  obtain ⟨h1, h2, h3⟩ := toP_flat h
  have hl := lay_chars ((List.range 26).map (65 + ·)) fun n hn => by
    obtain ⟨k, hk, rfl⟩ := List.mem_map.mp hn
    have := List.mem_range.mp hk
    omega
  have e : toPs (chars "ABCDEFGHIJKLMNOPQRSTUVWXYZ") = some (((List.range 26).map (65 + ·)).map fun n => PyData.str ⟨#[n]⟩) := by
    unfold chars
    rw [caps_are, toPs_chars]
  simp only [inB, seqOf, rlistOf, DL.listOf, e, h1, hl, h2, h3]
  rcases flat_cases h with ⟨s, rfl, hs⟩ | ⟨i, rfl⟩
  · simp only [fp, markB, strIn]
    by_cases e1 : s.length = 1
    · obtain ⟨k, hk⟩ : ∃ k, s = ⟨#[k]⟩ := by
        obtain ⟨cps⟩ := s
        have e2 : cps.size = 1 := e1
        exact ⟨cps[0], by congr 1; exact Array.ext (by simpa using e2) fun i h1 h2 => by simp at h2; subst h2; rfl⟩
      subst hk
      rw [PySem.StrLaws.found_one, caps_are]
      simp only [PyData.eqv, e1]
      rw [if_pos (by decide)]
      refine congrArg some ?_
      rw [Bool.eq_iff_iff]
      simp [PyData.eqv, Str.mk.injEq]
    · have : ∀ n : Nat, ((⟨#[n]⟩ : PySem.Str) == s) = false := fun n => by
        rw [beq_eq_false_iff_ne]
        intro z
        subst z
        exact e1 rfl
      simp [PyData.eqv, e1, this]
  · simp [fp, PyData.eqv, markB]
theorem isA_eq {xs : List D} (h : xs.all flat = true) (hl : xs.length ≤ 4) {n : Int} {c : Cells} : m_is_atom [.tup xs, .int n] c = .ok (.bl (isA xs n)) c := by
  obtain ⟨k1, k2, k3, k4, k5, k6, k7, k8, k9, k10, k11, k12, k13, k14, k15⟩ := kit_b
  have en := never_eq h (c := c)
  have c0 : m_is_atom [.tup xs, .int n] c = (seqS (ifS (boolE (bin eqP (varE 0) (litE (.tup [(.str "never")])))) (retS (litE (.bl true))) (nilS)) (seqS (ifS (boolE (bin eqP (callB lenP (consA (varE 0) (nilA))) (litE (.int 2)))) (retS (andE (callM m_is_mark (consA (bin ixP (varE 0) (litE (.int 0))) (nilA))) (callM m_is_place (consA (bin ixP (varE 0) (litE (.int 1))) (consA (varE 1) (nilA)))))) (nilS)) (seqS (ifS (orT (boolE (bin neP (callB lenP (consA (varE 0) (nilA))) (litE (.int 3)))) (boolE (bin notInP (bin ixP (varE 0) (litE (.int 0))) (litE (.tup [(.str "bf"), (.str "so"), (.str "vis"), (.str "ar"), (.str "ss"), (.str "si")]))))) (retS (litE (.bl false))) (nilS)) (retS (andE (callM m_is_place (consA (bin ixP (varE 0) (litE (.int 1))) (consA (varE 1) (nilA)))) (andE (callM m_is_place (consA (bin ixP (varE 0) (litE (.int 2))) (consA (varE 1) (nilA)))) (bin neP (bin ixP (varE 0) (litE (.int 1))) (bin ixP (varE 0) (litE (.int 2)))))))))  [.sh (.tup xs), .sh (.int n)] c).out := by
    simp [m_is_atom, b_is_atom, DL.seqS, DL.Res.seq, DL.setIxS, DL.setS, DL.exprS, DL.retS, DL.retN, DL.ifS, DL.nilS, DL.brkS, DL.cntS, DL.callB, DL.callM, DL.intF, DL.boolF, DL.consA, DL.nilA, DL.starA, DL.bin, DL.un1, DL.negP, DL.bnd, DL.Out.bnd, DL.Out.thenS, DL.opt, DL.varE, DL.litE, DL.ixP, DL.seqOf, DL.rlistOf, DL.listOf, DL.setItem, DL.ret, DL.addP, DL.subP, DL.mulP, DL.modP, DL.fdivP, DL.powP, DL.intP, DL.geP, DL.leP, DL.gtP, DL.ltP, DL.ltB, DL.eqP, DL.neP, DL.eqB, DL.eqS, DL.tstE, DL.truB, DL.boolE, DL.andT, DL.orT, DL.notT, DL.andE, DL.orE, DL.notE, DL.ifE, DL.chainE, DL.tupE, DL.lstE, DL.lstC, DL.isNP, DL.notNP, DL.isNon, DL.lenP, DL.runD, DL.Res.out, DL.startD, DL.itE, DL.itR, DL.seqF, DL.rng1, DL.rng2, DL.forS, DL.tgN, DL.tgT, DL.tgCons, DL.tgNil, DL.slE, DL.slL, DL.noO, DL.someO, DL.inP, DL.notInP, DL.wipeD, DL.endW, DL.turn, DL.item, DL.forX, DL.ownS, DL.szA, DL.appO, DL.coldS, DL.ownL, DL.revF, DL.allF, DL.anyF, L2.atI, L2.ixN, isiP, isiB, tyN, k15]
  have e1 : (boolE (bin eqP (varE 0) (litE (.tup [(.str "never")])))) [.sh (.tup xs), .sh (.int n)] c = .ok (neverB xs) c := by
    simp [DL.boolE, DL.bin, DL.eqP, DL.bnd, DL.Out.bnd, DL.varE, DL.litE, DL.opt, en]
  rw [c0]
  unfold DL.seqS DL.ifS
  rw [e1]
  match xs, h, hl with
  | [], _, _ => simp [DL.seqS, DL.Res.seq, DL.setIxS, DL.setS, DL.exprS, DL.retS, DL.retN, DL.ifS, DL.nilS, DL.brkS, DL.cntS, DL.callB, DL.callM, DL.intF, DL.boolF, DL.consA, DL.nilA, DL.starA, DL.bin, DL.un1, DL.negP, DL.bnd, DL.Out.bnd, DL.Out.thenS, DL.opt, DL.varE, DL.litE, DL.ixP, DL.seqOf, DL.rlistOf, DL.listOf, DL.setItem, DL.ret, DL.addP, DL.subP, DL.mulP, DL.modP, DL.fdivP, DL.powP, DL.intP, DL.geP, DL.leP, DL.gtP, DL.ltP, DL.ltB, DL.eqP, DL.neP, DL.eqB, DL.eqS, DL.tstE, DL.truB, DL.boolE, DL.andT, DL.orT, DL.notT, DL.andE, DL.orE, DL.notE, DL.ifE, DL.chainE, DL.tupE, DL.lstE, DL.lstC, DL.isNP, DL.notNP, DL.isNon, DL.lenP, DL.runD, DL.Res.out, DL.startD, DL.itE, DL.itR, DL.seqF, DL.rng1, DL.rng2, DL.forS, DL.tgN, DL.tgT, DL.tgCons, DL.tgNil, DL.slE, DL.slL, DL.noO, DL.someO, DL.inP, DL.notInP, DL.wipeD, DL.endW, DL.turn, DL.item, DL.forX, DL.ownS, DL.szA, DL.appO, DL.coldS, DL.ownL, DL.revF, DL.allF, DL.anyF, L2.atI, L2.ixN, neverB, isA]
  | [a], h, _ =>
    have ha : flat a = true := by simpa using h
    rcases flat_cases ha with ⟨s, rfl, hs⟩ | ⟨i, rfl⟩
    · by_cases e : s = "never" <;> simp [DL.seqS, DL.Res.seq, DL.setIxS, DL.setS, DL.exprS, DL.retS, DL.retN, DL.ifS, DL.nilS, DL.brkS, DL.cntS, DL.callB, DL.callM, DL.intF, DL.boolF, DL.consA, DL.nilA, DL.starA, DL.bin, DL.un1, DL.negP, DL.bnd, DL.Out.bnd, DL.Out.thenS, DL.opt, DL.varE, DL.litE, DL.ixP, DL.seqOf, DL.rlistOf, DL.listOf, DL.setItem, DL.ret, DL.addP, DL.subP, DL.mulP, DL.modP, DL.fdivP, DL.powP, DL.intP, DL.geP, DL.leP, DL.gtP, DL.ltP, DL.ltB, DL.eqP, DL.neP, DL.eqB, DL.eqS, DL.tstE, DL.truB, DL.boolE, DL.andT, DL.orT, DL.notT, DL.andE, DL.orE, DL.notE, DL.ifE, DL.chainE, DL.tupE, DL.lstE, DL.lstC, DL.isNP, DL.notNP, DL.isNon, DL.lenP, DL.runD, DL.Res.out, DL.startD, DL.itE, DL.itR, DL.seqF, DL.rng1, DL.rng2, DL.forS, DL.tgN, DL.tgT, DL.tgCons, DL.tgNil, DL.slE, DL.slL, DL.noO, DL.someO, DL.inP, DL.notInP, DL.wipeD, DL.endW, DL.turn, DL.item, DL.forX, DL.ownS, DL.szA, DL.appO, DL.coldS, DL.ownL, DL.revF, DL.allF, DL.anyF, L2.atI, L2.ixN, neverB, isA, e]
      exact fun z => e z.symm
    · simp [DL.seqS, DL.Res.seq, DL.setIxS, DL.setS, DL.exprS, DL.retS, DL.retN, DL.ifS, DL.nilS, DL.brkS, DL.cntS, DL.callB, DL.callM, DL.intF, DL.boolF, DL.consA, DL.nilA, DL.starA, DL.bin, DL.un1, DL.negP, DL.bnd, DL.Out.bnd, DL.Out.thenS, DL.opt, DL.varE, DL.litE, DL.ixP, DL.seqOf, DL.rlistOf, DL.listOf, DL.setItem, DL.ret, DL.addP, DL.subP, DL.mulP, DL.modP, DL.fdivP, DL.powP, DL.intP, DL.geP, DL.leP, DL.gtP, DL.ltP, DL.ltB, DL.eqP, DL.neP, DL.eqB, DL.eqS, DL.tstE, DL.truB, DL.boolE, DL.andT, DL.orT, DL.notT, DL.andE, DL.orE, DL.notE, DL.ifE, DL.chainE, DL.tupE, DL.lstE, DL.lstC, DL.isNP, DL.notNP, DL.isNon, DL.lenP, DL.runD, DL.Res.out, DL.startD, DL.itE, DL.itR, DL.seqF, DL.rng1, DL.rng2, DL.forS, DL.tgN, DL.tgT, DL.tgCons, DL.tgNil, DL.slE, DL.slL, DL.noO, DL.someO, DL.inP, DL.notInP, DL.wipeD, DL.endW, DL.turn, DL.item, DL.forX, DL.ownS, DL.szA, DL.appO, DL.coldS, DL.ownL, DL.revF, DL.allF, DL.anyF, L2.atI, L2.ixN, neverB, isA]
  | [a, b], h, _ =>
    simp only [List.all_cons, List.all_nil, Bool.and_true, Bool.and_eq_true] at h
    have := mark_eq h.1 (c := c)
    have := place_eq h.2 (c := c) (n := n)
    simp [DL.seqS, DL.Res.seq, DL.setIxS, DL.setS, DL.exprS, DL.retS, DL.retN, DL.ifS, DL.nilS, DL.brkS, DL.cntS, DL.callB, DL.callM, DL.intF, DL.boolF, DL.consA, DL.nilA, DL.starA, DL.bin, DL.un1, DL.negP, DL.bnd, DL.Out.bnd, DL.Out.thenS, DL.opt, DL.varE, DL.litE, DL.ixP, DL.seqOf, DL.rlistOf, DL.listOf, DL.setItem, DL.ret, DL.addP, DL.subP, DL.mulP, DL.modP, DL.fdivP, DL.powP, DL.intP, DL.geP, DL.leP, DL.gtP, DL.ltP, DL.ltB, DL.eqP, DL.neP, DL.eqB, DL.eqS, DL.tstE, DL.truB, DL.boolE, DL.andT, DL.orT, DL.notT, DL.andE, DL.orE, DL.notE, DL.ifE, DL.chainE, DL.tupE, DL.lstE, DL.lstC, DL.isNP, DL.notNP, DL.isNon, DL.lenP, DL.runD, DL.Res.out, DL.startD, DL.itE, DL.itR, DL.seqF, DL.rng1, DL.rng2, DL.forS, DL.tgN, DL.tgT, DL.tgCons, DL.tgNil, DL.slE, DL.slL, DL.noO, DL.someO, DL.inP, DL.notInP, DL.wipeD, DL.endW, DL.turn, DL.item, DL.forX, DL.ownS, DL.szA, DL.appO, DL.coldS, DL.ownL, DL.revF, DL.allF, DL.anyF, L2.atI, L2.ixN, neverB, isA, *]
    cases markB a <;> simp
  | [a, b, d], h, _ =>
    simp only [List.all_cons, List.all_nil, Bool.and_true, Bool.and_eq_true] at h
    have h1 := in_rel h.1 (c := c) (.tup [(.str "bf"), (.str "so"), (.str "vis"), (.str "ar"), (.str "ss"), (.str "si")]) rfl (fun z e => by cases e)
    have h2 := place_eq h.2.1 (c := c) (n := n)
    have h3 := place_eq h.2.2 (c := c) (n := n)
    rcases flat_cases h.2.1 with ⟨s, rfl, hs⟩ | ⟨i, rfl⟩
    · cases hr : relB a <;> simp [DL.seqS, DL.Res.seq, DL.setIxS, DL.setS, DL.exprS, DL.retS, DL.retN, DL.ifS, DL.nilS, DL.brkS, DL.cntS, DL.callB, DL.callM, DL.intF, DL.boolF, DL.consA, DL.nilA, DL.starA, DL.bin, DL.un1, DL.negP, DL.bnd, DL.Out.bnd, DL.Out.thenS, DL.opt, DL.varE, DL.litE, DL.ixP, DL.seqOf, DL.rlistOf, DL.listOf, DL.setItem, DL.ret, DL.addP, DL.subP, DL.mulP, DL.modP, DL.fdivP, DL.powP, DL.intP, DL.geP, DL.leP, DL.gtP, DL.ltP, DL.ltB, DL.eqP, DL.neP, DL.eqB, DL.eqS, DL.tstE, DL.truB, DL.boolE, DL.andT, DL.orT, DL.notT, DL.andE, DL.orE, DL.notE, DL.ifE, DL.chainE, DL.tupE, DL.lstE, DL.lstC, DL.isNP, DL.notNP, DL.isNon, DL.lenP, DL.runD, DL.Res.out, DL.startD, DL.itE, DL.itR, DL.seqF, DL.rng1, DL.rng2, DL.forS, DL.tgN, DL.tgT, DL.tgCons, DL.tgNil, DL.slE, DL.slL, DL.noO, DL.someO, DL.inP, DL.notInP, DL.wipeD, DL.endW, DL.turn, DL.item, DL.forX, DL.ownS, DL.szA, DL.appO, DL.coldS, DL.ownL, DL.revF, DL.allF, DL.anyF, L2.atI, L2.ixN, neverB, isA, notInP, h1, hr, h2, placeB]
    · cases hp : placeB (.int i) n <;> rw [hp] at h2
      · cases hr : relB a <;> simp [DL.seqS, DL.Res.seq, DL.setIxS, DL.setS, DL.exprS, DL.retS, DL.retN, DL.ifS, DL.nilS, DL.brkS, DL.cntS, DL.callB, DL.callM, DL.intF, DL.boolF, DL.consA, DL.nilA, DL.starA, DL.bin, DL.un1, DL.negP, DL.bnd, DL.Out.bnd, DL.Out.thenS, DL.opt, DL.varE, DL.litE, DL.ixP, DL.seqOf, DL.rlistOf, DL.listOf, DL.setItem, DL.ret, DL.addP, DL.subP, DL.mulP, DL.modP, DL.fdivP, DL.powP, DL.intP, DL.geP, DL.leP, DL.gtP, DL.ltP, DL.ltB, DL.eqP, DL.neP, DL.eqB, DL.eqS, DL.tstE, DL.truB, DL.boolE, DL.andT, DL.orT, DL.notT, DL.andE, DL.orE, DL.notE, DL.ifE, DL.chainE, DL.tupE, DL.lstE, DL.lstC, DL.isNP, DL.notNP, DL.isNon, DL.lenP, DL.runD, DL.Res.out, DL.startD, DL.itE, DL.itR, DL.seqF, DL.rng1, DL.rng2, DL.forS, DL.tgN, DL.tgT, DL.tgCons, DL.tgNil, DL.slE, DL.slL, DL.noO, DL.someO, DL.inP, DL.notInP, DL.wipeD, DL.endW, DL.turn, DL.item, DL.forX, DL.ownS, DL.szA, DL.appO, DL.coldS, DL.ownL, DL.revF, DL.allF, DL.anyF, L2.atI, L2.ixN, neverB, isA, notInP, h1, hr, h2, hp]
      · rcases flat_cases h.2.2 with ⟨s, rfl, hs⟩ | ⟨j, rfl⟩
        · cases hr : relB a <;> simp [DL.seqS, DL.Res.seq, DL.setIxS, DL.setS, DL.exprS, DL.retS, DL.retN, DL.ifS, DL.nilS, DL.brkS, DL.cntS, DL.callB, DL.callM, DL.intF, DL.boolF, DL.consA, DL.nilA, DL.starA, DL.bin, DL.un1, DL.negP, DL.bnd, DL.Out.bnd, DL.Out.thenS, DL.opt, DL.varE, DL.litE, DL.ixP, DL.seqOf, DL.rlistOf, DL.listOf, DL.setItem, DL.ret, DL.addP, DL.subP, DL.mulP, DL.modP, DL.fdivP, DL.powP, DL.intP, DL.geP, DL.leP, DL.gtP, DL.ltP, DL.ltB, DL.eqP, DL.neP, DL.eqB, DL.eqS, DL.tstE, DL.truB, DL.boolE, DL.andT, DL.orT, DL.notT, DL.andE, DL.orE, DL.notE, DL.ifE, DL.chainE, DL.tupE, DL.lstE, DL.lstC, DL.isNP, DL.notNP, DL.isNon, DL.lenP, DL.runD, DL.Res.out, DL.startD, DL.itE, DL.itR, DL.seqF, DL.rng1, DL.rng2, DL.forS, DL.tgN, DL.tgT, DL.tgCons, DL.tgNil, DL.slE, DL.slL, DL.noO, DL.someO, DL.inP, DL.notInP, DL.wipeD, DL.endW, DL.turn, DL.item, DL.forX, DL.ownS, DL.szA, DL.appO, DL.coldS, DL.ownL, DL.revF, DL.allF, DL.anyF, L2.atI, L2.ixN, neverB, isA, notInP, h1, hr, h2, h3, hp, placeB]
        · cases hq : placeB (.int j) n <;> rw [hq] at h3
          · cases hr : relB a <;> simp [DL.seqS, DL.Res.seq, DL.setIxS, DL.setS, DL.exprS, DL.retS, DL.retN, DL.ifS, DL.nilS, DL.brkS, DL.cntS, DL.callB, DL.callM, DL.intF, DL.boolF, DL.consA, DL.nilA, DL.starA, DL.bin, DL.un1, DL.negP, DL.bnd, DL.Out.bnd, DL.Out.thenS, DL.opt, DL.varE, DL.litE, DL.ixP, DL.seqOf, DL.rlistOf, DL.listOf, DL.setItem, DL.ret, DL.addP, DL.subP, DL.mulP, DL.modP, DL.fdivP, DL.powP, DL.intP, DL.geP, DL.leP, DL.gtP, DL.ltP, DL.ltB, DL.eqP, DL.neP, DL.eqB, DL.eqS, DL.tstE, DL.truB, DL.boolE, DL.andT, DL.orT, DL.notT, DL.andE, DL.orE, DL.notE, DL.ifE, DL.chainE, DL.tupE, DL.lstE, DL.lstC, DL.isNP, DL.notNP, DL.isNon, DL.lenP, DL.runD, DL.Res.out, DL.startD, DL.itE, DL.itR, DL.seqF, DL.rng1, DL.rng2, DL.forS, DL.tgN, DL.tgT, DL.tgCons, DL.tgNil, DL.slE, DL.slL, DL.noO, DL.someO, DL.inP, DL.notInP, DL.wipeD, DL.endW, DL.turn, DL.item, DL.forX, DL.ownS, DL.szA, DL.appO, DL.coldS, DL.ownL, DL.revF, DL.allF, DL.anyF, L2.atI, L2.ixN, neverB, isA, notInP, h1, hr, h2, h3, hp, hq]
          · cases hr : relB a <;> simp [DL.seqS, DL.Res.seq, DL.setIxS, DL.setS, DL.exprS, DL.retS, DL.retN, DL.ifS, DL.nilS, DL.brkS, DL.cntS, DL.callB, DL.callM, DL.intF, DL.boolF, DL.consA, DL.nilA, DL.starA, DL.bin, DL.un1, DL.negP, DL.bnd, DL.Out.bnd, DL.Out.thenS, DL.opt, DL.varE, DL.litE, DL.ixP, DL.seqOf, DL.rlistOf, DL.listOf, DL.setItem, DL.ret, DL.addP, DL.subP, DL.mulP, DL.modP, DL.fdivP, DL.powP, DL.intP, DL.geP, DL.leP, DL.gtP, DL.ltP, DL.ltB, DL.eqP, DL.neP, DL.eqB, DL.eqS, DL.tstE, DL.truB, DL.boolE, DL.andT, DL.orT, DL.notT, DL.andE, DL.orE, DL.notE, DL.ifE, DL.chainE, DL.tupE, DL.lstE, DL.lstC, DL.isNP, DL.notNP, DL.isNon, DL.lenP, DL.runD, DL.Res.out, DL.startD, DL.itE, DL.itR, DL.seqF, DL.rng1, DL.rng2, DL.forS, DL.tgN, DL.tgT, DL.tgCons, DL.tgNil, DL.slE, DL.slL, DL.noO, DL.someO, DL.inP, DL.notInP, DL.wipeD, DL.endW, DL.turn, DL.item, DL.forX, DL.ownS, DL.szA, DL.appO, DL.coldS, DL.ownL, DL.revF, DL.allF, DL.anyF, L2.atI, L2.ixN, neverB, isA, notInP, h1, hr, h2, h3, hp, hq, difB]
  | [a, b, d, e], h, _ => simp [DL.seqS, DL.Res.seq, DL.setIxS, DL.setS, DL.exprS, DL.retS, DL.retN, DL.ifS, DL.nilS, DL.brkS, DL.cntS, DL.callB, DL.callM, DL.intF, DL.boolF, DL.consA, DL.nilA, DL.starA, DL.bin, DL.un1, DL.negP, DL.bnd, DL.Out.bnd, DL.Out.thenS, DL.opt, DL.varE, DL.litE, DL.ixP, DL.seqOf, DL.rlistOf, DL.listOf, DL.setItem, DL.ret, DL.addP, DL.subP, DL.mulP, DL.modP, DL.fdivP, DL.powP, DL.intP, DL.geP, DL.leP, DL.gtP, DL.ltP, DL.ltB, DL.eqP, DL.neP, DL.eqB, DL.eqS, DL.tstE, DL.truB, DL.boolE, DL.andT, DL.orT, DL.notT, DL.andE, DL.orE, DL.notE, DL.ifE, DL.chainE, DL.tupE, DL.lstE, DL.lstC, DL.isNP, DL.notNP, DL.isNon, DL.lenP, DL.runD, DL.Res.out, DL.startD, DL.itE, DL.itR, DL.seqF, DL.rng1, DL.rng2, DL.forS, DL.tgN, DL.tgT, DL.tgCons, DL.tgNil, DL.slE, DL.slL, DL.noO, DL.someO, DL.inP, DL.notInP, DL.wipeD, DL.endW, DL.turn, DL.item, DL.forX, DL.ownS, DL.szA, DL.appO, DL.coldS, DL.ownL, DL.revF, DL.allF, DL.anyF, L2.atI, L2.ixN, neverB, isA]
theorem isA_ints {xs : List D} (h : isA xs 4 = true) (hn : neverB xs = false) : ∃ is : List Int, xs.drop 1 = is.map D.int ∧ ∀ i ∈ is, 0 ≤ i ∧ i < 4 := by
  match xs, h, hn with
  | [.str s], h, hn => simp [isA] at h; simp [neverB] at hn; exact absurd h.symm hn
  | [a, b], h, _ =>
    simp only [isA, Bool.and_eq_true] at h
    cases b with
    | int i => simp [placeB] at h; exact ⟨[i], rfl, fun j hj => by simp at hj; subst hj; exact h.2⟩
    | _ => simp [placeB] at h
  | [a, b, d], h, _ =>
    simp only [isA, Bool.and_eq_true] at h
    obtain ⟨_, h1, h2, _⟩ := h
    cases b with
    | int i =>
      cases d with
      | int j => simp [placeB] at h1 h2; exact ⟨[i, j], rfl, fun k hk => by simp at hk; rcases hk with rfl | rfl; exact h1; exact h2⟩
      | _ => simp [placeB] at h2
    | _ => simp [placeB] at h1
def intsOf (xs : List D) : List Int := xs.filterMap fun d => match d with
  | .int i => some i
  | _ => none
theorem intsOf_map (is : List Int) : intsOf (is.map D.int) = is := by
  induction is with
  | nil => rfl
  | cons i is ih => unfold intsOf at ih ⊢; simp [ih]
def atomB (a : List D) : Bool := !neverB a && isA a 4
def plcs (b : List (List D)) : List Int := b.flatMap fun a => intsOf (a.drop 1)
def sizeB (b : List (List D)) : Option Int :=
  if 1 ≤ b.length ∧ b.length ≤ 8 ∧ b.all atomB then
    (if (List.range (1 + maxI (plcs b)).toNat).all fun x => (plcs b).contains (x : Int) then some (1 + maxI (plcs b)) else none)
  else none
theorem flatT_of {b : List (List D)} (h : ∀ a ∈ b, flatT (.tup a) = true) {a : List D} (ha : a ∈ b) : a.all flat = true ∧ a.length ≤ 4 := by
  have := h a ha
  simp only [flatT, Bool.and_eq_true, decide_eq_true_eq] at this
  exact this
theorem places_eq {a : List D} {c : Cells} : m_places_of [.tup a] c = .ok (.lst (a.drop 1)) c := by
  simp [m_places_of, b_places_of, DL.seqS, DL.Res.seq, DL.setIxS, DL.setS, DL.exprS, DL.retS, DL.retN, DL.ifS, DL.nilS, DL.brkS, DL.cntS, DL.callB, DL.callM, DL.intF, DL.boolF, DL.consA, DL.nilA, DL.starA, DL.bin, DL.un1, DL.negP, DL.bnd, DL.Out.bnd, DL.Out.thenS, DL.opt, DL.varE, DL.litE, DL.setItem, DL.ret, DL.subP, DL.mulP, DL.modP, DL.fdivP, DL.powP, DL.intP, DL.geP, DL.leP, DL.gtP, DL.ltP, DL.eqP, DL.neP, DL.tstE, DL.boolE, DL.andT, DL.orT, DL.notT, DL.andE, DL.orE, DL.notE, DL.ifE, DL.chainE, DL.tupE, DL.lstE, DL.lstC, DL.isNP, DL.notNP, DL.runD, DL.Res.out, DL.startD, DL.itE, DL.itR, DL.rng2, DL.forS, DL.tgN, DL.tgT, DL.tgCons, DL.tgNil, DL.slE, DL.noO, DL.someO, DL.inP, DL.notInP, DL.wipeD, DL.endW, DL.turn, DL.item, DL.forX, DL.ownS, DL.szA, DL.appO, DL.coldS, DL.ownL, DL.revF, DL.allF, DL.anyF, L2.atI, L2.ixN, DL.eqB_int, DL.eqB_str, DL.eqB_bl, DL.eqB_non, DL.eqB_ni, DL.eqB_in, DL.eqB_ns, DL.eqB_sn, DL.eqB_is, DL.eqB_si, DL.rng1_nat, DL.rng1_int, DL.inB_str, DL.size_is, DL.seqOf_tup, DL.seqF_tup, DL.lenP_tup, DL.listG_tup, DL.listF_tup, DL.tupleF_tup, DL.ixP_tup, DL.truB_tup, DL.seqOf_lst, DL.seqF_lst, DL.lenP_lst, DL.listG_lst, DL.listF_lst, DL.tupleF_lst, DL.ixP_lst, DL.truB_lst, DL.seqOf_rol, DL.seqF_rol, DL.lenP_rol, DL.listG_rol, DL.listF_rol, DL.tupleF_rol, DL.ixP_rol, DL.truB_rol, DL.seqOf_cell, DL.lenP_cell, DL.listG_cell, DL.listF_cell, DL.tupleF_cell, DL.ixP_cell, DL.truB_cell, DL.rlistOf_lst, DL.rlistOf_rol, DL.rlistOf_cell, DL.listOf_lst, DL.listOf_cell, DL.lenP_str, DL.listG_str, DL.ixP_str, DL.truB_non, DL.truB_bl, DL.truB_int, DL.truB_str, DL.addP_int, DL.addP_str, DL.addP_tup, DL.addP_lst, DL.addP_lc, DL.addP_cl, DL.ltB_int, DL.ltB_str, DL.slL_str, DL.slL_tup, DL.slL_lst, DL.slL_rol, DL.slL_cell, DL.isNon_tup, DL.isNon_lst, DL.isNon_ins, DL.isNon_non, DL.isNon_int, DL.isNon_str, DL.isNon_bl, DL.isNon_cell, DL.insOf_ins, DL.insOf_cell, cut_from (i := 1) 1 rfl, listG, listF]
theorem toIs_map (is : List Int) : toIs (is.map D.int) = some is := by
  induction is with
  | nil => rfl
  | cons i is ih => simp [toIs, ih]
theorem never_flat {xs : List D} (h : xs.all flat = true) {c : Cells} : eqB (.tup xs) (.tup [.str "never"]) c = some (neverB xs) := never_eq h
theorem size_loop1 {b : List (List D)} {c : Cells} {d x y z : Slot} {G : Cells → Prop} (hG : G c) (h : ∀ a ∈ b, flatT (.tup a) = true) :
    if b.any (fun a => !atomB a) then ∃ δ', lp_size_of_1 G (b.map D.tup) [d, .un, x, y, z] c = .exc 1 [] δ' c else lp_size_of_1 G (b.map D.tup) [d, .un, x, y, z] c = .nx [d, .un, x, y, z] c := by
  have st : ∀ a ∈ b, turn [1] (tgN 1) lb_size_of_1 (.tup a) [d, .un, x, y, z] c = if !atomB a then .exc 1 [] [d, .sh (.tup a), x, y, z] c else .nx [d, .un, x, y, z] c := fun a ha => by
    obtain ⟨h1, h2⟩ := flatT_of h ha
    have e1 := never_flat h1 (c := c)
    have e2 := isA_eq h1 h2 (n := 4) (c := c)
    cases hn : neverB a <;> cases hi : isA a 4 <;> rw [hn] at e1 <;> rw [hi] at e2 <;> simp [atomB, hn, hi, turn, endW, lb_size_of_1, DL.seqS, DL.Res.seq, DL.setIxS, DL.setS, DL.exprS, DL.retS, DL.retN, DL.ifS, DL.nilS, DL.brkS, DL.cntS, DL.callB, DL.callM, DL.intF, DL.boolF, DL.consA, DL.nilA, DL.starA, DL.bin, DL.un1, DL.negP, DL.bnd, DL.Out.bnd, DL.Out.thenS, DL.opt, DL.varE, DL.litE, DL.setItem, DL.ret, DL.subP, DL.mulP, DL.modP, DL.fdivP, DL.powP, DL.intP, DL.geP, DL.leP, DL.gtP, DL.ltP, DL.eqP, DL.neP, DL.tstE, DL.boolE, DL.andT, DL.orT, DL.notT, DL.andE, DL.orE, DL.notE, DL.ifE, DL.chainE, DL.tupE, DL.lstE, DL.lstC, DL.isNP, DL.notNP, DL.runD, DL.Res.out, DL.startD, DL.itE, DL.itR, DL.rng2, DL.forS, DL.tgN, DL.tgT, DL.tgCons, DL.tgNil, DL.slE, DL.noO, DL.someO, DL.inP, DL.notInP, DL.wipeD, DL.endW, DL.turn, DL.item, DL.forX, DL.ownS, DL.szA, DL.appO, DL.coldS, DL.ownL, DL.revF, DL.allF, DL.anyF, L2.atI, L2.ixN, DL.eqB_int, DL.eqB_str, DL.eqB_bl, DL.eqB_non, DL.eqB_ni, DL.eqB_in, DL.eqB_ns, DL.eqB_sn, DL.eqB_is, DL.eqB_si, DL.rng1_nat, DL.rng1_int, DL.inB_str, DL.size_is, DL.seqOf_tup, DL.seqF_tup, DL.lenP_tup, DL.listG_tup, DL.listF_tup, DL.tupleF_tup, DL.ixP_tup, DL.truB_tup, DL.seqOf_lst, DL.seqF_lst, DL.lenP_lst, DL.listG_lst, DL.listF_lst, DL.tupleF_lst, DL.ixP_lst, DL.truB_lst, DL.seqOf_rol, DL.seqF_rol, DL.lenP_rol, DL.listG_rol, DL.listF_rol, DL.tupleF_rol, DL.ixP_rol, DL.truB_rol, DL.seqOf_cell, DL.lenP_cell, DL.listG_cell, DL.listF_cell, DL.tupleF_cell, DL.ixP_cell, DL.truB_cell, DL.rlistOf_lst, DL.rlistOf_rol, DL.rlistOf_cell, DL.listOf_lst, DL.listOf_cell, DL.lenP_str, DL.listG_str, DL.ixP_str, DL.truB_non, DL.truB_bl, DL.truB_int, DL.truB_str, DL.addP_int, DL.addP_str, DL.addP_tup, DL.addP_lst, DL.addP_lc, DL.addP_cl, DL.ltB_int, DL.ltB_str, DL.slL_str, DL.slL_tup, DL.slL_lst, DL.slL_rol, DL.slL_cell, DL.isNon_tup, DL.isNon_lst, DL.isNon_ins, DL.isNon_non, DL.isNon_int, DL.isNon_str, DL.isNon_bl, DL.isNon_cell, DL.insOf_ins, DL.insOf_cell, e1, e2, raiseS]
  unfold lp_size_of_1
  rw [forG_is hG (fun δ => δ = [d, .un, x, y, z]) rfl fun w hw δ hδ δ' c' e => by
    subst hδ
    obtain ⟨a, ha, rfl⟩ := List.mem_map.mp hw
    rw [st a ha] at e
    split at e
    · cases e
    · cases e; exact ⟨rfl, rfl⟩]
  refine lp_exc fun a ha => ?_
  rw [st a ha]
  split
  · exact ⟨_, rfl⟩
  · rfl
theorem size_loop2 {ps : List Int} {n : Nat} {c : Cells} {d y x : Slot} (hs : ps.length ≤ 100) :
    if (List.range n).any (fun i => !ps.contains (i : Int)) then ∃ δ', lp_size_of_2 (rangeD 0 n) [d, y, .sh (.lst (ps.map D.int)), x, .un] c = .exc 1 [] δ' c else lp_size_of_2 (rangeD 0 n) [d, y, .sh (.lst (ps.map D.int)), x, .un] c = .nx [d, y, .sh (.lst (ps.map D.int)), x, .un] c := by
  refine lp_exc fun i hi => ?_
  have e : inB (.int (i : Int)) (.lst (ps.map D.int)) c = some (ps.contains (i : Int)) := by
    rw [inB_good (n := 1) (fun z h => by cases h) rfl rfl (fun z hz => by obtain ⟨j, _, rfl⟩ := List.mem_map.mp hz; rfl) (by decide)]
    congr 1
    rw [List.any_map, Bool.eq_iff_iff]
    simp [beqD]
  cases hc : ps.contains (i : Int) <;> rw [hc] at e <;> simp [turn, endW, lb_size_of_2, DL.seqS, DL.Res.seq, DL.setIxS, DL.setS, DL.exprS, DL.retS, DL.retN, DL.ifS, DL.nilS, DL.brkS, DL.cntS, DL.callB, DL.callM, DL.intF, DL.boolF, DL.consA, DL.nilA, DL.starA, DL.bin, DL.un1, DL.negP, DL.bnd, DL.Out.bnd, DL.Out.thenS, DL.opt, DL.varE, DL.litE, DL.setItem, DL.ret, DL.subP, DL.mulP, DL.modP, DL.fdivP, DL.powP, DL.intP, DL.geP, DL.leP, DL.gtP, DL.ltP, DL.eqP, DL.neP, DL.tstE, DL.boolE, DL.andT, DL.orT, DL.notT, DL.andE, DL.orE, DL.notE, DL.ifE, DL.chainE, DL.tupE, DL.lstE, DL.lstC, DL.isNP, DL.notNP, DL.runD, DL.Res.out, DL.startD, DL.itE, DL.itR, DL.rng2, DL.forS, DL.tgN, DL.tgT, DL.tgCons, DL.tgNil, DL.slE, DL.noO, DL.someO, DL.inP, DL.notInP, DL.wipeD, DL.endW, DL.turn, DL.item, DL.forX, DL.ownS, DL.szA, DL.appO, DL.coldS, DL.ownL, DL.revF, DL.allF, DL.anyF, L2.atI, L2.ixN, DL.eqB_int, DL.eqB_str, DL.eqB_bl, DL.eqB_non, DL.eqB_ni, DL.eqB_in, DL.eqB_ns, DL.eqB_sn, DL.eqB_is, DL.eqB_si, DL.rng1_nat, DL.rng1_int, DL.inB_str, DL.size_is, DL.seqOf_tup, DL.seqF_tup, DL.lenP_tup, DL.listG_tup, DL.listF_tup, DL.tupleF_tup, DL.ixP_tup, DL.truB_tup, DL.seqOf_lst, DL.seqF_lst, DL.lenP_lst, DL.listG_lst, DL.listF_lst, DL.tupleF_lst, DL.ixP_lst, DL.truB_lst, DL.seqOf_rol, DL.seqF_rol, DL.lenP_rol, DL.listG_rol, DL.listF_rol, DL.tupleF_rol, DL.ixP_rol, DL.truB_rol, DL.seqOf_cell, DL.lenP_cell, DL.listG_cell, DL.listF_cell, DL.tupleF_cell, DL.ixP_cell, DL.truB_cell, DL.rlistOf_lst, DL.rlistOf_rol, DL.rlistOf_cell, DL.listOf_lst, DL.listOf_cell, DL.lenP_str, DL.listG_str, DL.ixP_str, DL.truB_non, DL.truB_bl, DL.truB_int, DL.truB_str, DL.addP_int, DL.addP_str, DL.addP_tup, DL.addP_lst, DL.addP_lc, DL.addP_cl, DL.ltB_int, DL.ltB_str, DL.slL_str, DL.slL_tup, DL.slL_lst, DL.slL_rol, DL.slL_cell, DL.isNon_tup, DL.isNon_lst, DL.isNon_ins, DL.isNon_non, DL.isNon_int, DL.isNon_str, DL.isNon_bl, DL.isNon_cell, DL.insOf_ins, DL.insOf_cell, notInP, e, raiseS]
theorem plcs_flat : ∀ {b : List (List D)}, b.all atomB = true → (b.flatMap fun a => a.drop 1) = (plcs b).map D.int ∧ ∀ i ∈ plcs b, 0 ≤ i ∧ i < 4
  | [], _ => ⟨rfl, fun i h => by cases h⟩
  | a :: b, h => by
    simp only [List.all_cons, Bool.and_eq_true, atomB, Bool.not_eq_true'] at h
    obtain ⟨⟨h1, h2⟩, h3⟩ := h
    obtain ⟨is, e, hi⟩ := isA_ints h2 h1
    obtain ⟨e', hj⟩ := plcs_flat (b := b) (by simpa [atomB] using h3)
    have ep : plcs (a :: b) = is ++ plcs b := by unfold plcs; rw [List.flatMap_cons, e, intsOf_map]
    rw [ep]
    refine ⟨by rw [List.flatMap_cons, e, e', List.map_append], fun i h => ?_⟩
    rcases List.mem_append.mp h with h | h
    · exact hi i h
    · exact hj i h
theorem plcs_len {b : List (List D)} (h : ∀ a ∈ b, flatT (.tup a) = true) (hl : b.length ≤ 8) : (plcs b).length ≤ 32 := by
  have key : ∀ b : List (List D), (∀ a ∈ b, flatT (.tup a) = true) → (plcs b).length ≤ 4 * b.length := by
    intro b
    induction b with
    | nil => intro _; exact Nat.le_refl _
    | cons a b ih =>
      intro h
      have h1 := (flatT_of h (a := a) (by simp)).2
      have h2 := ih fun x hx => h x (by simp [hx])
      have h3 : (intsOf (a.drop 1)).length ≤ (a.drop 1).length := List.length_filterMap_le _ _
      simp only [plcs, List.flatMap_cons, List.length_append, List.length_cons] at h2 ⊢
      simp only [List.length_drop] at h3
      omega
  have := key b h
  omega
theorem maxI_lo {is : List Int} (h : ∀ i ∈ is, 0 ≤ i ∧ i < 4) : 0 ≤ maxI is ∧ maxI is < 4 := by
  cases is with
  | nil => exact ⟨Int.le_refl _, by decide⟩
  | cons i is =>
    have h0 := h i (by simp)
    rcases foldl_max_mem is i with e | e
    · show 0 ≤ is.foldl max i ∧ is.foldl max i < 4
      rw [e]; exact h0
    · exact h _ (List.mem_cons_of_mem _ e)
/-- a value that shows these items now -/
def Shows (d : D) (xs : List D) (c : Cells) : Prop := d = .lst xs ∨ d = .tup xs ∨ ∃ k, d = .cell k ∧ c[k]? = some (Cell.lst xs)
theorem Shows.all {d : D} {xs : List D} {c : Cells} (h : Shows d xs c) : ∃ o, seqG d c = some (o, xs) ∧ gdOk (o, xs) c ∧ lenP [d] c = some (.int xs.length) ∧ tupleF [d] c = some (.tup xs) := by
  rcases h with rfl | rfl | ⟨k, rfl, hk⟩
  · exact ⟨none, rfl, trivial, rfl, rfl⟩
  · exact ⟨none, rfl, trivial, rfl, rfl⟩
  · exact ⟨some k, by simp [seqG, hk], hk, by simp [lenP_cell, hk], by simp [tupleF_cell, hk]⟩
theorem size_eq {b : List (List D)} {d : D} {c : Cells} (hd : Shows d (b.map D.tup) c) (h : ∀ a ∈ b, flatT (.tup a) = true) (hb : b.length ≤ 1000) :
    m_size_of [d] c = match sizeB b with
      | some n => .ok (.int n) c
      | none => .exc 1 [] c := by
  obtain ⟨o, hsf, hG, hln, _⟩ := hd.all
  rw [List.length_map] at hln
  by_cases hl : 1 ≤ b.length ∧ b.length ≤ 8
  · have e1 : ¬ ((b.length : Int) < 1) := by omega
    have e2 : ¬ ((8 : Int) < b.length) := by omega
    have l1 := size_loop1 hG (c := c) (d := .sh d) (x := .un) (y := .un) (z := .un) h
    cases ha : b.any (fun a => !atomB a) with
    | true =>
      rw [if_pos ha] at l1
      obtain ⟨δ', l1⟩ := l1
      have : b.all atomB = false := by
        rw [List.any_eq_true] at ha
        obtain ⟨a, h1, h2⟩ := ha
        rw [Bool.eq_false_iff]
        intro z
        have := List.all_eq_true.mp z a h1
        rw [this] at h2; cases h2
      simp [m_size_of, b_size_of, forXG, itG, DL.seqS, DL.Res.seq, DL.setIxS, DL.setS, DL.exprS, DL.retS, DL.retN, DL.ifS, DL.nilS, DL.brkS, DL.cntS, DL.callB, DL.callM, DL.intF, DL.boolF, DL.consA, DL.nilA, DL.starA, DL.bin, DL.un1, DL.negP, DL.bnd, DL.Out.bnd, DL.Out.thenS, DL.opt, DL.varE, DL.litE, DL.setItem, DL.ret, DL.subP, DL.mulP, DL.modP, DL.fdivP, DL.powP, DL.intP, DL.geP, DL.leP, DL.gtP, DL.ltP, DL.eqP, DL.neP, DL.tstE, DL.boolE, DL.andT, DL.orT, DL.notT, DL.andE, DL.orE, DL.notE, DL.ifE, DL.chainE, DL.tupE, DL.lstE, DL.lstC, DL.isNP, DL.notNP, DL.runD, DL.Res.out, DL.startD, DL.itE, DL.itR, DL.rng2, DL.forS, DL.tgN, DL.tgT, DL.tgCons, DL.tgNil, DL.slE, DL.noO, DL.someO, DL.inP, DL.notInP, DL.wipeD, DL.endW, DL.turn, DL.item, DL.forX, DL.ownS, DL.szA, DL.appO, DL.coldS, DL.ownL, DL.revF, DL.allF, DL.anyF, L2.atI, L2.ixN, DL.eqB_int, DL.eqB_str, DL.eqB_bl, DL.eqB_non, DL.eqB_ni, DL.eqB_in, DL.eqB_ns, DL.eqB_sn, DL.eqB_is, DL.eqB_si, DL.rng1_nat, DL.rng1_int, DL.inB_str, DL.size_is, DL.seqOf_tup, DL.seqF_tup, DL.lenP_tup, DL.listG_tup, DL.listF_tup, DL.tupleF_tup, DL.ixP_tup, DL.truB_tup, DL.seqOf_lst, DL.seqF_lst, DL.lenP_lst, DL.listG_lst, DL.listF_lst, DL.tupleF_lst, DL.ixP_lst, DL.truB_lst, DL.seqOf_rol, DL.seqF_rol, DL.lenP_rol, DL.listG_rol, DL.listF_rol, DL.tupleF_rol, DL.ixP_rol, DL.truB_rol, DL.seqOf_cell, DL.lenP_cell, DL.listG_cell, DL.listF_cell, DL.tupleF_cell, DL.ixP_cell, DL.truB_cell, DL.rlistOf_lst, DL.rlistOf_rol, DL.rlistOf_cell, DL.listOf_lst, DL.listOf_cell, DL.lenP_str, DL.listG_str, DL.ixP_str, DL.truB_non, DL.truB_bl, DL.truB_int, DL.truB_str, DL.addP_int, DL.addP_str, DL.addP_tup, DL.addP_lst, DL.addP_lc, DL.addP_cl, DL.ltB_int, DL.ltB_str, DL.slL_str, DL.slL_tup, DL.slL_lst, DL.slL_rol, DL.slL_cell, DL.isNon_tup, DL.isNon_lst, DL.isNon_ins, DL.isNon_non, DL.isNon_int, DL.isNon_str, DL.isNon_bl, DL.isNon_cell, DL.insOf_ins, DL.insOf_cell, hln, hsf, e1, e2, l1, sizeB, this]
    | false =>
      rw [if_neg (by rw [ha]; simp)] at l1
      have ha' : b.all atomB = true := by
        rw [List.all_eq_true]
        intro a h1
        have := List.any_eq_false.mp ha a h1
        simpa using this
      obtain ⟨p1, p2⟩ := plcs_flat ha'
      have pl := plcs_len h hl.2
      have lc : lc2EG (itG (varE 0)) [1, 4] (tgN 1) yesT (itE (callM m_places_of (consA (varE 1) nilA))) [4] (tgN 4) yesT (varE 4) [.sh d, .un, .un, .un, .un] c = .ok (.lst ((plcs b).map D.int)) c := by
        have e := lc2G_flat hG (α := List D) (β := D) (enc := D.tup) (enc1 := id) (tg := tgN 1) (tt := yesT) (mi1 := itE (callM m_places_of (consA (varE 1) nilA))) (vs1 := [4]) (tg1 := tgN 4) (tt1 := yesT) (te := varE 4) (δ := [.sh d, .un, .un, .un, .un]) (c := c)
          (inner := fun a => a.drop 1) (p := fun _ => true) (q := fun _ _ => true) (f := fun _ x => x) (xs := b) fun a ha => ⟨_, rfl, rfl, fun _ => ⟨by simp [DL.seqS, DL.Res.seq, DL.setIxS, DL.setS, DL.exprS, DL.retS, DL.retN, DL.ifS, DL.nilS, DL.brkS, DL.cntS, DL.callB, DL.callM, DL.intF, DL.boolF, DL.consA, DL.nilA, DL.starA, DL.bin, DL.un1, DL.negP, DL.bnd, DL.Out.bnd, DL.Out.thenS, DL.opt, DL.varE, DL.litE, DL.setItem, DL.ret, DL.subP, DL.mulP, DL.modP, DL.fdivP, DL.powP, DL.intP, DL.geP, DL.leP, DL.gtP, DL.ltP, DL.eqP, DL.neP, DL.tstE, DL.boolE, DL.andT, DL.orT, DL.notT, DL.andE, DL.orE, DL.notE, DL.ifE, DL.chainE, DL.tupE, DL.lstE, DL.lstC, DL.isNP, DL.notNP, DL.runD, DL.Res.out, DL.startD, DL.itE, DL.itR, DL.rng2, DL.forS, DL.tgN, DL.tgT, DL.tgCons, DL.tgNil, DL.slE, DL.noO, DL.someO, DL.inP, DL.notInP, DL.wipeD, DL.endW, DL.turn, DL.item, DL.forX, DL.ownS, DL.szA, DL.appO, DL.coldS, DL.ownL, DL.revF, DL.allF, DL.anyF, L2.atI, L2.ixN, DL.eqB_int, DL.eqB_str, DL.eqB_bl, DL.eqB_non, DL.eqB_ni, DL.eqB_in, DL.eqB_ns, DL.eqB_sn, DL.eqB_is, DL.eqB_si, DL.rng1_nat, DL.rng1_int, DL.inB_str, DL.size_is, DL.seqOf_tup, DL.seqF_tup, DL.lenP_tup, DL.listG_tup, DL.listF_tup, DL.tupleF_tup, DL.ixP_tup, DL.truB_tup, DL.seqOf_lst, DL.seqF_lst, DL.lenP_lst, DL.listG_lst, DL.listF_lst, DL.tupleF_lst, DL.ixP_lst, DL.truB_lst, DL.seqOf_rol, DL.seqF_rol, DL.lenP_rol, DL.listG_rol, DL.listF_rol, DL.tupleF_rol, DL.ixP_rol, DL.truB_rol, DL.seqOf_cell, DL.lenP_cell, DL.listG_cell, DL.listF_cell, DL.tupleF_cell, DL.ixP_cell, DL.truB_cell, DL.rlistOf_lst, DL.rlistOf_rol, DL.rlistOf_cell, DL.listOf_lst, DL.listOf_cell, DL.lenP_str, DL.listG_str, DL.ixP_str, DL.truB_non, DL.truB_bl, DL.truB_int, DL.truB_str, DL.addP_int, DL.addP_str, DL.addP_tup, DL.addP_lst, DL.addP_lc, DL.addP_cl, DL.ltB_int, DL.ltB_str, DL.slL_str, DL.slL_tup, DL.slL_lst, DL.slL_rol, DL.slL_cell, DL.isNon_tup, DL.isNon_lst, DL.isNon_ins, DL.isNon_non, DL.isNon_int, DL.isNon_str, DL.isNon_bl, DL.isNon_cell, DL.insOf_ins, DL.insOf_cell, places_eq], fun y hy => by simp [item, yesT, DL.seqS, DL.Res.seq, DL.setIxS, DL.setS, DL.exprS, DL.retS, DL.retN, DL.ifS, DL.nilS, DL.brkS, DL.cntS, DL.callB, DL.callM, DL.intF, DL.boolF, DL.consA, DL.nilA, DL.starA, DL.bin, DL.un1, DL.negP, DL.bnd, DL.Out.bnd, DL.Out.thenS, DL.opt, DL.varE, DL.litE, DL.setItem, DL.ret, DL.subP, DL.mulP, DL.modP, DL.fdivP, DL.powP, DL.intP, DL.geP, DL.leP, DL.gtP, DL.ltP, DL.eqP, DL.neP, DL.tstE, DL.boolE, DL.andT, DL.orT, DL.notT, DL.andE, DL.orE, DL.notE, DL.ifE, DL.chainE, DL.tupE, DL.lstE, DL.lstC, DL.isNP, DL.notNP, DL.runD, DL.Res.out, DL.startD, DL.itE, DL.itR, DL.rng2, DL.forS, DL.tgN, DL.tgT, DL.tgCons, DL.tgNil, DL.slE, DL.noO, DL.someO, DL.inP, DL.notInP, DL.wipeD, DL.endW, DL.turn, DL.item, DL.forX, DL.ownS, DL.szA, DL.appO, DL.coldS, DL.ownL, DL.revF, DL.allF, DL.anyF, L2.atI, L2.ixN, DL.eqB_int, DL.eqB_str, DL.eqB_bl, DL.eqB_non, DL.eqB_ni, DL.eqB_in, DL.eqB_ns, DL.eqB_sn, DL.eqB_is, DL.eqB_si, DL.rng1_nat, DL.rng1_int, DL.inB_str, DL.size_is, DL.seqOf_tup, DL.seqF_tup, DL.lenP_tup, DL.listG_tup, DL.listF_tup, DL.tupleF_tup, DL.ixP_tup, DL.truB_tup, DL.seqOf_lst, DL.seqF_lst, DL.lenP_lst, DL.listG_lst, DL.listF_lst, DL.tupleF_lst, DL.ixP_lst, DL.truB_lst, DL.seqOf_rol, DL.seqF_rol, DL.lenP_rol, DL.listG_rol, DL.listF_rol, DL.tupleF_rol, DL.ixP_rol, DL.truB_rol, DL.seqOf_cell, DL.lenP_cell, DL.listG_cell, DL.listF_cell, DL.tupleF_cell, DL.ixP_cell, DL.truB_cell, DL.rlistOf_lst, DL.rlistOf_rol, DL.rlistOf_cell, DL.listOf_lst, DL.listOf_cell, DL.lenP_str, DL.listG_str, DL.ixP_str, DL.truB_non, DL.truB_bl, DL.truB_int, DL.truB_str, DL.addP_int, DL.addP_str, DL.addP_tup, DL.addP_lst, DL.addP_lc, DL.addP_cl, DL.ltB_int, DL.ltB_str, DL.slL_str, DL.slL_tup, DL.slL_lst, DL.slL_rol, DL.slL_cell, DL.isNon_tup, DL.isNon_lst, DL.isNon_ins, DL.isNon_non, DL.isNon_int, DL.isNon_str, DL.isNon_bl, DL.isNon_cell, DL.insOf_ins, DL.insOf_cell]⟩⟩
        have e' : lc2G (gdOk (o, b.map D.tup)) (tgN 1) yesT (itE (callM m_places_of (consA (varE 1) nilA))) [4] (tgN 4) yesT (varE 4) [.sh d, .un, .un, .un, .un] (b.map D.tup) c = .ok ((plcs b).map D.int) c := by
          rw [e, ← p1]
          simp only [List.filter_eq_self.mpr (fun _ _ => rfl), List.map_id']
        have : (plcs b).length ≤ 16777216 := by omega
        simp [lc2EG, itG, DL.seqS, DL.Res.seq, DL.setIxS, DL.setS, DL.exprS, DL.retS, DL.retN, DL.ifS, DL.nilS, DL.brkS, DL.cntS, DL.callB, DL.callM, DL.intF, DL.boolF, DL.consA, DL.nilA, DL.starA, DL.bin, DL.un1, DL.negP, DL.bnd, DL.Out.bnd, DL.Out.thenS, DL.opt, DL.varE, DL.litE, DL.setItem, DL.ret, DL.subP, DL.mulP, DL.modP, DL.fdivP, DL.powP, DL.intP, DL.geP, DL.leP, DL.gtP, DL.ltP, DL.eqP, DL.neP, DL.tstE, DL.boolE, DL.andT, DL.orT, DL.notT, DL.andE, DL.orE, DL.notE, DL.ifE, DL.chainE, DL.tupE, DL.lstE, DL.lstC, DL.isNP, DL.notNP, DL.runD, DL.Res.out, DL.startD, DL.itE, DL.itR, DL.rng2, DL.forS, DL.tgN, DL.tgT, DL.tgCons, DL.tgNil, DL.slE, DL.noO, DL.someO, DL.inP, DL.notInP, DL.wipeD, DL.endW, DL.turn, DL.item, DL.forX, DL.ownS, DL.szA, DL.appO, DL.coldS, DL.ownL, DL.revF, DL.allF, DL.anyF, L2.atI, L2.ixN, DL.eqB_int, DL.eqB_str, DL.eqB_bl, DL.eqB_non, DL.eqB_ni, DL.eqB_in, DL.eqB_ns, DL.eqB_sn, DL.eqB_is, DL.eqB_si, DL.rng1_nat, DL.rng1_int, DL.inB_str, DL.size_is, DL.seqOf_tup, DL.seqF_tup, DL.lenP_tup, DL.listG_tup, DL.listF_tup, DL.tupleF_tup, DL.ixP_tup, DL.truB_tup, DL.seqOf_lst, DL.seqF_lst, DL.lenP_lst, DL.listG_lst, DL.listF_lst, DL.tupleF_lst, DL.ixP_lst, DL.truB_lst, DL.seqOf_rol, DL.seqF_rol, DL.lenP_rol, DL.listG_rol, DL.listF_rol, DL.tupleF_rol, DL.ixP_rol, DL.truB_rol, DL.seqOf_cell, DL.lenP_cell, DL.listG_cell, DL.listF_cell, DL.tupleF_cell, DL.ixP_cell, DL.truB_cell, DL.rlistOf_lst, DL.rlistOf_rol, DL.rlistOf_cell, DL.listOf_lst, DL.listOf_cell, DL.lenP_str, DL.listG_str, DL.ixP_str, DL.truB_non, DL.truB_bl, DL.truB_int, DL.truB_str, DL.addP_int, DL.addP_str, DL.addP_tup, DL.addP_lst, DL.addP_lc, DL.addP_cl, DL.ltB_int, DL.ltB_str, DL.slL_str, DL.slL_tup, DL.slL_lst, DL.slL_rol, DL.slL_cell, DL.isNon_tup, DL.isNon_lst, DL.isNon_ins, DL.isNon_non, DL.isNon_int, DL.isNon_str, DL.isNon_bl, DL.isNon_cell, DL.insOf_ins, DL.insOf_cell, hsf, e', Out.quiet, this, size_is]
      have hne : (plcs b).isEmpty = false := by
        match b, hl.1, ha' with
        | a :: b, _, ha' =>
          simp only [List.all_cons, Bool.and_eq_true, atomB, Bool.not_eq_true'] at ha'
          obtain ⟨⟨h1, h2⟩, h3⟩ := ha'
          obtain ⟨is, e, hi⟩ := isA_ints h2 h1
          have ep : plcs (a :: b) = is ++ plcs b := by unfold plcs; rw [List.flatMap_cons, e, intsOf_map]
          rw [ep]
          cases is with
          | cons i is => rfl
          | nil =>
            match a, h2, h1, e with
            | [.str s], h2, h1, _ => simp [isA] at h2; simp [neverB] at h1; exact absurd h2.symm h1
      obtain ⟨m0, m4⟩ := maxI_lo p2
      have er : (1 + maxI (plcs b)).toNat ≤ 16777216 := by omega
      have l2 := size_loop2 (ps := plcs b) (n := (1 + maxI (plcs b)).toNat) (c := c) (d := .sh d) (y := .un) (x := .sh (.int (1 + maxI (plcs b)))) (by omega)
      have b1 : 0 ≤ 1 + maxI (plcs b) := by omega
      have b2 : 1 + maxI (plcs b) ≤ 16777216 := by omega
      cases hr : (List.range (1 + maxI (plcs b)).toNat).any (fun i => !(plcs b).contains (i : Int)) with
      | true =>
        rw [if_pos hr] at l2
        obtain ⟨δ', l2⟩ := l2
        have : ((List.range (1 + maxI (plcs b)).toNat).all fun x => (plcs b).contains (x : Int)) = false := by
          rw [List.any_eq_true] at hr
          obtain ⟨a, h1, h2⟩ := hr
          rw [Bool.eq_false_iff]
          intro z
          have := List.all_eq_true.mp z a h1
          rw [this] at h2; cases h2
        have hsz : sizeB b = none := by
          unfold sizeB
          rw [if_pos ⟨hl.1, hl.2, ha'⟩, if_neg (by rw [this]; simp)]
        rw [hsz]
        simp [m_size_of, b_size_of, forXG, itG, DL.seqS, DL.Res.seq, DL.setIxS, DL.setS, DL.exprS, DL.retS, DL.retN, DL.ifS, DL.nilS, DL.brkS, DL.cntS, DL.callB, DL.callM, DL.intF, DL.boolF, DL.consA, DL.nilA, DL.starA, DL.bin, DL.un1, DL.negP, DL.bnd, DL.Out.bnd, DL.Out.thenS, DL.opt, DL.varE, DL.litE, DL.setItem, DL.ret, DL.subP, DL.mulP, DL.modP, DL.fdivP, DL.powP, DL.intP, DL.geP, DL.leP, DL.gtP, DL.ltP, DL.eqP, DL.neP, DL.tstE, DL.boolE, DL.andT, DL.orT, DL.notT, DL.andE, DL.orE, DL.notE, DL.ifE, DL.chainE, DL.tupE, DL.lstE, DL.lstC, DL.isNP, DL.notNP, DL.runD, DL.Res.out, DL.startD, DL.itE, DL.itR, DL.rng2, DL.forS, DL.tgN, DL.tgT, DL.tgCons, DL.tgNil, DL.slE, DL.noO, DL.someO, DL.inP, DL.notInP, DL.wipeD, DL.endW, DL.turn, DL.item, DL.forX, DL.ownS, DL.szA, DL.appO, DL.coldS, DL.ownL, DL.revF, DL.allF, DL.anyF, L2.atI, L2.ixN, DL.eqB_int, DL.eqB_str, DL.eqB_bl, DL.eqB_non, DL.eqB_ni, DL.eqB_in, DL.eqB_ns, DL.eqB_sn, DL.eqB_is, DL.eqB_si, DL.rng1_nat, DL.rng1_int, DL.inB_str, DL.size_is, DL.seqOf_tup, DL.seqF_tup, DL.lenP_tup, DL.listG_tup, DL.listF_tup, DL.tupleF_tup, DL.ixP_tup, DL.truB_tup, DL.seqOf_lst, DL.seqF_lst, DL.lenP_lst, DL.listG_lst, DL.listF_lst, DL.tupleF_lst, DL.ixP_lst, DL.truB_lst, DL.seqOf_rol, DL.seqF_rol, DL.lenP_rol, DL.listG_rol, DL.listF_rol, DL.tupleF_rol, DL.ixP_rol, DL.truB_rol, DL.seqOf_cell, DL.lenP_cell, DL.listG_cell, DL.listF_cell, DL.tupleF_cell, DL.ixP_cell, DL.truB_cell, DL.rlistOf_lst, DL.rlistOf_rol, DL.rlistOf_cell, DL.listOf_lst, DL.listOf_cell, DL.lenP_str, DL.listG_str, DL.ixP_str, DL.truB_non, DL.truB_bl, DL.truB_int, DL.truB_str, DL.addP_int, DL.addP_str, DL.addP_tup, DL.addP_lst, DL.addP_lc, DL.addP_cl, DL.ltB_int, DL.ltB_str, DL.slL_str, DL.slL_tup, DL.slL_lst, DL.slL_rol, DL.slL_cell, DL.isNon_tup, DL.isNon_lst, DL.isNon_ins, DL.isNon_non, DL.isNon_int, DL.isNon_str, DL.isNon_bl, DL.isNon_cell, DL.insOf_ins, DL.insOf_cell, hln, hsf, e1, e2, l1, lc, maxG, toIs_map, hne, b1, b2, l2]
      | false =>
        rw [if_neg (by rw [hr]; simp)] at l2
        have : ((List.range (1 + maxI (plcs b)).toNat).all fun x => (plcs b).contains (x : Int)) = true := by
          rw [List.all_eq_true]
          intro a h1
          have := List.any_eq_false.mp hr a h1
          simpa using this
        have hsz : sizeB b = some (1 + maxI (plcs b)) := by
          unfold sizeB
          rw [if_pos ⟨hl.1, hl.2, ha'⟩, if_pos this]
        rw [hsz]
        simp [m_size_of, b_size_of, forXG, itG, DL.seqS, DL.Res.seq, DL.setIxS, DL.setS, DL.exprS, DL.retS, DL.retN, DL.ifS, DL.nilS, DL.brkS, DL.cntS, DL.callB, DL.callM, DL.intF, DL.boolF, DL.consA, DL.nilA, DL.starA, DL.bin, DL.un1, DL.negP, DL.bnd, DL.Out.bnd, DL.Out.thenS, DL.opt, DL.varE, DL.litE, DL.setItem, DL.ret, DL.subP, DL.mulP, DL.modP, DL.fdivP, DL.powP, DL.intP, DL.geP, DL.leP, DL.gtP, DL.ltP, DL.eqP, DL.neP, DL.tstE, DL.boolE, DL.andT, DL.orT, DL.notT, DL.andE, DL.orE, DL.notE, DL.ifE, DL.chainE, DL.tupE, DL.lstE, DL.lstC, DL.isNP, DL.notNP, DL.runD, DL.Res.out, DL.startD, DL.itE, DL.itR, DL.rng2, DL.forS, DL.tgN, DL.tgT, DL.tgCons, DL.tgNil, DL.slE, DL.noO, DL.someO, DL.inP, DL.notInP, DL.wipeD, DL.endW, DL.turn, DL.item, DL.forX, DL.ownS, DL.szA, DL.appO, DL.coldS, DL.ownL, DL.revF, DL.allF, DL.anyF, L2.atI, L2.ixN, DL.eqB_int, DL.eqB_str, DL.eqB_bl, DL.eqB_non, DL.eqB_ni, DL.eqB_in, DL.eqB_ns, DL.eqB_sn, DL.eqB_is, DL.eqB_si, DL.rng1_nat, DL.rng1_int, DL.inB_str, DL.size_is, DL.seqOf_tup, DL.seqF_tup, DL.lenP_tup, DL.listG_tup, DL.listF_tup, DL.tupleF_tup, DL.ixP_tup, DL.truB_tup, DL.seqOf_lst, DL.seqF_lst, DL.lenP_lst, DL.listG_lst, DL.listF_lst, DL.tupleF_lst, DL.ixP_lst, DL.truB_lst, DL.seqOf_rol, DL.seqF_rol, DL.lenP_rol, DL.listG_rol, DL.listF_rol, DL.tupleF_rol, DL.ixP_rol, DL.truB_rol, DL.seqOf_cell, DL.lenP_cell, DL.listG_cell, DL.listF_cell, DL.tupleF_cell, DL.ixP_cell, DL.truB_cell, DL.rlistOf_lst, DL.rlistOf_rol, DL.rlistOf_cell, DL.listOf_lst, DL.listOf_cell, DL.lenP_str, DL.listG_str, DL.ixP_str, DL.truB_non, DL.truB_bl, DL.truB_int, DL.truB_str, DL.addP_int, DL.addP_str, DL.addP_tup, DL.addP_lst, DL.addP_lc, DL.addP_cl, DL.ltB_int, DL.ltB_str, DL.slL_str, DL.slL_tup, DL.slL_lst, DL.slL_rol, DL.slL_cell, DL.isNon_tup, DL.isNon_lst, DL.isNon_ins, DL.isNon_non, DL.isNon_int, DL.isNon_str, DL.isNon_bl, DL.isNon_cell, DL.insOf_ins, DL.insOf_cell, hln, hsf, e1, e2, l1, lc, maxG, toIs_map, hne, b1, b2, l2]
  · have hsz : sizeB b = none := by
      unfold sizeB
      rw [if_neg (fun h => hl ⟨h.1, h.2.1⟩)]
    rw [hsz]
    by_cases e1 : (b.length : Int) < 1
    · simp [m_size_of, b_size_of, DL.seqS, DL.Res.seq, DL.setIxS, DL.setS, DL.exprS, DL.retS, DL.retN, DL.ifS, DL.nilS, DL.brkS, DL.cntS, DL.callB, DL.callM, DL.intF, DL.boolF, DL.consA, DL.nilA, DL.starA, DL.bin, DL.un1, DL.negP, DL.bnd, DL.Out.bnd, DL.Out.thenS, DL.opt, DL.varE, DL.litE, DL.setItem, DL.ret, DL.subP, DL.mulP, DL.modP, DL.fdivP, DL.powP, DL.intP, DL.geP, DL.leP, DL.gtP, DL.ltP, DL.eqP, DL.neP, DL.tstE, DL.boolE, DL.andT, DL.orT, DL.notT, DL.andE, DL.orE, DL.notE, DL.ifE, DL.chainE, DL.tupE, DL.lstE, DL.lstC, DL.isNP, DL.notNP, DL.runD, DL.Res.out, DL.startD, DL.itE, DL.itR, DL.rng2, DL.forS, DL.tgN, DL.tgT, DL.tgCons, DL.tgNil, DL.slE, DL.noO, DL.someO, DL.inP, DL.notInP, DL.wipeD, DL.endW, DL.turn, DL.item, DL.forX, DL.ownS, DL.szA, DL.appO, DL.coldS, DL.ownL, DL.revF, DL.allF, DL.anyF, L2.atI, L2.ixN, DL.eqB_int, DL.eqB_str, DL.eqB_bl, DL.eqB_non, DL.eqB_ni, DL.eqB_in, DL.eqB_ns, DL.eqB_sn, DL.eqB_is, DL.eqB_si, DL.rng1_nat, DL.rng1_int, DL.inB_str, DL.size_is, DL.seqOf_tup, DL.seqF_tup, DL.lenP_tup, DL.listG_tup, DL.listF_tup, DL.tupleF_tup, DL.ixP_tup, DL.truB_tup, DL.seqOf_lst, DL.seqF_lst, DL.lenP_lst, DL.listG_lst, DL.listF_lst, DL.tupleF_lst, DL.ixP_lst, DL.truB_lst, DL.seqOf_rol, DL.seqF_rol, DL.lenP_rol, DL.listG_rol, DL.listF_rol, DL.tupleF_rol, DL.ixP_rol, DL.truB_rol, DL.seqOf_cell, DL.lenP_cell, DL.listG_cell, DL.listF_cell, DL.tupleF_cell, DL.ixP_cell, DL.truB_cell, DL.rlistOf_lst, DL.rlistOf_rol, DL.rlistOf_cell, DL.listOf_lst, DL.listOf_cell, DL.lenP_str, DL.listG_str, DL.ixP_str, DL.truB_non, DL.truB_bl, DL.truB_int, DL.truB_str, DL.addP_int, DL.addP_str, DL.addP_tup, DL.addP_lst, DL.addP_lc, DL.addP_cl, DL.ltB_int, DL.ltB_str, DL.slL_str, DL.slL_tup, DL.slL_lst, DL.slL_rol, DL.slL_cell, DL.isNon_tup, DL.isNon_lst, DL.isNon_ins, DL.isNon_non, DL.isNon_int, DL.isNon_str, DL.isNon_bl, DL.isNon_cell, DL.insOf_ins, DL.insOf_cell, hln, e1, raiseS]
    · have e2 : (8 : Int) < b.length := by omega
      simp [m_size_of, b_size_of, DL.seqS, DL.Res.seq, DL.setIxS, DL.setS, DL.exprS, DL.retS, DL.retN, DL.ifS, DL.nilS, DL.brkS, DL.cntS, DL.callB, DL.callM, DL.intF, DL.boolF, DL.consA, DL.nilA, DL.starA, DL.bin, DL.un1, DL.negP, DL.bnd, DL.Out.bnd, DL.Out.thenS, DL.opt, DL.varE, DL.litE, DL.setItem, DL.ret, DL.subP, DL.mulP, DL.modP, DL.fdivP, DL.powP, DL.intP, DL.geP, DL.leP, DL.gtP, DL.ltP, DL.eqP, DL.neP, DL.tstE, DL.boolE, DL.andT, DL.orT, DL.notT, DL.andE, DL.orE, DL.notE, DL.ifE, DL.chainE, DL.tupE, DL.lstE, DL.lstC, DL.isNP, DL.notNP, DL.runD, DL.Res.out, DL.startD, DL.itE, DL.itR, DL.rng2, DL.forS, DL.tgN, DL.tgT, DL.tgCons, DL.tgNil, DL.slE, DL.noO, DL.someO, DL.inP, DL.notInP, DL.wipeD, DL.endW, DL.turn, DL.item, DL.forX, DL.ownS, DL.szA, DL.appO, DL.coldS, DL.ownL, DL.revF, DL.allF, DL.anyF, L2.atI, L2.ixN, DL.eqB_int, DL.eqB_str, DL.eqB_bl, DL.eqB_non, DL.eqB_ni, DL.eqB_in, DL.eqB_ns, DL.eqB_sn, DL.eqB_is, DL.eqB_si, DL.rng1_nat, DL.rng1_int, DL.inB_str, DL.size_is, DL.seqOf_tup, DL.seqF_tup, DL.lenP_tup, DL.listG_tup, DL.listF_tup, DL.tupleF_tup, DL.ixP_tup, DL.truB_tup, DL.seqOf_lst, DL.seqF_lst, DL.lenP_lst, DL.listG_lst, DL.listF_lst, DL.tupleF_lst, DL.ixP_lst, DL.truB_lst, DL.seqOf_rol, DL.seqF_rol, DL.lenP_rol, DL.listG_rol, DL.listF_rol, DL.tupleF_rol, DL.ixP_rol, DL.truB_rol, DL.seqOf_cell, DL.lenP_cell, DL.listG_cell, DL.listF_cell, DL.tupleF_cell, DL.ixP_cell, DL.truB_cell, DL.rlistOf_lst, DL.rlistOf_rol, DL.rlistOf_cell, DL.listOf_lst, DL.listOf_cell, DL.lenP_str, DL.listG_str, DL.ixP_str, DL.truB_non, DL.truB_bl, DL.truB_int, DL.truB_str, DL.addP_int, DL.addP_str, DL.addP_tup, DL.addP_lst, DL.addP_lc, DL.addP_cl, DL.ltB_int, DL.ltB_str, DL.slL_str, DL.slL_tup, DL.slL_lst, DL.slL_rol, DL.slL_cell, DL.isNon_tup, DL.isNon_lst, DL.isNon_ins, DL.isNon_non, DL.isNon_int, DL.isNon_str, DL.isNon_bl, DL.isNon_cell, DL.insOf_ins, DL.insOf_cell, hln, e1, e2, raiseS]
theorem abc_is : ("abcdefghijklmnopqrstuvwxyz" : PySem.Str) = S ((List.range 26).map (97 + ·)) := by decide +kernel
def nameB (l : List Nat) : Bool := decide (1 ≤ l.length) && (decide (l.length ≤ 12) && l.all fun n => decide (97 ≤ n) && decide (n ≤ 122))
theorem in_abc (n : Nat) : ((List.range 26).map (97 + ·)).contains n = (decide (97 ≤ n) && decide (n ≤ 122)) := by
  rw [Bool.eq_iff_iff]
  simp only [List.contains_iff_mem, List.mem_map, List.mem_range, Bool.and_eq_true, decide_eq_true_eq]
  exact ⟨fun ⟨a, h, e⟩ => by omega, fun h => ⟨n - 97, by omega, by omega⟩⟩
theorem in_abcS (n : Nat) : strIn (S [n]) "abcdefghijklmnopqrstuvwxyz" = (decide (97 ≤ n) && decide (n ≤ 122)) := by rw [abc_is, strIn_one, in_abc]
theorem toBs_map (bs : List Bool) : toBs (bs.map D.bl) = some bs := by
  induction bs with
  | nil => rfl
  | cons b bs ih => simp [toBs, ih]
theorem name_eq {l : List Nat} {c : Cells} (h : l.length ≤ 1000) : m_is_name [.str (S l)] c = .ok (.bl (nameB l)) c := by
  have hz : l.length ≤ 16777216 := by omega
  have e1 : lcE (itSE (varE 0)) [1] (tgN 1) yesT (bin inP (varE 1) (litE (.str "abcdefghijklmnopqrstuvwxyz"))) [.sh (.str (S l)), .un] c = .ok (.lst (l.map fun n => D.bl (decide (97 ≤ n) && decide (n ≤ 122)))) c := by
    refine lcE_all (α := Nat) (enc := fun n => .str (S [n])) (xs := l) ?_ fun n hn => ?_
    · simp [itSE, DL.seqS, DL.Res.seq, DL.setIxS, DL.setS, DL.exprS, DL.retS, DL.retN, DL.ifS, DL.nilS, DL.brkS, DL.cntS, DL.callB, DL.callM, DL.intF, DL.boolF, DL.consA, DL.nilA, DL.starA, DL.bin, DL.un1, DL.negP, DL.bnd, DL.Out.bnd, DL.Out.thenS, DL.opt, DL.varE, DL.litE, DL.setItem, DL.ret, DL.subP, DL.mulP, DL.modP, DL.fdivP, DL.powP, DL.intP, DL.geP, DL.leP, DL.gtP, DL.ltP, DL.eqP, DL.neP, DL.tstE, DL.boolE, DL.andT, DL.orT, DL.notT, DL.andE, DL.orE, DL.notE, DL.ifE, DL.chainE, DL.tupE, DL.lstE, DL.lstC, DL.isNP, DL.notNP, DL.runD, DL.Res.out, DL.startD, DL.itE, DL.itR, DL.rng2, DL.forS, DL.tgN, DL.tgT, DL.tgCons, DL.tgNil, DL.slE, DL.noO, DL.someO, DL.inP, DL.notInP, DL.wipeD, DL.endW, DL.turn, DL.item, DL.forX, DL.ownS, DL.szA, DL.appO, DL.coldS, DL.ownL, DL.revF, DL.allF, DL.anyF, L2.atI, L2.ixN, DL.eqB_int, DL.eqB_str, DL.eqB_bl, DL.eqB_non, DL.eqB_ni, DL.eqB_in, DL.eqB_ns, DL.eqB_sn, DL.eqB_is, DL.eqB_si, DL.rng1_nat, DL.rng1_int, DL.inB_str, DL.size_is, DL.seqOf_tup, DL.seqF_tup, DL.lenP_tup, DL.listG_tup, DL.listF_tup, DL.tupleF_tup, DL.ixP_tup, DL.truB_tup, DL.seqOf_lst, DL.seqF_lst, DL.lenP_lst, DL.listG_lst, DL.listF_lst, DL.tupleF_lst, DL.ixP_lst, DL.truB_lst, DL.seqOf_rol, DL.seqF_rol, DL.lenP_rol, DL.listG_rol, DL.listF_rol, DL.tupleF_rol, DL.ixP_rol, DL.truB_rol, DL.seqOf_cell, DL.lenP_cell, DL.listG_cell, DL.listF_cell, DL.tupleF_cell, DL.ixP_cell, DL.truB_cell, DL.rlistOf_lst, DL.rlistOf_rol, DL.rlistOf_cell, DL.listOf_lst, DL.listOf_cell, DL.lenP_str, DL.listG_str, DL.ixP_str, DL.truB_non, DL.truB_bl, DL.truB_int, DL.truB_str, DL.addP_int, DL.addP_str, DL.addP_tup, DL.addP_lst, DL.addP_lc, DL.addP_cl, DL.ltB_int, DL.ltB_str, DL.slL_str, DL.slL_tup, DL.slL_lst, DL.slL_rol, DL.slL_cell, DL.isNon_tup, DL.isNon_lst, DL.isNon_ins, DL.isNon_non, DL.isNon_int, DL.isNon_str, DL.isNon_bl, DL.isNon_cell, DL.insOf_ins, DL.insOf_cell, strF, hz, S_len, S_chars]
    · have := in_abcS n
      simp [item, yesT, DL.seqS, DL.Res.seq, DL.setIxS, DL.setS, DL.exprS, DL.retS, DL.retN, DL.ifS, DL.nilS, DL.brkS, DL.cntS, DL.callB, DL.callM, DL.intF, DL.boolF, DL.consA, DL.nilA, DL.starA, DL.bin, DL.un1, DL.negP, DL.bnd, DL.Out.bnd, DL.Out.thenS, DL.opt, DL.varE, DL.litE, DL.setItem, DL.ret, DL.subP, DL.mulP, DL.modP, DL.fdivP, DL.powP, DL.intP, DL.geP, DL.leP, DL.gtP, DL.ltP, DL.eqP, DL.neP, DL.tstE, DL.boolE, DL.andT, DL.orT, DL.notT, DL.andE, DL.orE, DL.notE, DL.ifE, DL.chainE, DL.tupE, DL.lstE, DL.lstC, DL.isNP, DL.notNP, DL.runD, DL.Res.out, DL.startD, DL.itE, DL.itR, DL.rng2, DL.forS, DL.tgN, DL.tgT, DL.tgCons, DL.tgNil, DL.slE, DL.noO, DL.someO, DL.inP, DL.notInP, DL.wipeD, DL.endW, DL.turn, DL.item, DL.forX, DL.ownS, DL.szA, DL.appO, DL.coldS, DL.ownL, DL.revF, DL.allF, DL.anyF, L2.atI, L2.ixN, DL.eqB_int, DL.eqB_str, DL.eqB_bl, DL.eqB_non, DL.eqB_ni, DL.eqB_in, DL.eqB_ns, DL.eqB_sn, DL.eqB_is, DL.eqB_si, DL.rng1_nat, DL.rng1_int, DL.inB_str, DL.size_is, DL.seqOf_tup, DL.seqF_tup, DL.lenP_tup, DL.listG_tup, DL.listF_tup, DL.tupleF_tup, DL.ixP_tup, DL.truB_tup, DL.seqOf_lst, DL.seqF_lst, DL.lenP_lst, DL.listG_lst, DL.listF_lst, DL.tupleF_lst, DL.ixP_lst, DL.truB_lst, DL.seqOf_rol, DL.seqF_rol, DL.lenP_rol, DL.listG_rol, DL.listF_rol, DL.tupleF_rol, DL.ixP_rol, DL.truB_rol, DL.seqOf_cell, DL.lenP_cell, DL.listG_cell, DL.listF_cell, DL.tupleF_cell, DL.ixP_cell, DL.truB_cell, DL.rlistOf_lst, DL.rlistOf_rol, DL.rlistOf_cell, DL.listOf_lst, DL.listOf_cell, DL.lenP_str, DL.listG_str, DL.ixP_str, DL.truB_non, DL.truB_bl, DL.truB_int, DL.truB_str, DL.addP_int, DL.addP_str, DL.addP_tup, DL.addP_lst, DL.addP_lc, DL.addP_cl, DL.ltB_int, DL.ltB_str, DL.slL_str, DL.slL_tup, DL.slL_lst, DL.slL_rol, DL.slL_cell, DL.isNon_tup, DL.isNon_lst, DL.isNon_ins, DL.isNon_non, DL.isNon_int, DL.isNon_str, DL.isNon_bl, DL.isNon_cell, DL.insOf_ins, DL.insOf_cell, this]
  have e2 : toBs (l.map fun n => D.bl (decide (97 ≤ n) && decide (n ≤ 122))) = some (l.map fun n => (decide (97 ≤ n) && decide (n ≤ 122))) := by
    have := toBs_map (l.map fun n => (decide (97 ≤ n) && decide (n ≤ 122)))
    rwa [List.map_map] at this
  by_cases h1 : l.length = 0
  · simp [m_is_name, b_is_name, DL.seqS, DL.Res.seq, DL.setIxS, DL.setS, DL.exprS, DL.retS, DL.retN, DL.ifS, DL.nilS, DL.brkS, DL.cntS, DL.callB, DL.callM, DL.intF, DL.boolF, DL.consA, DL.nilA, DL.starA, DL.bin, DL.un1, DL.negP, DL.bnd, DL.Out.bnd, DL.Out.thenS, DL.opt, DL.varE, DL.litE, DL.setItem, DL.ret, DL.subP, DL.mulP, DL.modP, DL.fdivP, DL.powP, DL.intP, DL.geP, DL.leP, DL.gtP, DL.ltP, DL.eqP, DL.neP, DL.tstE, DL.boolE, DL.andT, DL.orT, DL.notT, DL.andE, DL.orE, DL.notE, DL.ifE, DL.chainE, DL.tupE, DL.lstE, DL.lstC, DL.isNP, DL.notNP, DL.runD, DL.Res.out, DL.startD, DL.itE, DL.itR, DL.rng2, DL.forS, DL.tgN, DL.tgT, DL.tgCons, DL.tgNil, DL.slE, DL.noO, DL.someO, DL.inP, DL.notInP, DL.wipeD, DL.endW, DL.turn, DL.item, DL.forX, DL.ownS, DL.szA, DL.appO, DL.coldS, DL.ownL, DL.revF, DL.allF, DL.anyF, L2.atI, L2.ixN, DL.eqB_int, DL.eqB_str, DL.eqB_bl, DL.eqB_non, DL.eqB_ni, DL.eqB_in, DL.eqB_ns, DL.eqB_sn, DL.eqB_is, DL.eqB_si, DL.rng1_nat, DL.rng1_int, DL.inB_str, DL.size_is, DL.seqOf_tup, DL.seqF_tup, DL.lenP_tup, DL.listG_tup, DL.listF_tup, DL.tupleF_tup, DL.ixP_tup, DL.truB_tup, DL.seqOf_lst, DL.seqF_lst, DL.lenP_lst, DL.listG_lst, DL.listF_lst, DL.tupleF_lst, DL.ixP_lst, DL.truB_lst, DL.seqOf_rol, DL.seqF_rol, DL.lenP_rol, DL.listG_rol, DL.listF_rol, DL.tupleF_rol, DL.ixP_rol, DL.truB_rol, DL.seqOf_cell, DL.lenP_cell, DL.listG_cell, DL.listF_cell, DL.tupleF_cell, DL.ixP_cell, DL.truB_cell, DL.rlistOf_lst, DL.rlistOf_rol, DL.rlistOf_cell, DL.listOf_lst, DL.listOf_cell, DL.lenP_str, DL.listG_str, DL.ixP_str, DL.truB_non, DL.truB_bl, DL.truB_int, DL.truB_str, DL.addP_int, DL.addP_str, DL.addP_tup, DL.addP_lst, DL.addP_lc, DL.addP_cl, DL.ltB_int, DL.ltB_str, DL.slL_str, DL.slL_tup, DL.slL_lst, DL.slL_rol, DL.slL_cell, DL.isNon_tup, DL.isNon_lst, DL.isNon_ins, DL.isNon_non, DL.isNon_int, DL.isNon_str, DL.isNon_bl, DL.isNon_cell, DL.insOf_ins, DL.insOf_cell, hz, S_len, h1, nameB]
  · by_cases h2 : l.length ≤ 12
    · have g1 : ¬ ((l.length : Int) < 1) := by omega
      have g2 : ¬ ((12 : Int) < l.length) := by omega
      have g3 : 1 ≤ l.length := by omega
      simp [m_is_name, b_is_name, DL.seqS, DL.Res.seq, DL.setIxS, DL.setS, DL.exprS, DL.retS, DL.retN, DL.ifS, DL.nilS, DL.brkS, DL.cntS, DL.callB, DL.callM, DL.intF, DL.boolF, DL.consA, DL.nilA, DL.starA, DL.bin, DL.un1, DL.negP, DL.bnd, DL.Out.bnd, DL.Out.thenS, DL.opt, DL.varE, DL.litE, DL.setItem, DL.ret, DL.subP, DL.mulP, DL.modP, DL.fdivP, DL.powP, DL.intP, DL.geP, DL.leP, DL.gtP, DL.ltP, DL.eqP, DL.neP, DL.tstE, DL.boolE, DL.andT, DL.orT, DL.notT, DL.andE, DL.orE, DL.notE, DL.ifE, DL.chainE, DL.tupE, DL.lstE, DL.lstC, DL.isNP, DL.notNP, DL.runD, DL.Res.out, DL.startD, DL.itE, DL.itR, DL.rng2, DL.forS, DL.tgN, DL.tgT, DL.tgCons, DL.tgNil, DL.slE, DL.noO, DL.someO, DL.inP, DL.notInP, DL.wipeD, DL.endW, DL.turn, DL.item, DL.forX, DL.ownS, DL.szA, DL.appO, DL.coldS, DL.ownL, DL.revF, DL.allF, DL.anyF, L2.atI, L2.ixN, DL.eqB_int, DL.eqB_str, DL.eqB_bl, DL.eqB_non, DL.eqB_ni, DL.eqB_in, DL.eqB_ns, DL.eqB_sn, DL.eqB_is, DL.eqB_si, DL.rng1_nat, DL.rng1_int, DL.inB_str, DL.size_is, DL.seqOf_tup, DL.seqF_tup, DL.lenP_tup, DL.listG_tup, DL.listF_tup, DL.tupleF_tup, DL.ixP_tup, DL.truB_tup, DL.seqOf_lst, DL.seqF_lst, DL.lenP_lst, DL.listG_lst, DL.listF_lst, DL.tupleF_lst, DL.ixP_lst, DL.truB_lst, DL.seqOf_rol, DL.seqF_rol, DL.lenP_rol, DL.listG_rol, DL.listF_rol, DL.tupleF_rol, DL.ixP_rol, DL.truB_rol, DL.seqOf_cell, DL.lenP_cell, DL.listG_cell, DL.listF_cell, DL.tupleF_cell, DL.ixP_cell, DL.truB_cell, DL.rlistOf_lst, DL.rlistOf_rol, DL.rlistOf_cell, DL.listOf_lst, DL.listOf_cell, DL.lenP_str, DL.listG_str, DL.ixP_str, DL.truB_non, DL.truB_bl, DL.truB_int, DL.truB_str, DL.addP_int, DL.addP_str, DL.addP_tup, DL.addP_lst, DL.addP_lc, DL.addP_cl, DL.ltB_int, DL.ltB_str, DL.slL_str, DL.slL_tup, DL.slL_lst, DL.slL_rol, DL.slL_cell, DL.isNon_tup, DL.isNon_lst, DL.isNon_ins, DL.isNon_non, DL.isNon_int, DL.isNon_str, DL.isNon_bl, DL.isNon_cell, DL.insOf_ins, DL.insOf_cell, hz, S_len, nameB, g1, g2, g3, h2, e1, e2, List.all_map, allF]
    · have g1 : ¬ ((l.length : Int) < 1) := by omega
      have g2 : (12 : Int) < l.length := by omega
      have g3 : ¬ l.length ≤ 12 := by omega
      simp [m_is_name, b_is_name, DL.seqS, DL.Res.seq, DL.setIxS, DL.setS, DL.exprS, DL.retS, DL.retN, DL.ifS, DL.nilS, DL.brkS, DL.cntS, DL.callB, DL.callM, DL.intF, DL.boolF, DL.consA, DL.nilA, DL.starA, DL.bin, DL.un1, DL.negP, DL.bnd, DL.Out.bnd, DL.Out.thenS, DL.opt, DL.varE, DL.litE, DL.setItem, DL.ret, DL.subP, DL.mulP, DL.modP, DL.fdivP, DL.powP, DL.intP, DL.geP, DL.leP, DL.gtP, DL.ltP, DL.eqP, DL.neP, DL.tstE, DL.boolE, DL.andT, DL.orT, DL.notT, DL.andE, DL.orE, DL.notE, DL.ifE, DL.chainE, DL.tupE, DL.lstE, DL.lstC, DL.isNP, DL.notNP, DL.runD, DL.Res.out, DL.startD, DL.itE, DL.itR, DL.rng2, DL.forS, DL.tgN, DL.tgT, DL.tgCons, DL.tgNil, DL.slE, DL.noO, DL.someO, DL.inP, DL.notInP, DL.wipeD, DL.endW, DL.turn, DL.item, DL.forX, DL.ownS, DL.szA, DL.appO, DL.coldS, DL.ownL, DL.revF, DL.allF, DL.anyF, L2.atI, L2.ixN, DL.eqB_int, DL.eqB_str, DL.eqB_bl, DL.eqB_non, DL.eqB_ni, DL.eqB_in, DL.eqB_ns, DL.eqB_sn, DL.eqB_is, DL.eqB_si, DL.rng1_nat, DL.rng1_int, DL.inB_str, DL.size_is, DL.seqOf_tup, DL.seqF_tup, DL.lenP_tup, DL.listG_tup, DL.listF_tup, DL.tupleF_tup, DL.ixP_tup, DL.truB_tup, DL.seqOf_lst, DL.seqF_lst, DL.lenP_lst, DL.listG_lst, DL.listF_lst, DL.tupleF_lst, DL.ixP_lst, DL.truB_lst, DL.seqOf_rol, DL.seqF_rol, DL.lenP_rol, DL.listG_rol, DL.listF_rol, DL.tupleF_rol, DL.ixP_rol, DL.truB_rol, DL.seqOf_cell, DL.lenP_cell, DL.listG_cell, DL.listF_cell, DL.tupleF_cell, DL.ixP_cell, DL.truB_cell, DL.rlistOf_lst, DL.rlistOf_rol, DL.rlistOf_cell, DL.listOf_lst, DL.listOf_cell, DL.lenP_str, DL.listG_str, DL.ixP_str, DL.truB_non, DL.truB_bl, DL.truB_int, DL.truB_str, DL.addP_int, DL.addP_str, DL.addP_tup, DL.addP_lst, DL.addP_lc, DL.addP_cl, DL.ltB_int, DL.ltB_str, DL.slL_str, DL.slL_tup, DL.slL_lst, DL.slL_rol, DL.slL_cell, DL.isNon_tup, DL.isNon_lst, DL.isNon_ins, DL.isNon_non, DL.isNon_int, DL.isNon_str, DL.isNon_bl, DL.isNon_cell, DL.insOf_ins, DL.insOf_cell, hz, S_len, nameB, g1, g2, g3]
def madeB (l : List Nat) (b : List (List D)) (h : List D) : Option (List D) :=
  if nameB l then match sizeB b with
    | some n => if isA h n then some [.str (S l), .tup (b.map D.tup), .tup h, .int n] else none
    | none => none
  else none
structure Flat (l : List Nat) (b : List (List D)) (h : List D) : Prop where
  nm : l.length ≤ 1000
  atm : ∀ a ∈ b, flatT (.tup a) = true
  len : b.length ≤ 1000
  hd : flatT (.tup h) = true
theorem init_eq {l : List Nat} {b : List (List D)} {h : List D} {d : D} {c : Cells} (hd : Shows d (b.map D.tup) c) (f : Flat l b h) :
    m_Promise___init__ [.str (S l), d, .tup h] c = match madeB l b h with
      | some xs => .ok xs c
      | none => .exc 1 [] c := by
  have e1 := name_eq (c := c) f.nm
  have e2 := size_eq (c := c) hd f.atm f.len
  obtain ⟨_, _, _, _, ht⟩ := hd.all
  have hh := f.hd
  simp only [flatT, Bool.and_eq_true, decide_eq_true_eq] at hh
  refine mI_eq fun a => ?_
  cases hn : nameB l with
  | false =>
    rw [hn] at e1
    simp [runI, b_Promise___init__, DL.seqS, DL.Res.seq, DL.setIxS, DL.setS, DL.exprS, DL.retS, DL.retN, DL.ifS, DL.nilS, DL.brkS, DL.cntS, DL.callB, DL.callM, DL.intF, DL.boolF, DL.consA, DL.nilA, DL.starA, DL.bin, DL.un1, DL.negP, DL.bnd, DL.Out.bnd, DL.Out.thenS, DL.opt, DL.varE, DL.litE, DL.setItem, DL.ret, DL.subP, DL.mulP, DL.modP, DL.fdivP, DL.powP, DL.intP, DL.geP, DL.leP, DL.gtP, DL.ltP, DL.eqP, DL.neP, DL.tstE, DL.boolE, DL.andT, DL.orT, DL.notT, DL.andE, DL.orE, DL.notE, DL.ifE, DL.chainE, DL.tupE, DL.lstE, DL.lstC, DL.isNP, DL.notNP, DL.runD, DL.Res.out, DL.startD, DL.itE, DL.itR, DL.rng2, DL.forS, DL.tgN, DL.tgT, DL.tgCons, DL.tgNil, DL.slE, DL.noO, DL.someO, DL.inP, DL.notInP, DL.wipeD, DL.endW, DL.turn, DL.item, DL.forX, DL.ownS, DL.szA, DL.appO, DL.coldS, DL.ownL, DL.revF, DL.allF, DL.anyF, L2.atI, L2.ixN, DL.eqB_int, DL.eqB_str, DL.eqB_bl, DL.eqB_non, DL.eqB_ni, DL.eqB_in, DL.eqB_ns, DL.eqB_sn, DL.eqB_is, DL.eqB_si, DL.rng1_nat, DL.rng1_int, DL.inB_str, DL.size_is, DL.seqOf_tup, DL.seqF_tup, DL.lenP_tup, DL.listG_tup, DL.listF_tup, DL.tupleF_tup, DL.ixP_tup, DL.truB_tup, DL.seqOf_lst, DL.seqF_lst, DL.lenP_lst, DL.listG_lst, DL.listF_lst, DL.tupleF_lst, DL.ixP_lst, DL.truB_lst, DL.seqOf_rol, DL.seqF_rol, DL.lenP_rol, DL.listG_rol, DL.listF_rol, DL.tupleF_rol, DL.ixP_rol, DL.truB_rol, DL.seqOf_cell, DL.lenP_cell, DL.listG_cell, DL.listF_cell, DL.tupleF_cell, DL.ixP_cell, DL.truB_cell, DL.rlistOf_lst, DL.rlistOf_rol, DL.rlistOf_cell, DL.listOf_lst, DL.listOf_cell, DL.lenP_str, DL.listG_str, DL.ixP_str, DL.truB_non, DL.truB_bl, DL.truB_int, DL.truB_str, DL.addP_int, DL.addP_str, DL.addP_tup, DL.addP_lst, DL.addP_lc, DL.addP_cl, DL.ltB_int, DL.ltB_str, DL.slL_str, DL.slL_tup, DL.slL_lst, DL.slL_rol, DL.slL_cell, DL.isNon_tup, DL.isNon_lst, DL.isNon_ins, DL.isNon_non, DL.isNon_int, DL.isNon_str, DL.isNon_bl, DL.isNon_cell, DL.insOf_ins, DL.insOf_cell, e1, raiseS, Res.outI, madeB, hn]
  | true =>
    rw [hn] at e1
    cases hs : sizeB b with
    | none =>
      rw [hs] at e2
      simp [runI, b_Promise___init__, DL.seqS, DL.Res.seq, DL.setIxS, DL.setS, DL.exprS, DL.retS, DL.retN, DL.ifS, DL.nilS, DL.brkS, DL.cntS, DL.callB, DL.callM, DL.intF, DL.boolF, DL.consA, DL.nilA, DL.starA, DL.bin, DL.un1, DL.negP, DL.bnd, DL.Out.bnd, DL.Out.thenS, DL.opt, DL.varE, DL.litE, DL.setItem, DL.ret, DL.subP, DL.mulP, DL.modP, DL.fdivP, DL.powP, DL.intP, DL.geP, DL.leP, DL.gtP, DL.ltP, DL.eqP, DL.neP, DL.tstE, DL.boolE, DL.andT, DL.orT, DL.notT, DL.andE, DL.orE, DL.notE, DL.ifE, DL.chainE, DL.tupE, DL.lstE, DL.lstC, DL.isNP, DL.notNP, DL.runD, DL.Res.out, DL.startD, DL.itE, DL.itR, DL.rng2, DL.forS, DL.tgN, DL.tgT, DL.tgCons, DL.tgNil, DL.slE, DL.noO, DL.someO, DL.inP, DL.notInP, DL.wipeD, DL.endW, DL.turn, DL.item, DL.forX, DL.ownS, DL.szA, DL.appO, DL.coldS, DL.ownL, DL.revF, DL.allF, DL.anyF, L2.atI, L2.ixN, DL.eqB_int, DL.eqB_str, DL.eqB_bl, DL.eqB_non, DL.eqB_ni, DL.eqB_in, DL.eqB_ns, DL.eqB_sn, DL.eqB_is, DL.eqB_si, DL.rng1_nat, DL.rng1_int, DL.inB_str, DL.size_is, DL.seqOf_tup, DL.seqF_tup, DL.lenP_tup, DL.listG_tup, DL.listF_tup, DL.tupleF_tup, DL.ixP_tup, DL.truB_tup, DL.seqOf_lst, DL.seqF_lst, DL.lenP_lst, DL.listG_lst, DL.listF_lst, DL.tupleF_lst, DL.ixP_lst, DL.truB_lst, DL.seqOf_rol, DL.seqF_rol, DL.lenP_rol, DL.listG_rol, DL.listF_rol, DL.tupleF_rol, DL.ixP_rol, DL.truB_rol, DL.seqOf_cell, DL.lenP_cell, DL.listG_cell, DL.listF_cell, DL.tupleF_cell, DL.ixP_cell, DL.truB_cell, DL.rlistOf_lst, DL.rlistOf_rol, DL.rlistOf_cell, DL.listOf_lst, DL.listOf_cell, DL.lenP_str, DL.listG_str, DL.ixP_str, DL.truB_non, DL.truB_bl, DL.truB_int, DL.truB_str, DL.addP_int, DL.addP_str, DL.addP_tup, DL.addP_lst, DL.addP_lc, DL.addP_cl, DL.ltB_int, DL.ltB_str, DL.slL_str, DL.slL_tup, DL.slL_lst, DL.slL_rol, DL.slL_cell, DL.isNon_tup, DL.isNon_lst, DL.isNon_ins, DL.isNon_non, DL.isNon_int, DL.isNon_str, DL.isNon_bl, DL.isNon_cell, DL.insOf_ins, DL.insOf_cell, e1, e2, raiseS, Res.outI, madeB, hn, hs]
    | some n =>
      rw [hs] at e2
      have e3 := isA_eq hh.1 hh.2 (n := n) (c := c)
      cases hi : isA h n with
      | false =>
        rw [hi] at e3
        simp [runI, b_Promise___init__, DL.seqS, DL.Res.seq, DL.setIxS, DL.setS, DL.exprS, DL.retS, DL.retN, DL.ifS, DL.nilS, DL.brkS, DL.cntS, DL.callB, DL.callM, DL.intF, DL.boolF, DL.consA, DL.nilA, DL.starA, DL.bin, DL.un1, DL.negP, DL.bnd, DL.Out.bnd, DL.Out.thenS, DL.opt, DL.varE, DL.litE, DL.setItem, DL.ret, DL.subP, DL.mulP, DL.modP, DL.fdivP, DL.powP, DL.intP, DL.geP, DL.leP, DL.gtP, DL.ltP, DL.eqP, DL.neP, DL.tstE, DL.boolE, DL.andT, DL.orT, DL.notT, DL.andE, DL.orE, DL.notE, DL.ifE, DL.chainE, DL.tupE, DL.lstE, DL.lstC, DL.isNP, DL.notNP, DL.runD, DL.Res.out, DL.startD, DL.itE, DL.itR, DL.rng2, DL.forS, DL.tgN, DL.tgT, DL.tgCons, DL.tgNil, DL.slE, DL.noO, DL.someO, DL.inP, DL.notInP, DL.wipeD, DL.endW, DL.turn, DL.item, DL.forX, DL.ownS, DL.szA, DL.appO, DL.coldS, DL.ownL, DL.revF, DL.allF, DL.anyF, L2.atI, L2.ixN, DL.eqB_int, DL.eqB_str, DL.eqB_bl, DL.eqB_non, DL.eqB_ni, DL.eqB_in, DL.eqB_ns, DL.eqB_sn, DL.eqB_is, DL.eqB_si, DL.rng1_nat, DL.rng1_int, DL.inB_str, DL.size_is, DL.seqOf_tup, DL.seqF_tup, DL.lenP_tup, DL.listG_tup, DL.listF_tup, DL.tupleF_tup, DL.ixP_tup, DL.truB_tup, DL.seqOf_lst, DL.seqF_lst, DL.lenP_lst, DL.listG_lst, DL.listF_lst, DL.tupleF_lst, DL.ixP_lst, DL.truB_lst, DL.seqOf_rol, DL.seqF_rol, DL.lenP_rol, DL.listG_rol, DL.listF_rol, DL.tupleF_rol, DL.ixP_rol, DL.truB_rol, DL.seqOf_cell, DL.lenP_cell, DL.listG_cell, DL.listF_cell, DL.tupleF_cell, DL.ixP_cell, DL.truB_cell, DL.rlistOf_lst, DL.rlistOf_rol, DL.rlistOf_cell, DL.listOf_lst, DL.listOf_cell, DL.lenP_str, DL.listG_str, DL.ixP_str, DL.truB_non, DL.truB_bl, DL.truB_int, DL.truB_str, DL.addP_int, DL.addP_str, DL.addP_tup, DL.addP_lst, DL.addP_lc, DL.addP_cl, DL.ltB_int, DL.ltB_str, DL.slL_str, DL.slL_tup, DL.slL_lst, DL.slL_rol, DL.slL_cell, DL.isNon_tup, DL.isNon_lst, DL.isNon_ins, DL.isNon_non, DL.isNon_int, DL.isNon_str, DL.isNon_bl, DL.isNon_cell, DL.insOf_ins, DL.insOf_cell, e1, e2, e3, raiseS, Res.outI, madeB, hn, hs, hi]
      | true =>
        rw [hi] at e3
        simp [runI, b_Promise___init__, DL.seqS, DL.Res.seq, DL.setIxS, DL.setS, DL.exprS, DL.retS, DL.retN, DL.ifS, DL.nilS, DL.brkS, DL.cntS, DL.callB, DL.callM, DL.intF, DL.boolF, DL.consA, DL.nilA, DL.starA, DL.bin, DL.un1, DL.negP, DL.bnd, DL.Out.bnd, DL.Out.thenS, DL.opt, DL.varE, DL.litE, DL.setItem, DL.ret, DL.subP, DL.mulP, DL.modP, DL.fdivP, DL.powP, DL.intP, DL.geP, DL.leP, DL.gtP, DL.ltP, DL.eqP, DL.neP, DL.tstE, DL.boolE, DL.andT, DL.orT, DL.notT, DL.andE, DL.orE, DL.notE, DL.ifE, DL.chainE, DL.tupE, DL.lstE, DL.lstC, DL.isNP, DL.notNP, DL.runD, DL.Res.out, DL.startD, DL.itE, DL.itR, DL.rng2, DL.forS, DL.tgN, DL.tgT, DL.tgCons, DL.tgNil, DL.slE, DL.noO, DL.someO, DL.inP, DL.notInP, DL.wipeD, DL.endW, DL.turn, DL.item, DL.forX, DL.ownS, DL.szA, DL.appO, DL.coldS, DL.ownL, DL.revF, DL.allF, DL.anyF, L2.atI, L2.ixN, DL.eqB_int, DL.eqB_str, DL.eqB_bl, DL.eqB_non, DL.eqB_ni, DL.eqB_in, DL.eqB_ns, DL.eqB_sn, DL.eqB_is, DL.eqB_si, DL.rng1_nat, DL.rng1_int, DL.inB_str, DL.size_is, DL.seqOf_tup, DL.seqF_tup, DL.lenP_tup, DL.listG_tup, DL.listF_tup, DL.tupleF_tup, DL.ixP_tup, DL.truB_tup, DL.seqOf_lst, DL.seqF_lst, DL.lenP_lst, DL.listG_lst, DL.listF_lst, DL.tupleF_lst, DL.ixP_lst, DL.truB_lst, DL.seqOf_rol, DL.seqF_rol, DL.lenP_rol, DL.listG_rol, DL.listF_rol, DL.tupleF_rol, DL.ixP_rol, DL.truB_rol, DL.seqOf_cell, DL.lenP_cell, DL.listG_cell, DL.listF_cell, DL.tupleF_cell, DL.ixP_cell, DL.truB_cell, DL.rlistOf_lst, DL.rlistOf_rol, DL.rlistOf_cell, DL.listOf_lst, DL.listOf_cell, DL.lenP_str, DL.listG_str, DL.ixP_str, DL.truB_non, DL.truB_bl, DL.truB_int, DL.truB_str, DL.addP_int, DL.addP_str, DL.addP_tup, DL.addP_lst, DL.addP_lc, DL.addP_cl, DL.ltB_int, DL.ltB_str, DL.slL_str, DL.slL_tup, DL.slL_lst, DL.slL_rol, DL.slL_cell, DL.isNon_tup, DL.isNon_lst, DL.isNon_ins, DL.isNon_non, DL.isNon_int, DL.isNon_str, DL.isNon_bl, DL.isNon_cell, DL.insOf_ins, DL.insOf_cell, e1, e2, e3, raiseS, slfS, slfL, Res.outI, madeB, hn, hs, hi, ht]
theorem refused_eq {l : List Nat} {b : List (List D)} {h : List D} {d : D} {c : Cells} (hd : Shows d (b.map D.tup) c) (f : Flat l b h) (hm : madeB l b h = none) :
    m__law_refused [.str (S l), d, .tup h] c = .ok (.bl true) c := by
  have e := init_eq (c := c) hd f
  rw [hm] at e
  have hb : exprS (makeM 3 m_Promise___init__ (consA (varE 0) (consA (varE 1) (consA (varE 2) nilA)))) [.sh (.str (S l)), .sh d, .sh (.tup h), .un] c = .exc 1 [] [.sh (.str (S l)), .sh d, .sh (.tup h), .un] c := by
    simp [DL.seqS, DL.Res.seq, DL.setIxS, DL.setS, DL.exprS, DL.retS, DL.retN, DL.ifS, DL.nilS, DL.brkS, DL.cntS, DL.callB, DL.callM, DL.intF, DL.boolF, DL.consA, DL.nilA, DL.starA, DL.bin, DL.un1, DL.negP, DL.bnd, DL.Out.bnd, DL.Out.thenS, DL.opt, DL.varE, DL.litE, DL.setItem, DL.ret, DL.subP, DL.mulP, DL.modP, DL.fdivP, DL.powP, DL.intP, DL.geP, DL.leP, DL.gtP, DL.ltP, DL.eqP, DL.neP, DL.tstE, DL.boolE, DL.andT, DL.orT, DL.notT, DL.andE, DL.orE, DL.notE, DL.ifE, DL.chainE, DL.tupE, DL.lstE, DL.lstC, DL.isNP, DL.notNP, DL.runD, DL.Res.out, DL.startD, DL.itE, DL.itR, DL.rng2, DL.forS, DL.tgN, DL.tgT, DL.tgCons, DL.tgNil, DL.slE, DL.noO, DL.someO, DL.inP, DL.notInP, DL.wipeD, DL.endW, DL.turn, DL.item, DL.forX, DL.ownS, DL.szA, DL.appO, DL.coldS, DL.ownL, DL.revF, DL.allF, DL.anyF, L2.atI, L2.ixN, DL.eqB_int, DL.eqB_str, DL.eqB_bl, DL.eqB_non, DL.eqB_ni, DL.eqB_in, DL.eqB_ns, DL.eqB_sn, DL.eqB_is, DL.eqB_si, DL.rng1_nat, DL.rng1_int, DL.inB_str, DL.size_is, DL.seqOf_tup, DL.seqF_tup, DL.lenP_tup, DL.listG_tup, DL.listF_tup, DL.tupleF_tup, DL.ixP_tup, DL.truB_tup, DL.seqOf_lst, DL.seqF_lst, DL.lenP_lst, DL.listG_lst, DL.listF_lst, DL.tupleF_lst, DL.ixP_lst, DL.truB_lst, DL.seqOf_rol, DL.seqF_rol, DL.lenP_rol, DL.listG_rol, DL.listF_rol, DL.tupleF_rol, DL.ixP_rol, DL.truB_rol, DL.seqOf_cell, DL.lenP_cell, DL.listG_cell, DL.listF_cell, DL.tupleF_cell, DL.ixP_cell, DL.truB_cell, DL.rlistOf_lst, DL.rlistOf_rol, DL.rlistOf_cell, DL.listOf_lst, DL.listOf_cell, DL.lenP_str, DL.listG_str, DL.ixP_str, DL.truB_non, DL.truB_bl, DL.truB_int, DL.truB_str, DL.addP_int, DL.addP_str, DL.addP_tup, DL.addP_lst, DL.addP_lc, DL.addP_cl, DL.ltB_int, DL.ltB_str, DL.slL_str, DL.slL_tup, DL.slL_lst, DL.slL_rol, DL.slL_cell, DL.isNon_tup, DL.isNon_lst, DL.isNon_ins, DL.isNon_non, DL.isNon_int, DL.isNon_str, DL.isNon_bl, DL.isNon_cell, DL.insOf_ins, DL.insOf_cell, makeM, e]
  refine run_rt rfl ?_
  unfold b__law_refused
  refine seq_rt (tryAs_exc hb rfl fun a d' => ?_)
  simp [DL.seqS, DL.Res.seq, DL.setIxS, DL.setS, DL.exprS, DL.retS, DL.retN, DL.ifS, DL.nilS, DL.brkS, DL.cntS, DL.callB, DL.callM, DL.intF, DL.boolF, DL.consA, DL.nilA, DL.starA, DL.bin, DL.un1, DL.negP, DL.bnd, DL.Out.bnd, DL.Out.thenS, DL.opt, DL.varE, DL.litE, DL.setItem, DL.ret, DL.subP, DL.mulP, DL.modP, DL.fdivP, DL.powP, DL.intP, DL.geP, DL.leP, DL.gtP, DL.ltP, DL.eqP, DL.neP, DL.tstE, DL.boolE, DL.andT, DL.orT, DL.notT, DL.andE, DL.orE, DL.notE, DL.ifE, DL.chainE, DL.tupE, DL.lstE, DL.lstC, DL.isNP, DL.notNP, DL.runD, DL.Res.out, DL.startD, DL.itE, DL.itR, DL.rng2, DL.forS, DL.tgN, DL.tgT, DL.tgCons, DL.tgNil, DL.slE, DL.noO, DL.someO, DL.inP, DL.notInP, DL.wipeD, DL.endW, DL.turn, DL.item, DL.forX, DL.ownS, DL.szA, DL.appO, DL.coldS, DL.ownL, DL.revF, DL.allF, DL.anyF, L2.atI, L2.ixN, DL.eqB_int, DL.eqB_str, DL.eqB_bl, DL.eqB_non, DL.eqB_ni, DL.eqB_in, DL.eqB_ns, DL.eqB_sn, DL.eqB_is, DL.eqB_si, DL.rng1_nat, DL.rng1_int, DL.inB_str, DL.size_is, DL.seqOf_tup, DL.seqF_tup, DL.lenP_tup, DL.listG_tup, DL.listF_tup, DL.tupleF_tup, DL.ixP_tup, DL.truB_tup, DL.seqOf_lst, DL.seqF_lst, DL.lenP_lst, DL.listG_lst, DL.listF_lst, DL.tupleF_lst, DL.ixP_lst, DL.truB_lst, DL.seqOf_rol, DL.seqF_rol, DL.lenP_rol, DL.listG_rol, DL.listF_rol, DL.tupleF_rol, DL.ixP_rol, DL.truB_rol, DL.seqOf_cell, DL.lenP_cell, DL.listG_cell, DL.listF_cell, DL.tupleF_cell, DL.ixP_cell, DL.truB_cell, DL.rlistOf_lst, DL.rlistOf_rol, DL.rlistOf_cell, DL.listOf_lst, DL.listOf_cell, DL.lenP_str, DL.listG_str, DL.ixP_str, DL.truB_non, DL.truB_bl, DL.truB_int, DL.truB_str, DL.addP_int, DL.addP_str, DL.addP_tup, DL.addP_lst, DL.addP_lc, DL.addP_cl, DL.ltB_int, DL.ltB_str, DL.slL_str, DL.slL_tup, DL.slL_lst, DL.slL_rol, DL.slL_cell, DL.isNon_tup, DL.isNon_lst, DL.isNon_ins, DL.isNon_non, DL.isNon_int, DL.isNon_str, DL.isNon_bl, DL.isNon_cell, DL.insOf_ins, DL.insOf_cell, isET, exTab, keyD, Res.free]
  rfl
def mxs (m : Int) (is : List Int) : Int := is.foldl (fun s i => if i ≥ s then i + 1 else s) m
theorem mxs_max : ∀ (is : List Int) (m : Int), mxs (m + 1) is = 1 + is.foldl max m
  | [], m => by show m + 1 = 1 + m; omega
  | i :: is, m => by
    show mxs (if i ≥ m + 1 then i + 1 else m + 1) is = 1 + is.foldl max (max m i)
    rw [← mxs_max is (max m i)]
    congr 1
    split <;> omega
theorem mxs_is {is : List Int} (h : ∀ i ∈ is, 0 ≤ i) (hn : is ≠ []) : mxs 0 is = 1 + maxI is := by
  cases is with
  | nil => exact absurd rfl hn
  | cons i is =>
    show mxs (if i ≥ 0 then i + 1 else 0) is = 1 + is.foldl max i
    have := h i (by simp)
    rw [if_pos this]
    exact mxs_max is i
theorem law_size_eq {b : List (List D)} {c : Cells} (h : b.all atomB = true) : m__law_size [.lst (b.map D.tup)] c = .ok (.int (mxs 0 (plcs b))) c := by
  have inner : ∀ (is : List Int) (m : Int) (x y : Slot), lp__law_size_2 (is.map D.int) [x, .sh (.int m), y, .un] c = .nx [x, .sh (.int (mxs m is)), y, .un] c := fun is m x y =>
    lp_fold (mk := fun s => [x, .sh (.int s), y, .un]) (f := fun s i => if i ≥ s then i + 1 else s) fun s i _ => by
      by_cases hi : s ≤ i
      · have : ¬ i < s := by omega
        simp [turn, endW, lb__law_size_2, DL.seqS, DL.Res.seq, DL.setIxS, DL.setS, DL.exprS, DL.retS, DL.retN, DL.ifS, DL.nilS, DL.brkS, DL.cntS, DL.callB, DL.callM, DL.intF, DL.boolF, DL.consA, DL.nilA, DL.starA, DL.bin, DL.un1, DL.negP, DL.bnd, DL.Out.bnd, DL.Out.thenS, DL.opt, DL.varE, DL.litE, DL.setItem, DL.ret, DL.subP, DL.mulP, DL.modP, DL.fdivP, DL.powP, DL.intP, DL.geP, DL.leP, DL.gtP, DL.ltP, DL.eqP, DL.neP, DL.tstE, DL.boolE, DL.andT, DL.orT, DL.notT, DL.andE, DL.orE, DL.notE, DL.ifE, DL.chainE, DL.tupE, DL.lstE, DL.lstC, DL.isNP, DL.notNP, DL.runD, DL.Res.out, DL.startD, DL.itE, DL.itR, DL.rng2, DL.forS, DL.tgN, DL.tgT, DL.tgCons, DL.tgNil, DL.slE, DL.noO, DL.someO, DL.inP, DL.notInP, DL.wipeD, DL.endW, DL.turn, DL.item, DL.forX, DL.ownS, DL.szA, DL.appO, DL.coldS, DL.ownL, DL.revF, DL.allF, DL.anyF, L2.atI, L2.ixN, DL.eqB_int, DL.eqB_str, DL.eqB_bl, DL.eqB_non, DL.eqB_ni, DL.eqB_in, DL.eqB_ns, DL.eqB_sn, DL.eqB_is, DL.eqB_si, DL.rng1_nat, DL.rng1_int, DL.inB_str, DL.size_is, DL.seqOf_tup, DL.seqF_tup, DL.lenP_tup, DL.listG_tup, DL.listF_tup, DL.tupleF_tup, DL.ixP_tup, DL.truB_tup, DL.seqOf_lst, DL.seqF_lst, DL.lenP_lst, DL.listG_lst, DL.listF_lst, DL.tupleF_lst, DL.ixP_lst, DL.truB_lst, DL.seqOf_rol, DL.seqF_rol, DL.lenP_rol, DL.listG_rol, DL.listF_rol, DL.tupleF_rol, DL.ixP_rol, DL.truB_rol, DL.seqOf_cell, DL.lenP_cell, DL.listG_cell, DL.listF_cell, DL.tupleF_cell, DL.ixP_cell, DL.truB_cell, DL.rlistOf_lst, DL.rlistOf_rol, DL.rlistOf_cell, DL.listOf_lst, DL.listOf_cell, DL.lenP_str, DL.listG_str, DL.ixP_str, DL.truB_non, DL.truB_bl, DL.truB_int, DL.truB_str, DL.addP_int, DL.addP_str, DL.addP_tup, DL.addP_lst, DL.addP_lc, DL.addP_cl, DL.ltB_int, DL.ltB_str, DL.slL_str, DL.slL_tup, DL.slL_lst, DL.slL_rol, DL.slL_cell, DL.isNon_tup, DL.isNon_lst, DL.isNon_ins, DL.isNon_non, DL.isNon_int, DL.isNon_str, DL.isNon_bl, DL.isNon_cell, DL.insOf_ins, DL.insOf_cell, hi, this]
      · have : i < s := by omega
        simp [turn, endW, lb__law_size_2, DL.seqS, DL.Res.seq, DL.setIxS, DL.setS, DL.exprS, DL.retS, DL.retN, DL.ifS, DL.nilS, DL.brkS, DL.cntS, DL.callB, DL.callM, DL.intF, DL.boolF, DL.consA, DL.nilA, DL.starA, DL.bin, DL.un1, DL.negP, DL.bnd, DL.Out.bnd, DL.Out.thenS, DL.opt, DL.varE, DL.litE, DL.setItem, DL.ret, DL.subP, DL.mulP, DL.modP, DL.fdivP, DL.powP, DL.intP, DL.geP, DL.leP, DL.gtP, DL.ltP, DL.eqP, DL.neP, DL.tstE, DL.boolE, DL.andT, DL.orT, DL.notT, DL.andE, DL.orE, DL.notE, DL.ifE, DL.chainE, DL.tupE, DL.lstE, DL.lstC, DL.isNP, DL.notNP, DL.runD, DL.Res.out, DL.startD, DL.itE, DL.itR, DL.rng2, DL.forS, DL.tgN, DL.tgT, DL.tgCons, DL.tgNil, DL.slE, DL.noO, DL.someO, DL.inP, DL.notInP, DL.wipeD, DL.endW, DL.turn, DL.item, DL.forX, DL.ownS, DL.szA, DL.appO, DL.coldS, DL.ownL, DL.revF, DL.allF, DL.anyF, L2.atI, L2.ixN, DL.eqB_int, DL.eqB_str, DL.eqB_bl, DL.eqB_non, DL.eqB_ni, DL.eqB_in, DL.eqB_ns, DL.eqB_sn, DL.eqB_is, DL.eqB_si, DL.rng1_nat, DL.rng1_int, DL.inB_str, DL.size_is, DL.seqOf_tup, DL.seqF_tup, DL.lenP_tup, DL.listG_tup, DL.listF_tup, DL.tupleF_tup, DL.ixP_tup, DL.truB_tup, DL.seqOf_lst, DL.seqF_lst, DL.lenP_lst, DL.listG_lst, DL.listF_lst, DL.tupleF_lst, DL.ixP_lst, DL.truB_lst, DL.seqOf_rol, DL.seqF_rol, DL.lenP_rol, DL.listG_rol, DL.listF_rol, DL.tupleF_rol, DL.ixP_rol, DL.truB_rol, DL.seqOf_cell, DL.lenP_cell, DL.listG_cell, DL.listF_cell, DL.tupleF_cell, DL.ixP_cell, DL.truB_cell, DL.rlistOf_lst, DL.rlistOf_rol, DL.rlistOf_cell, DL.listOf_lst, DL.listOf_cell, DL.lenP_str, DL.listG_str, DL.ixP_str, DL.truB_non, DL.truB_bl, DL.truB_int, DL.truB_str, DL.addP_int, DL.addP_str, DL.addP_tup, DL.addP_lst, DL.addP_lc, DL.addP_cl, DL.ltB_int, DL.ltB_str, DL.slL_str, DL.slL_tup, DL.slL_lst, DL.slL_rol, DL.slL_cell, DL.isNon_tup, DL.isNon_lst, DL.isNon_ins, DL.isNon_non, DL.isNon_int, DL.isNon_str, DL.isNon_bl, DL.isNon_cell, DL.insOf_ins, DL.insOf_cell, hi, this]
  have outer : lp__law_size_1 (b.map D.tup) [.sh (.lst (b.map D.tup)), .sh (.int 0), .un, .un] c = .nx [.sh (.lst (b.map D.tup)), .sh (.int (b.foldl (fun m (a : List D) => mxs m (intsOf (a.drop 1))) 0)), .un, .un] c := by
    refine lp_fold (mk := fun s => [.sh (.lst (b.map D.tup)), .sh (.int s), .un, .un]) (f := fun m (a : List D) => mxs m (intsOf (a.drop 1))) fun s a ha => ?_
    have := List.all_eq_true.mp h a ha
    simp only [atomB, Bool.and_eq_true, Bool.not_eq_true'] at this
    obtain ⟨is, e, hi⟩ := isA_ints this.2 this.1
    have i2 := inner is s (.sh (.lst (b.map D.tup))) (.sh (.tup a))
    rw [← e] at i2
    rw [e, intsOf_map]
    simp [turn, endW, lb__law_size_1, DL.seqS, DL.Res.seq, DL.setIxS, DL.setS, DL.exprS, DL.retS, DL.retN, DL.ifS, DL.nilS, DL.brkS, DL.cntS, DL.callB, DL.callM, DL.intF, DL.boolF, DL.consA, DL.nilA, DL.starA, DL.bin, DL.un1, DL.negP, DL.bnd, DL.Out.bnd, DL.Out.thenS, DL.opt, DL.varE, DL.litE, DL.setItem, DL.ret, DL.subP, DL.mulP, DL.modP, DL.fdivP, DL.powP, DL.intP, DL.geP, DL.leP, DL.gtP, DL.ltP, DL.eqP, DL.neP, DL.tstE, DL.boolE, DL.andT, DL.orT, DL.notT, DL.andE, DL.orE, DL.notE, DL.ifE, DL.chainE, DL.tupE, DL.lstE, DL.lstC, DL.isNP, DL.notNP, DL.runD, DL.Res.out, DL.startD, DL.itE, DL.itR, DL.rng2, DL.forS, DL.tgN, DL.tgT, DL.tgCons, DL.tgNil, DL.slE, DL.noO, DL.someO, DL.inP, DL.notInP, DL.wipeD, DL.endW, DL.turn, DL.item, DL.forX, DL.ownS, DL.szA, DL.appO, DL.coldS, DL.ownL, DL.revF, DL.allF, DL.anyF, L2.atI, L2.ixN, DL.eqB_int, DL.eqB_str, DL.eqB_bl, DL.eqB_non, DL.eqB_ni, DL.eqB_in, DL.eqB_ns, DL.eqB_sn, DL.eqB_is, DL.eqB_si, DL.rng1_nat, DL.rng1_int, DL.inB_str, DL.size_is, DL.seqOf_tup, DL.seqF_tup, DL.lenP_tup, DL.listG_tup, DL.listF_tup, DL.tupleF_tup, DL.ixP_tup, DL.truB_tup, DL.seqOf_lst, DL.seqF_lst, DL.lenP_lst, DL.listG_lst, DL.listF_lst, DL.tupleF_lst, DL.ixP_lst, DL.truB_lst, DL.seqOf_rol, DL.seqF_rol, DL.lenP_rol, DL.listG_rol, DL.listF_rol, DL.tupleF_rol, DL.ixP_rol, DL.truB_rol, DL.seqOf_cell, DL.lenP_cell, DL.listG_cell, DL.listF_cell, DL.tupleF_cell, DL.ixP_cell, DL.truB_cell, DL.rlistOf_lst, DL.rlistOf_rol, DL.rlistOf_cell, DL.listOf_lst, DL.listOf_cell, DL.lenP_str, DL.listG_str, DL.ixP_str, DL.truB_non, DL.truB_bl, DL.truB_int, DL.truB_str, DL.addP_int, DL.addP_str, DL.addP_tup, DL.addP_lst, DL.addP_lc, DL.addP_cl, DL.ltB_int, DL.ltB_str, DL.slL_str, DL.slL_tup, DL.slL_lst, DL.slL_rol, DL.slL_cell, DL.isNon_tup, DL.isNon_lst, DL.isNon_ins, DL.isNon_non, DL.isNon_int, DL.isNon_str, DL.isNon_bl, DL.isNon_cell, DL.insOf_ins, DL.insOf_cell, cut_from (i := 1) 1 rfl]
    rw [← List.drop_one, i2]
    simp
  have fold : ∀ (b : List (List D)) (m : Int), b.foldl (fun m (a : List D) => mxs m (intsOf (a.drop 1))) m = mxs m (plcs b) := by
    intro b
    induction b with
    | nil => intro m; rfl
    | cons a b ih =>
      intro m
      have : plcs (a :: b) = intsOf (a.drop 1) ++ plcs b := rfl
      rw [List.foldl_cons, ih, this]
      show _ = (intsOf (a.drop 1) ++ plcs b).foldl _ m
      rw [List.foldl_append]
      rfl
  rw [fold] at outer
  simp [m__law_size, b__law_size, DL.seqS, DL.Res.seq, DL.setIxS, DL.setS, DL.exprS, DL.retS, DL.retN, DL.ifS, DL.nilS, DL.brkS, DL.cntS, DL.callB, DL.callM, DL.intF, DL.boolF, DL.consA, DL.nilA, DL.starA, DL.bin, DL.un1, DL.negP, DL.bnd, DL.Out.bnd, DL.Out.thenS, DL.opt, DL.varE, DL.litE, DL.setItem, DL.ret, DL.subP, DL.mulP, DL.modP, DL.fdivP, DL.powP, DL.intP, DL.geP, DL.leP, DL.gtP, DL.ltP, DL.eqP, DL.neP, DL.tstE, DL.boolE, DL.andT, DL.orT, DL.notT, DL.andE, DL.orE, DL.notE, DL.ifE, DL.chainE, DL.tupE, DL.lstE, DL.lstC, DL.isNP, DL.notNP, DL.runD, DL.Res.out, DL.startD, DL.itE, DL.itR, DL.rng2, DL.forS, DL.tgN, DL.tgT, DL.tgCons, DL.tgNil, DL.slE, DL.noO, DL.someO, DL.inP, DL.notInP, DL.wipeD, DL.endW, DL.turn, DL.item, DL.forX, DL.ownS, DL.szA, DL.appO, DL.coldS, DL.ownL, DL.revF, DL.allF, DL.anyF, L2.atI, L2.ixN, DL.eqB_int, DL.eqB_str, DL.eqB_bl, DL.eqB_non, DL.eqB_ni, DL.eqB_in, DL.eqB_ns, DL.eqB_sn, DL.eqB_is, DL.eqB_si, DL.rng1_nat, DL.rng1_int, DL.inB_str, DL.size_is, DL.seqOf_tup, DL.seqF_tup, DL.lenP_tup, DL.listG_tup, DL.listF_tup, DL.tupleF_tup, DL.ixP_tup, DL.truB_tup, DL.seqOf_lst, DL.seqF_lst, DL.lenP_lst, DL.listG_lst, DL.listF_lst, DL.tupleF_lst, DL.ixP_lst, DL.truB_lst, DL.seqOf_rol, DL.seqF_rol, DL.lenP_rol, DL.listG_rol, DL.listF_rol, DL.tupleF_rol, DL.ixP_rol, DL.truB_rol, DL.seqOf_cell, DL.lenP_cell, DL.listG_cell, DL.listF_cell, DL.tupleF_cell, DL.ixP_cell, DL.truB_cell, DL.rlistOf_lst, DL.rlistOf_rol, DL.rlistOf_cell, DL.listOf_lst, DL.listOf_cell, DL.lenP_str, DL.listG_str, DL.ixP_str, DL.truB_non, DL.truB_bl, DL.truB_int, DL.truB_str, DL.addP_int, DL.addP_str, DL.addP_tup, DL.addP_lst, DL.addP_lc, DL.addP_cl, DL.ltB_int, DL.ltB_str, DL.slL_str, DL.slL_tup, DL.slL_lst, DL.slL_rol, DL.slL_cell, DL.isNon_tup, DL.isNon_lst, DL.isNon_ins, DL.isNon_non, DL.isNon_int, DL.isNon_str, DL.isNon_bl, DL.isNon_cell, DL.insOf_ins, DL.insOf_cell, outer]
/-- parts that make a promise -/
structure Good (l : List Nat) (b : List (List D)) (h : List D) (n : Int) : Prop where
  f : Flat l b h
  nm : nameB l = true
  sz : sizeB b = some n
  hd : isA h n = true
section
variable {l : List Nat} {b : List (List D)} {h : List D} {n : Int}
theorem Good.made (g : Good l b h n) : madeB l b h = some [.str (S l), .tup (b.map D.tup), .tup h, .int n] := by
  unfold madeB
  rw [if_pos g.nm, g.sz]
  simp [g.hd]
theorem sizeB_some (hs : sizeB b = some n) : 1 ≤ b.length ∧ b.length ≤ 8 ∧ b.all atomB = true ∧ n = 1 + maxI (plcs b) := by
  unfold sizeB at hs
  split at hs
  · rename_i hh
    split at hs
    · exact ⟨hh.1, hh.2.1, hh.2.2, (Option.some.inj hs).symm⟩
    · cases hs
  · cases hs
theorem plcs_ne (hb : 1 ≤ b.length) (h : b.all atomB = true) : plcs b ≠ [] := by
  match b, hb, h with
  | a :: b, _, h =>
    simp only [List.all_cons, Bool.and_eq_true, atomB, Bool.not_eq_true'] at h
    obtain ⟨⟨h1, h2⟩, h3⟩ := h
    obtain ⟨is, e, hi⟩ := isA_ints h2 h1
    have ep : plcs (a :: b) = is ++ plcs b := by unfold plcs; rw [List.flatMap_cons, e, intsOf_map]
    rw [ep]
    cases is with
    | cons i is => simp
    | nil =>
      match a, h2, h1, e with
      | [.str s], h2, h1, _ => simp [isA] at h2; simp [neverB] at h1; exact absurd h2.symm h1
theorem Good.size (g : Good l b h n) {c : Cells} : m__law_size [.lst (b.map D.tup)] c = .ok (.int n) c := by
  obtain ⟨h1, h2, h3, h4⟩ := sizeB_some g.sz
  rw [law_size_eq h3, mxs_is (fun i hi => ((plcs_flat h3).2 i hi).1) (plcs_ne h1 h3), h4]
theorem flat_plain {n : Nat} : ∀ {xs : List D}, xs.all flat = true → ∀ x ∈ xs, plainN (n + 1) x = true := fun h x hx => by
  have := List.all_eq_true.mp h x hx
  cases x <;> simp [flat] at this <;> simp [plainN]
theorem flatT_plain {a : List D} (h : flatT (.tup a) = true) {n : Nat} : plainN (n + 2) (.tup a) = true := by
  simp only [flatT, Bool.and_eq_true, decide_eq_true_eq] at h
  simp only [plainN, Bool.and_eq_true, decide_eq_true_eq, List.all_eq_true]
  exact ⟨flat_plain h.1, by omega⟩
theorem body_plain (hb : ∀ a ∈ b, flatT (.tup a) = true) (hl : b.length ≤ 1000) {n : Nat} : plainN (n + 3) (.tup (b.map D.tup)) = true := by
  simp only [plainN, Bool.and_eq_true, decide_eq_true_eq, List.all_eq_true, List.length_map]
  refine ⟨fun x hx => ?_, by omega⟩
  obtain ⟨a, ha, rfl⟩ := List.mem_map.mp hx
  exact flatT_plain (hb a ha)
theorem plain_refl : ∀ {n : Nat} {d : D} {c : Cells}, plainN n d = true → m__law_same n [d, d] c = .ok (.bl true) c := fun h => same_refl h
theorem told_eq (g : Good l b h n) {c : Cells} : m__law_told [.ins 3 [.str (S l), .tup (b.map D.tup), .tup h, .int n], .str (S l), .lst (b.map D.tup), .tup h] c = .ok (.bl true) c := by
  have e1 := g.size (c := c)
  have e2 : m__law_same 6 [.str (S l), .str (S l)] c = .ok (.bl true) c := plain_refl rfl
  have e3 : m__law_same 6 [.tup (b.map D.tup), .tup (b.map D.tup)] c = .ok (.bl true) c := plain_refl (body_plain g.f.atm g.f.len)
  have e4 : m__law_same 6 [.tup h, .tup h] c = .ok (.bl true) c := plain_refl (flatT_plain g.f.hd)
  have e5 : m__law_same 6 [.int n, .int n] c = .ok (.bl true) c := plain_refl rfl
  simp [m__law_told, b__law_told, DL.seqS, DL.Res.seq, DL.setIxS, DL.setS, DL.exprS, DL.retS, DL.retN, DL.ifS, DL.nilS, DL.brkS, DL.cntS, DL.callB, DL.callM, DL.intF, DL.boolF, DL.consA, DL.nilA, DL.starA, DL.bin, DL.un1, DL.negP, DL.bnd, DL.Out.bnd, DL.Out.thenS, DL.opt, DL.varE, DL.litE, DL.setItem, DL.ret, DL.subP, DL.mulP, DL.modP, DL.fdivP, DL.powP, DL.intP, DL.geP, DL.leP, DL.gtP, DL.ltP, DL.eqP, DL.neP, DL.tstE, DL.boolE, DL.andT, DL.orT, DL.notT, DL.andE, DL.orE, DL.notE, DL.ifE, DL.chainE, DL.tupE, DL.lstE, DL.lstC, DL.isNP, DL.notNP, DL.runD, DL.Res.out, DL.startD, DL.itE, DL.itR, DL.rng2, DL.forS, DL.tgN, DL.tgT, DL.tgCons, DL.tgNil, DL.slE, DL.noO, DL.someO, DL.inP, DL.notInP, DL.wipeD, DL.endW, DL.turn, DL.item, DL.forX, DL.ownS, DL.szA, DL.appO, DL.coldS, DL.ownL, DL.revF, DL.allF, DL.anyF, L2.atI, L2.ixN, DL.eqB_int, DL.eqB_str, DL.eqB_bl, DL.eqB_non, DL.eqB_ni, DL.eqB_in, DL.eqB_ns, DL.eqB_sn, DL.eqB_is, DL.eqB_si, DL.rng1_nat, DL.rng1_int, DL.inB_str, DL.size_is, DL.seqOf_tup, DL.seqF_tup, DL.lenP_tup, DL.listG_tup, DL.listF_tup, DL.tupleF_tup, DL.ixP_tup, DL.truB_tup, DL.seqOf_lst, DL.seqF_lst, DL.lenP_lst, DL.listG_lst, DL.listF_lst, DL.tupleF_lst, DL.ixP_lst, DL.truB_lst, DL.seqOf_rol, DL.seqF_rol, DL.lenP_rol, DL.listG_rol, DL.listF_rol, DL.tupleF_rol, DL.ixP_rol, DL.truB_rol, DL.seqOf_cell, DL.lenP_cell, DL.listG_cell, DL.listF_cell, DL.tupleF_cell, DL.ixP_cell, DL.truB_cell, DL.rlistOf_lst, DL.rlistOf_rol, DL.rlistOf_cell, DL.listOf_lst, DL.listOf_cell, DL.lenP_str, DL.listG_str, DL.ixP_str, DL.truB_non, DL.truB_bl, DL.truB_int, DL.truB_str, DL.addP_int, DL.addP_str, DL.addP_tup, DL.addP_lst, DL.addP_lc, DL.addP_cl, DL.ltB_int, DL.ltB_str, DL.slL_str, DL.slL_tup, DL.slL_lst, DL.slL_rol, DL.slL_cell, DL.isNon_tup, DL.isNon_lst, DL.isNon_ins, DL.isNon_non, DL.isNon_int, DL.isNon_str, DL.isNon_bl, DL.isNon_cell, DL.insOf_ins, DL.insOf_cell, fldP, e1, e2, e3, e4, e5]
end
theorem goodN_flat {n : Nat} : ∀ {xs : List D}, xs.all flat = true → ∀ x ∈ xs, goodN n x = true := fun h x hx => by
  have := List.all_eq_true.mp h x hx
  rcases flat_cases this with ⟨s, rfl, hs⟩ | ⟨i, rfl⟩
  · have := OkS.lay hs
    simpa [goodN, PyData.canLay0] using this
  · simp [goodN]
theorem flatT_good {a : List D} (h : flatT (.tup a) = true) {n : Nat} : goodN (n + 1) (.tup a) = true := by
  simp only [flatT, Bool.and_eq_true, decide_eq_true_eq] at h
  simp only [goodN, List.all_eq_true]
  exact goodN_flat h.1
theorem body_goodT {b : List (List D)} (hb : ∀ a ∈ b, flatT (.tup a) = true) {n : Nat} : goodN (n + 2) (.tup (b.map D.tup)) = true := by
  simp only [goodN, List.all_eq_true]
  intro x hx
  obtain ⟨a, ha, rfl⟩ := List.mem_map.mp hx
  exact flatT_good (hb a ha)
theorem body_goodL {b : List (List D)} (hb : ∀ a ∈ b, flatT (.tup a) = true) {n : Nat} : goodN (n + 2) (.lst (b.map D.tup)) = true := by
  simp only [goodN, List.all_eq_true]
  intro x hx
  obtain ⟨a, ha, rfl⟩ := List.mem_map.mp hx
  exact flatT_good (hb a ha)
abbrev prD (l : List Nat) (b : List (List D)) (h : List D) (n : Int) : D := .ins 3 [.str (S l), .tup (b.map D.tup), .tup h, .int n]
theorem pr_eq {l l' : List Nat} {b b' : List (List D)} {h h' : List D} {n n' : Int} (f : Flat l b h) (f' : Flat l' b' h') {c : Cells} :
    m_Promise___eq__ [prD l b h n, prD l' b' h' n'] c = .ok (.bl (decide (l = l') && (beqD (.tup (b.map D.tup)) (.tup (b'.map D.tup)) && beqD (.tup h) (.tup h')))) c := by
  have e1 := eqB_good (c := c) (body_goodT f.atm (n := 0)) (body_goodT f'.atm (n := 0)) (by decide)
  have e2 := eqB_good (c := c) (flatT_good f.hd (n := 0)) (flatT_good f'.hd (n := 0)) (by decide)
  have e3 : (decide (S l = S l')) = decide (l = l') := by rw [decide_eq_decide]; exact S_inj
  cases h1 : decide (l = l') <;> cases h2 : beqD (.tup (b.map D.tup)) (.tup (b'.map D.tup)) <;> rw [h1] at e3 <;> rw [h2] at e1 <;>
    simp [m_Promise___eq__, b_Promise___eq__, DL.seqS, DL.Res.seq, DL.setIxS, DL.setS, DL.exprS, DL.retS, DL.retN, DL.ifS, DL.nilS, DL.brkS, DL.cntS, DL.callB, DL.callM, DL.intF, DL.boolF, DL.consA, DL.nilA, DL.starA, DL.bin, DL.un1, DL.negP, DL.bnd, DL.Out.bnd, DL.Out.thenS, DL.opt, DL.varE, DL.litE, DL.setItem, DL.ret, DL.subP, DL.mulP, DL.modP, DL.fdivP, DL.powP, DL.intP, DL.geP, DL.leP, DL.gtP, DL.ltP, DL.eqP, DL.neP, DL.tstE, DL.boolE, DL.andT, DL.orT, DL.notT, DL.andE, DL.orE, DL.notE, DL.ifE, DL.chainE, DL.tupE, DL.lstE, DL.lstC, DL.isNP, DL.notNP, DL.runD, DL.Res.out, DL.startD, DL.itE, DL.itR, DL.rng2, DL.forS, DL.tgN, DL.tgT, DL.tgCons, DL.tgNil, DL.slE, DL.noO, DL.someO, DL.inP, DL.notInP, DL.wipeD, DL.endW, DL.turn, DL.item, DL.forX, DL.ownS, DL.szA, DL.appO, DL.coldS, DL.ownL, DL.revF, DL.allF, DL.anyF, L2.atI, L2.ixN, DL.eqB_int, DL.eqB_str, DL.eqB_bl, DL.eqB_non, DL.eqB_ni, DL.eqB_in, DL.eqB_ns, DL.eqB_sn, DL.eqB_is, DL.eqB_si, DL.rng1_nat, DL.rng1_int, DL.inB_str, DL.size_is, DL.seqOf_tup, DL.seqF_tup, DL.lenP_tup, DL.listG_tup, DL.listF_tup, DL.tupleF_tup, DL.ixP_tup, DL.truB_tup, DL.seqOf_lst, DL.seqF_lst, DL.lenP_lst, DL.listG_lst, DL.listF_lst, DL.tupleF_lst, DL.ixP_lst, DL.truB_lst, DL.seqOf_rol, DL.seqF_rol, DL.lenP_rol, DL.listG_rol, DL.listF_rol, DL.tupleF_rol, DL.ixP_rol, DL.truB_rol, DL.seqOf_cell, DL.lenP_cell, DL.listG_cell, DL.listF_cell, DL.tupleF_cell, DL.ixP_cell, DL.truB_cell, DL.rlistOf_lst, DL.rlistOf_rol, DL.rlistOf_cell, DL.listOf_lst, DL.listOf_cell, DL.lenP_str, DL.listG_str, DL.ixP_str, DL.truB_non, DL.truB_bl, DL.truB_int, DL.truB_str, DL.addP_int, DL.addP_str, DL.addP_tup, DL.addP_lst, DL.addP_lc, DL.addP_cl, DL.ltB_int, DL.ltB_str, DL.slL_str, DL.slL_tup, DL.slL_lst, DL.slL_rol, DL.slL_cell, DL.isNon_tup, DL.isNon_lst, DL.isNon_ins, DL.isNon_non, DL.isNon_int, DL.isNon_str, DL.isNon_bl, DL.isNon_cell, DL.insOf_ins, DL.insOf_cell, isiP, isiB, tyN, isis, fldP, e1, e2, eqP, e3, S_inj] <;> simp_all
theorem let_in_eq {l : List Nat} {b : List (List D)} {h : List D} {n : Int} (g : Good l b h n) {k : Cell} {c : Cells} : ∃ c', m__law_let_in [.str (S l), .lst (b.map D.tup), .tup h] (k :: c) = .ok (.bl true) (k :: c') := by
  obtain ⟨h1, h2, h3, h4⟩ := sizeB_some g.sz
  have hl : b.length < 16777216 := by omega
  have i1 := init_eq (d := .cell (c.length + 1)) (c := k :: (c ++ [Cell.lst (b.map D.tup)])) (.inr (.inr ⟨_, rfl, by simp⟩)) g.f
  have i2 := init_eq (d := .tup (b.map D.tup)) (c := k :: (c ++ [Cell.lst (b.map D.tup)])) (.inr (.inl rfl)) g.f
  rw [g.made] at i1 i2
  simp only at i1 i2
  have t1 := told_eq g (c := k :: (c ++ [Cell.lst (b.map D.tup)]))
  have t2 := told_eq g (c := k :: (c ++ [Cell.lst ((b.map D.tup ++ [D.tup [D.str "Z", D.int 0]]).set 0 (D.tup [D.str "Q", D.int 0]))]))
  have q := pr_eq (n := n) (n' := n) g.f g.f (c := k :: (c ++ [Cell.lst ((b.map D.tup ++ [D.tup [D.str "Z", D.int 0]]).set 0 (D.tup [D.str "Q", D.int 0]))]))
  rw [beqD_refl _ (body_goodT g.f.atm (n := 0)), beqD_refl _ (flatT_good g.f.hd (n := 0))] at q
  simp only [decide_true, Bool.and_true] at q
  have s1 : m__law_same 6 [.bl true, .bl true] (k :: (c ++ [Cell.lst ((b.map D.tup ++ [D.tup [D.str "Z", D.int 0]]).set 0 (D.tup [D.str "Q", D.int 0]))])) = .ok (.bl true) (k :: (c ++ [Cell.lst ((b.map D.tup ++ [D.tup [D.str "Z", D.int 0]]).set 0 (D.tup [D.str "Q", D.int 0]))])) := plain_refl rfl
  have en : eqB (.cell (c.length + 1)) (.lst (b.map D.tup)) (k :: (c ++ [Cell.lst (b.map D.tup)])) = some true := by
    have := eqB_good (c := k :: (c ++ [Cell.lst (b.map D.tup)])) (body_goodL g.f.atm (n := 0)) (body_goodL g.f.atm (n := 0)) (by decide)
    rw [beqD_refl _ (body_goodL g.f.atm (n := 0))] at this
    simpa [eqB, eqS, der] using this
  refine ⟨c ++ [Cell.lst ((b.map D.tup ++ [D.tup [D.str "Z", D.int 0]]).set 0 (D.tup [D.str "Q", D.int 0]))], run_rt rfl ?_⟩
  simp [b__law_let_in, DL.seqS, DL.Res.seq, DL.setIxS, DL.setS, DL.exprS, DL.retS, DL.retN, DL.ifS, DL.nilS, DL.brkS, DL.cntS, DL.callB, DL.callM, DL.intF, DL.boolF, DL.consA, DL.nilA, DL.starA, DL.bin, DL.un1, DL.negP, DL.bnd, DL.Out.bnd, DL.Out.thenS, DL.opt, DL.varE, DL.litE, DL.setItem, DL.ret, DL.subP, DL.mulP, DL.modP, DL.fdivP, DL.powP, DL.intP, DL.geP, DL.leP, DL.gtP, DL.ltP, DL.eqP, DL.neP, DL.tstE, DL.boolE, DL.andT, DL.orT, DL.notT, DL.andE, DL.orE, DL.notE, DL.ifE, DL.chainE, DL.tupE, DL.lstE, DL.lstC, DL.isNP, DL.notNP, DL.runD, DL.Res.out, DL.startD, DL.itE, DL.itR, DL.rng2, DL.forS, DL.tgN, DL.tgT, DL.tgCons, DL.tgNil, DL.slE, DL.noO, DL.someO, DL.inP, DL.notInP, DL.wipeD, DL.endW, DL.turn, DL.item, DL.forX, DL.ownS, DL.szA, DL.appO, DL.coldS, DL.ownL, DL.revF, DL.allF, DL.anyF, L2.atI, L2.ixN, DL.eqB_int, DL.eqB_str, DL.eqB_bl, DL.eqB_non, DL.eqB_ni, DL.eqB_in, DL.eqB_ns, DL.eqB_sn, DL.eqB_is, DL.eqB_si, DL.rng1_nat, DL.rng1_int, DL.inB_str, DL.size_is, DL.seqOf_tup, DL.seqF_tup, DL.lenP_tup, DL.listG_tup, DL.listF_tup, DL.tupleF_tup, DL.ixP_tup, DL.truB_tup, DL.seqOf_lst, DL.seqF_lst, DL.lenP_lst, DL.listG_lst, DL.listF_lst, DL.tupleF_lst, DL.ixP_lst, DL.truB_lst, DL.seqOf_rol, DL.seqF_rol, DL.lenP_rol, DL.listG_rol, DL.listF_rol, DL.tupleF_rol, DL.ixP_rol, DL.truB_rol, DL.seqOf_cell, DL.lenP_cell, DL.listG_cell, DL.listF_cell, DL.tupleF_cell, DL.ixP_cell, DL.truB_cell, DL.rlistOf_lst, DL.rlistOf_rol, DL.rlistOf_cell, DL.listOf_lst, DL.listOf_cell, DL.lenP_str, DL.listG_str, DL.ixP_str, DL.truB_non, DL.truB_bl, DL.truB_int, DL.truB_str, DL.addP_int, DL.addP_str, DL.addP_tup, DL.addP_lst, DL.addP_lc, DL.addP_cl, DL.ltB_int, DL.ltB_str, DL.slL_str, DL.slL_tup, DL.slL_lst, DL.slL_rol, DL.slL_cell, DL.isNon_tup, DL.isNon_lst, DL.isNon_ins, DL.isNon_non, DL.isNon_int, DL.isNon_str, DL.isNon_bl, DL.isNon_cell, DL.insOf_ins, DL.insOf_cell, ceE, copyE, makeM, i1, i2, en, neP, t1, appC, hl, t2, q, s1, ownM]
theorem atI_natG {α : Type} {xs : List α} {k : Nat} : L2.atI xs (k : Int) = xs[k]? := by
  by_cases h : k < xs.length
  · simp [L2.atI, L2.ixN, h]
  · have : ¬ ((k : Int) < xs.length) := by omega
    simp [L2.atI, L2.ixN, h]
theorem draw_o (s : DS) {n : Int} (h1 : 1 ≤ n) (h2 : n ≤ 10 ^ 40) : ∃ (k : Nat) (s' : DS), (k : Int) < n ∧ ∀ cs, m_draw [.cell 0, .int n] (s.c :: cs) = .ok (.int k) (s'.c :: cs) := by
  obtain ⟨k, hk⟩ := Int.eq_ofNat_of_zero_le (dv_lo s n)
  exact ⟨k, ds s n, by rw [← hk]; exact dv_hi s h1, fun cs => by rw [draw_s h1 h2, hk]⟩
theorem abc_ix {i : Int} (h0 : 0 ≤ i) (h1 : i < 26) {c : Cells} : ixP (.str "abcdefghijklmnopqrstuvwxyz") (.int i) c = some (.str (S [97 + i.toNat])) := by
  obtain ⟨k, rfl⟩ := Int.eq_ofNat_of_zero_le h0
  have hk : k < 26 := by omega
  rw [abc_is, ixP_str, if_pos (by rw [S_len]; decide), atI_natG]
  simp [hk]
theorem caps_ix {i : Int} (h0 : 0 ≤ i) (h1 : i < 26) {c : Cells} : ixP (.str "ABCDEFGHIJKLMNOPQRSTUVWXYZ") (.int i) c = some (.str (S [65 + i.toNat])) := by
  obtain ⟨k, rfl⟩ := Int.eq_ofNat_of_zero_le h0
  have hk : k < 26 := by omega
  have hz : ("ABCDEFGHIJKLMNOPQRSTUVWXYZ" : PySem.Str).length ≤ sizeLine := by decide +kernel
  rw [ixP_str, if_pos hz, caps_are, atI_natG]
  simp [hk]
def Low (l : List Nat) : Prop := ∀ n ∈ l, 97 ≤ n ∧ n ≤ 122
theorem nameB_of {l : List Nat} (h1 : 1 ≤ l.length) (h2 : l.length ≤ 12) (h : Low l) : nameB l = true := by
  simp only [nameB, h1, h2, decide_true, Bool.true_and, List.all_eq_true, Bool.and_eq_true, decide_eq_true_eq]
  exact h
theorem empty_S : ("" : PySem.Str) = S [] := rfl
theorem word_ok (s : DS) (cs : Cells) : ∃ (l : List Nat) (s' : DS), m__law_word [.cell 0, .int 12] (s.c :: cs) = .ok (.str (S l)) (s'.c :: cs) ∧ 1 ≤ l.length ∧ l.length ≤ 12 ∧ Low l := by
  have d0 := dv_lo s 12
  have d1 := dv_hi s (n := 12) (by decide)
  obtain ⟨k, hk⟩ := Int.eq_ofNat_of_zero_le d0
  obtain ⟨⟨s', l⟩, e, hl, hw⟩ := lp_inv (js := [4]) (tg := tgN 4) (b := lb__law_word_1) (S := DS × List Nat) (mk := fun x => [.sh (.cell 0), .sh (.int 12), .sh (.str "abcdefghijklmnopqrstuvwxyz"), .sh (.str (S x.2)), .un]) (cl := fun x => x.1.c :: cs) (I := fun i x => x.2.length = i ∧ Low x.2)
    (xs := rangeD 0 (1 + k)) (k := 0) (s := (ds s 12, [])) ⟨rfl, fun _ h => by cases h⟩ fun i x ⟨s, l⟩ hi ⟨hl, hw⟩ => by
      have hi' : i < 1 + k := by
        have := (List.getElem?_eq_some_iff.mp hi).1
        rwa [rangeD_length] at this
      have e0 := dv_lo s 26
      have e1 := dv_hi s (n := 26) (by decide)
      have ha := abc_ix e0 e1 (c := (ds s 26).c :: cs)
      have hz : l.length + 1 ≤ 16777216 := by simp only at hl; omega
      refine ⟨(ds s 26, l ++ [97 + (dv s 26).toNat]), ?_, by simp at hl ⊢; omega, fun n hn => ?_⟩
      · simp [turn, endW, lb__law_word_1, DL.seqS, DL.Res.seq, DL.setIxS, DL.setS, DL.exprS, DL.retS, DL.retN, DL.ifS, DL.nilS, DL.brkS, DL.cntS, DL.callB, DL.callM, DL.intF, DL.boolF, DL.consA, DL.nilA, DL.starA, DL.bin, DL.un1, DL.negP, DL.bnd, DL.Out.bnd, DL.Out.thenS, DL.opt, DL.varE, DL.litE, DL.setItem, DL.ret, DL.subP, DL.mulP, DL.modP, DL.fdivP, DL.powP, DL.intP, DL.geP, DL.leP, DL.gtP, DL.ltP, DL.eqP, DL.neP, DL.tstE, DL.boolE, DL.andT, DL.orT, DL.notT, DL.andE, DL.orE, DL.notE, DL.ifE, DL.chainE, DL.tupE, DL.lstE, DL.lstC, DL.isNP, DL.notNP, DL.runD, DL.Res.out, DL.startD, DL.itE, DL.itR, DL.rng2, DL.forS, DL.tgN, DL.tgT, DL.tgCons, DL.tgNil, DL.slE, DL.noO, DL.someO, DL.inP, DL.notInP, DL.wipeD, DL.endW, DL.turn, DL.item, DL.forX, DL.ownS, DL.szA, DL.appO, DL.coldS, DL.ownL, DL.revF, DL.allF, DL.anyF, L2.atI, L2.ixN, DL.eqB_int, DL.eqB_str, DL.eqB_bl, DL.eqB_non, DL.eqB_ni, DL.eqB_in, DL.eqB_ns, DL.eqB_sn, DL.eqB_is, DL.eqB_si, DL.rng1_nat, DL.rng1_int, DL.inB_str, DL.size_is, DL.seqOf_tup, DL.seqF_tup, DL.lenP_tup, DL.listG_tup, DL.listF_tup, DL.tupleF_tup, DL.ixP_tup, DL.truB_tup, DL.seqOf_lst, DL.seqF_lst, DL.lenP_lst, DL.listG_lst, DL.listF_lst, DL.tupleF_lst, DL.ixP_lst, DL.truB_lst, DL.seqOf_rol, DL.seqF_rol, DL.lenP_rol, DL.listG_rol, DL.listF_rol, DL.tupleF_rol, DL.ixP_rol, DL.truB_rol, DL.seqOf_cell, DL.lenP_cell, DL.listG_cell, DL.listF_cell, DL.tupleF_cell, DL.ixP_cell, DL.truB_cell, DL.rlistOf_lst, DL.rlistOf_rol, DL.rlistOf_cell, DL.listOf_lst, DL.listOf_cell, DL.lenP_str, DL.listG_str, DL.ixP_str, DL.truB_non, DL.truB_bl, DL.truB_int, DL.truB_str, DL.addP_int, DL.addP_str, DL.addP_tup, DL.addP_lst, DL.addP_lc, DL.addP_cl, DL.ltB_int, DL.ltB_str, DL.slL_str, DL.slL_tup, DL.slL_lst, DL.slL_rol, DL.slL_cell, DL.isNon_tup, DL.isNon_lst, DL.isNon_ins, DL.isNon_non, DL.isNon_int, DL.isNon_str, DL.isNon_bl, DL.isNon_cell, DL.insOf_ins, DL.insOf_cell, draw_s, ha, S_len, S_add, hz]
      · rcases List.mem_append.mp hn with hn | hn
        · exact hw n hn
        · simp at hn; omega
  rw [rangeD_length] at hl
  simp only at hl
  refine ⟨l, s', ?_, by omega, by omega, hw⟩
  have e : lp__law_word_1 (rangeD 0 (1 + k)) [.sh (.cell 0), .sh (.int 12), .sh (.str "abcdefghijklmnopqrstuvwxyz"), .sh (.str (S [])), .un] ((ds s 12).c :: cs) = .nx [.sh (.cell 0), .sh (.int 12), .sh (.str "abcdefghijklmnopqrstuvwxyz"), .sh (.str (S l)), .un] (s'.c :: cs) := e
  have er : rng1 [.int (1 + (k : Int))] = some (rangeD 0 (1 + k)) := by
    have := rng1_nat (n := 1 + k) (by omega)
    rw [← this]; simp
  simp [m__law_word, b__law_word, DL.seqS, DL.Res.seq, DL.setIxS, DL.setS, DL.exprS, DL.retS, DL.retN, DL.ifS, DL.nilS, DL.brkS, DL.cntS, DL.callB, DL.callM, DL.intF, DL.boolF, DL.consA, DL.nilA, DL.starA, DL.bin, DL.un1, DL.negP, DL.bnd, DL.Out.bnd, DL.Out.thenS, DL.opt, DL.varE, DL.litE, DL.setItem, DL.ret, DL.subP, DL.mulP, DL.modP, DL.fdivP, DL.powP, DL.intP, DL.geP, DL.leP, DL.gtP, DL.ltP, DL.eqP, DL.neP, DL.tstE, DL.boolE, DL.andT, DL.orT, DL.notT, DL.andE, DL.orE, DL.notE, DL.ifE, DL.chainE, DL.tupE, DL.lstE, DL.lstC, DL.isNP, DL.notNP, DL.runD, DL.Res.out, DL.startD, DL.itE, DL.itR, DL.rng2, DL.forS, DL.tgN, DL.tgT, DL.tgCons, DL.tgNil, DL.slE, DL.noO, DL.someO, DL.inP, DL.notInP, DL.wipeD, DL.endW, DL.turn, DL.item, DL.forX, DL.ownS, DL.szA, DL.appO, DL.coldS, DL.ownL, DL.revF, DL.allF, DL.anyF, L2.atI, L2.ixN, DL.eqB_int, DL.eqB_str, DL.eqB_bl, DL.eqB_non, DL.eqB_ni, DL.eqB_in, DL.eqB_ns, DL.eqB_sn, DL.eqB_is, DL.eqB_si, DL.rng1_nat, DL.rng1_int, DL.inB_str, DL.size_is, DL.seqOf_tup, DL.seqF_tup, DL.lenP_tup, DL.listG_tup, DL.listF_tup, DL.tupleF_tup, DL.ixP_tup, DL.truB_tup, DL.seqOf_lst, DL.seqF_lst, DL.lenP_lst, DL.listG_lst, DL.listF_lst, DL.tupleF_lst, DL.ixP_lst, DL.truB_lst, DL.seqOf_rol, DL.seqF_rol, DL.lenP_rol, DL.listG_rol, DL.listF_rol, DL.tupleF_rol, DL.ixP_rol, DL.truB_rol, DL.seqOf_cell, DL.lenP_cell, DL.listG_cell, DL.listF_cell, DL.tupleF_cell, DL.ixP_cell, DL.truB_cell, DL.rlistOf_lst, DL.rlistOf_rol, DL.rlistOf_cell, DL.listOf_lst, DL.listOf_cell, DL.lenP_str, DL.listG_str, DL.ixP_str, DL.truB_non, DL.truB_bl, DL.truB_int, DL.truB_str, DL.addP_int, DL.addP_str, DL.addP_tup, DL.addP_lst, DL.addP_lc, DL.addP_cl, DL.ltB_int, DL.ltB_str, DL.slL_str, DL.slL_tup, DL.slL_lst, DL.slL_rol, DL.slL_cell, DL.isNon_tup, DL.isNon_lst, DL.isNon_ins, DL.isNon_non, DL.isNon_int, DL.isNon_str, DL.isNon_bl, DL.isNon_cell, DL.insOf_ins, DL.insOf_cell, draw_s, hk, er, empty_S, e]
/-- the k-th name -/
def nmOf (w : List Nat) (at_ sh mode k : Nat) : List Nat := if mode = 0 then w.take at_ ++ [97 + (sh + 5 * k) % 26] ++ w.drop (at_ + 1) else List.replicate (1 + (sh + 7 * k) % 12) (97 + (sh + 5 * k) % 26)
theorem nmOf_name {w : List Nat} {at_ sh mode k : Nat} (w2 : w.length ≤ 12) (w3 : Low w) (hat : at_ < w.length) : nameB (nmOf w at_ sh mode k) = true := by
  unfold nmOf
  split
  · refine nameB_of (by simp; omega) (by simp; omega) fun n hn => ?_
    simp only [List.mem_append, List.mem_singleton] at hn
    rcases hn with (hn | hn) | hn
    · exact w3 n (List.mem_of_mem_take hn)
    · omega
    · exact w3 n (List.mem_of_mem_drop hn)
  · refine nameB_of (by simp) (by simp; omega) fun n hn => ?_
    have := List.eq_of_mem_replicate hn
    omega
theorem nmOf_ne {w : List Nat} {at_ sh mode : Nat} : nmOf w at_ sh mode 0 ≠ nmOf w at_ sh mode 1 := by
  intro h
  unfold nmOf at h
  split at h
  · have := List.append_cancel_right h
    have := List.append_cancel_left this
    simp at this
    omega
  · have := congrArg (fun l : List Nat => l.getD 0 0) h
    rw [Nat.add_comm, Nat.add_comm 1 ((sh + 7 * 1) % 12)] at this
    simp [List.replicate_succ] at this
    omega
theorem appO_ok {i : Nat} {m : EM} {δ : Ev'} {c c' : Cells} {d : D} {xs : List D} (h1 : ownL i δ = some xs) (h2 : m δ c = .ok d c') (h3 : xs.length < 16777216) : appO i m δ c = .nx (δ.set i (.own (.lst (xs ++ [d])))) c' := by
  unfold appO
  rw [h1]
  simp only [h2, Out.thenS]
  rw [if_pos (by rw [size_is]; exact h3)]
theorem mulG_one {x n : Nat} (hn : n < 100) {c : Cells} : mulG (.str (S [x])) (.int (n : Int)) c = some (.str (S (List.replicate n x))) := by
  have r1 : repS (S [x]) (n : Int) = S (List.replicate n x) := by
    rw [repS_S]
    congr 2
    clear hn
    induction n with
    | zero => rfl
    | succ n ih => rw [List.replicate_succ, List.replicate_succ, List.flatten_cons, ih]; rfl
  simp only [mulG]
  rw [if_pos, r1]
  refine ⟨?_, ?_, ?_⟩
  · have : (0 : Int) ≤ n := by omega
    exact Int.lt_of_lt_of_le (by decide) this
  · have : (n : Int) < 100 := by omega
    exact Int.lt_trans this (by decide)
  · rw [S_len, size_is, Int.toNat_natCast]
    simp
    omega
theorem names_turn0 {w : List Nat} {at_ sh k : Nat} {acc : List D} {c : Cells} (w2 : w.length ≤ 12) (hat : at_ < w.length) (hacc : acc.length < 16777216) :
    turn [8, 9] (tgN 8) lb__law_names_1 (.int k) [.sh (.cell 0), .sh (.int 2), .sh (.str "abcdefghijklmnopqrstuvwxyz"), .sh (.str (S w)), .sh (.int at_), .sh (.int sh), .sh (.int (0 : Nat)), .own (.lst acc), .un, .un] c =
      .nx [.sh (.cell 0), .sh (.int 2), .sh (.str "abcdefghijklmnopqrstuvwxyz"), .sh (.str (S w)), .sh (.int at_), .sh (.int sh), .sh (.int (0 : Nat)), .own (.lst (acc ++ [.str (S (w.take at_ ++ [97 + (sh + 5 * k) % 26] ++ w.drop (at_ + 1)))])), .un, .un] c := by
  have i1 : ((sh : Int) + 5 * k) % 26 = (((sh + 5 * k) % 26 : Nat) : Int) := by omega
  have ax := abc_ix (i := (((sh + 5 * k) % 26 : Nat) : Int)) (by omega) (by omega) (c := c)
  have sm5 : smallI 5 = true := by decide
  have z1 : w.length ≤ 16777216 := by omega
  rw [Int.toNat_natCast] at ax
  have z2 : min at_ w.length + 1 ≤ 16777216 := by omega
  have z3 : min at_ w.length + 1 + (w.length - (at_ + 1)) ≤ 16777216 := by omega
  have t1 := cutS_to w (i := at_) at_ rfl
  have t2 := cutS_from w (i := (at_ : Int) + 1) (at_ + 1) (by omega)
  generalize hx : (sh + 5 * k) % 26 = x at *
  simp only [Nat.min_def] at z2 z3
  simp [turn, endW, lb__law_names_1, DL.seqS, DL.Res.seq, DL.setIxS, DL.setS, DL.exprS, DL.retS, DL.retN, DL.ifS, DL.nilS, DL.brkS, DL.cntS, DL.callB, DL.callM, DL.intF, DL.boolF, DL.consA, DL.nilA, DL.starA, DL.bin, DL.un1, DL.negP, DL.bnd, DL.Out.bnd, DL.Out.thenS, DL.opt, DL.varE, DL.litE, DL.setItem, DL.ret, DL.subP, DL.mulP, DL.modP, DL.fdivP, DL.powP, DL.intP, DL.geP, DL.leP, DL.gtP, DL.ltP, DL.eqP, DL.neP, DL.tstE, DL.boolE, DL.andT, DL.orT, DL.notT, DL.andE, DL.orE, DL.notE, DL.ifE, DL.chainE, DL.tupE, DL.lstE, DL.lstC, DL.isNP, DL.notNP, DL.runD, DL.Res.out, DL.startD, DL.itE, DL.itR, DL.rng2, DL.forS, DL.tgN, DL.tgT, DL.tgCons, DL.tgNil, DL.slE, DL.noO, DL.someO, DL.inP, DL.notInP, DL.wipeD, DL.endW, DL.turn, DL.item, DL.forX, DL.ownS, DL.szA, DL.appO, DL.coldS, DL.ownL, DL.revF, DL.allF, DL.anyF, L2.atI, L2.ixN, DL.eqB_int, DL.eqB_str, DL.eqB_bl, DL.eqB_non, DL.eqB_ni, DL.eqB_in, DL.eqB_ns, DL.eqB_sn, DL.eqB_is, DL.eqB_si, DL.rng1_nat, DL.rng1_int, DL.inB_str, DL.size_is, DL.seqOf_tup, DL.seqF_tup, DL.lenP_tup, DL.listG_tup, DL.listF_tup, DL.tupleF_tup, DL.ixP_tup, DL.truB_tup, DL.seqOf_lst, DL.seqF_lst, DL.lenP_lst, DL.listG_lst, DL.listF_lst, DL.tupleF_lst, DL.ixP_lst, DL.truB_lst, DL.seqOf_rol, DL.seqF_rol, DL.lenP_rol, DL.listG_rol, DL.listF_rol, DL.tupleF_rol, DL.ixP_rol, DL.truB_rol, DL.seqOf_cell, DL.lenP_cell, DL.listG_cell, DL.listF_cell, DL.tupleF_cell, DL.ixP_cell, DL.truB_cell, DL.rlistOf_lst, DL.rlistOf_rol, DL.rlistOf_cell, DL.listOf_lst, DL.listOf_cell, DL.lenP_str, DL.listG_str, DL.ixP_str, DL.truB_non, DL.truB_bl, DL.truB_int, DL.truB_str, DL.addP_int, DL.addP_str, DL.addP_tup, DL.addP_lst, DL.addP_lc, DL.addP_cl, DL.ltB_int, DL.ltB_str, DL.slL_str, DL.slL_tup, DL.slL_lst, DL.slL_rol, DL.slL_cell, DL.isNon_tup, DL.isNon_lst, DL.isNon_ins, DL.isNon_non, DL.isNon_int, DL.isNon_str, DL.isNon_bl, DL.isNon_cell, DL.insOf_ins, DL.insOf_cell, i1, ax, sm5, z1, S_len, t1, t2, S_add, hacc, Nat.min_def, z2, z3]
theorem names_turn1 {w : List Nat} {at_ sh mode k : Nat} {acc : List D} {c : Cells} (hm : mode ≠ 0) (hacc : acc.length < 16777216) :
    turn [8, 9] (tgN 8) lb__law_names_1 (.int k) [.sh (.cell 0), .sh (.int 2), .sh (.str "abcdefghijklmnopqrstuvwxyz"), .sh (.str (S w)), .sh (.int at_), .sh (.int sh), .sh (.int mode), .own (.lst acc), .un, .un] c =
      .nx [.sh (.cell 0), .sh (.int 2), .sh (.str "abcdefghijklmnopqrstuvwxyz"), .sh (.str (S w)), .sh (.int at_), .sh (.int sh), .sh (.int mode), .own (.lst (acc ++ [.str (S (List.replicate (1 + (sh + 7 * k) % 12) (97 + (sh + 5 * k) % 26)))])), .un, .un] c := by
  have i1 : ((sh : Int) + 5 * k) % 26 = (((sh + 5 * k) % 26 : Nat) : Int) := by omega
  have i2 : 1 + ((sh : Int) + 7 * k) % 12 = ((1 + (sh + 7 * k) % 12 : Nat) : Int) := by omega
  have ax := abc_ix (i := (((sh + 5 * k) % 26 : Nat) : Int)) (by omega) (by omega) (c := c)
  have sm5 : smallI 5 = true := by decide
  have sm7 : smallI 7 = true := by decide
  rw [Int.toNat_natCast] at ax
  have hm' : ¬ ((mode : Int) = 0) := by omega
  have hy : 1 + (sh + 7 * k) % 12 < 100 := by omega
  generalize (sh + 5 * k) % 26 = x at *
  generalize 1 + (sh + 7 * k) % 12 = y at *
  have m1 := mulG_one (x := 97 + x) (c := c) hy
  generalize D.str (S [97 + x]) = z at ax m1
  generalize D.str (S (List.replicate y (97 + x))) = u at m1 ⊢
  have s1 : setS 9 (bin ixP (varE 2) (bin modP (callB intF (consA (bin addP (varE 5) (bin mulP (litE (.int 5)) (varE 8))) (nilA))) (litE (.int 26)))) [.sh (.cell 0), .sh (.int 2), .sh (.str "abcdefghijklmnopqrstuvwxyz"), .sh (.str (S w)), .sh (.int at_), .sh (.int sh), .sh (.int mode), .own (.lst acc), .sh (.int k), .un] c =
      .nx [.sh (.cell 0), .sh (.int 2), .sh (.str "abcdefghijklmnopqrstuvwxyz"), .sh (.str (S w)), .sh (.int at_), .sh (.int sh), .sh (.int mode), .own (.lst acc), .sh (.int k), .sh z] c := by
    simp [DL.seqS, DL.Res.seq, DL.setIxS, DL.setS, DL.exprS, DL.retS, DL.retN, DL.ifS, DL.nilS, DL.brkS, DL.cntS, DL.callB, DL.callM, DL.intF, DL.boolF, DL.consA, DL.nilA, DL.starA, DL.bin, DL.un1, DL.negP, DL.bnd, DL.Out.bnd, DL.Out.thenS, DL.opt, DL.varE, DL.litE, DL.setItem, DL.ret, DL.subP, DL.mulP, DL.modP, DL.fdivP, DL.powP, DL.intP, DL.geP, DL.leP, DL.gtP, DL.ltP, DL.eqP, DL.neP, DL.tstE, DL.boolE, DL.andT, DL.orT, DL.notT, DL.andE, DL.orE, DL.notE, DL.ifE, DL.chainE, DL.tupE, DL.lstE, DL.lstC, DL.isNP, DL.notNP, DL.runD, DL.Res.out, DL.startD, DL.itE, DL.itR, DL.rng2, DL.forS, DL.tgN, DL.tgT, DL.tgCons, DL.tgNil, DL.slE, DL.noO, DL.someO, DL.inP, DL.notInP, DL.wipeD, DL.endW, DL.turn, DL.item, DL.forX, DL.ownS, DL.szA, DL.appO, DL.coldS, DL.ownL, DL.revF, DL.allF, DL.anyF, L2.atI, L2.ixN, DL.eqB_int, DL.eqB_str, DL.eqB_bl, DL.eqB_non, DL.eqB_ni, DL.eqB_in, DL.eqB_ns, DL.eqB_sn, DL.eqB_is, DL.eqB_si, DL.rng1_nat, DL.rng1_int, DL.inB_str, DL.size_is, DL.seqOf_tup, DL.seqF_tup, DL.lenP_tup, DL.listG_tup, DL.listF_tup, DL.tupleF_tup, DL.ixP_tup, DL.truB_tup, DL.seqOf_lst, DL.seqF_lst, DL.lenP_lst, DL.listG_lst, DL.listF_lst, DL.tupleF_lst, DL.ixP_lst, DL.truB_lst, DL.seqOf_rol, DL.seqF_rol, DL.lenP_rol, DL.listG_rol, DL.listF_rol, DL.tupleF_rol, DL.ixP_rol, DL.truB_rol, DL.seqOf_cell, DL.lenP_cell, DL.listG_cell, DL.listF_cell, DL.tupleF_cell, DL.ixP_cell, DL.truB_cell, DL.rlistOf_lst, DL.rlistOf_rol, DL.rlistOf_cell, DL.listOf_lst, DL.listOf_cell, DL.lenP_str, DL.listG_str, DL.ixP_str, DL.truB_non, DL.truB_bl, DL.truB_int, DL.truB_str, DL.addP_int, DL.addP_str, DL.addP_tup, DL.addP_lst, DL.addP_lc, DL.addP_cl, DL.ltB_int, DL.ltB_str, DL.slL_str, DL.slL_tup, DL.slL_lst, DL.slL_rol, DL.slL_cell, DL.isNon_tup, DL.isNon_lst, DL.isNon_ins, DL.isNon_non, DL.isNon_int, DL.isNon_str, DL.isNon_bl, DL.isNon_cell, DL.insOf_ins, DL.insOf_cell, sm5, i1, ax]
  have s2 : (boolE (bin eqP (varE 6) (litE (.int 0)))) [.sh (.cell 0), .sh (.int 2), .sh (.str "abcdefghijklmnopqrstuvwxyz"), .sh (.str (S w)), .sh (.int at_), .sh (.int sh), .sh (.int mode), .own (.lst acc), .sh (.int k), .sh z] c = .ok false c := by
    simp [DL.seqS, DL.Res.seq, DL.setIxS, DL.setS, DL.exprS, DL.retS, DL.retN, DL.ifS, DL.nilS, DL.brkS, DL.cntS, DL.callB, DL.callM, DL.intF, DL.boolF, DL.consA, DL.nilA, DL.starA, DL.bin, DL.un1, DL.negP, DL.bnd, DL.Out.bnd, DL.Out.thenS, DL.opt, DL.varE, DL.litE, DL.setItem, DL.ret, DL.subP, DL.mulP, DL.modP, DL.fdivP, DL.powP, DL.intP, DL.geP, DL.leP, DL.gtP, DL.ltP, DL.eqP, DL.neP, DL.tstE, DL.boolE, DL.andT, DL.orT, DL.notT, DL.andE, DL.orE, DL.notE, DL.ifE, DL.chainE, DL.tupE, DL.lstE, DL.lstC, DL.isNP, DL.notNP, DL.runD, DL.Res.out, DL.startD, DL.itE, DL.itR, DL.rng2, DL.forS, DL.tgN, DL.tgT, DL.tgCons, DL.tgNil, DL.slE, DL.noO, DL.someO, DL.inP, DL.notInP, DL.wipeD, DL.endW, DL.turn, DL.item, DL.forX, DL.ownS, DL.szA, DL.appO, DL.coldS, DL.ownL, DL.revF, DL.allF, DL.anyF, L2.atI, L2.ixN, DL.eqB_int, DL.eqB_str, DL.eqB_bl, DL.eqB_non, DL.eqB_ni, DL.eqB_in, DL.eqB_ns, DL.eqB_sn, DL.eqB_is, DL.eqB_si, DL.rng1_nat, DL.rng1_int, DL.inB_str, DL.size_is, DL.seqOf_tup, DL.seqF_tup, DL.lenP_tup, DL.listG_tup, DL.listF_tup, DL.tupleF_tup, DL.ixP_tup, DL.truB_tup, DL.seqOf_lst, DL.seqF_lst, DL.lenP_lst, DL.listG_lst, DL.listF_lst, DL.tupleF_lst, DL.ixP_lst, DL.truB_lst, DL.seqOf_rol, DL.seqF_rol, DL.lenP_rol, DL.listG_rol, DL.listF_rol, DL.tupleF_rol, DL.ixP_rol, DL.truB_rol, DL.seqOf_cell, DL.lenP_cell, DL.listG_cell, DL.listF_cell, DL.tupleF_cell, DL.ixP_cell, DL.truB_cell, DL.rlistOf_lst, DL.rlistOf_rol, DL.rlistOf_cell, DL.listOf_lst, DL.listOf_cell, DL.lenP_str, DL.listG_str, DL.ixP_str, DL.truB_non, DL.truB_bl, DL.truB_int, DL.truB_str, DL.addP_int, DL.addP_str, DL.addP_tup, DL.addP_lst, DL.addP_lc, DL.addP_cl, DL.ltB_int, DL.ltB_str, DL.slL_str, DL.slL_tup, DL.slL_lst, DL.slL_rol, DL.slL_cell, DL.isNon_tup, DL.isNon_lst, DL.isNon_ins, DL.isNon_non, DL.isNon_int, DL.isNon_str, DL.isNon_bl, DL.isNon_cell, DL.insOf_ins, DL.insOf_cell, hm', hm]
  have s3 : (bin mulG (varE 9) (bin addP (litE (.int 1)) (bin modP (callB intF (consA (bin addP (varE 5) (bin mulP (litE (.int 7)) (varE 8))) (nilA))) (litE (.int 12))))) [.sh (.cell 0), .sh (.int 2), .sh (.str "abcdefghijklmnopqrstuvwxyz"), .sh (.str (S w)), .sh (.int at_), .sh (.int sh), .sh (.int mode), .own (.lst acc), .sh (.int k), .sh z] c = .ok u c := by
    have s4 : (bin addP (litE (.int 1)) (bin modP (callB intF (consA (bin addP (varE 5) (bin mulP (litE (.int 7)) (varE 8))) (nilA))) (litE (.int 12)))) [.sh (.cell 0), .sh (.int 2), .sh (.str "abcdefghijklmnopqrstuvwxyz"), .sh (.str (S w)), .sh (.int at_), .sh (.int sh), .sh (.int mode), .own (.lst acc), .sh (.int k), .sh z] c = .ok (.int y) c := by
      simp [DL.seqS, DL.Res.seq, DL.setIxS, DL.setS, DL.exprS, DL.retS, DL.retN, DL.ifS, DL.nilS, DL.brkS, DL.cntS, DL.callB, DL.callM, DL.intF, DL.boolF, DL.consA, DL.nilA, DL.starA, DL.bin, DL.un1, DL.negP, DL.bnd, DL.Out.bnd, DL.Out.thenS, DL.opt, DL.varE, DL.litE, DL.setItem, DL.ret, DL.subP, DL.mulP, DL.modP, DL.fdivP, DL.powP, DL.intP, DL.geP, DL.leP, DL.gtP, DL.ltP, DL.eqP, DL.neP, DL.tstE, DL.boolE, DL.andT, DL.orT, DL.notT, DL.andE, DL.orE, DL.notE, DL.ifE, DL.chainE, DL.tupE, DL.lstE, DL.lstC, DL.isNP, DL.notNP, DL.runD, DL.Res.out, DL.startD, DL.itE, DL.itR, DL.rng2, DL.forS, DL.tgN, DL.tgT, DL.tgCons, DL.tgNil, DL.slE, DL.noO, DL.someO, DL.inP, DL.notInP, DL.wipeD, DL.endW, DL.turn, DL.item, DL.forX, DL.ownS, DL.szA, DL.appO, DL.coldS, DL.ownL, DL.revF, DL.allF, DL.anyF, L2.atI, L2.ixN, DL.eqB_int, DL.eqB_str, DL.eqB_bl, DL.eqB_non, DL.eqB_ni, DL.eqB_in, DL.eqB_ns, DL.eqB_sn, DL.eqB_is, DL.eqB_si, DL.rng1_nat, DL.rng1_int, DL.inB_str, DL.size_is, DL.seqOf_tup, DL.seqF_tup, DL.lenP_tup, DL.listG_tup, DL.listF_tup, DL.tupleF_tup, DL.ixP_tup, DL.truB_tup, DL.seqOf_lst, DL.seqF_lst, DL.lenP_lst, DL.listG_lst, DL.listF_lst, DL.tupleF_lst, DL.ixP_lst, DL.truB_lst, DL.seqOf_rol, DL.seqF_rol, DL.lenP_rol, DL.listG_rol, DL.listF_rol, DL.tupleF_rol, DL.ixP_rol, DL.truB_rol, DL.seqOf_cell, DL.lenP_cell, DL.listG_cell, DL.listF_cell, DL.tupleF_cell, DL.ixP_cell, DL.truB_cell, DL.rlistOf_lst, DL.rlistOf_rol, DL.rlistOf_cell, DL.listOf_lst, DL.listOf_cell, DL.lenP_str, DL.listG_str, DL.ixP_str, DL.truB_non, DL.truB_bl, DL.truB_int, DL.truB_str, DL.addP_int, DL.addP_str, DL.addP_tup, DL.addP_lst, DL.addP_lc, DL.addP_cl, DL.ltB_int, DL.ltB_str, DL.slL_str, DL.slL_tup, DL.slL_lst, DL.slL_rol, DL.slL_cell, DL.isNon_tup, DL.isNon_lst, DL.isNon_ins, DL.isNon_non, DL.isNon_int, DL.isNon_str, DL.isNon_bl, DL.isNon_cell, DL.insOf_ins, DL.insOf_cell, sm7, i2]
    exact bin_ok rfl s4 m1
  show endW _ lb__law_names_1 [.sh (.cell 0), .sh (.int 2), .sh (.str "abcdefghijklmnopqrstuvwxyz"), .sh (.str (S w)), .sh (.int at_), .sh (.int sh), .sh (.int mode), .own (.lst acc), .sh (.int k), .un] c = _
  unfold endW lb__law_names_1
  rw [seq_nx s1, if_f s2, appO_ok rfl s3 hacc]
  simp [wipeD]
theorem names_turn {w : List Nat} {at_ sh mode k : Nat} {acc : List D} {c : Cells} (w2 : w.length ≤ 12) (hat : at_ < w.length) (hacc : acc.length < 16777216) :
    turn [8, 9] (tgN 8) lb__law_names_1 (.int k) [.sh (.cell 0), .sh (.int 2), .sh (.str "abcdefghijklmnopqrstuvwxyz"), .sh (.str (S w)), .sh (.int at_), .sh (.int sh), .sh (.int mode), .own (.lst acc), .un, .un] c =
      .nx [.sh (.cell 0), .sh (.int 2), .sh (.str "abcdefghijklmnopqrstuvwxyz"), .sh (.str (S w)), .sh (.int at_), .sh (.int sh), .sh (.int mode), .own (.lst (acc ++ [.str (S (nmOf w at_ sh mode k))])), .un, .un] c := by
  by_cases hm : mode = 0
  · subst hm
    unfold nmOf
    rw [if_pos rfl]
    exact names_turn0 w2 hat hacc
  · unfold nmOf
    rw [if_neg hm]
    exact names_turn1 hm hacc
theorem names_ok (s : DS) (cs : Cells) : ∃ (l l' : List Nat) (s' : DS), m__law_names [.cell 0, .int 2] (s.c :: cs) = .ok (.lst [.str (S l), .str (S l')]) (s'.c :: cs) ∧ nameB l = true ∧ nameB l' = true ∧ l ≠ l' := by
  obtain ⟨w, s1, e1, w1, w2, w3⟩ := word_ok s cs
  have hlen : lenP [.str (S w)] (s1.c :: cs) = some (.int w.length) := by rw [lenP_str, if_pos (by rw [S_len, size_is]; omega), S_len]
  obtain ⟨at_, s2, ha, e2⟩ := draw_o s1 (n := w.length) (by omega) (by omega)
  obtain ⟨sh, s3, hs, e3⟩ := draw_o s2 (n := 26) (by decide) (by decide)
  obtain ⟨mode, s4, hm, e4⟩ := draw_o s3 (n := 2) (by decide) (by decide)
  have hat : at_ < w.length := by omega
  have e : lp__law_names_1 (rangeD 0 2) [.sh (.cell 0), .sh (.int 2), .sh (.str "abcdefghijklmnopqrstuvwxyz"), .sh (.str (S w)), .sh (.int at_), .sh (.int sh), .sh (.int mode), .own (.lst []), .un, .un] (s4.c :: cs) =
      .nx [.sh (.cell 0), .sh (.int 2), .sh (.str "abcdefghijklmnopqrstuvwxyz"), .sh (.str (S w)), .sh (.int at_), .sh (.int sh), .sh (.int mode), .own (.lst [.str (S (nmOf w at_ sh mode 0)), .str (S (nmOf w at_ sh mode 1))]), .un, .un] (s4.c :: cs) := by
    have t0 := names_turn (w := w) (at_ := at_) (sh := sh) (mode := mode) (k := 0) (acc := []) (c := s4.c :: cs) w2 hat (by decide)
    have t1 := names_turn (w := w) (at_ := at_) (sh := sh) (mode := mode) (k := 1) (acc := [.str (S (nmOf w at_ sh mode 0))]) (c := s4.c :: cs) w2 hat (by simp)
    show forL _ (endW _ _) [.int ((0 : Nat) : Int), .int ((1 : Nat) : Int)] _ _ = _
    rw [lp_nx t0, List.nil_append, lp_nx t1]
    rfl
  refine ⟨nmOf w at_ sh mode 0, nmOf w at_ sh mode 1, s4, ?_, nmOf_name w2 w3 hat, nmOf_name w2 w3 hat, nmOf_ne⟩
  have er : rng1 [.int 2] = some (rangeD 0 2) := rfl
  have e2 := e2 cs
  have e3 := e3 cs
  have e4 := e4 cs
  simp [m__law_names, b__law_names, DL.seqS, DL.Res.seq, DL.setIxS, DL.setS, DL.exprS, DL.retS, DL.retN, DL.ifS, DL.nilS, DL.brkS, DL.cntS, DL.callB, DL.callM, DL.intF, DL.boolF, DL.consA, DL.nilA, DL.starA, DL.bin, DL.un1, DL.negP, DL.bnd, DL.Out.bnd, DL.Out.thenS, DL.opt, DL.varE, DL.litE, DL.setItem, DL.ret, DL.subP, DL.mulP, DL.modP, DL.fdivP, DL.powP, DL.intP, DL.geP, DL.leP, DL.gtP, DL.ltP, DL.eqP, DL.neP, DL.tstE, DL.boolE, DL.andT, DL.orT, DL.notT, DL.andE, DL.orE, DL.notE, DL.ifE, DL.chainE, DL.tupE, DL.lstE, DL.lstC, DL.isNP, DL.notNP, DL.runD, DL.Res.out, DL.startD, DL.itE, DL.itR, DL.rng2, DL.forS, DL.tgN, DL.tgT, DL.tgCons, DL.tgNil, DL.slE, DL.noO, DL.someO, DL.inP, DL.notInP, DL.wipeD, DL.endW, DL.turn, DL.item, DL.forX, DL.ownS, DL.szA, DL.appO, DL.coldS, DL.ownL, DL.revF, DL.allF, DL.anyF, L2.atI, L2.ixN, DL.eqB_int, DL.eqB_str, DL.eqB_bl, DL.eqB_non, DL.eqB_ni, DL.eqB_in, DL.eqB_ns, DL.eqB_sn, DL.eqB_is, DL.eqB_si, DL.rng1_nat, DL.rng1_int, DL.inB_str, DL.size_is, DL.seqOf_tup, DL.seqF_tup, DL.lenP_tup, DL.listG_tup, DL.listF_tup, DL.tupleF_tup, DL.ixP_tup, DL.truB_tup, DL.seqOf_lst, DL.seqF_lst, DL.lenP_lst, DL.listG_lst, DL.listF_lst, DL.tupleF_lst, DL.ixP_lst, DL.truB_lst, DL.seqOf_rol, DL.seqF_rol, DL.lenP_rol, DL.listG_rol, DL.listF_rol, DL.tupleF_rol, DL.ixP_rol, DL.truB_rol, DL.seqOf_cell, DL.lenP_cell, DL.listG_cell, DL.listF_cell, DL.tupleF_cell, DL.ixP_cell, DL.truB_cell, DL.rlistOf_lst, DL.rlistOf_rol, DL.rlistOf_cell, DL.listOf_lst, DL.listOf_cell, DL.lenP_str, DL.listG_str, DL.ixP_str, DL.truB_non, DL.truB_bl, DL.truB_int, DL.truB_str, DL.addP_int, DL.addP_str, DL.addP_tup, DL.addP_lst, DL.addP_lc, DL.addP_cl, DL.ltB_int, DL.ltB_str, DL.slL_str, DL.slL_tup, DL.slL_lst, DL.slL_rol, DL.slL_cell, DL.isNon_tup, DL.isNon_lst, DL.isNon_ins, DL.isNon_non, DL.isNon_int, DL.isNon_str, DL.isNon_bl, DL.isNon_cell, DL.insOf_ins, DL.insOf_cell, e1, hlen, e2, e3, e4, e]
theorem sizeB_of {b : List (List D)} {N : Nat} (h1 : 1 ≤ b.length) (h2 : b.length ≤ 8) (h3 : b.all atomB = true) (hN : 1 ≤ N) (h4 : ∀ i ∈ plcs b, i < N) (h5 : ∀ x : Nat, x < N → (x : Int) ∈ plcs b) : sizeB b = some (N : Int) := by
  have e : maxI (plcs b) = (N : Int) - 1 := by
    have m := h5 (N - 1) (by omega)
    have hc : ((N - 1 : Nat) : Int) = (N : Int) - 1 := by omega
    rw [hc] at m
    cases hp : plcs b with
    | nil => rw [hp] at m; cases m
    | cons i is =>
      show is.foldl max i = _
      obtain ⟨g1, g2⟩ := foldl_max_ge is i
      rw [hp] at m h4
      have lo : (N : Int) - 1 ≤ is.foldl max i := by
        rcases List.mem_cons.mp m with m | m
        · rw [m]; exact g1
        · exact g2 _ m
      have hi : is.foldl max i < N := by
        rcases foldl_max_mem is i with e | e
        · rw [e]; exact h4 i (by simp)
        · exact h4 _ (List.mem_cons_of_mem _ e)
      omega
  have en : 1 + maxI (plcs b) = N := by omega
  unfold sizeB
  rw [if_pos ⟨h1, h2, h3⟩, en, if_pos]
  rw [List.all_eq_true]
  intro x hx
  have := h5 x (by simpa using hx)
  simpa using this
/-- a body that is one, its size, a head -/
structure Shape (b : List (List D)) (h : List D) (n : Int) : Prop where
  atm : ∀ a ∈ b, flatT (.tup a) = true
  hdf : flatT (.tup h) = true
  sz : sizeB b = some n
  hd : isA h n = true
theorem rel_flat {w : PySem.Str} (h : relB (.str w) = true) : flat (.str w) = true := by
  simp only [relB, List.any_cons, List.any_nil, Bool.or_false, Bool.or_eq_true, beq_iff_eq] at h
  rcases h with h | h | h | h | h | h <;> subst h <;> decide +kernel
theorem mark_flat {i : Nat} (h : i < 26) : flat (.str (S [65 + i])) = true ∧ markB (.str (S [65 + i])) = true := by
  have : (List.range 26).all (fun i => flat (.str (S [65 + i])) && markB (.str (S [65 + i]))) = true := by decide +kernel
  have := List.all_eq_true.mp this i (List.mem_range.mpr h)
  simpa using this
theorem wr_mark : markB (.str "W") = true ∧ markB (.str "R") = true ∧ flat (.str "W") = true ∧ flat (.str "R") = true := by decide +kernel
theorem words8 {k : Nat} (h : k < 8) : ∃ w, ([D.str "vis", .str "so", .str "ar", .str "bf", .str "ss", .str "si", .str "vis", .str "so"] : List D)[k]? = some (.str w) ∧ relB (.str w) = true := by
  match k, h with
  | 0, _ => exact ⟨_, rfl, by decide +kernel⟩
  | 1, _ => exact ⟨_, rfl, by decide +kernel⟩
  | 2, _ => exact ⟨_, rfl, by decide +kernel⟩
  | 3, _ => exact ⟨_, rfl, by decide +kernel⟩
  | 4, _ => exact ⟨_, rfl, by decide +kernel⟩
  | 5, _ => exact ⟨_, rfl, by decide +kernel⟩
  | 6, _ => exact ⟨_, rfl, by decide +kernel⟩
  | 7, _ => exact ⟨_, rfl, by decide +kernel⟩
theorem words4 {k : Nat} (h : k < 4) : ∃ w, ([D.str "vis", .str "so", .str "ar", .str "bf"] : List D)[k]? = some (.str w) ∧ relB (.str w) = true := by
  match k, h with
  | 0, _ => exact ⟨_, rfl, by decide +kernel⟩
  | 1, _ => exact ⟨_, rfl, by decide +kernel⟩
  | 2, _ => exact ⟨_, rfl, by decide +kernel⟩
  | 3, _ => exact ⟨_, rfl, by decide +kernel⟩
theorem wr_at {k : Nat} (h : k < 2) : ∃ w, ([D.str "W", .str "R"] : List D)[k]? = some (.str w) ∧ markB (.str w) = true ∧ flat (.str w) = true := by
  match k, h with
  | 0, _ => exact ⟨_, rfl, wr_mark.1, wr_mark.2.2.1⟩
  | 1, _ => exact ⟨_, rfl, wr_mark.2.1, wr_mark.2.2.2⟩
theorem rel_not_never {w : PySem.Str} {x y : D} : neverB [.str w, x, y] = false := rfl
theorem flat3 {w : PySem.Str} {x y : Int} (h : flat (.str w) = true) : flatT (.tup [.str w, .int x, .int y]) = true := by
  simp only [flatT, List.all_cons, List.all_nil, h]; rfl
theorem flat2 {w : PySem.Str} {x : Int} (h : flat (.str w) = true) : flatT (.tup [.str w, .int x]) = true := by
  simp only [flatT, List.all_cons, List.all_nil, h]; rfl
theorem isA3 {w : PySem.Str} {x y n : Int} (h : relB (.str w) = true) (hx : 0 ≤ x ∧ x < n) (hy : 0 ≤ y ∧ y < n) (ne : x ≠ y) : isA [.str w, .int x, .int y] n = true := by
  simp [isA, h, placeB, difB, hx.1, hx.2, hy.1, hy.2, ne]
theorem isA2 {w : PySem.Str} {x n : Int} (h : markB (.str w) = true) (hx : 0 ≤ x ∧ x < n) : isA [.str w, .int x] n = true := by
  simp [isA, h, placeB, hx.1, hx.2]
/-- an atom over the events below N -/
structure AtN (a : List D) (N : Nat) : Prop where
  fl : flatT (.tup a) = true
  is : isA a N = true
  nv : neverB a = false
theorem AtN.atomB {a : List D} {N : Nat} (h : AtN a N) (hN : N ≤ 4) : atomB a = true ∧ (∀ i ∈ intsOf (a.drop 1), 0 ≤ i ∧ i < N) ∧ intsOf (a.drop 1) ≠ [] := by
  obtain ⟨h1, h2, h3⟩ := h
  match a, h2, h3 with
  | [.str s], h2, h3 => simp [isA] at h2; simp [neverB] at h3; exact absurd h2.symm h3
  | [u, v], h2, _ =>
    simp only [isA, Bool.and_eq_true] at h2
    cases v with
    | int i =>
      simp [placeB] at h2
      refine ⟨?_, fun j hj => ?_, by simp [intsOf]⟩
      · simp [L26.atomB, neverB, isA, h2.1, placeB]; omega
      · simp [intsOf] at hj; omega
    | _ => simp [placeB] at h2
  | [u, v, w], h2, _ =>
    simp only [isA, Bool.and_eq_true] at h2
    cases v with
    | int i =>
      cases w with
      | int j =>
        simp [placeB, difB] at h2
        refine ⟨?_, fun k hk => ?_, by simp [intsOf]⟩
        · simp [L26.atomB, neverB, isA, h2.1, placeB, difB]; omega
        · simp [intsOf] at hk; omega
      | _ => simp [placeB] at h2
    | _ => simp [placeB] at h2
theorem atom_ok (s : DS) {N : Nat} (h1 : 1 ≤ N) (h4 : N ≤ 4) (cs : Cells) : ∃ (a : List D) (s' : DS), m__law_atom [.cell 0, .int N] (s.c :: cs) = .ok (.tup a) (s'.c :: cs) ∧ AtN a N := by
  obtain ⟨x, s1, hx, e1⟩ := draw_o s (n := N) (by omega) (by omega)
  obtain ⟨k, s2, hk, e2⟩ := draw_o s1 (n := 12) (by decide) (by decide)
  have e1 := e1 cs
  have e2 := e2 cs
  by_cases hb : 1 < N ∧ k < 8
  · obtain ⟨j, s3, hj, e3⟩ := draw_o s2 (n := N - 1) (by omega) (by omega)
    have e3 := e3 cs
    obtain ⟨w, hw, rw_⟩ := words8 hb.2
    have g1 : (1 : Int) < N := by omega
    have g2 : (k : Int) < 8 := by omega
    have g3 : (0 : Int) < N := by omega
    have g4 : 0 < N := by omega
    obtain ⟨hk', hw'⟩ := List.getElem?_eq_some_iff.mp hw
    refine ⟨[.str w, .int x, .int (((x : Int) + 1 + j) % N)], s3, ?_, flat3 (rel_flat rw_), isA3 rw_ ⟨by omega, hx⟩ ⟨Int.emod_nonneg _ (by omega), Int.emod_lt_of_pos _ g3⟩ ?_, rfl⟩
    · simp [m__law_atom, b__law_atom, DL.seqS, DL.Res.seq, DL.setIxS, DL.setS, DL.exprS, DL.retS, DL.retN, DL.ifS, DL.nilS, DL.brkS, DL.cntS, DL.callB, DL.callM, DL.intF, DL.boolF, DL.consA, DL.nilA, DL.starA, DL.bin, DL.un1, DL.negP, DL.bnd, DL.Out.bnd, DL.Out.thenS, DL.opt, DL.varE, DL.litE, DL.setItem, DL.ret, DL.subP, DL.mulP, DL.modP, DL.fdivP, DL.powP, DL.intP, DL.geP, DL.leP, DL.gtP, DL.ltP, DL.eqP, DL.neP, DL.tstE, DL.boolE, DL.andT, DL.orT, DL.notT, DL.andE, DL.orE, DL.notE, DL.ifE, DL.chainE, DL.tupE, DL.lstE, DL.lstC, DL.isNP, DL.notNP, DL.runD, DL.Res.out, DL.startD, DL.itE, DL.itR, DL.rng2, DL.forS, DL.tgN, DL.tgT, DL.tgCons, DL.tgNil, DL.slE, DL.noO, DL.someO, DL.inP, DL.notInP, DL.wipeD, DL.endW, DL.turn, DL.item, DL.forX, DL.ownS, DL.szA, DL.appO, DL.coldS, DL.ownL, DL.revF, DL.allF, DL.anyF, L2.atI, L2.ixN, DL.eqB_int, DL.eqB_str, DL.eqB_bl, DL.eqB_non, DL.eqB_ni, DL.eqB_in, DL.eqB_ns, DL.eqB_sn, DL.eqB_is, DL.eqB_si, DL.rng1_nat, DL.rng1_int, DL.inB_str, DL.size_is, DL.seqOf_tup, DL.seqF_tup, DL.lenP_tup, DL.listG_tup, DL.listF_tup, DL.tupleF_tup, DL.ixP_tup, DL.truB_tup, DL.seqOf_lst, DL.seqF_lst, DL.lenP_lst, DL.listG_lst, DL.listF_lst, DL.tupleF_lst, DL.ixP_lst, DL.truB_lst, DL.seqOf_rol, DL.seqF_rol, DL.lenP_rol, DL.listG_rol, DL.listF_rol, DL.tupleF_rol, DL.ixP_rol, DL.truB_rol, DL.seqOf_cell, DL.lenP_cell, DL.listG_cell, DL.listF_cell, DL.tupleF_cell, DL.ixP_cell, DL.truB_cell, DL.rlistOf_lst, DL.rlistOf_rol, DL.rlistOf_cell, DL.listOf_lst, DL.listOf_cell, DL.lenP_str, DL.listG_str, DL.ixP_str, DL.truB_non, DL.truB_bl, DL.truB_int, DL.truB_str, DL.addP_int, DL.addP_str, DL.addP_tup, DL.addP_lst, DL.addP_lc, DL.addP_cl, DL.ltB_int, DL.ltB_str, DL.slL_str, DL.slL_tup, DL.slL_lst, DL.slL_rol, DL.slL_cell, DL.isNon_tup, DL.isNon_lst, DL.isNon_ins, DL.isNon_non, DL.isNon_int, DL.isNon_str, DL.isNon_bl, DL.isNon_cell, DL.insOf_ins, DL.insOf_cell, e1, e2, e3, g1, g2, g3, g4, hb.1, hb.2, atI_natG, hw']
    · have : N = 2 ∨ N = 3 ∨ N = 4 := by omega
      rcases this with rfl | rfl | rfl <;> omega
  · have gt : (andT (boolE (bin gtP (varE 1) (litE (.int 1)))) (boolE (bin ltP (varE 4) (litE (.int 8))))) [.sh (.cell 0), .sh (.int N), .sh (.lst [.str "vis", .str "so", .str "ar", .str "bf", .str "ss", .str "si", .str "vis", .str "so"]), .sh (.int x), .sh (.int k), .un] (s2.c :: cs) = .ok false (s2.c :: cs) := by
      by_cases g : 1 < N
      · have g' : ¬ k < 8 := fun z => hb ⟨g, z⟩
        have g1 : (1 : Int) < N := by omega
        have g2 : ¬ (k : Int) < 8 := by omega
        simp [DL.seqS, DL.Res.seq, DL.setIxS, DL.setS, DL.exprS, DL.retS, DL.retN, DL.ifS, DL.nilS, DL.brkS, DL.cntS, DL.callB, DL.callM, DL.intF, DL.boolF, DL.consA, DL.nilA, DL.starA, DL.bin, DL.un1, DL.negP, DL.bnd, DL.Out.bnd, DL.Out.thenS, DL.opt, DL.varE, DL.litE, DL.setItem, DL.ret, DL.subP, DL.mulP, DL.modP, DL.fdivP, DL.powP, DL.intP, DL.geP, DL.leP, DL.gtP, DL.ltP, DL.eqP, DL.neP, DL.tstE, DL.boolE, DL.andT, DL.orT, DL.notT, DL.andE, DL.orE, DL.notE, DL.ifE, DL.chainE, DL.tupE, DL.lstE, DL.lstC, DL.isNP, DL.notNP, DL.runD, DL.Res.out, DL.startD, DL.itE, DL.itR, DL.rng2, DL.forS, DL.tgN, DL.tgT, DL.tgCons, DL.tgNil, DL.slE, DL.noO, DL.someO, DL.inP, DL.notInP, DL.wipeD, DL.endW, DL.turn, DL.item, DL.forX, DL.ownS, DL.szA, DL.appO, DL.coldS, DL.ownL, DL.revF, DL.allF, DL.anyF, L2.atI, L2.ixN, DL.eqB_int, DL.eqB_str, DL.eqB_bl, DL.eqB_non, DL.eqB_ni, DL.eqB_in, DL.eqB_ns, DL.eqB_sn, DL.eqB_is, DL.eqB_si, DL.rng1_nat, DL.rng1_int, DL.inB_str, DL.size_is, DL.seqOf_tup, DL.seqF_tup, DL.lenP_tup, DL.listG_tup, DL.listF_tup, DL.tupleF_tup, DL.ixP_tup, DL.truB_tup, DL.seqOf_lst, DL.seqF_lst, DL.lenP_lst, DL.listG_lst, DL.listF_lst, DL.tupleF_lst, DL.ixP_lst, DL.truB_lst, DL.seqOf_rol, DL.seqF_rol, DL.lenP_rol, DL.listG_rol, DL.listF_rol, DL.tupleF_rol, DL.ixP_rol, DL.truB_rol, DL.seqOf_cell, DL.lenP_cell, DL.listG_cell, DL.listF_cell, DL.tupleF_cell, DL.ixP_cell, DL.truB_cell, DL.rlistOf_lst, DL.rlistOf_rol, DL.rlistOf_cell, DL.listOf_lst, DL.listOf_cell, DL.lenP_str, DL.listG_str, DL.ixP_str, DL.truB_non, DL.truB_bl, DL.truB_int, DL.truB_str, DL.addP_int, DL.addP_str, DL.addP_tup, DL.addP_lst, DL.addP_lc, DL.addP_cl, DL.ltB_int, DL.ltB_str, DL.slL_str, DL.slL_tup, DL.slL_lst, DL.slL_rol, DL.slL_cell, DL.isNon_tup, DL.isNon_lst, DL.isNon_ins, DL.isNon_non, DL.isNon_int, DL.isNon_str, DL.isNon_bl, DL.isNon_cell, DL.insOf_ins, DL.insOf_cell, g, g1, g2, g']
      · have g1 : ¬ (1 : Int) < N := by omega
        simp [DL.seqS, DL.Res.seq, DL.setIxS, DL.setS, DL.exprS, DL.retS, DL.retN, DL.ifS, DL.nilS, DL.brkS, DL.cntS, DL.callB, DL.callM, DL.intF, DL.boolF, DL.consA, DL.nilA, DL.starA, DL.bin, DL.un1, DL.negP, DL.bnd, DL.Out.bnd, DL.Out.thenS, DL.opt, DL.varE, DL.litE, DL.setItem, DL.ret, DL.subP, DL.mulP, DL.modP, DL.fdivP, DL.powP, DL.intP, DL.geP, DL.leP, DL.gtP, DL.ltP, DL.eqP, DL.neP, DL.tstE, DL.boolE, DL.andT, DL.orT, DL.notT, DL.andE, DL.orE, DL.notE, DL.ifE, DL.chainE, DL.tupE, DL.lstE, DL.lstC, DL.isNP, DL.notNP, DL.runD, DL.Res.out, DL.startD, DL.itE, DL.itR, DL.rng2, DL.forS, DL.tgN, DL.tgT, DL.tgCons, DL.tgNil, DL.slE, DL.noO, DL.someO, DL.inP, DL.notInP, DL.wipeD, DL.endW, DL.turn, DL.item, DL.forX, DL.ownS, DL.szA, DL.appO, DL.coldS, DL.ownL, DL.revF, DL.allF, DL.anyF, L2.atI, L2.ixN, DL.eqB_int, DL.eqB_str, DL.eqB_bl, DL.eqB_non, DL.eqB_ni, DL.eqB_in, DL.eqB_ns, DL.eqB_sn, DL.eqB_is, DL.eqB_si, DL.rng1_nat, DL.rng1_int, DL.inB_str, DL.size_is, DL.seqOf_tup, DL.seqF_tup, DL.lenP_tup, DL.listG_tup, DL.listF_tup, DL.tupleF_tup, DL.ixP_tup, DL.truB_tup, DL.seqOf_lst, DL.seqF_lst, DL.lenP_lst, DL.listG_lst, DL.listF_lst, DL.tupleF_lst, DL.ixP_lst, DL.truB_lst, DL.seqOf_rol, DL.seqF_rol, DL.lenP_rol, DL.listG_rol, DL.listF_rol, DL.tupleF_rol, DL.ixP_rol, DL.truB_rol, DL.seqOf_cell, DL.lenP_cell, DL.listG_cell, DL.listF_cell, DL.tupleF_cell, DL.ixP_cell, DL.truB_cell, DL.rlistOf_lst, DL.rlistOf_rol, DL.rlistOf_cell, DL.listOf_lst, DL.listOf_cell, DL.lenP_str, DL.listG_str, DL.ixP_str, DL.truB_non, DL.truB_bl, DL.truB_int, DL.truB_str, DL.addP_int, DL.addP_str, DL.addP_tup, DL.addP_lst, DL.addP_lc, DL.addP_cl, DL.ltB_int, DL.ltB_str, DL.slL_str, DL.slL_tup, DL.slL_lst, DL.slL_rol, DL.slL_cell, DL.isNon_tup, DL.isNon_lst, DL.isNon_ins, DL.isNon_non, DL.isNon_int, DL.isNon_str, DL.isNon_bl, DL.isNon_cell, DL.insOf_ins, DL.insOf_cell, g, g1]
    have st : m__law_atom [.cell 0, .int N] (s.c :: cs) = (seqS (ifS (boolE (bin eqP (varE 4) (litE (.int 11)))) (retS (tupE (consA (bin ixP (litE (.str "ABCDEFGHIJKLMNOPQRSTUVWXYZ")) (callM m__law_draw (consA (varE 0) (consA (litE (.int 26)) (nilA))))) (consA (varE 3) (nilA))))) (nilS)) (retS (tupE (consA (bin ixP (lstE (consA (litE (.str "W")) (consA (litE (.str "R")) (nilA)))) (bin modP (callB intF (consA (varE 4) (nilA))) (litE (.int 2)))) (consA (varE 3) (nilA)))))
        [.sh (.cell 0), .sh (.int N), .sh (.lst [.str "vis", .str "so", .str "ar", .str "bf", .str "ss", .str "si", .str "vis", .str "so"]), .sh (.int x), .sh (.int k), .un] (s2.c :: cs)).out := by
      show (b__law_atom _ _).out = _
      unfold b__law_atom
      rw [seq_nx (set_ok (d := .lst [.str "vis", .str "so", .str "ar", .str "bf", .str "ss", .str "si", .str "vis", .str "so"]) (c' := s.c :: cs) (by simp [DL.seqS, DL.Res.seq, DL.setIxS, DL.setS, DL.exprS, DL.retS, DL.retN, DL.ifS, DL.nilS, DL.brkS, DL.cntS, DL.callB, DL.callM, DL.intF, DL.boolF, DL.consA, DL.nilA, DL.starA, DL.bin, DL.un1, DL.negP, DL.bnd, DL.Out.bnd, DL.Out.thenS, DL.opt, DL.varE, DL.litE, DL.setItem, DL.ret, DL.subP, DL.mulP, DL.modP, DL.fdivP, DL.powP, DL.intP, DL.geP, DL.leP, DL.gtP, DL.ltP, DL.eqP, DL.neP, DL.tstE, DL.boolE, DL.andT, DL.orT, DL.notT, DL.andE, DL.orE, DL.notE, DL.ifE, DL.chainE, DL.tupE, DL.lstE, DL.lstC, DL.isNP, DL.notNP, DL.runD, DL.Res.out, DL.startD, DL.itE, DL.itR, DL.rng2, DL.forS, DL.tgN, DL.tgT, DL.tgCons, DL.tgNil, DL.slE, DL.noO, DL.someO, DL.inP, DL.notInP, DL.wipeD, DL.endW, DL.turn, DL.item, DL.forX, DL.ownS, DL.szA, DL.appO, DL.coldS, DL.ownL, DL.revF, DL.allF, DL.anyF, L2.atI, L2.ixN, DL.eqB_int, DL.eqB_str, DL.eqB_bl, DL.eqB_non, DL.eqB_ni, DL.eqB_in, DL.eqB_ns, DL.eqB_sn, DL.eqB_is, DL.eqB_si, DL.rng1_nat, DL.rng1_int, DL.inB_str, DL.size_is, DL.seqOf_tup, DL.seqF_tup, DL.lenP_tup, DL.listG_tup, DL.listF_tup, DL.tupleF_tup, DL.ixP_tup, DL.truB_tup, DL.seqOf_lst, DL.seqF_lst, DL.lenP_lst, DL.listG_lst, DL.listF_lst, DL.tupleF_lst, DL.ixP_lst, DL.truB_lst, DL.seqOf_rol, DL.seqF_rol, DL.lenP_rol, DL.listG_rol, DL.listF_rol, DL.tupleF_rol, DL.ixP_rol, DL.truB_rol, DL.seqOf_cell, DL.lenP_cell, DL.listG_cell, DL.listF_cell, DL.tupleF_cell, DL.ixP_cell, DL.truB_cell, DL.rlistOf_lst, DL.rlistOf_rol, DL.rlistOf_cell, DL.listOf_lst, DL.listOf_cell, DL.lenP_str, DL.listG_str, DL.ixP_str, DL.truB_non, DL.truB_bl, DL.truB_int, DL.truB_str, DL.addP_int, DL.addP_str, DL.addP_tup, DL.addP_lst, DL.addP_lc, DL.addP_cl, DL.ltB_int, DL.ltB_str, DL.slL_str, DL.slL_tup, DL.slL_lst, DL.slL_rol, DL.slL_cell, DL.isNon_tup, DL.isNon_lst, DL.isNon_ins, DL.isNon_non, DL.isNon_int, DL.isNon_str, DL.isNon_bl, DL.isNon_cell, DL.insOf_ins, DL.insOf_cell]))]
      rw [seq_nx (set_ok (d := .int x) (c' := s1.c :: cs) (by simp [DL.seqS, DL.Res.seq, DL.setIxS, DL.setS, DL.exprS, DL.retS, DL.retN, DL.ifS, DL.nilS, DL.brkS, DL.cntS, DL.callB, DL.callM, DL.intF, DL.boolF, DL.consA, DL.nilA, DL.starA, DL.bin, DL.un1, DL.negP, DL.bnd, DL.Out.bnd, DL.Out.thenS, DL.opt, DL.varE, DL.litE, DL.setItem, DL.ret, DL.subP, DL.mulP, DL.modP, DL.fdivP, DL.powP, DL.intP, DL.geP, DL.leP, DL.gtP, DL.ltP, DL.eqP, DL.neP, DL.tstE, DL.boolE, DL.andT, DL.orT, DL.notT, DL.andE, DL.orE, DL.notE, DL.ifE, DL.chainE, DL.tupE, DL.lstE, DL.lstC, DL.isNP, DL.notNP, DL.runD, DL.Res.out, DL.startD, DL.itE, DL.itR, DL.rng2, DL.forS, DL.tgN, DL.tgT, DL.tgCons, DL.tgNil, DL.slE, DL.noO, DL.someO, DL.inP, DL.notInP, DL.wipeD, DL.endW, DL.turn, DL.item, DL.forX, DL.ownS, DL.szA, DL.appO, DL.coldS, DL.ownL, DL.revF, DL.allF, DL.anyF, L2.atI, L2.ixN, DL.eqB_int, DL.eqB_str, DL.eqB_bl, DL.eqB_non, DL.eqB_ni, DL.eqB_in, DL.eqB_ns, DL.eqB_sn, DL.eqB_is, DL.eqB_si, DL.rng1_nat, DL.rng1_int, DL.inB_str, DL.size_is, DL.seqOf_tup, DL.seqF_tup, DL.lenP_tup, DL.listG_tup, DL.listF_tup, DL.tupleF_tup, DL.ixP_tup, DL.truB_tup, DL.seqOf_lst, DL.seqF_lst, DL.lenP_lst, DL.listG_lst, DL.listF_lst, DL.tupleF_lst, DL.ixP_lst, DL.truB_lst, DL.seqOf_rol, DL.seqF_rol, DL.lenP_rol, DL.listG_rol, DL.listF_rol, DL.tupleF_rol, DL.ixP_rol, DL.truB_rol, DL.seqOf_cell, DL.lenP_cell, DL.listG_cell, DL.listF_cell, DL.tupleF_cell, DL.ixP_cell, DL.truB_cell, DL.rlistOf_lst, DL.rlistOf_rol, DL.rlistOf_cell, DL.listOf_lst, DL.listOf_cell, DL.lenP_str, DL.listG_str, DL.ixP_str, DL.truB_non, DL.truB_bl, DL.truB_int, DL.truB_str, DL.addP_int, DL.addP_str, DL.addP_tup, DL.addP_lst, DL.addP_lc, DL.addP_cl, DL.ltB_int, DL.ltB_str, DL.slL_str, DL.slL_tup, DL.slL_lst, DL.slL_rol, DL.slL_cell, DL.isNon_tup, DL.isNon_lst, DL.isNon_ins, DL.isNon_non, DL.isNon_int, DL.isNon_str, DL.isNon_bl, DL.isNon_cell, DL.insOf_ins, DL.insOf_cell, e1]))]
      rw [seq_nx (set_ok (d := .int k) (c' := s2.c :: cs) (by simp [DL.seqS, DL.Res.seq, DL.setIxS, DL.setS, DL.exprS, DL.retS, DL.retN, DL.ifS, DL.nilS, DL.brkS, DL.cntS, DL.callB, DL.callM, DL.intF, DL.boolF, DL.consA, DL.nilA, DL.starA, DL.bin, DL.un1, DL.negP, DL.bnd, DL.Out.bnd, DL.Out.thenS, DL.opt, DL.varE, DL.litE, DL.setItem, DL.ret, DL.subP, DL.mulP, DL.modP, DL.fdivP, DL.powP, DL.intP, DL.geP, DL.leP, DL.gtP, DL.ltP, DL.eqP, DL.neP, DL.tstE, DL.boolE, DL.andT, DL.orT, DL.notT, DL.andE, DL.orE, DL.notE, DL.ifE, DL.chainE, DL.tupE, DL.lstE, DL.lstC, DL.isNP, DL.notNP, DL.runD, DL.Res.out, DL.startD, DL.itE, DL.itR, DL.rng2, DL.forS, DL.tgN, DL.tgT, DL.tgCons, DL.tgNil, DL.slE, DL.noO, DL.someO, DL.inP, DL.notInP, DL.wipeD, DL.endW, DL.turn, DL.item, DL.forX, DL.ownS, DL.szA, DL.appO, DL.coldS, DL.ownL, DL.revF, DL.allF, DL.anyF, L2.atI, L2.ixN, DL.eqB_int, DL.eqB_str, DL.eqB_bl, DL.eqB_non, DL.eqB_ni, DL.eqB_in, DL.eqB_ns, DL.eqB_sn, DL.eqB_is, DL.eqB_si, DL.rng1_nat, DL.rng1_int, DL.inB_str, DL.size_is, DL.seqOf_tup, DL.seqF_tup, DL.lenP_tup, DL.listG_tup, DL.listF_tup, DL.tupleF_tup, DL.ixP_tup, DL.truB_tup, DL.seqOf_lst, DL.seqF_lst, DL.lenP_lst, DL.listG_lst, DL.listF_lst, DL.tupleF_lst, DL.ixP_lst, DL.truB_lst, DL.seqOf_rol, DL.seqF_rol, DL.lenP_rol, DL.listG_rol, DL.listF_rol, DL.tupleF_rol, DL.ixP_rol, DL.truB_rol, DL.seqOf_cell, DL.lenP_cell, DL.listG_cell, DL.listF_cell, DL.tupleF_cell, DL.ixP_cell, DL.truB_cell, DL.rlistOf_lst, DL.rlistOf_rol, DL.rlistOf_cell, DL.listOf_lst, DL.listOf_cell, DL.lenP_str, DL.listG_str, DL.ixP_str, DL.truB_non, DL.truB_bl, DL.truB_int, DL.truB_str, DL.addP_int, DL.addP_str, DL.addP_tup, DL.addP_lst, DL.addP_lc, DL.addP_cl, DL.ltB_int, DL.ltB_str, DL.slL_str, DL.slL_tup, DL.slL_lst, DL.slL_rol, DL.slL_cell, DL.isNon_tup, DL.isNon_lst, DL.isNon_ins, DL.isNon_non, DL.isNon_int, DL.isNon_str, DL.isNon_bl, DL.isNon_cell, DL.insOf_ins, DL.insOf_cell, e2]))]
      exact congrArg DL.Res.out (seq_if_f gt)
    rw [st]
    by_cases h11 : k = 11
    · obtain ⟨m, s3, hm, e3⟩ := draw_o s2 (n := 26) (by decide) (by decide)
      have e3 := e3 cs
      have ca := caps_ix (i := (m : Int)) (by omega) hm (c := s3.c :: cs)
      rw [Int.toNat_natCast] at ca
      obtain ⟨f1, f2⟩ := mark_flat (i := m) (by omega)
      refine ⟨[.str (S [65 + m]), .int x], s3, ?_, flat2 f1, isA2 f2 ⟨by omega, hx⟩, rfl⟩
      simp [DL.seqS, DL.Res.seq, DL.setIxS, DL.setS, DL.exprS, DL.retS, DL.retN, DL.ifS, DL.nilS, DL.brkS, DL.cntS, DL.callB, DL.callM, DL.intF, DL.boolF, DL.consA, DL.nilA, DL.starA, DL.bin, DL.un1, DL.negP, DL.bnd, DL.Out.bnd, DL.Out.thenS, DL.opt, DL.varE, DL.litE, DL.setItem, DL.ret, DL.subP, DL.mulP, DL.modP, DL.fdivP, DL.powP, DL.intP, DL.geP, DL.leP, DL.gtP, DL.ltP, DL.eqP, DL.neP, DL.tstE, DL.boolE, DL.andT, DL.orT, DL.notT, DL.andE, DL.orE, DL.notE, DL.ifE, DL.chainE, DL.tupE, DL.lstE, DL.lstC, DL.isNP, DL.notNP, DL.runD, DL.Res.out, DL.startD, DL.itE, DL.itR, DL.rng2, DL.forS, DL.tgN, DL.tgT, DL.tgCons, DL.tgNil, DL.slE, DL.noO, DL.someO, DL.inP, DL.notInP, DL.wipeD, DL.endW, DL.turn, DL.item, DL.forX, DL.ownS, DL.szA, DL.appO, DL.coldS, DL.ownL, DL.revF, DL.allF, DL.anyF, L2.atI, L2.ixN, DL.eqB_int, DL.eqB_str, DL.eqB_bl, DL.eqB_non, DL.eqB_ni, DL.eqB_in, DL.eqB_ns, DL.eqB_sn, DL.eqB_is, DL.eqB_si, DL.rng1_nat, DL.rng1_int, DL.inB_str, DL.size_is, DL.seqOf_tup, DL.seqF_tup, DL.lenP_tup, DL.listG_tup, DL.listF_tup, DL.tupleF_tup, DL.ixP_tup, DL.truB_tup, DL.seqOf_lst, DL.seqF_lst, DL.lenP_lst, DL.listG_lst, DL.listF_lst, DL.tupleF_lst, DL.ixP_lst, DL.truB_lst, DL.seqOf_rol, DL.seqF_rol, DL.lenP_rol, DL.listG_rol, DL.listF_rol, DL.tupleF_rol, DL.ixP_rol, DL.truB_rol, DL.seqOf_cell, DL.lenP_cell, DL.listG_cell, DL.listF_cell, DL.tupleF_cell, DL.ixP_cell, DL.truB_cell, DL.rlistOf_lst, DL.rlistOf_rol, DL.rlistOf_cell, DL.listOf_lst, DL.listOf_cell, DL.lenP_str, DL.listG_str, DL.ixP_str, DL.truB_non, DL.truB_bl, DL.truB_int, DL.truB_str, DL.addP_int, DL.addP_str, DL.addP_tup, DL.addP_lst, DL.addP_lc, DL.addP_cl, DL.ltB_int, DL.ltB_str, DL.slL_str, DL.slL_tup, DL.slL_lst, DL.slL_rol, DL.slL_cell, DL.isNon_tup, DL.isNon_lst, DL.isNon_ins, DL.isNon_non, DL.isNon_int, DL.isNon_str, DL.isNon_bl, DL.isNon_cell, DL.insOf_ins, DL.insOf_cell, h11, e3, ca]
    · have h11' : ¬ (k : Int) = 11 := by omega
      have step {w : PySem.Str} (hw : (retS (tupE (consA (bin ixP (lstE (consA (litE (.str "W")) (consA (litE (.str "R")) (nilA)))) (bin modP (callB intF (consA (varE 4) (nilA))) (litE (.int 2)))) (consA (varE 3) (nilA)))))
        [.sh (.cell 0), .sh (.int N), .sh (.lst [.str "vis", .str "so", .str "ar", .str "bf", .str "ss", .str "si", .str "vis", .str "so"]), .sh (.int x), .sh (.int k), .un] (s2.c :: cs) = .rt (.tup [.str w, .int x]) (s2.c :: cs)) (f1 : markB (.str w) = true) (f2 : flat (.str w) = true) : _ :=
        (⟨[.str w, .int x], s2, (congrArg DL.Res.out ((seq_if_f (c' := s2.c :: cs) (by simp [DL.seqS, DL.Res.seq, DL.setIxS, DL.setS, DL.exprS, DL.retS, DL.retN, DL.ifS, DL.nilS, DL.brkS, DL.cntS, DL.callB, DL.callM, DL.intF, DL.boolF, DL.consA, DL.nilA, DL.starA, DL.bin, DL.un1, DL.negP, DL.bnd, DL.Out.bnd, DL.Out.thenS, DL.opt, DL.varE, DL.litE, DL.setItem, DL.ret, DL.subP, DL.mulP, DL.modP, DL.fdivP, DL.powP, DL.intP, DL.geP, DL.leP, DL.gtP, DL.ltP, DL.eqP, DL.neP, DL.tstE, DL.boolE, DL.andT, DL.orT, DL.notT, DL.andE, DL.orE, DL.notE, DL.ifE, DL.chainE, DL.tupE, DL.lstE, DL.lstC, DL.isNP, DL.notNP, DL.runD, DL.Res.out, DL.startD, DL.itE, DL.itR, DL.rng2, DL.forS, DL.tgN, DL.tgT, DL.tgCons, DL.tgNil, DL.slE, DL.noO, DL.someO, DL.inP, DL.notInP, DL.wipeD, DL.endW, DL.turn, DL.item, DL.forX, DL.ownS, DL.szA, DL.appO, DL.coldS, DL.ownL, DL.revF, DL.allF, DL.anyF, L2.atI, L2.ixN, DL.eqB_int, DL.eqB_str, DL.eqB_bl, DL.eqB_non, DL.eqB_ni, DL.eqB_in, DL.eqB_ns, DL.eqB_sn, DL.eqB_is, DL.eqB_si, DL.rng1_nat, DL.rng1_int, DL.inB_str, DL.size_is, DL.seqOf_tup, DL.seqF_tup, DL.lenP_tup, DL.listG_tup, DL.listF_tup, DL.tupleF_tup, DL.ixP_tup, DL.truB_tup, DL.seqOf_lst, DL.seqF_lst, DL.lenP_lst, DL.listG_lst, DL.listF_lst, DL.tupleF_lst, DL.ixP_lst, DL.truB_lst, DL.seqOf_rol, DL.seqF_rol, DL.lenP_rol, DL.listG_rol, DL.listF_rol, DL.tupleF_rol, DL.ixP_rol, DL.truB_rol, DL.seqOf_cell, DL.lenP_cell, DL.listG_cell, DL.listF_cell, DL.tupleF_cell, DL.ixP_cell, DL.truB_cell, DL.rlistOf_lst, DL.rlistOf_rol, DL.rlistOf_cell, DL.listOf_lst, DL.listOf_cell, DL.lenP_str, DL.listG_str, DL.ixP_str, DL.truB_non, DL.truB_bl, DL.truB_int, DL.truB_str, DL.addP_int, DL.addP_str, DL.addP_tup, DL.addP_lst, DL.addP_lc, DL.addP_cl, DL.ltB_int, DL.ltB_str, DL.slL_str, DL.slL_tup, DL.slL_lst, DL.slL_rol, DL.slL_cell, DL.isNon_tup, DL.isNon_lst, DL.isNon_ins, DL.isNon_non, DL.isNon_int, DL.isNon_str, DL.isNon_bl, DL.isNon_cell, DL.insOf_ins, DL.insOf_cell, h11, h11'])).trans hw)).trans rfl, flat2 f2, isA2 f1 ⟨by omega, hx⟩, rfl⟩ : ∃ (a : List D) (s' : DS), (seqS (ifS (boolE (bin eqP (varE 4) (litE (.int 11)))) (retS (tupE (consA (bin ixP (litE (.str "ABCDEFGHIJKLMNOPQRSTUVWXYZ")) (callM m__law_draw (consA (varE 0) (consA (litE (.int 26)) (nilA))))) (consA (varE 3) (nilA))))) (nilS)) (retS (tupE (consA (bin ixP (lstE (consA (litE (.str "W")) (consA (litE (.str "R")) (nilA)))) (bin modP (callB intF (consA (varE 4) (nilA))) (litE (.int 2)))) (consA (varE 3) (nilA)))))
        [.sh (.cell 0), .sh (.int N), .sh (.lst [.str "vis", .str "so", .str "ar", .str "bf", .str "ss", .str "si", .str "vis", .str "so"]), .sh (.int x), .sh (.int k), .un] (s2.c :: cs)).out = .ok (.tup a) (s'.c :: cs) ∧ AtN a N)
      have em : ((k : Int) % 2) = 0 ∨ ((k : Int) % 2) = 1 := by omega
      rcases em with em | em
      · exact step (w := "W") (by simp [DL.seqS, DL.Res.seq, DL.setIxS, DL.setS, DL.exprS, DL.retS, DL.retN, DL.ifS, DL.nilS, DL.brkS, DL.cntS, DL.callB, DL.callM, DL.intF, DL.boolF, DL.consA, DL.nilA, DL.starA, DL.bin, DL.un1, DL.negP, DL.bnd, DL.Out.bnd, DL.Out.thenS, DL.opt, DL.varE, DL.litE, DL.setItem, DL.ret, DL.subP, DL.mulP, DL.modP, DL.fdivP, DL.powP, DL.intP, DL.geP, DL.leP, DL.gtP, DL.ltP, DL.eqP, DL.neP, DL.tstE, DL.boolE, DL.andT, DL.orT, DL.notT, DL.andE, DL.orE, DL.notE, DL.ifE, DL.chainE, DL.tupE, DL.lstE, DL.lstC, DL.isNP, DL.notNP, DL.runD, DL.Res.out, DL.startD, DL.itE, DL.itR, DL.rng2, DL.forS, DL.tgN, DL.tgT, DL.tgCons, DL.tgNil, DL.slE, DL.noO, DL.someO, DL.inP, DL.notInP, DL.wipeD, DL.endW, DL.turn, DL.item, DL.forX, DL.ownS, DL.szA, DL.appO, DL.coldS, DL.ownL, DL.revF, DL.allF, DL.anyF, L2.atI, L2.ixN, DL.eqB_int, DL.eqB_str, DL.eqB_bl, DL.eqB_non, DL.eqB_ni, DL.eqB_in, DL.eqB_ns, DL.eqB_sn, DL.eqB_is, DL.eqB_si, DL.rng1_nat, DL.rng1_int, DL.inB_str, DL.size_is, DL.seqOf_tup, DL.seqF_tup, DL.lenP_tup, DL.listG_tup, DL.listF_tup, DL.tupleF_tup, DL.ixP_tup, DL.truB_tup, DL.seqOf_lst, DL.seqF_lst, DL.lenP_lst, DL.listG_lst, DL.listF_lst, DL.tupleF_lst, DL.ixP_lst, DL.truB_lst, DL.seqOf_rol, DL.seqF_rol, DL.lenP_rol, DL.listG_rol, DL.listF_rol, DL.tupleF_rol, DL.ixP_rol, DL.truB_rol, DL.seqOf_cell, DL.lenP_cell, DL.listG_cell, DL.listF_cell, DL.tupleF_cell, DL.ixP_cell, DL.truB_cell, DL.rlistOf_lst, DL.rlistOf_rol, DL.rlistOf_cell, DL.listOf_lst, DL.listOf_cell, DL.lenP_str, DL.listG_str, DL.ixP_str, DL.truB_non, DL.truB_bl, DL.truB_int, DL.truB_str, DL.addP_int, DL.addP_str, DL.addP_tup, DL.addP_lst, DL.addP_lc, DL.addP_cl, DL.ltB_int, DL.ltB_str, DL.slL_str, DL.slL_tup, DL.slL_lst, DL.slL_rol, DL.slL_cell, DL.isNon_tup, DL.isNon_lst, DL.isNon_ins, DL.isNon_non, DL.isNon_int, DL.isNon_str, DL.isNon_bl, DL.isNon_cell, DL.insOf_ins, DL.insOf_cell, em, L2.atI]) wr_mark.1 wr_mark.2.2.1
      · exact step (w := "R") (by simp [DL.seqS, DL.Res.seq, DL.setIxS, DL.setS, DL.exprS, DL.retS, DL.retN, DL.ifS, DL.nilS, DL.brkS, DL.cntS, DL.callB, DL.callM, DL.intF, DL.boolF, DL.consA, DL.nilA, DL.starA, DL.bin, DL.un1, DL.negP, DL.bnd, DL.Out.bnd, DL.Out.thenS, DL.opt, DL.varE, DL.litE, DL.setItem, DL.ret, DL.subP, DL.mulP, DL.modP, DL.fdivP, DL.powP, DL.intP, DL.geP, DL.leP, DL.gtP, DL.ltP, DL.eqP, DL.neP, DL.tstE, DL.boolE, DL.andT, DL.orT, DL.notT, DL.andE, DL.orE, DL.notE, DL.ifE, DL.chainE, DL.tupE, DL.lstE, DL.lstC, DL.isNP, DL.notNP, DL.runD, DL.Res.out, DL.startD, DL.itE, DL.itR, DL.rng2, DL.forS, DL.tgN, DL.tgT, DL.tgCons, DL.tgNil, DL.slE, DL.noO, DL.someO, DL.inP, DL.notInP, DL.wipeD, DL.endW, DL.turn, DL.item, DL.forX, DL.ownS, DL.szA, DL.appO, DL.coldS, DL.ownL, DL.revF, DL.allF, DL.anyF, L2.atI, L2.ixN, DL.eqB_int, DL.eqB_str, DL.eqB_bl, DL.eqB_non, DL.eqB_ni, DL.eqB_in, DL.eqB_ns, DL.eqB_sn, DL.eqB_is, DL.eqB_si, DL.rng1_nat, DL.rng1_int, DL.inB_str, DL.size_is, DL.seqOf_tup, DL.seqF_tup, DL.lenP_tup, DL.listG_tup, DL.listF_tup, DL.tupleF_tup, DL.ixP_tup, DL.truB_tup, DL.seqOf_lst, DL.seqF_lst, DL.lenP_lst, DL.listG_lst, DL.listF_lst, DL.tupleF_lst, DL.ixP_lst, DL.truB_lst, DL.seqOf_rol, DL.seqF_rol, DL.lenP_rol, DL.listG_rol, DL.listF_rol, DL.tupleF_rol, DL.ixP_rol, DL.truB_rol, DL.seqOf_cell, DL.lenP_cell, DL.listG_cell, DL.listF_cell, DL.tupleF_cell, DL.ixP_cell, DL.truB_cell, DL.rlistOf_lst, DL.rlistOf_rol, DL.rlistOf_cell, DL.listOf_lst, DL.listOf_cell, DL.lenP_str, DL.listG_str, DL.ixP_str, DL.truB_non, DL.truB_bl, DL.truB_int, DL.truB_str, DL.addP_int, DL.addP_str, DL.addP_tup, DL.addP_lst, DL.addP_lc, DL.addP_cl, DL.ltB_int, DL.ltB_str, DL.slL_str, DL.slL_tup, DL.slL_lst, DL.slL_rol, DL.slL_cell, DL.isNon_tup, DL.isNon_lst, DL.isNon_ins, DL.isNon_non, DL.isNon_int, DL.isNon_str, DL.isNon_bl, DL.isNon_cell, DL.insOf_ins, DL.insOf_cell, em, L2.atI]) wr_mark.2.1 wr_mark.2.2.2
def shapeB (b : List (List D)) (h : List D) : Bool := b.all (fun a => flatT (.tup a)) && (flatT (.tup h) && (match sizeB b with
  | some n => isA h n
  | none => false))
theorem shapeB_of {b : List (List D)} {h : List D} (e : shapeB b h = true) : ∃ n, Shape b h n := by
  simp only [shapeB, Bool.and_eq_true, List.all_eq_true] at e
  obtain ⟨e1, e2, e3⟩ := e
  cases hs : sizeB b with
  | none => rw [hs] at e3; cases e3
  | some n => rw [hs] at e3; exact ⟨n, e1, e2, hs, e3⟩
def known : List (PySem.Str × List (List D) × List D) := [("own", [[.str "W", .int 0], [.str "so", .int 0, .int 1], [.str "R", .int 1]], [.str "vis", .int 0, .int 1]),
  ("onward", [[.str "W", .int 0], [.str "vis", .int 0, .int 1], [.str "R", .int 1], [.str "so", .int 1, .int 2], [.str "R", .int 2]], [.str "vis", .int 0, .int 2]),
  ("inorder", [[.str "W", .int 0], [.str "so", .int 0, .int 1], [.str "W", .int 1], [.str "vis", .int 1, .int 2], [.str "R", .int 2]], [.str "vis", .int 0, .int 2]),
  ("behind", [[.str "W", .int 0], [.str "vis", .int 0, .int 1], [.str "R", .int 1], [.str "so", .int 1, .int 2], [.str "W", .int 2], [.str "vis", .int 2, .int 3], [.str "R", .int 3]], [.str "vis", .int 0, .int 3]),
  ("through", [[.str "W", .int 0], [.str "vis", .int 0, .int 1], [.str "R", .int 1], [.str "W", .int 1], [.str "vis", .int 1, .int 2], [.str "R", .int 2]], [.str "vis", .int 0, .int 2]),
  ("queue", [[.str "W", .int 0], [.str "so", .int 0, .int 1], [.str "W", .int 1], [.str "vis", .int 1, .int 2]], [.str "vis", .int 0, .int 2]),
  ("carry", [[.str "W", .int 0], [.str "vis", .int 0, .int 1], [.str "R", .int 1], [.str "so", .int 1, .int 2], [.str "W", .int 2], [.str "vis", .int 2, .int 3]], [.str "vis", .int 0, .int 3]),
  ("link", [[.str "W", .int 0], [.str "vis", .int 0, .int 1], [.str "W", .int 1], [.str "vis", .int 1, .int 2]], [.str "vis", .int 0, .int 2]),
  ("clock", [[.str "vis", .int 0, .int 1]], [.str "ar", .int 0, .int 1]),
  ("steady", [[.str "so", .int 0, .int 1]], [.str "ar", .int 0, .int 1]),
  ("prefix", [[.str "ar", .int 0, .int 1], [.str "vis", .int 1, .int 2]], [.str "vis", .int 0, .int 2]),
  ("real", [[.str "bf", .int 0, .int 1]], [.str "ar", .int 0, .int 1]),
  ("serial", [[.str "ar", .int 0, .int 1]], [.str "vis", .int 0, .int 1]),
  ("writes", [[.str "vis", .int 0, .int 1]], [.str "W", .int 0]),
  ("history", [[.str "vis", .int 0, .int 1], [.str "vis", .int 1, .int 2]], [.str "vis", .int 0, .int 2]),
  ("session", [[.str "so", .int 0, .int 1]], [.str "vis", .int 0, .int 1]),
  ("ownitem", [[.str "W", .int 0], [.str "so", .int 0, .int 1], [.str "si", .int 0, .int 1], [.str "R", .int 1]], [.str "vis", .int 0, .int 1]),
  ("itemorder", [[.str "so", .int 0, .int 1], [.str "si", .int 0, .int 1]], [.str "ar", .int 0, .int 1])]
def kenc (r : PySem.Str × List (List D) × List D) : D := .tup [.str r.1, .lst (r.2.1.map D.tup), .tup r.2.2]
theorem known_eq {c : Cells} : m__law_known [] c = .ok (.lst (known.map kenc)) c := by
  simp [m__law_known, b__law_known, DL.seqS, DL.Res.seq, DL.setIxS, DL.setS, DL.exprS, DL.retS, DL.retN, DL.ifS, DL.nilS, DL.brkS, DL.cntS, DL.callB, DL.callM, DL.intF, DL.boolF, DL.consA, DL.nilA, DL.starA, DL.bin, DL.un1, DL.negP, DL.bnd, DL.Out.bnd, DL.Out.thenS, DL.opt, DL.varE, DL.litE, DL.setItem, DL.ret, DL.subP, DL.mulP, DL.modP, DL.fdivP, DL.powP, DL.intP, DL.geP, DL.leP, DL.gtP, DL.ltP, DL.eqP, DL.neP, DL.tstE, DL.boolE, DL.andT, DL.orT, DL.notT, DL.andE, DL.orE, DL.notE, DL.ifE, DL.chainE, DL.tupE, DL.lstE, DL.lstC, DL.isNP, DL.notNP, DL.runD, DL.Res.out, DL.startD, DL.itE, DL.itR, DL.rng2, DL.forS, DL.tgN, DL.tgT, DL.tgCons, DL.tgNil, DL.slE, DL.noO, DL.someO, DL.inP, DL.notInP, DL.wipeD, DL.endW, DL.turn, DL.item, DL.forX, DL.ownS, DL.szA, DL.appO, DL.coldS, DL.ownL, DL.revF, DL.allF, DL.anyF, L2.atI, L2.ixN, DL.eqB_int, DL.eqB_str, DL.eqB_bl, DL.eqB_non, DL.eqB_ni, DL.eqB_in, DL.eqB_ns, DL.eqB_sn, DL.eqB_is, DL.eqB_si, DL.rng1_nat, DL.rng1_int, DL.inB_str, DL.size_is, DL.seqOf_tup, DL.seqF_tup, DL.lenP_tup, DL.listG_tup, DL.listF_tup, DL.tupleF_tup, DL.ixP_tup, DL.truB_tup, DL.seqOf_lst, DL.seqF_lst, DL.lenP_lst, DL.listG_lst, DL.listF_lst, DL.tupleF_lst, DL.ixP_lst, DL.truB_lst, DL.seqOf_rol, DL.seqF_rol, DL.lenP_rol, DL.listG_rol, DL.listF_rol, DL.tupleF_rol, DL.ixP_rol, DL.truB_rol, DL.seqOf_cell, DL.lenP_cell, DL.listG_cell, DL.listF_cell, DL.tupleF_cell, DL.ixP_cell, DL.truB_cell, DL.rlistOf_lst, DL.rlistOf_rol, DL.rlistOf_cell, DL.listOf_lst, DL.listOf_cell, DL.lenP_str, DL.listG_str, DL.ixP_str, DL.truB_non, DL.truB_bl, DL.truB_int, DL.truB_str, DL.addP_int, DL.addP_str, DL.addP_tup, DL.addP_lst, DL.addP_lc, DL.addP_cl, DL.ltB_int, DL.ltB_str, DL.slL_str, DL.slL_tup, DL.slL_lst, DL.slL_rol, DL.slL_cell, DL.isNon_tup, DL.isNon_lst, DL.isNon_ins, DL.isNon_non, DL.isNon_int, DL.isNon_str, DL.isNon_bl, DL.isNon_cell, DL.insOf_ins, DL.insOf_cell, known, kenc]
theorem known_ok : known.all (fun r => r.2.1.all atomB && (decide (mxs 0 (plcs r.2.1) ≤ 4) && shapeB r.2.1 r.2.2)) = true := by decide +kernel
theorem shape0 {s s1 s2 : DS} {k : Nat} (hk : k < 18) (e0 : ∀ cs, m_draw [.cell 0, .int 4] (s.c :: cs) = .ok (.int 0) (s1.c :: cs)) (e1 : ∀ cs, m_draw [.cell 0, .int 18] (s1.c :: cs) = .ok (.int k) (s2.c :: cs)) (cs : Cells) :
    ∃ (b : List (List D)) (h : List D) (n : Int), m__law_shape [.cell 0, .int 4] (s.c :: cs) = .ok (.tup [.lst (b.map D.tup), .tup h]) (s2.c :: cs) ∧ Shape b h n := by
  have e0 := e0 cs
  have e1 := e1 cs
  have el : lcE (itE (callM m__law_known nilA)) [7] (tgN 7) (boolE (bin leP (callM m__law_size (consA (bin ixP (varE 7) (litE (.int 1))) (nilA))) (varE 1))) (varE 7) [.sh (.cell 0), .sh (.int 4), .sh (.int 0), .un, .un, .un, .un, .un, .un] (s1.c :: cs) = .ok (.lst (known.map kenc)) (s1.c :: cs) := by
    refine lcE_all (enc := kenc) (xs := known) (c1 := s1.c :: cs) (by simp [DL.seqS, DL.Res.seq, DL.setIxS, DL.setS, DL.exprS, DL.retS, DL.retN, DL.ifS, DL.nilS, DL.brkS, DL.cntS, DL.callB, DL.callM, DL.intF, DL.boolF, DL.consA, DL.nilA, DL.starA, DL.bin, DL.un1, DL.negP, DL.bnd, DL.Out.bnd, DL.Out.thenS, DL.opt, DL.varE, DL.litE, DL.setItem, DL.ret, DL.subP, DL.mulP, DL.modP, DL.fdivP, DL.powP, DL.intP, DL.geP, DL.leP, DL.gtP, DL.ltP, DL.eqP, DL.neP, DL.tstE, DL.boolE, DL.andT, DL.orT, DL.notT, DL.andE, DL.orE, DL.notE, DL.ifE, DL.chainE, DL.tupE, DL.lstE, DL.lstC, DL.isNP, DL.notNP, DL.runD, DL.Res.out, DL.startD, DL.itE, DL.itR, DL.rng2, DL.forS, DL.tgN, DL.tgT, DL.tgCons, DL.tgNil, DL.slE, DL.noO, DL.someO, DL.inP, DL.notInP, DL.wipeD, DL.endW, DL.turn, DL.item, DL.forX, DL.ownS, DL.szA, DL.appO, DL.coldS, DL.ownL, DL.revF, DL.allF, DL.anyF, L2.atI, L2.ixN, DL.eqB_int, DL.eqB_str, DL.eqB_bl, DL.eqB_non, DL.eqB_ni, DL.eqB_in, DL.eqB_ns, DL.eqB_sn, DL.eqB_is, DL.eqB_si, DL.rng1_nat, DL.rng1_int, DL.inB_str, DL.size_is, DL.seqOf_tup, DL.seqF_tup, DL.lenP_tup, DL.listG_tup, DL.listF_tup, DL.tupleF_tup, DL.ixP_tup, DL.truB_tup, DL.seqOf_lst, DL.seqF_lst, DL.lenP_lst, DL.listG_lst, DL.listF_lst, DL.tupleF_lst, DL.ixP_lst, DL.truB_lst, DL.seqOf_rol, DL.seqF_rol, DL.lenP_rol, DL.listG_rol, DL.listF_rol, DL.tupleF_rol, DL.ixP_rol, DL.truB_rol, DL.seqOf_cell, DL.lenP_cell, DL.listG_cell, DL.listF_cell, DL.tupleF_cell, DL.ixP_cell, DL.truB_cell, DL.rlistOf_lst, DL.rlistOf_rol, DL.rlistOf_cell, DL.listOf_lst, DL.listOf_cell, DL.lenP_str, DL.listG_str, DL.ixP_str, DL.truB_non, DL.truB_bl, DL.truB_int, DL.truB_str, DL.addP_int, DL.addP_str, DL.addP_tup, DL.addP_lst, DL.addP_lc, DL.addP_cl, DL.ltB_int, DL.ltB_str, DL.slL_str, DL.slL_tup, DL.slL_lst, DL.slL_rol, DL.slL_cell, DL.isNon_tup, DL.isNon_lst, DL.isNon_ins, DL.isNon_non, DL.isNon_int, DL.isNon_str, DL.isNon_bl, DL.isNon_cell, DL.insOf_ins, DL.insOf_cell, known_eq]) fun r hr => ?_
    have := List.all_eq_true.mp known_ok r hr
    simp only [Bool.and_eq_true, decide_eq_true_eq] at this
    obtain ⟨h1, h2, h3⟩ := this
    have hz := law_size_eq h1 (c := s1.c :: cs)
    simp [item, kenc, DL.seqS, DL.Res.seq, DL.setIxS, DL.setS, DL.exprS, DL.retS, DL.retN, DL.ifS, DL.nilS, DL.brkS, DL.cntS, DL.callB, DL.callM, DL.intF, DL.boolF, DL.consA, DL.nilA, DL.starA, DL.bin, DL.un1, DL.negP, DL.bnd, DL.Out.bnd, DL.Out.thenS, DL.opt, DL.varE, DL.litE, DL.setItem, DL.ret, DL.subP, DL.mulP, DL.modP, DL.fdivP, DL.powP, DL.intP, DL.geP, DL.leP, DL.gtP, DL.ltP, DL.eqP, DL.neP, DL.tstE, DL.boolE, DL.andT, DL.orT, DL.notT, DL.andE, DL.orE, DL.notE, DL.ifE, DL.chainE, DL.tupE, DL.lstE, DL.lstC, DL.isNP, DL.notNP, DL.runD, DL.Res.out, DL.startD, DL.itE, DL.itR, DL.rng2, DL.forS, DL.tgN, DL.tgT, DL.tgCons, DL.tgNil, DL.slE, DL.noO, DL.someO, DL.inP, DL.notInP, DL.wipeD, DL.endW, DL.turn, DL.item, DL.forX, DL.ownS, DL.szA, DL.appO, DL.coldS, DL.ownL, DL.revF, DL.allF, DL.anyF, L2.atI, L2.ixN, DL.eqB_int, DL.eqB_str, DL.eqB_bl, DL.eqB_non, DL.eqB_ni, DL.eqB_in, DL.eqB_ns, DL.eqB_sn, DL.eqB_is, DL.eqB_si, DL.rng1_nat, DL.rng1_int, DL.inB_str, DL.size_is, DL.seqOf_tup, DL.seqF_tup, DL.lenP_tup, DL.listG_tup, DL.listF_tup, DL.tupleF_tup, DL.ixP_tup, DL.truB_tup, DL.seqOf_lst, DL.seqF_lst, DL.lenP_lst, DL.listG_lst, DL.listF_lst, DL.tupleF_lst, DL.ixP_lst, DL.truB_lst, DL.seqOf_rol, DL.seqF_rol, DL.lenP_rol, DL.listG_rol, DL.listF_rol, DL.tupleF_rol, DL.ixP_rol, DL.truB_rol, DL.seqOf_cell, DL.lenP_cell, DL.listG_cell, DL.listF_cell, DL.tupleF_cell, DL.ixP_cell, DL.truB_cell, DL.rlistOf_lst, DL.rlistOf_rol, DL.rlistOf_cell, DL.listOf_lst, DL.listOf_cell, DL.lenP_str, DL.listG_str, DL.ixP_str, DL.truB_non, DL.truB_bl, DL.truB_int, DL.truB_str, DL.addP_int, DL.addP_str, DL.addP_tup, DL.addP_lst, DL.addP_lc, DL.addP_cl, DL.ltB_int, DL.ltB_str, DL.slL_str, DL.slL_tup, DL.slL_lst, DL.slL_rol, DL.slL_cell, DL.isNon_tup, DL.isNon_lst, DL.isNon_ins, DL.isNon_non, DL.isNon_int, DL.isNon_str, DL.isNon_bl, DL.isNon_cell, DL.insOf_ins, DL.insOf_cell, hz, h2]
  have hl : known.length = 18 := rfl
  obtain ⟨r, hr⟩ : ∃ r, known[k]? = some r := ⟨known[k], List.getElem?_eq_getElem (by omega)⟩
  obtain ⟨hk', hr'⟩ := List.getElem?_eq_some_iff.mp hr
  have := List.all_eq_true.mp known_ok r (List.mem_of_getElem? hr)
  simp only [Bool.and_eq_true, decide_eq_true_eq] at this
  obtain ⟨n, hs⟩ := shapeB_of this.2.2
  refine ⟨r.2.1, r.2.2, n, ?_, hs⟩
  have hx : (known.map kenc)[k]? = some (kenc r) := by rw [List.getElem?_map, hr]; rfl
  have hk18 : (k : Int) < 18 := by omega
  generalize hK : known.map kenc = KN at *
  have hln : KN.length = 18 := by rw [← hK, List.length_map, hl]
  refine run_rt rfl ?_
  simp [b__law_shape, DL.seqS, DL.Res.seq, DL.setIxS, DL.setS, DL.exprS, DL.retS, DL.retN, DL.ifS, DL.nilS, DL.brkS, DL.cntS, DL.callB, DL.callM, DL.intF, DL.boolF, DL.consA, DL.nilA, DL.starA, DL.bin, DL.un1, DL.negP, DL.bnd, DL.Out.bnd, DL.Out.thenS, DL.opt, DL.varE, DL.litE, DL.setItem, DL.ret, DL.subP, DL.mulP, DL.modP, DL.fdivP, DL.powP, DL.intP, DL.geP, DL.leP, DL.gtP, DL.ltP, DL.eqP, DL.neP, DL.tstE, DL.boolE, DL.andT, DL.orT, DL.notT, DL.andE, DL.orE, DL.notE, DL.ifE, DL.chainE, DL.tupE, DL.lstE, DL.lstC, DL.isNP, DL.notNP, DL.runD, DL.Res.out, DL.startD, DL.itE, DL.itR, DL.rng2, DL.forS, DL.tgN, DL.tgT, DL.tgCons, DL.tgNil, DL.slE, DL.noO, DL.someO, DL.inP, DL.notInP, DL.wipeD, DL.endW, DL.turn, DL.item, DL.forX, DL.ownS, DL.szA, DL.appO, DL.coldS, DL.ownL, DL.revF, DL.allF, DL.anyF, L2.atI, L2.ixN, DL.eqB_int, DL.eqB_str, DL.eqB_bl, DL.eqB_non, DL.eqB_ni, DL.eqB_in, DL.eqB_ns, DL.eqB_sn, DL.eqB_is, DL.eqB_si, DL.rng1_nat, DL.rng1_int, DL.inB_str, DL.size_is, DL.seqOf_tup, DL.seqF_tup, DL.lenP_tup, DL.listG_tup, DL.listF_tup, DL.tupleF_tup, DL.ixP_tup, DL.truB_tup, DL.seqOf_lst, DL.seqF_lst, DL.lenP_lst, DL.listG_lst, DL.listF_lst, DL.tupleF_lst, DL.ixP_lst, DL.truB_lst, DL.seqOf_rol, DL.seqF_rol, DL.lenP_rol, DL.listG_rol, DL.listF_rol, DL.tupleF_rol, DL.ixP_rol, DL.truB_rol, DL.seqOf_cell, DL.lenP_cell, DL.listG_cell, DL.listF_cell, DL.tupleF_cell, DL.ixP_cell, DL.truB_cell, DL.rlistOf_lst, DL.rlistOf_rol, DL.rlistOf_cell, DL.listOf_lst, DL.listOf_cell, DL.lenP_str, DL.listG_str, DL.ixP_str, DL.truB_non, DL.truB_bl, DL.truB_int, DL.truB_str, DL.addP_int, DL.addP_str, DL.addP_tup, DL.addP_lst, DL.addP_lc, DL.addP_cl, DL.ltB_int, DL.ltB_str, DL.slL_str, DL.slL_tup, DL.slL_lst, DL.slL_rol, DL.slL_cell, DL.isNon_tup, DL.isNon_lst, DL.isNon_ins, DL.isNon_non, DL.isNon_int, DL.isNon_str, DL.isNon_bl, DL.isNon_cell, DL.insOf_ins, DL.insOf_cell, e0, el, hln, e1, hx, hk18, kenc]
def path : Nat → List PySem.Str → List (List D)
  | _, [] => []
  | k, w :: ws => [.str w, .int k, .int ((k : Int) + 1)] :: path (k + 1) ws
theorem path_add : ∀ (ws : List PySem.Str) (k : Nat) (w : PySem.Str), path k (ws ++ [w]) = path k ws ++ [[.str w, .int (k + ws.length : Nat), .int (((k + ws.length : Nat) : Int) + 1)]]
  | [], k, w => rfl
  | v :: ws, k, w => by
    simp only [List.cons_append, path, path_add ws (k + 1) w, List.length_cons]
    rw [show k + 1 + ws.length = k + (ws.length + 1) by omega]
theorem way_turn (s : DS) (k : Nat) {acc : List D} (hacc : acc.length < 16777216) {st : Slot} (cs : Cells) : ∃ (w : PySem.Str) (s' : DS), relB (.str w) = true ∧
    turn [5] (tgN 5) lb__law_way_1 (.int k) [.sh (.cell 0), .sh (.int 4), .sh (.lst [.str "vis", .str "so", .str "ar", .str "bf"]), st, .own (.lst acc), .un] (s.c :: cs) =
      .nx [.sh (.cell 0), .sh (.int 4), .sh (.lst [.str "vis", .str "so", .str "ar", .str "bf"]), st, .own (.lst (acc ++ [.tup [.str w, .int k, .int ((k : Int) + 1)]])), .un] (s'.c :: cs) := by
  obtain ⟨j, s', hj, e⟩ := draw_o s (n := 4) (by decide) (by decide)
  have e := e cs
  obtain ⟨w, hw, rw_⟩ := words4 (k := j) (by omega)
  obtain ⟨hw0, hw'⟩ := List.getElem?_eq_some_iff.mp hw
  refine ⟨w, s', rw_, ?_⟩
  simp [turn, endW, lb__law_way_1, DL.seqS, DL.Res.seq, DL.setIxS, DL.setS, DL.exprS, DL.retS, DL.retN, DL.ifS, DL.nilS, DL.brkS, DL.cntS, DL.callB, DL.callM, DL.intF, DL.boolF, DL.consA, DL.nilA, DL.starA, DL.bin, DL.un1, DL.negP, DL.bnd, DL.Out.bnd, DL.Out.thenS, DL.opt, DL.varE, DL.litE, DL.setItem, DL.ret, DL.subP, DL.mulP, DL.modP, DL.fdivP, DL.powP, DL.intP, DL.geP, DL.leP, DL.gtP, DL.ltP, DL.eqP, DL.neP, DL.tstE, DL.boolE, DL.andT, DL.orT, DL.notT, DL.andE, DL.orE, DL.notE, DL.ifE, DL.chainE, DL.tupE, DL.lstE, DL.lstC, DL.isNP, DL.notNP, DL.runD, DL.Res.out, DL.startD, DL.itE, DL.itR, DL.rng2, DL.forS, DL.tgN, DL.tgT, DL.tgCons, DL.tgNil, DL.slE, DL.noO, DL.someO, DL.inP, DL.notInP, DL.wipeD, DL.endW, DL.turn, DL.item, DL.forX, DL.ownS, DL.szA, DL.appO, DL.coldS, DL.ownL, DL.revF, DL.allF, DL.anyF, L2.atI, L2.ixN, DL.eqB_int, DL.eqB_str, DL.eqB_bl, DL.eqB_non, DL.eqB_ni, DL.eqB_in, DL.eqB_ns, DL.eqB_sn, DL.eqB_is, DL.eqB_si, DL.rng1_nat, DL.rng1_int, DL.inB_str, DL.size_is, DL.seqOf_tup, DL.seqF_tup, DL.lenP_tup, DL.listG_tup, DL.listF_tup, DL.tupleF_tup, DL.ixP_tup, DL.truB_tup, DL.seqOf_lst, DL.seqF_lst, DL.lenP_lst, DL.listG_lst, DL.listF_lst, DL.tupleF_lst, DL.ixP_lst, DL.truB_lst, DL.seqOf_rol, DL.seqF_rol, DL.lenP_rol, DL.listG_rol, DL.listF_rol, DL.tupleF_rol, DL.ixP_rol, DL.truB_rol, DL.seqOf_cell, DL.lenP_cell, DL.listG_cell, DL.listF_cell, DL.tupleF_cell, DL.ixP_cell, DL.truB_cell, DL.rlistOf_lst, DL.rlistOf_rol, DL.rlistOf_cell, DL.listOf_lst, DL.listOf_cell, DL.lenP_str, DL.listG_str, DL.ixP_str, DL.truB_non, DL.truB_bl, DL.truB_int, DL.truB_str, DL.addP_int, DL.addP_str, DL.addP_tup, DL.addP_lst, DL.addP_lc, DL.addP_cl, DL.ltB_int, DL.ltB_str, DL.slL_str, DL.slL_tup, DL.slL_lst, DL.slL_rol, DL.slL_cell, DL.isNon_tup, DL.isNon_lst, DL.isNon_ins, DL.isNon_non, DL.isNon_int, DL.isNon_str, DL.isNon_bl, DL.isNon_cell, DL.insOf_ins, DL.insOf_cell, e, atI_natG, hw, hj, hacc]
theorem path_shape {ws : List PySem.Str} (h1 : 1 ≤ ws.length) (h2 : ws.length ≤ 3) (hr : ∀ w ∈ ws, relB (.str w) = true) (x : Bool) {w : PySem.Str} (hw : relB (.str w) = true) :
    Shape (path 0 ws ++ if x then [[.str "W", .int 0]] else []) [.str w, .int 0, .int ws.length] ((ws.length + 1 : Nat) : Int) := by
  have hd : isA [.str w, .int 0, .int ws.length] ((ws.length + 1 : Nat) : Int) = true := isA3 hw ⟨by omega, by omega⟩ ⟨by omega, by omega⟩ (by omega)
  have wm := wr_mark
  have hf := fun w h => rel_flat (hr w h)
  match ws, h1, h2, hr, hf with
  | [a], _, _, hr, hf =>
    have a1 := hr a (by simp)
    have a2 := hf a (by simp)
    cases x <;>
    refine ⟨?_, flat3 (rel_flat hw), sizeB_of (by simp [path]) (by simp [path]) (by simp [path, L26.atomB, neverB, isA, a1, wm.1, placeB, difB]) (by simp) ?_ ?_, hd⟩
    all_goals first
      | (intro i hi; simp [path, plcs, intsOf] at hi; simp; omega)
      | (intro i hi; have : i = 0 ∨ i = 1 := by (simp at hi; omega)
         rcases this with rfl | rfl <;> simp [path, plcs, intsOf])
      | (intro z hz; simp [path] at hz; rcases hz with rfl | rfl <;> first | exact flat3 a2 | exact flat2 wm.2.2.1)
      | (intro z hz; simp [path] at hz; subst hz; exact flat3 a2)
  | [a, b], _, _, hr, hf =>
    have a1 := hr a (by simp)
    have a2 := hf a (by simp)
    have b1 := hr b (by simp)
    have b2 := hf b (by simp)
    cases x <;>
    refine ⟨?_, flat3 (rel_flat hw), sizeB_of (by simp [path]) (by simp [path]) (by simp [path, L26.atomB, neverB, isA, a1, b1, wm.1, placeB, difB]) (by simp) ?_ ?_, hd⟩
    all_goals first
      | (intro i hi; simp [path, plcs, intsOf] at hi; simp; omega)
      | (intro i hi; have : i = 0 ∨ i = 1 ∨ i = 2 := by (simp at hi; omega)
         rcases this with rfl | rfl | rfl <;> simp [path, plcs, intsOf])
      | (intro z hz; simp [path] at hz; rcases hz with rfl | rfl | rfl <;> first | exact flat3 a2 | exact flat3 b2 | exact flat2 wm.2.2.1)
      | (intro z hz; simp [path] at hz; rcases hz with rfl | rfl <;> first | exact flat3 a2 | exact flat3 b2)
  | [a, b, d], _, _, hr, hf =>
    have a1 := hr a (by simp)
    have a2 := hf a (by simp)
    have b1 := hr b (by simp)
    have b2 := hf b (by simp)
    have d1 := hr d (by simp)
    have d2 := hf d (by simp)
    cases x <;>
    refine ⟨?_, flat3 (rel_flat hw), sizeB_of (by simp [path]) (by simp [path]) (by simp [path, L26.atomB, neverB, isA, a1, b1, d1, wm.1, placeB, difB]) (by simp) ?_ ?_, hd⟩
    all_goals first
      | (intro i hi; simp [path, plcs, intsOf] at hi; simp; omega)
      | (intro i hi; have : i = 0 ∨ i = 1 ∨ i = 2 ∨ i = 3 := by (simp at hi; omega)
         rcases this with rfl | rfl | rfl | rfl <;> simp [path, plcs, intsOf])
      | (intro z hz; simp [path] at hz; rcases hz with rfl | rfl | rfl | rfl <;> first | exact flat3 a2 | exact flat3 b2 | exact flat3 d2 | exact flat2 wm.2.2.1)
      | (intro z hz; simp [path] at hz; rcases hz with rfl | rfl | rfl <;> first | exact flat3 a2 | exact flat3 b2 | exact flat3 d2)
abbrev W4 : D := .lst [.str "vis", .str "so", .str "ar", .str "bf"]
theorem way_loop (s : DS) (n : Nat) (hn : n ≤ 1000) (cs : Cells) : ∃ (ws : List PySem.Str) (s' : DS), ws.length = n ∧ (∀ w ∈ ws, relB (.str w) = true) ∧
    lp__law_way_1 (rangeD 0 n) [.sh (.cell 0), .sh (.int 4), .sh W4, .sh (.int n), .own (.lst []), .un] (s.c :: cs) = .nx [.sh (.cell 0), .sh (.int 4), .sh W4, .sh (.int n), .own (.lst ((path 0 ws).map D.tup)), .un] (s'.c :: cs) := by
  obtain ⟨⟨s', ws⟩, e, hl, hw⟩ := lp_inv (js := [5]) (tg := tgN 5) (b := lb__law_way_1) (S := DS × List PySem.Str) (mk := fun x => [.sh (.cell 0), .sh (.int 4), .sh W4, .sh (.int n), .own (.lst ((path 0 x.2).map D.tup)), .un]) (cl := fun x => x.1.c :: cs) (I := fun i x => x.2.length = i ∧ ∀ w ∈ x.2, relB (.str w) = true)
    (xs := rangeD 0 n) (k := 0) (s := (s, [])) ⟨rfl, fun _ h => by cases h⟩ fun i x ⟨s, ws⟩ hi ⟨hl, hw⟩ => by
      have hi' : i < n := by
        have := (List.getElem?_eq_some_iff.mp hi).1
        rwa [rangeD_length] at this
      have hx := rangeD_get hi
      rw [Int.zero_add] at hx
      subst hx
      simp only [Nat.zero_add] at hl
      have pl : ∀ (ws : List PySem.Str) k, (path k ws).length = ws.length := by
        intro ws
        induction ws with
        | nil => intro k; rfl
        | cons w ws ih => intro k; simp [path, ih]
      obtain ⟨w, s', rw_, e⟩ := way_turn s i (acc := (path 0 ws).map D.tup) (by simp [pl]; omega) (st := .sh (.int n)) cs
      refine ⟨(s', ws ++ [w]), ?_, by simp [hl], fun v hv => ?_⟩
      · simp only [path_add, Nat.zero_add, hl, List.map_append, List.map_cons, List.map_nil]
        exact e
      · rcases List.mem_append.mp hv with hv | hv
        · exact hw v hv
        · simp at hv; subst hv; exact rw_
  rw [rangeD_length] at hl
  simp only [Nat.zero_add] at hl
  exact ⟨ws, s', hl, hw, e⟩
theorem way_ok (s : DS) (cs : Cells) : ∃ (b : List (List D)) (h : List D) (n : Int) (s' : DS), m__law_way [.cell 0, .int 4] (s.c :: cs) = .ok (.tup [.lst (b.map D.tup), .tup h]) (s'.c :: cs) ∧ Shape b h n := by
  obtain ⟨k, s1, hk, e1⟩ := draw_o s (n := 3) (by decide) (by decide)
  obtain ⟨ws, s2, hl, hw, e⟩ := way_loop s1 (1 + k) (by omega) cs
  obtain ⟨m, s3, hm, e2⟩ := draw_o s2 (n := 2) (by decide) (by decide)
  obtain ⟨j, s4, hj, e3⟩ := draw_o s3 (n := 4) (by decide) (by decide)
  have e1 := e1 cs
  have e2 := e2 cs
  have e3 := e3 cs
  obtain ⟨w, hww, rw_⟩ := words4 (k := j) (by omega)
  have sh := path_shape (ws := ws) (by omega) (by omega) hw (decide (m = 1)) rw_
  refine ⟨_, _, _, s4, run_rt rfl ?_, sh⟩
  have er : rng1 [.int (1 + (k : Int))] = some (rangeD 0 (1 + k)) := by
    have := rng1_nat (n := 1 + k) (by omega)
    rw [← this]; simp
  have hc : ((1 + k : Nat) : Int) = 1 + (k : Int) := by omega
  rw [hc] at e
  have hl' : (ws.length : Int) = 1 + (k : Int) := by omega
  have s1' : (setS 3 (bin addP (litE (.int 1)) (callM m__law_draw (consA (varE 0) (consA (bin subP (varE 1) (litE (.int 1))) (nilA)))))) [.sh (.cell 0), .sh (.int 4), .sh W4, .un, .un, .un] (s.c :: cs) = .nx [.sh (.cell 0), .sh (.int 4), .sh W4, .sh (.int (1 + k)), .un, .un] (s1.c :: cs) := by
    simp [DL.seqS, DL.Res.seq, DL.setIxS, DL.setS, DL.exprS, DL.retS, DL.retN, DL.ifS, DL.nilS, DL.brkS, DL.cntS, DL.callB, DL.callM, DL.intF, DL.boolF, DL.consA, DL.nilA, DL.starA, DL.bin, DL.un1, DL.negP, DL.bnd, DL.Out.bnd, DL.Out.thenS, DL.opt, DL.varE, DL.litE, DL.setItem, DL.ret, DL.subP, DL.mulP, DL.modP, DL.fdivP, DL.powP, DL.intP, DL.geP, DL.leP, DL.gtP, DL.ltP, DL.eqP, DL.neP, DL.tstE, DL.boolE, DL.andT, DL.orT, DL.notT, DL.andE, DL.orE, DL.notE, DL.ifE, DL.chainE, DL.tupE, DL.lstE, DL.lstC, DL.isNP, DL.notNP, DL.runD, DL.Res.out, DL.startD, DL.itE, DL.itR, DL.rng2, DL.forS, DL.tgN, DL.tgT, DL.tgCons, DL.tgNil, DL.slE, DL.noO, DL.someO, DL.inP, DL.notInP, DL.wipeD, DL.endW, DL.turn, DL.item, DL.forX, DL.ownS, DL.szA, DL.appO, DL.coldS, DL.ownL, DL.revF, DL.allF, DL.anyF, L2.atI, L2.ixN, DL.eqB_int, DL.eqB_str, DL.eqB_bl, DL.eqB_non, DL.eqB_ni, DL.eqB_in, DL.eqB_ns, DL.eqB_sn, DL.eqB_is, DL.eqB_si, DL.rng1_nat, DL.rng1_int, DL.inB_str, DL.size_is, DL.seqOf_tup, DL.seqF_tup, DL.lenP_tup, DL.listG_tup, DL.listF_tup, DL.tupleF_tup, DL.ixP_tup, DL.truB_tup, DL.seqOf_lst, DL.seqF_lst, DL.lenP_lst, DL.listG_lst, DL.listF_lst, DL.tupleF_lst, DL.ixP_lst, DL.truB_lst, DL.seqOf_rol, DL.seqF_rol, DL.lenP_rol, DL.listG_rol, DL.listF_rol, DL.tupleF_rol, DL.ixP_rol, DL.truB_rol, DL.seqOf_cell, DL.lenP_cell, DL.listG_cell, DL.listF_cell, DL.tupleF_cell, DL.ixP_cell, DL.truB_cell, DL.rlistOf_lst, DL.rlistOf_rol, DL.rlistOf_cell, DL.listOf_lst, DL.listOf_cell, DL.lenP_str, DL.listG_str, DL.ixP_str, DL.truB_non, DL.truB_bl, DL.truB_int, DL.truB_str, DL.addP_int, DL.addP_str, DL.addP_tup, DL.addP_lst, DL.addP_lc, DL.addP_cl, DL.ltB_int, DL.ltB_str, DL.slL_str, DL.slL_tup, DL.slL_lst, DL.slL_rol, DL.slL_cell, DL.isNon_tup, DL.isNon_lst, DL.isNon_ins, DL.isNon_non, DL.isNon_int, DL.isNon_str, DL.isNon_bl, DL.isNon_cell, DL.insOf_ins, DL.insOf_cell, e1]
  have s2' : (forX [5] (itR rng1 (consA (varE 3) nilA)) (lp__law_way_1)) [.sh (.cell 0), .sh (.int 4), .sh W4, .sh (.int (1 + k)), .own (.lst []), .un] (s1.c :: cs) = .nx [.sh (.cell 0), .sh (.int 4), .sh W4, .sh (.int (1 + k)), .own (.lst ((path 0 ws).map D.tup)), .un] (s2.c :: cs) := by
    simp [DL.seqS, DL.Res.seq, DL.setIxS, DL.setS, DL.exprS, DL.retS, DL.retN, DL.ifS, DL.nilS, DL.brkS, DL.cntS, DL.callB, DL.callM, DL.intF, DL.boolF, DL.consA, DL.nilA, DL.starA, DL.bin, DL.un1, DL.negP, DL.bnd, DL.Out.bnd, DL.Out.thenS, DL.opt, DL.varE, DL.litE, DL.setItem, DL.ret, DL.subP, DL.mulP, DL.modP, DL.fdivP, DL.powP, DL.intP, DL.geP, DL.leP, DL.gtP, DL.ltP, DL.eqP, DL.neP, DL.tstE, DL.boolE, DL.andT, DL.orT, DL.notT, DL.andE, DL.orE, DL.notE, DL.ifE, DL.chainE, DL.tupE, DL.lstE, DL.lstC, DL.isNP, DL.notNP, DL.runD, DL.Res.out, DL.startD, DL.itE, DL.itR, DL.rng2, DL.forS, DL.tgN, DL.tgT, DL.tgCons, DL.tgNil, DL.slE, DL.noO, DL.someO, DL.inP, DL.notInP, DL.wipeD, DL.endW, DL.turn, DL.item, DL.forX, DL.ownS, DL.szA, DL.appO, DL.coldS, DL.ownL, DL.revF, DL.allF, DL.anyF, L2.atI, L2.ixN, DL.eqB_int, DL.eqB_str, DL.eqB_bl, DL.eqB_non, DL.eqB_ni, DL.eqB_in, DL.eqB_ns, DL.eqB_sn, DL.eqB_is, DL.eqB_si, DL.rng1_nat, DL.rng1_int, DL.inB_str, DL.size_is, DL.seqOf_tup, DL.seqF_tup, DL.lenP_tup, DL.listG_tup, DL.listF_tup, DL.tupleF_tup, DL.ixP_tup, DL.truB_tup, DL.seqOf_lst, DL.seqF_lst, DL.lenP_lst, DL.listG_lst, DL.listF_lst, DL.tupleF_lst, DL.ixP_lst, DL.truB_lst, DL.seqOf_rol, DL.seqF_rol, DL.lenP_rol, DL.listG_rol, DL.listF_rol, DL.tupleF_rol, DL.ixP_rol, DL.truB_rol, DL.seqOf_cell, DL.lenP_cell, DL.listG_cell, DL.listF_cell, DL.tupleF_cell, DL.ixP_cell, DL.truB_cell, DL.rlistOf_lst, DL.rlistOf_rol, DL.rlistOf_cell, DL.listOf_lst, DL.listOf_cell, DL.lenP_str, DL.listG_str, DL.ixP_str, DL.truB_non, DL.truB_bl, DL.truB_int, DL.truB_str, DL.addP_int, DL.addP_str, DL.addP_tup, DL.addP_lst, DL.addP_lc, DL.addP_cl, DL.ltB_int, DL.ltB_str, DL.slL_str, DL.slL_tup, DL.slL_lst, DL.slL_rol, DL.slL_cell, DL.isNon_tup, DL.isNon_lst, DL.isNon_ins, DL.isNon_non, DL.isNon_int, DL.isNon_str, DL.isNon_bl, DL.isNon_cell, DL.insOf_ins, DL.insOf_cell, er, e]
  have pl : ∀ (ws : List PySem.Str) k, (path k ws).length = ws.length := by
    intro ws
    induction ws with
    | nil => intro k; rfl
    | cons w ws ih => intro k; simp [path, ih]
  have pz : ((path 0 ws).map D.tup).length < 16777216 := by rw [List.length_map, pl]; omega
  generalize hP : (path 0 ws).map D.tup = P at *
  have ap : (appO 4 (tupE (consA (litE (.str "W")) (consA (litE (.int 0)) (nilA))))) [.sh (.cell 0), .sh (.int 4), .sh W4, .sh (.int (1 + k)), .own (.lst P), .un] (s3.c :: cs) = .nx [.sh (.cell 0), .sh (.int 4), .sh W4, .sh (.int (1 + k)), .own (.lst (P ++ [.tup [.str "W", .int 0]])), .un] (s3.c :: cs) :=
    appO_ok rfl (by simp [DL.seqS, DL.Res.seq, DL.setIxS, DL.setS, DL.exprS, DL.retS, DL.retN, DL.ifS, DL.nilS, DL.brkS, DL.cntS, DL.callB, DL.callM, DL.intF, DL.boolF, DL.consA, DL.nilA, DL.starA, DL.bin, DL.un1, DL.negP, DL.bnd, DL.Out.bnd, DL.Out.thenS, DL.opt, DL.varE, DL.litE, DL.setItem, DL.ret, DL.subP, DL.mulP, DL.modP, DL.fdivP, DL.powP, DL.intP, DL.geP, DL.leP, DL.gtP, DL.ltP, DL.eqP, DL.neP, DL.tstE, DL.boolE, DL.andT, DL.orT, DL.notT, DL.andE, DL.orE, DL.notE, DL.ifE, DL.chainE, DL.tupE, DL.lstE, DL.lstC, DL.isNP, DL.notNP, DL.runD, DL.Res.out, DL.startD, DL.itE, DL.itR, DL.rng2, DL.forS, DL.tgN, DL.tgT, DL.tgCons, DL.tgNil, DL.slE, DL.noO, DL.someO, DL.inP, DL.notInP, DL.wipeD, DL.endW, DL.turn, DL.item, DL.forX, DL.ownS, DL.szA, DL.appO, DL.coldS, DL.ownL, DL.revF, DL.allF, DL.anyF, L2.atI, L2.ixN, DL.eqB_int, DL.eqB_str, DL.eqB_bl, DL.eqB_non, DL.eqB_ni, DL.eqB_in, DL.eqB_ns, DL.eqB_sn, DL.eqB_is, DL.eqB_si, DL.rng1_nat, DL.rng1_int, DL.inB_str, DL.size_is, DL.seqOf_tup, DL.seqF_tup, DL.lenP_tup, DL.listG_tup, DL.listF_tup, DL.tupleF_tup, DL.ixP_tup, DL.truB_tup, DL.seqOf_lst, DL.seqF_lst, DL.lenP_lst, DL.listG_lst, DL.listF_lst, DL.tupleF_lst, DL.ixP_lst, DL.truB_lst, DL.seqOf_rol, DL.seqF_rol, DL.lenP_rol, DL.listG_rol, DL.listF_rol, DL.tupleF_rol, DL.ixP_rol, DL.truB_rol, DL.seqOf_cell, DL.lenP_cell, DL.listG_cell, DL.listF_cell, DL.tupleF_cell, DL.ixP_cell, DL.truB_cell, DL.rlistOf_lst, DL.rlistOf_rol, DL.rlistOf_cell, DL.listOf_lst, DL.listOf_cell, DL.lenP_str, DL.listG_str, DL.ixP_str, DL.truB_non, DL.truB_bl, DL.truB_int, DL.truB_str, DL.addP_int, DL.addP_str, DL.addP_tup, DL.addP_lst, DL.addP_lc, DL.addP_cl, DL.ltB_int, DL.ltB_str, DL.slL_str, DL.slL_tup, DL.slL_lst, DL.slL_rol, DL.slL_cell, DL.isNon_tup, DL.isNon_lst, DL.isNon_ins, DL.isNon_non, DL.isNon_int, DL.isNon_str, DL.isNon_bl, DL.isNon_cell, DL.insOf_ins, DL.insOf_cell]) pz
  have tt : (boolE (bin eqP (callM m__law_draw (consA (varE 0) (consA (litE (.int 2)) (nilA)))) (litE (.int 1)))) [.sh (.cell 0), .sh (.int 4), .sh W4, .sh (.int (1 + k)), .own (.lst P), .un] (s2.c :: cs) = .ok (decide (m = 1)) (s3.c :: cs) := by
    have : decide ((m : Int) = 1) = decide (m = 1) := by rw [decide_eq_decide]; omega
    simp [DL.seqS, DL.Res.seq, DL.setIxS, DL.setS, DL.exprS, DL.retS, DL.retN, DL.ifS, DL.nilS, DL.brkS, DL.cntS, DL.callB, DL.callM, DL.intF, DL.boolF, DL.consA, DL.nilA, DL.starA, DL.bin, DL.un1, DL.negP, DL.bnd, DL.Out.bnd, DL.Out.thenS, DL.opt, DL.varE, DL.litE, DL.setItem, DL.ret, DL.subP, DL.mulP, DL.modP, DL.fdivP, DL.powP, DL.intP, DL.geP, DL.leP, DL.gtP, DL.ltP, DL.eqP, DL.neP, DL.tstE, DL.boolE, DL.andT, DL.orT, DL.notT, DL.andE, DL.orE, DL.notE, DL.ifE, DL.chainE, DL.tupE, DL.lstE, DL.lstC, DL.isNP, DL.notNP, DL.runD, DL.Res.out, DL.startD, DL.itE, DL.itR, DL.rng2, DL.forS, DL.tgN, DL.tgT, DL.tgCons, DL.tgNil, DL.slE, DL.noO, DL.someO, DL.inP, DL.notInP, DL.wipeD, DL.endW, DL.turn, DL.item, DL.forX, DL.ownS, DL.szA, DL.appO, DL.coldS, DL.ownL, DL.revF, DL.allF, DL.anyF, L2.atI, L2.ixN, DL.eqB_int, DL.eqB_str, DL.eqB_bl, DL.eqB_non, DL.eqB_ni, DL.eqB_in, DL.eqB_ns, DL.eqB_sn, DL.eqB_is, DL.eqB_si, DL.rng1_nat, DL.rng1_int, DL.inB_str, DL.size_is, DL.seqOf_tup, DL.seqF_tup, DL.lenP_tup, DL.listG_tup, DL.listF_tup, DL.tupleF_tup, DL.ixP_tup, DL.truB_tup, DL.seqOf_lst, DL.seqF_lst, DL.lenP_lst, DL.listG_lst, DL.listF_lst, DL.tupleF_lst, DL.ixP_lst, DL.truB_lst, DL.seqOf_rol, DL.seqF_rol, DL.lenP_rol, DL.listG_rol, DL.listF_rol, DL.tupleF_rol, DL.ixP_rol, DL.truB_rol, DL.seqOf_cell, DL.lenP_cell, DL.listG_cell, DL.listF_cell, DL.tupleF_cell, DL.ixP_cell, DL.truB_cell, DL.rlistOf_lst, DL.rlistOf_rol, DL.rlistOf_cell, DL.listOf_lst, DL.listOf_cell, DL.lenP_str, DL.listG_str, DL.ixP_str, DL.truB_non, DL.truB_bl, DL.truB_int, DL.truB_str, DL.addP_int, DL.addP_str, DL.addP_tup, DL.addP_lst, DL.addP_lc, DL.addP_cl, DL.ltB_int, DL.ltB_str, DL.slL_str, DL.slL_tup, DL.slL_lst, DL.slL_rol, DL.slL_cell, DL.isNon_tup, DL.isNon_lst, DL.isNon_ins, DL.isNon_non, DL.isNon_int, DL.isNon_str, DL.isNon_bl, DL.isNon_cell, DL.insOf_ins, DL.insOf_cell, e2, this]
  have en : ∀ Q : List D, (coldS 4 (retS (tupE (consA (varE 4) (consA (tupE (consA (bin ixP (varE 2) (callM m__law_draw (consA (varE 0) (consA (litE (.int 4)) (nilA))))) (consA (litE (.int 0)) (consA (varE 3) (nilA))))) (nilA)))))) [.sh (.cell 0), .sh (.int 4), .sh W4, .sh (.int (1 + k)), .own (.lst Q), .un] (s3.c :: cs) = .rt (.tup [.lst Q, .tup [.str w, .int 0, .int (1 + k)]]) (s4.c :: cs) := fun Q => by
    simp [DL.seqS, DL.Res.seq, DL.setIxS, DL.setS, DL.exprS, DL.retS, DL.retN, DL.ifS, DL.nilS, DL.brkS, DL.cntS, DL.callB, DL.callM, DL.intF, DL.boolF, DL.consA, DL.nilA, DL.starA, DL.bin, DL.un1, DL.negP, DL.bnd, DL.Out.bnd, DL.Out.thenS, DL.opt, DL.varE, DL.litE, DL.setItem, DL.ret, DL.subP, DL.mulP, DL.modP, DL.fdivP, DL.powP, DL.intP, DL.geP, DL.leP, DL.gtP, DL.ltP, DL.eqP, DL.neP, DL.tstE, DL.boolE, DL.andT, DL.orT, DL.notT, DL.andE, DL.orE, DL.notE, DL.ifE, DL.chainE, DL.tupE, DL.lstE, DL.lstC, DL.isNP, DL.notNP, DL.runD, DL.Res.out, DL.startD, DL.itE, DL.itR, DL.rng2, DL.forS, DL.tgN, DL.tgT, DL.tgCons, DL.tgNil, DL.slE, DL.noO, DL.someO, DL.inP, DL.notInP, DL.wipeD, DL.endW, DL.turn, DL.item, DL.forX, DL.ownS, DL.szA, DL.appO, DL.coldS, DL.ownL, DL.revF, DL.allF, DL.anyF, L2.atI, L2.ixN, DL.eqB_int, DL.eqB_str, DL.eqB_bl, DL.eqB_non, DL.eqB_ni, DL.eqB_in, DL.eqB_ns, DL.eqB_sn, DL.eqB_is, DL.eqB_si, DL.rng1_nat, DL.rng1_int, DL.inB_str, DL.size_is, DL.seqOf_tup, DL.seqF_tup, DL.lenP_tup, DL.listG_tup, DL.listF_tup, DL.tupleF_tup, DL.ixP_tup, DL.truB_tup, DL.seqOf_lst, DL.seqF_lst, DL.lenP_lst, DL.listG_lst, DL.listF_lst, DL.tupleF_lst, DL.ixP_lst, DL.truB_lst, DL.seqOf_rol, DL.seqF_rol, DL.lenP_rol, DL.listG_rol, DL.listF_rol, DL.tupleF_rol, DL.ixP_rol, DL.truB_rol, DL.seqOf_cell, DL.lenP_cell, DL.listG_cell, DL.listF_cell, DL.tupleF_cell, DL.ixP_cell, DL.truB_cell, DL.rlistOf_lst, DL.rlistOf_rol, DL.rlistOf_cell, DL.listOf_lst, DL.listOf_cell, DL.lenP_str, DL.listG_str, DL.ixP_str, DL.truB_non, DL.truB_bl, DL.truB_int, DL.truB_str, DL.addP_int, DL.addP_str, DL.addP_tup, DL.addP_lst, DL.addP_lc, DL.addP_cl, DL.ltB_int, DL.ltB_str, DL.slL_str, DL.slL_tup, DL.slL_lst, DL.slL_rol, DL.slL_cell, DL.isNon_tup, DL.isNon_lst, DL.isNon_ins, DL.isNon_non, DL.isNon_int, DL.isNon_str, DL.isNon_bl, DL.isNon_cell, DL.insOf_ins, DL.insOf_cell, e3, atI_natG, hww, hj]
  unfold b__law_way
  rw [seq_nx (set_ok (d := W4) (c' := s.c :: cs) (by simp [DL.seqS, DL.Res.seq, DL.setIxS, DL.setS, DL.exprS, DL.retS, DL.retN, DL.ifS, DL.nilS, DL.brkS, DL.cntS, DL.callB, DL.callM, DL.intF, DL.boolF, DL.consA, DL.nilA, DL.starA, DL.bin, DL.un1, DL.negP, DL.bnd, DL.Out.bnd, DL.Out.thenS, DL.opt, DL.varE, DL.litE, DL.setItem, DL.ret, DL.subP, DL.mulP, DL.modP, DL.fdivP, DL.powP, DL.intP, DL.geP, DL.leP, DL.gtP, DL.ltP, DL.eqP, DL.neP, DL.tstE, DL.boolE, DL.andT, DL.orT, DL.notT, DL.andE, DL.orE, DL.notE, DL.ifE, DL.chainE, DL.tupE, DL.lstE, DL.lstC, DL.isNP, DL.notNP, DL.runD, DL.Res.out, DL.startD, DL.itE, DL.itR, DL.rng2, DL.forS, DL.tgN, DL.tgT, DL.tgCons, DL.tgNil, DL.slE, DL.noO, DL.someO, DL.inP, DL.notInP, DL.wipeD, DL.endW, DL.turn, DL.item, DL.forX, DL.ownS, DL.szA, DL.appO, DL.coldS, DL.ownL, DL.revF, DL.allF, DL.anyF, L2.atI, L2.ixN, DL.eqB_int, DL.eqB_str, DL.eqB_bl, DL.eqB_non, DL.eqB_ni, DL.eqB_in, DL.eqB_ns, DL.eqB_sn, DL.eqB_is, DL.eqB_si, DL.rng1_nat, DL.rng1_int, DL.inB_str, DL.size_is, DL.seqOf_tup, DL.seqF_tup, DL.lenP_tup, DL.listG_tup, DL.listF_tup, DL.tupleF_tup, DL.ixP_tup, DL.truB_tup, DL.seqOf_lst, DL.seqF_lst, DL.lenP_lst, DL.listG_lst, DL.listF_lst, DL.tupleF_lst, DL.ixP_lst, DL.truB_lst, DL.seqOf_rol, DL.seqF_rol, DL.lenP_rol, DL.listG_rol, DL.listF_rol, DL.tupleF_rol, DL.ixP_rol, DL.truB_rol, DL.seqOf_cell, DL.lenP_cell, DL.listG_cell, DL.listF_cell, DL.tupleF_cell, DL.ixP_cell, DL.truB_cell, DL.rlistOf_lst, DL.rlistOf_rol, DL.rlistOf_cell, DL.listOf_lst, DL.listOf_cell, DL.lenP_str, DL.listG_str, DL.ixP_str, DL.truB_non, DL.truB_bl, DL.truB_int, DL.truB_str, DL.addP_int, DL.addP_str, DL.addP_tup, DL.addP_lst, DL.addP_lc, DL.addP_cl, DL.ltB_int, DL.ltB_str, DL.slL_str, DL.slL_tup, DL.slL_lst, DL.slL_rol, DL.slL_cell, DL.isNon_tup, DL.isNon_lst, DL.isNon_ins, DL.isNon_non, DL.isNon_int, DL.isNon_str, DL.isNon_bl, DL.isNon_cell, DL.insOf_ins, DL.insOf_cell]))]
  refine (seq_nx s1').trans ?_
  refine (seq_nx (δ' := [.sh (.cell 0), .sh (.int 4), .sh W4, .sh (.int (1 + k)), .own (.lst []), .un]) (c' := s1.c :: cs) (by simp [DL.seqS, DL.Res.seq, DL.setIxS, DL.setS, DL.exprS, DL.retS, DL.retN, DL.ifS, DL.nilS, DL.brkS, DL.cntS, DL.callB, DL.callM, DL.intF, DL.boolF, DL.consA, DL.nilA, DL.starA, DL.bin, DL.un1, DL.negP, DL.bnd, DL.Out.bnd, DL.Out.thenS, DL.opt, DL.varE, DL.litE, DL.setItem, DL.ret, DL.subP, DL.mulP, DL.modP, DL.fdivP, DL.powP, DL.intP, DL.geP, DL.leP, DL.gtP, DL.ltP, DL.eqP, DL.neP, DL.tstE, DL.boolE, DL.andT, DL.orT, DL.notT, DL.andE, DL.orE, DL.notE, DL.ifE, DL.chainE, DL.tupE, DL.lstE, DL.lstC, DL.isNP, DL.notNP, DL.runD, DL.Res.out, DL.startD, DL.itE, DL.itR, DL.rng2, DL.forS, DL.tgN, DL.tgT, DL.tgCons, DL.tgNil, DL.slE, DL.noO, DL.someO, DL.inP, DL.notInP, DL.wipeD, DL.endW, DL.turn, DL.item, DL.forX, DL.ownS, DL.szA, DL.appO, DL.coldS, DL.ownL, DL.revF, DL.allF, DL.anyF, L2.atI, L2.ixN, DL.eqB_int, DL.eqB_str, DL.eqB_bl, DL.eqB_non, DL.eqB_ni, DL.eqB_in, DL.eqB_ns, DL.eqB_sn, DL.eqB_is, DL.eqB_si, DL.rng1_nat, DL.rng1_int, DL.inB_str, DL.size_is, DL.seqOf_tup, DL.seqF_tup, DL.lenP_tup, DL.listG_tup, DL.listF_tup, DL.tupleF_tup, DL.ixP_tup, DL.truB_tup, DL.seqOf_lst, DL.seqF_lst, DL.lenP_lst, DL.listG_lst, DL.listF_lst, DL.tupleF_lst, DL.ixP_lst, DL.truB_lst, DL.seqOf_rol, DL.seqF_rol, DL.lenP_rol, DL.listG_rol, DL.listF_rol, DL.tupleF_rol, DL.ixP_rol, DL.truB_rol, DL.seqOf_cell, DL.lenP_cell, DL.listG_cell, DL.listF_cell, DL.tupleF_cell, DL.ixP_cell, DL.truB_cell, DL.rlistOf_lst, DL.rlistOf_rol, DL.rlistOf_cell, DL.listOf_lst, DL.listOf_cell, DL.lenP_str, DL.listG_str, DL.ixP_str, DL.truB_non, DL.truB_bl, DL.truB_int, DL.truB_str, DL.addP_int, DL.addP_str, DL.addP_tup, DL.addP_lst, DL.addP_lc, DL.addP_cl, DL.ltB_int, DL.ltB_str, DL.slL_str, DL.slL_tup, DL.slL_lst, DL.slL_rol, DL.slL_cell, DL.isNon_tup, DL.isNon_lst, DL.isNon_ins, DL.isNon_non, DL.isNon_int, DL.isNon_str, DL.isNon_bl, DL.isNon_cell, DL.insOf_ins, DL.insOf_cell])).trans ?_
  refine (seq_nx s2').trans ?_
  by_cases h1 : m = 1
  · rw [decide_eq_true h1] at tt
    refine (seq_nx ((if_t tt).trans ap)).trans ?_
    rw [en]
    simp [h1, hl', hP]
  · rw [decide_eq_false h1] at tt
    refine (seq_if_f tt).trans ?_
    rw [en]
    simp [h1, hl', hP]
theorem unmap {P : List D → Prop} : ∀ {ys : List D}, (∀ y ∈ ys, ∃ a, y = D.tup a ∧ P a) → ∃ b : List (List D), ys = b.map D.tup ∧ ∀ a ∈ b, P a
  | [], _ => ⟨[], rfl, fun _ h => by cases h⟩
  | y :: ys, h => by
    obtain ⟨a, rfl, ha⟩ := h y (by simp)
    obtain ⟨b, rfl, hb⟩ := unmap (ys := ys) fun z hz => h z (by simp [hz])
    refine ⟨a :: b, rfl, fun x hx => ?_⟩
    rcases List.mem_cons.mp hx with rfl | hx
    · exact ha
    · exact hb x hx
theorem comp_ok (s : DS) {N : Nat} (h1 : 1 ≤ N) (h4 : N ≤ 4) {m : Nat} {x y : Slot} (cs : Cells) : ∃ (b : List (List D)) (s' : DS),
    lcL (tgN 8) yesT (callM m__law_atom (consA (varE 0) (consA (varE 3) nilA))) [.sh (.cell 0), x, y, .sh (.int N), .un, .un, .un, .un, .un] (rangeD 0 m) (s.c :: cs) = .ok (b.map D.tup) (s'.c :: cs) ∧ b.length = m ∧ ∀ a ∈ b, AtN a N := by
  obtain ⟨ys, s', e, _, hl, hq⟩ := lcL_st2 (S := DS) (I := fun _ => True) (Q := fun y => ∃ a, y = D.tup a ∧ AtN a N) (cl := fun s => s.c :: cs) (tg := tgN 8) (tt := yesT) (te := callM m__law_atom (consA (varE 0) (consA (varE 3) nilA))) (δ := [.sh (.cell 0), x, y, .sh (.int N), .un, .un, .un, .un, .un]) (xs := rangeD 0 m) (s := s) trivial fun z s _ _ => by
    obtain ⟨a, s', e, ha⟩ := atom_ok s h1 h4 cs
    exact ⟨.tup a, s', by simp [item, yesT, DL.seqS, DL.Res.seq, DL.setIxS, DL.setS, DL.exprS, DL.retS, DL.retN, DL.ifS, DL.nilS, DL.brkS, DL.cntS, DL.callB, DL.callM, DL.intF, DL.boolF, DL.consA, DL.nilA, DL.starA, DL.bin, DL.un1, DL.negP, DL.bnd, DL.Out.bnd, DL.Out.thenS, DL.opt, DL.varE, DL.litE, DL.setItem, DL.ret, DL.subP, DL.mulP, DL.modP, DL.fdivP, DL.powP, DL.intP, DL.geP, DL.leP, DL.gtP, DL.ltP, DL.eqP, DL.neP, DL.tstE, DL.boolE, DL.andT, DL.orT, DL.notT, DL.andE, DL.orE, DL.notE, DL.ifE, DL.chainE, DL.tupE, DL.lstE, DL.lstC, DL.isNP, DL.notNP, DL.runD, DL.Res.out, DL.startD, DL.itE, DL.itR, DL.rng2, DL.forS, DL.tgN, DL.tgT, DL.tgCons, DL.tgNil, DL.slE, DL.noO, DL.someO, DL.inP, DL.notInP, DL.wipeD, DL.endW, DL.turn, DL.item, DL.forX, DL.ownS, DL.szA, DL.appO, DL.coldS, DL.ownL, DL.revF, DL.allF, DL.anyF, L2.atI, L2.ixN, DL.eqB_int, DL.eqB_str, DL.eqB_bl, DL.eqB_non, DL.eqB_ni, DL.eqB_in, DL.eqB_ns, DL.eqB_sn, DL.eqB_is, DL.eqB_si, DL.rng1_nat, DL.rng1_int, DL.inB_str, DL.size_is, DL.seqOf_tup, DL.seqF_tup, DL.lenP_tup, DL.listG_tup, DL.listF_tup, DL.tupleF_tup, DL.ixP_tup, DL.truB_tup, DL.seqOf_lst, DL.seqF_lst, DL.lenP_lst, DL.listG_lst, DL.listF_lst, DL.tupleF_lst, DL.ixP_lst, DL.truB_lst, DL.seqOf_rol, DL.seqF_rol, DL.lenP_rol, DL.listG_rol, DL.listF_rol, DL.tupleF_rol, DL.ixP_rol, DL.truB_rol, DL.seqOf_cell, DL.lenP_cell, DL.listG_cell, DL.listF_cell, DL.tupleF_cell, DL.ixP_cell, DL.truB_cell, DL.rlistOf_lst, DL.rlistOf_rol, DL.rlistOf_cell, DL.listOf_lst, DL.listOf_cell, DL.lenP_str, DL.listG_str, DL.ixP_str, DL.truB_non, DL.truB_bl, DL.truB_int, DL.truB_str, DL.addP_int, DL.addP_str, DL.addP_tup, DL.addP_lst, DL.addP_lc, DL.addP_cl, DL.ltB_int, DL.ltB_str, DL.slL_str, DL.slL_tup, DL.slL_lst, DL.slL_rol, DL.slL_cell, DL.isNon_tup, DL.isNon_lst, DL.isNon_ins, DL.isNon_non, DL.isNon_int, DL.isNon_str, DL.isNon_bl, DL.isNon_cell, DL.insOf_ins, DL.insOf_cell, e], trivial, a, rfl, ha⟩
  obtain ⟨b, rfl, hb⟩ := unmap hq
  rw [List.length_map, rangeD_length] at hl
  exact ⟨b, s', e, hl, hb⟩
theorem occurs_eq {b : List (List D)} {d : D} {c : Cells} (hd : Shows d (b.map D.tup) c) (h : b.all atomB = true) (hl : b.length ≤ 1000) (p : Int) : m__law_occurs [d, .int p] c = .ok (.bl ((plcs b).contains p)) c := by
  obtain ⟨o, hsf, hG, _, _⟩ := hd.all
  have st : ∀ a ∈ b, turn [2] (tgN 2) lb__law_occurs_1 (.tup a) [.sh d, .sh (.int p), .un] c = if (intsOf (a.drop 1)).contains p then .rt (.bl true) c else .nx [.sh d, .sh (.int p), .un] c := fun a ha => by
    have := List.all_eq_true.mp h a ha
    simp only [atomB, Bool.and_eq_true, Bool.not_eq_true'] at this
    obtain ⟨is, e, hi⟩ := isA_ints this.2 this.1
    have ei : inB (.int p) (.lst (is.map D.int)) c = some (is.contains p) := by
      rw [inB_good (n := 1) (fun z h => by cases h) rfl rfl (fun z hz => by obtain ⟨j, _, rfl⟩ := List.mem_map.mp hz; rfl) (by decide)]
      congr 1
      rw [List.any_map, Bool.eq_iff_iff]
      simp [beqD]
    rw [e, intsOf_map]
    rw [← e] at ei
    rw [List.drop_one] at ei
    cases hc : is.contains p <;> rw [hc] at ei <;> simp [turn, endW, lb__law_occurs_1, DL.seqS, DL.Res.seq, DL.setIxS, DL.setS, DL.exprS, DL.retS, DL.retN, DL.ifS, DL.nilS, DL.brkS, DL.cntS, DL.callB, DL.callM, DL.intF, DL.boolF, DL.consA, DL.nilA, DL.starA, DL.bin, DL.un1, DL.negP, DL.bnd, DL.Out.bnd, DL.Out.thenS, DL.opt, DL.varE, DL.litE, DL.setItem, DL.ret, DL.subP, DL.mulP, DL.modP, DL.fdivP, DL.powP, DL.intP, DL.geP, DL.leP, DL.gtP, DL.ltP, DL.eqP, DL.neP, DL.tstE, DL.boolE, DL.andT, DL.orT, DL.notT, DL.andE, DL.orE, DL.notE, DL.ifE, DL.chainE, DL.tupE, DL.lstE, DL.lstC, DL.isNP, DL.notNP, DL.runD, DL.Res.out, DL.startD, DL.itE, DL.itR, DL.rng2, DL.forS, DL.tgN, DL.tgT, DL.tgCons, DL.tgNil, DL.slE, DL.noO, DL.someO, DL.inP, DL.notInP, DL.wipeD, DL.endW, DL.turn, DL.item, DL.forX, DL.ownS, DL.szA, DL.appO, DL.coldS, DL.ownL, DL.revF, DL.allF, DL.anyF, L2.atI, L2.ixN, DL.eqB_int, DL.eqB_str, DL.eqB_bl, DL.eqB_non, DL.eqB_ni, DL.eqB_in, DL.eqB_ns, DL.eqB_sn, DL.eqB_is, DL.eqB_si, DL.rng1_nat, DL.rng1_int, DL.inB_str, DL.size_is, DL.seqOf_tup, DL.seqF_tup, DL.lenP_tup, DL.listG_tup, DL.listF_tup, DL.tupleF_tup, DL.ixP_tup, DL.truB_tup, DL.seqOf_lst, DL.seqF_lst, DL.lenP_lst, DL.listG_lst, DL.listF_lst, DL.tupleF_lst, DL.ixP_lst, DL.truB_lst, DL.seqOf_rol, DL.seqF_rol, DL.lenP_rol, DL.listG_rol, DL.listF_rol, DL.tupleF_rol, DL.ixP_rol, DL.truB_rol, DL.seqOf_cell, DL.lenP_cell, DL.listG_cell, DL.listF_cell, DL.tupleF_cell, DL.ixP_cell, DL.truB_cell, DL.rlistOf_lst, DL.rlistOf_rol, DL.rlistOf_cell, DL.listOf_lst, DL.listOf_cell, DL.lenP_str, DL.listG_str, DL.ixP_str, DL.truB_non, DL.truB_bl, DL.truB_int, DL.truB_str, DL.addP_int, DL.addP_str, DL.addP_tup, DL.addP_lst, DL.addP_lc, DL.addP_cl, DL.ltB_int, DL.ltB_str, DL.slL_str, DL.slL_tup, DL.slL_lst, DL.slL_rol, DL.slL_cell, DL.isNon_tup, DL.isNon_lst, DL.isNon_ins, DL.isNon_non, DL.isNon_int, DL.isNon_str, DL.isNon_bl, DL.isNon_cell, DL.insOf_ins, DL.insOf_cell, cut_from (i := 1) 1 rfl, ei]
  have e : lp__law_occurs_1 (gdOk (o, b.map D.tup)) (b.map D.tup) [.sh d, .sh (.int p), .un] c = if b.any (fun a => (intsOf (a.drop 1)).contains p) then .rt (.bl true) c else .nx [.sh d, .sh (.int p), .un] c := by
    unfold lp__law_occurs_1
    rw [forG_is hG (fun δ => δ = [.sh d, .sh (.int p), .un]) rfl fun w hw δ hδ δ' c' e => by
      subst hδ
      obtain ⟨a, ha, rfl⟩ := List.mem_map.mp hw
      rw [st a ha] at e
      split at e
      · cases e
      · cases e; exact ⟨rfl, rfl⟩]
    exact lp_any st
  have ec : b.any (fun a => (intsOf (a.drop 1)).contains p) = (plcs b).contains p := by
    rw [Bool.eq_iff_iff]
    simp [plcs]
  rw [ec] at e
  cases hc : (plcs b).contains p <;> rw [hc] at e <;> simp at e <;> simp [m__law_occurs, b__law_occurs, forXG, itG, DL.seqS, DL.Res.seq, DL.setIxS, DL.setS, DL.exprS, DL.retS, DL.retN, DL.ifS, DL.nilS, DL.brkS, DL.cntS, DL.callB, DL.callM, DL.intF, DL.boolF, DL.consA, DL.nilA, DL.starA, DL.bin, DL.un1, DL.negP, DL.bnd, DL.Out.bnd, DL.Out.thenS, DL.opt, DL.varE, DL.litE, DL.setItem, DL.ret, DL.subP, DL.mulP, DL.modP, DL.fdivP, DL.powP, DL.intP, DL.geP, DL.leP, DL.gtP, DL.ltP, DL.eqP, DL.neP, DL.tstE, DL.boolE, DL.andT, DL.orT, DL.notT, DL.andE, DL.orE, DL.notE, DL.ifE, DL.chainE, DL.tupE, DL.lstE, DL.lstC, DL.isNP, DL.notNP, DL.runD, DL.Res.out, DL.startD, DL.itE, DL.itR, DL.rng2, DL.forS, DL.tgN, DL.tgT, DL.tgCons, DL.tgNil, DL.slE, DL.noO, DL.someO, DL.inP, DL.notInP, DL.wipeD, DL.endW, DL.turn, DL.item, DL.forX, DL.ownS, DL.szA, DL.appO, DL.coldS, DL.ownL, DL.revF, DL.allF, DL.anyF, L2.atI, L2.ixN, DL.eqB_int, DL.eqB_str, DL.eqB_bl, DL.eqB_non, DL.eqB_ni, DL.eqB_in, DL.eqB_ns, DL.eqB_sn, DL.eqB_is, DL.eqB_si, DL.rng1_nat, DL.rng1_int, DL.inB_str, DL.size_is, DL.seqOf_tup, DL.seqF_tup, DL.lenP_tup, DL.listG_tup, DL.listF_tup, DL.tupleF_tup, DL.ixP_tup, DL.truB_tup, DL.seqOf_lst, DL.seqF_lst, DL.lenP_lst, DL.listG_lst, DL.listF_lst, DL.tupleF_lst, DL.ixP_lst, DL.truB_lst, DL.seqOf_rol, DL.seqF_rol, DL.lenP_rol, DL.listG_rol, DL.listF_rol, DL.tupleF_rol, DL.ixP_rol, DL.truB_rol, DL.seqOf_cell, DL.lenP_cell, DL.listG_cell, DL.listF_cell, DL.tupleF_cell, DL.ixP_cell, DL.truB_cell, DL.rlistOf_lst, DL.rlistOf_rol, DL.rlistOf_cell, DL.listOf_lst, DL.listOf_cell, DL.lenP_str, DL.listG_str, DL.ixP_str, DL.truB_non, DL.truB_bl, DL.truB_int, DL.truB_str, DL.addP_int, DL.addP_str, DL.addP_tup, DL.addP_lst, DL.addP_lc, DL.addP_cl, DL.ltB_int, DL.ltB_str, DL.slL_str, DL.slL_tup, DL.slL_lst, DL.slL_rol, DL.slL_cell, DL.isNon_tup, DL.isNon_lst, DL.isNon_ins, DL.isNon_non, DL.isNon_int, DL.isNon_str, DL.isNon_bl, DL.isNon_cell, DL.insOf_ins, DL.insOf_cell, hsf, e]
theorem atn_all {b : List (List D)} {N : Nat} (h : ∀ a ∈ b, AtN a N) (hN : N ≤ 4) : b.all atomB = true ∧ ∀ i ∈ plcs b, i < N := by
  refine ⟨List.all_eq_true.mpr fun a ha => ((h a ha).atomB hN).1, fun i hi => ?_⟩
  simp only [plcs, List.mem_flatMap] at hi
  obtain ⟨a, ha, hi⟩ := hi
  exact (((h a ha).atomB hN).2.1 i hi).2
theorem plcs_append {a b : List (List D)} : plcs (a ++ b) = plcs a ++ plcs b := by simp [plcs]
theorem place_loop (s : DS) {N : Nat} (h1 : 1 ≤ N) (h4 : N ≤ 4) {b : List (List D)} (hb : ∀ a ∈ b, AtN a N) (hl : b.length ≤ 4) {x y : Slot} (cs : Cells) : ∃ (b' : List (List D)) (s' : DS),
    lp__law_shape_1 (rangeD 0 N) [.sh (.cell 0), x, y, .sh (.int N), .sh (.cell (cs.length + 1)), .un, .un, .un, .un] (s.c :: (cs ++ [Cell.lst (b.map D.tup)])) =
      .nx [.sh (.cell 0), x, y, .sh (.int N), .sh (.cell (cs.length + 1)), .un, .un, .un, .un] (s'.c :: (cs ++ [Cell.lst (b'.map D.tup)])) ∧ (∀ a ∈ b', AtN a N) ∧ b.length ≤ b'.length ∧ b'.length ≤ 4 + N ∧ ∀ z : Nat, z < N → (z : Int) ∈ plcs b' := by
  obtain ⟨⟨s', b'⟩, e, i1, i2, i3, i4⟩ := lp_inv (js := [5]) (tg := tgN 5) (b := lb__law_shape_1) (S := DS × List (List D)) (mk := fun _ => [.sh (.cell 0), x, y, .sh (.int N), .sh (.cell (cs.length + 1)), .un, .un, .un, .un]) (cl := fun x => x.1.c :: (cs ++ [Cell.lst (x.2.map D.tup)]))
    (I := fun i x => (∀ a ∈ x.2, AtN a N) ∧ b.length ≤ x.2.length ∧ x.2.length ≤ 4 + i ∧ ∀ z : Nat, z < i → (z : Int) ∈ plcs x.2)
    (xs := rangeD 0 N) (k := 0) (s := (s, b)) ⟨hb, Nat.le_refl _, hl, fun z hz => absurd hz (by omega)⟩ fun i v ⟨s, b'⟩ hi ⟨i1, i2, i3, i4⟩ => by
      have hi' : i < N := by
        have := (List.getElem?_eq_some_iff.mp hi).1
        rwa [rangeD_length] at this
      have hx := rangeD_get hi
      rw [Int.zero_add] at hx
      subst hx
      simp only [Nat.zero_add] at i1 i2 i3 i4 ⊢
      have oc := occurs_eq (b := b') (c := s.c :: (cs ++ [Cell.lst (b'.map D.tup)])) (d := .cell (cs.length + 1)) (.inr (.inr ⟨_, rfl, by simp⟩)) (atn_all i1 h4).1 (by omega) (i : Int)
      cases hc : (plcs b').contains (i : Int) with
      | true =>
        rw [hc] at oc
        refine ⟨(s, b'), by simp [turn, endW, lb__law_shape_1, DL.seqS, DL.Res.seq, DL.setIxS, DL.setS, DL.exprS, DL.retS, DL.retN, DL.ifS, DL.nilS, DL.brkS, DL.cntS, DL.callB, DL.callM, DL.intF, DL.boolF, DL.consA, DL.nilA, DL.starA, DL.bin, DL.un1, DL.negP, DL.bnd, DL.Out.bnd, DL.Out.thenS, DL.opt, DL.varE, DL.litE, DL.setItem, DL.ret, DL.subP, DL.mulP, DL.modP, DL.fdivP, DL.powP, DL.intP, DL.geP, DL.leP, DL.gtP, DL.ltP, DL.eqP, DL.neP, DL.tstE, DL.boolE, DL.andT, DL.orT, DL.notT, DL.andE, DL.orE, DL.notE, DL.ifE, DL.chainE, DL.tupE, DL.lstE, DL.lstC, DL.isNP, DL.notNP, DL.runD, DL.Res.out, DL.startD, DL.itE, DL.itR, DL.rng2, DL.forS, DL.tgN, DL.tgT, DL.tgCons, DL.tgNil, DL.slE, DL.noO, DL.someO, DL.inP, DL.notInP, DL.wipeD, DL.endW, DL.turn, DL.item, DL.forX, DL.ownS, DL.szA, DL.appO, DL.coldS, DL.ownL, DL.revF, DL.allF, DL.anyF, L2.atI, L2.ixN, DL.eqB_int, DL.eqB_str, DL.eqB_bl, DL.eqB_non, DL.eqB_ni, DL.eqB_in, DL.eqB_ns, DL.eqB_sn, DL.eqB_is, DL.eqB_si, DL.rng1_nat, DL.rng1_int, DL.inB_str, DL.size_is, DL.seqOf_tup, DL.seqF_tup, DL.lenP_tup, DL.listG_tup, DL.listF_tup, DL.tupleF_tup, DL.ixP_tup, DL.truB_tup, DL.seqOf_lst, DL.seqF_lst, DL.lenP_lst, DL.listG_lst, DL.listF_lst, DL.tupleF_lst, DL.ixP_lst, DL.truB_lst, DL.seqOf_rol, DL.seqF_rol, DL.lenP_rol, DL.listG_rol, DL.listF_rol, DL.tupleF_rol, DL.ixP_rol, DL.truB_rol, DL.seqOf_cell, DL.lenP_cell, DL.listG_cell, DL.listF_cell, DL.tupleF_cell, DL.ixP_cell, DL.truB_cell, DL.rlistOf_lst, DL.rlistOf_rol, DL.rlistOf_cell, DL.listOf_lst, DL.listOf_cell, DL.lenP_str, DL.listG_str, DL.ixP_str, DL.truB_non, DL.truB_bl, DL.truB_int, DL.truB_str, DL.addP_int, DL.addP_str, DL.addP_tup, DL.addP_lst, DL.addP_lc, DL.addP_cl, DL.ltB_int, DL.ltB_str, DL.slL_str, DL.slL_tup, DL.slL_lst, DL.slL_rol, DL.slL_cell, DL.isNon_tup, DL.isNon_lst, DL.isNon_ins, DL.isNon_non, DL.isNon_int, DL.isNon_str, DL.isNon_bl, DL.isNon_cell, DL.insOf_ins, DL.insOf_cell, oc], i1, i2, by simp; omega, fun z hz => ?_⟩
        by_cases z = i
        · subst z; simpa using hc
        · exact i4 z (by omega)
      | false =>
        rw [hc] at oc
        obtain ⟨j, s', hj, e⟩ := draw_o s (n := 2) (by decide) (by decide)
        have e := e (cs ++ [Cell.lst (b'.map D.tup)])
        obtain ⟨w, hw, w1, w2⟩ := wr_at (k := j) (by omega)
        have bz : b'.length < 16777216 := by omega
        refine ⟨(s', b' ++ [[.str w, .int i]]), ?_, fun a ha => ?_, by simp; omega, by simp; omega, fun z hz => ?_⟩
        · simp [turn, endW, lb__law_shape_1, DL.seqS, DL.Res.seq, DL.setIxS, DL.setS, DL.exprS, DL.retS, DL.retN, DL.ifS, DL.nilS, DL.brkS, DL.cntS, DL.callB, DL.callM, DL.intF, DL.boolF, DL.consA, DL.nilA, DL.starA, DL.bin, DL.un1, DL.negP, DL.bnd, DL.Out.bnd, DL.Out.thenS, DL.opt, DL.varE, DL.litE, DL.setItem, DL.ret, DL.subP, DL.mulP, DL.modP, DL.fdivP, DL.powP, DL.intP, DL.geP, DL.leP, DL.gtP, DL.ltP, DL.eqP, DL.neP, DL.tstE, DL.boolE, DL.andT, DL.orT, DL.notT, DL.andE, DL.orE, DL.notE, DL.ifE, DL.chainE, DL.tupE, DL.lstE, DL.lstC, DL.isNP, DL.notNP, DL.runD, DL.Res.out, DL.startD, DL.itE, DL.itR, DL.rng2, DL.forS, DL.tgN, DL.tgT, DL.tgCons, DL.tgNil, DL.slE, DL.noO, DL.someO, DL.inP, DL.notInP, DL.wipeD, DL.endW, DL.turn, DL.item, DL.forX, DL.ownS, DL.szA, DL.appO, DL.coldS, DL.ownL, DL.revF, DL.allF, DL.anyF, L2.atI, L2.ixN, DL.eqB_int, DL.eqB_str, DL.eqB_bl, DL.eqB_non, DL.eqB_ni, DL.eqB_in, DL.eqB_ns, DL.eqB_sn, DL.eqB_is, DL.eqB_si, DL.rng1_nat, DL.rng1_int, DL.inB_str, DL.size_is, DL.seqOf_tup, DL.seqF_tup, DL.lenP_tup, DL.listG_tup, DL.listF_tup, DL.tupleF_tup, DL.ixP_tup, DL.truB_tup, DL.seqOf_lst, DL.seqF_lst, DL.lenP_lst, DL.listG_lst, DL.listF_lst, DL.tupleF_lst, DL.ixP_lst, DL.truB_lst, DL.seqOf_rol, DL.seqF_rol, DL.lenP_rol, DL.listG_rol, DL.listF_rol, DL.tupleF_rol, DL.ixP_rol, DL.truB_rol, DL.seqOf_cell, DL.lenP_cell, DL.listG_cell, DL.listF_cell, DL.tupleF_cell, DL.ixP_cell, DL.truB_cell, DL.rlistOf_lst, DL.rlistOf_rol, DL.rlistOf_cell, DL.listOf_lst, DL.listOf_cell, DL.lenP_str, DL.listG_str, DL.ixP_str, DL.truB_non, DL.truB_bl, DL.truB_int, DL.truB_str, DL.addP_int, DL.addP_str, DL.addP_tup, DL.addP_lst, DL.addP_lc, DL.addP_cl, DL.ltB_int, DL.ltB_str, DL.slL_str, DL.slL_tup, DL.slL_lst, DL.slL_rol, DL.slL_cell, DL.isNon_tup, DL.isNon_lst, DL.isNon_ins, DL.isNon_non, DL.isNon_int, DL.isNon_str, DL.isNon_bl, DL.isNon_cell, DL.insOf_ins, DL.insOf_cell, oc, appC, e, atI_natG, hw, hj, bz]
        · rcases List.mem_append.mp ha with ha | ha
          · exact i1 a ha
          · simp at ha
            subst ha
            exact ⟨flat2 w2, isA2 w1 ⟨by omega, by omega⟩, rfl⟩
        · rw [plcs_append]
          by_cases z = i
          · subst z; simp [plcs, intsOf]
          · exact List.mem_append_left _ (i4 z (by omega))
  rw [rangeD_length] at i3 i4
  simp only [Nat.zero_add] at i1 i2 i3 i4
  exact ⟨b', s', e, i1, i2, i3, i4⟩
theorem never_flatT : flatT (.tup [.str "never"]) = true ∧ ∀ n, isA [.str "never"] n = true := by
  refine ⟨by decide +kernel, fun n => ?_⟩
  simp [isA]
theorem shape2 {s s1 : DS} {mode : Nat} (h0 : mode ≠ 0) (h1 : mode ≠ 1) (e0 : ∀ cs, m_draw [.cell 0, .int 4] (s.c :: cs) = .ok (.int mode) (s1.c :: cs)) (cs : Cells) :
    ∃ (b : List (List D)) (h : List D) (n : Int) (s' : DS), m__law_shape [.cell 0, .int 4] (s.c :: cs) = .ok (.tup [.cell (cs.length + 1), .tup h]) (s'.c :: (cs ++ [Cell.lst (b.map D.tup)])) ∧ Shape b h n := by
  obtain ⟨n0, s2, hn, e1⟩ := draw_o s1 (n := 4) (by decide) (by decide)
  obtain ⟨m0, s3, hm, e2⟩ := draw_o s2 (n := 4) (by decide) (by decide)
  have hN1 : 1 ≤ 1 + n0 := by omega
  have hN4 : 1 + n0 ≤ 4 := by omega
  obtain ⟨b, s4, e3, bl, ba⟩ := comp_ok s3 (N := 1 + n0) hN1 hN4 (m := 1 + m0) (x := .sh (.int 4)) (y := .sh (.int mode)) cs
  obtain ⟨b', s5, e4, i1, i2, i3, i4⟩ := place_loop s4 (N := 1 + n0) hN1 hN4 ba (by omega) (x := .sh (.int 4)) (y := .sh (.int mode)) cs
  obtain ⟨q, s6, hq, e5⟩ := draw_o s5 (n := 10) (by decide) (by decide)
  have e0 := e0 cs
  have e1 := e1 cs
  have e2 := e2 cs
  have e5 := e5 (cs ++ [Cell.lst (b'.map D.tup)])
  obtain ⟨a1, a2⟩ := atn_all i1 hN4
  have sz := sizeB_of (b := b') (N := 1 + n0) (by omega) (by omega) a1 hN1 a2 i4
  have er : rng1 [.int (1 + (m0 : Int))] = some (rangeD 0 (1 + m0)) := by
    have := rng1_nat (n := 1 + m0) (by omega)
    rw [← this]; simp
  have er2 : rng1 [.int ((1 + n0 : Nat) : Int)] = some (rangeD 0 (1 + n0)) := rng1_nat (by omega)
  have hc : (1 + (n0 : Int)) = ((1 + n0 : Nat) : Int) := by omega
  have h0' : ¬ (mode : Int) = 0 := by omega
  have h1' : ¬ (mode : Int) = 1 := by omega
  have fl : ∀ a ∈ b', flatT (.tup a) = true := fun a ha => (i1 a ha).fl
  generalize hNN : 1 + n0 = N at *
  have t1 : (setS 2 (callM m__law_draw (consA (varE 0) (consA (litE (.int 4)) (nilA))))) [.sh (.cell 0), .sh (.int 4), .un, .un, .un, .un, .un, .un, .un] (s.c :: cs) = .nx [.sh (.cell 0), .sh (.int 4), .sh (.int mode), .un, .un, .un, .un, .un, .un] (s1.c :: cs) := by simp [DL.seqS, DL.Res.seq, DL.setIxS, DL.setS, DL.exprS, DL.retS, DL.retN, DL.ifS, DL.nilS, DL.brkS, DL.cntS, DL.callB, DL.callM, DL.intF, DL.boolF, DL.consA, DL.nilA, DL.starA, DL.bin, DL.un1, DL.negP, DL.bnd, DL.Out.bnd, DL.Out.thenS, DL.opt, DL.varE, DL.litE, DL.setItem, DL.ret, DL.subP, DL.mulP, DL.modP, DL.fdivP, DL.powP, DL.intP, DL.geP, DL.leP, DL.gtP, DL.ltP, DL.eqP, DL.neP, DL.tstE, DL.boolE, DL.andT, DL.orT, DL.notT, DL.andE, DL.orE, DL.notE, DL.ifE, DL.chainE, DL.tupE, DL.lstE, DL.lstC, DL.isNP, DL.notNP, DL.runD, DL.Res.out, DL.startD, DL.itE, DL.itR, DL.rng2, DL.forS, DL.tgN, DL.tgT, DL.tgCons, DL.tgNil, DL.slE, DL.noO, DL.someO, DL.inP, DL.notInP, DL.wipeD, DL.endW, DL.turn, DL.item, DL.forX, DL.ownS, DL.szA, DL.appO, DL.coldS, DL.ownL, DL.revF, DL.allF, DL.anyF, L2.atI, L2.ixN, DL.eqB_int, DL.eqB_str, DL.eqB_bl, DL.eqB_non, DL.eqB_ni, DL.eqB_in, DL.eqB_ns, DL.eqB_sn, DL.eqB_is, DL.eqB_si, DL.rng1_nat, DL.rng1_int, DL.inB_str, DL.size_is, DL.seqOf_tup, DL.seqF_tup, DL.lenP_tup, DL.listG_tup, DL.listF_tup, DL.tupleF_tup, DL.ixP_tup, DL.truB_tup, DL.seqOf_lst, DL.seqF_lst, DL.lenP_lst, DL.listG_lst, DL.listF_lst, DL.tupleF_lst, DL.ixP_lst, DL.truB_lst, DL.seqOf_rol, DL.seqF_rol, DL.lenP_rol, DL.listG_rol, DL.listF_rol, DL.tupleF_rol, DL.ixP_rol, DL.truB_rol, DL.seqOf_cell, DL.lenP_cell, DL.listG_cell, DL.listF_cell, DL.tupleF_cell, DL.ixP_cell, DL.truB_cell, DL.rlistOf_lst, DL.rlistOf_rol, DL.rlistOf_cell, DL.listOf_lst, DL.listOf_cell, DL.lenP_str, DL.listG_str, DL.ixP_str, DL.truB_non, DL.truB_bl, DL.truB_int, DL.truB_str, DL.addP_int, DL.addP_str, DL.addP_tup, DL.addP_lst, DL.addP_lc, DL.addP_cl, DL.ltB_int, DL.ltB_str, DL.slL_str, DL.slL_tup, DL.slL_lst, DL.slL_rol, DL.slL_cell, DL.isNon_tup, DL.isNon_lst, DL.isNon_ins, DL.isNon_non, DL.isNon_int, DL.isNon_str, DL.isNon_bl, DL.isNon_cell, DL.insOf_ins, DL.insOf_cell, e0]
  have t2 : (setS 3 (bin addP (litE (.int 1)) (callM m__law_draw (consA (varE 0) (consA (varE 1) (nilA)))))) [.sh (.cell 0), .sh (.int 4), .sh (.int mode), .un, .un, .un, .un, .un, .un] (s1.c :: cs) = .nx [.sh (.cell 0), .sh (.int 4), .sh (.int mode), .sh (.int N), .un, .un, .un, .un, .un] (s2.c :: cs) := by simp [DL.seqS, DL.Res.seq, DL.setIxS, DL.setS, DL.exprS, DL.retS, DL.retN, DL.ifS, DL.nilS, DL.brkS, DL.cntS, DL.callB, DL.callM, DL.intF, DL.boolF, DL.consA, DL.nilA, DL.starA, DL.bin, DL.un1, DL.negP, DL.bnd, DL.Out.bnd, DL.Out.thenS, DL.opt, DL.varE, DL.litE, DL.setItem, DL.ret, DL.subP, DL.mulP, DL.modP, DL.fdivP, DL.powP, DL.intP, DL.geP, DL.leP, DL.gtP, DL.ltP, DL.eqP, DL.neP, DL.tstE, DL.boolE, DL.andT, DL.orT, DL.notT, DL.andE, DL.orE, DL.notE, DL.ifE, DL.chainE, DL.tupE, DL.lstE, DL.lstC, DL.isNP, DL.notNP, DL.runD, DL.Res.out, DL.startD, DL.itE, DL.itR, DL.rng2, DL.forS, DL.tgN, DL.tgT, DL.tgCons, DL.tgNil, DL.slE, DL.noO, DL.someO, DL.inP, DL.notInP, DL.wipeD, DL.endW, DL.turn, DL.item, DL.forX, DL.ownS, DL.szA, DL.appO, DL.coldS, DL.ownL, DL.revF, DL.allF, DL.anyF, L2.atI, L2.ixN, DL.eqB_int, DL.eqB_str, DL.eqB_bl, DL.eqB_non, DL.eqB_ni, DL.eqB_in, DL.eqB_ns, DL.eqB_sn, DL.eqB_is, DL.eqB_si, DL.rng1_nat, DL.rng1_int, DL.inB_str, DL.size_is, DL.seqOf_tup, DL.seqF_tup, DL.lenP_tup, DL.listG_tup, DL.listF_tup, DL.tupleF_tup, DL.ixP_tup, DL.truB_tup, DL.seqOf_lst, DL.seqF_lst, DL.lenP_lst, DL.listG_lst, DL.listF_lst, DL.tupleF_lst, DL.ixP_lst, DL.truB_lst, DL.seqOf_rol, DL.seqF_rol, DL.lenP_rol, DL.listG_rol, DL.listF_rol, DL.tupleF_rol, DL.ixP_rol, DL.truB_rol, DL.seqOf_cell, DL.lenP_cell, DL.listG_cell, DL.listF_cell, DL.tupleF_cell, DL.ixP_cell, DL.truB_cell, DL.rlistOf_lst, DL.rlistOf_rol, DL.rlistOf_cell, DL.listOf_lst, DL.listOf_cell, DL.lenP_str, DL.listG_str, DL.ixP_str, DL.truB_non, DL.truB_bl, DL.truB_int, DL.truB_str, DL.addP_int, DL.addP_str, DL.addP_tup, DL.addP_lst, DL.addP_lc, DL.addP_cl, DL.ltB_int, DL.ltB_str, DL.slL_str, DL.slL_tup, DL.slL_lst, DL.slL_rol, DL.slL_cell, DL.isNon_tup, DL.isNon_lst, DL.isNon_ins, DL.isNon_non, DL.isNon_int, DL.isNon_str, DL.isNon_bl, DL.isNon_cell, DL.insOf_ins, DL.insOf_cell, e1, hc]
  have t3 : (setS 4 (ceE (lcA (itR rng1 (consA (bin addP (litE (.int 1)) (callM m__law_draw (consA (varE 0) (consA (litE (.int 4)) (nilA))))) nilA)) [8] (tgN 8) (yesT) (callM m__law_atom (consA (varE 0) (consA (varE 3) (nilA))))))) [.sh (.cell 0), .sh (.int 4), .sh (.int mode), .sh (.int N), .un, .un, .un, .un, .un] (s2.c :: cs) = .nx [.sh (.cell 0), .sh (.int 4), .sh (.int mode), .sh (.int N), .sh (.cell (cs.length + 1)), .un, .un, .un, .un] (s4.c :: (cs ++ [Cell.lst (b.map D.tup)])) := by
    refine set_ok ?_
    simp only [ceE, bnd, lcA]
    have : itR rng1 (consA (bin addP (litE (.int 1)) (callM m__law_draw (consA (varE 0) (consA (litE (.int 4)) (nilA))))) nilA) [.sh (.cell 0), .sh (.int 4), .sh (.int mode), .sh (.int N), .un, .un, .un, .un, .un] (s2.c :: cs) = .ok (rangeD 0 (1 + m0)) (s3.c :: cs) := by simp [DL.seqS, DL.Res.seq, DL.setIxS, DL.setS, DL.exprS, DL.retS, DL.retN, DL.ifS, DL.nilS, DL.brkS, DL.cntS, DL.callB, DL.callM, DL.intF, DL.boolF, DL.consA, DL.nilA, DL.starA, DL.bin, DL.un1, DL.negP, DL.bnd, DL.Out.bnd, DL.Out.thenS, DL.opt, DL.varE, DL.litE, DL.setItem, DL.ret, DL.subP, DL.mulP, DL.modP, DL.fdivP, DL.powP, DL.intP, DL.geP, DL.leP, DL.gtP, DL.ltP, DL.eqP, DL.neP, DL.tstE, DL.boolE, DL.andT, DL.orT, DL.notT, DL.andE, DL.orE, DL.notE, DL.ifE, DL.chainE, DL.tupE, DL.lstE, DL.lstC, DL.isNP, DL.notNP, DL.runD, DL.Res.out, DL.startD, DL.itE, DL.itR, DL.rng2, DL.forS, DL.tgN, DL.tgT, DL.tgCons, DL.tgNil, DL.slE, DL.noO, DL.someO, DL.inP, DL.notInP, DL.wipeD, DL.endW, DL.turn, DL.item, DL.forX, DL.ownS, DL.szA, DL.appO, DL.coldS, DL.ownL, DL.revF, DL.allF, DL.anyF, L2.atI, L2.ixN, DL.eqB_int, DL.eqB_str, DL.eqB_bl, DL.eqB_non, DL.eqB_ni, DL.eqB_in, DL.eqB_ns, DL.eqB_sn, DL.eqB_is, DL.eqB_si, DL.rng1_nat, DL.rng1_int, DL.inB_str, DL.size_is, DL.seqOf_tup, DL.seqF_tup, DL.lenP_tup, DL.listG_tup, DL.listF_tup, DL.tupleF_tup, DL.ixP_tup, DL.truB_tup, DL.seqOf_lst, DL.seqF_lst, DL.lenP_lst, DL.listG_lst, DL.listF_lst, DL.tupleF_lst, DL.ixP_lst, DL.truB_lst, DL.seqOf_rol, DL.seqF_rol, DL.lenP_rol, DL.listG_rol, DL.listF_rol, DL.tupleF_rol, DL.ixP_rol, DL.truB_rol, DL.seqOf_cell, DL.lenP_cell, DL.listG_cell, DL.listF_cell, DL.tupleF_cell, DL.ixP_cell, DL.truB_cell, DL.rlistOf_lst, DL.rlistOf_rol, DL.rlistOf_cell, DL.listOf_lst, DL.listOf_cell, DL.lenP_str, DL.listG_str, DL.ixP_str, DL.truB_non, DL.truB_bl, DL.truB_int, DL.truB_str, DL.addP_int, DL.addP_str, DL.addP_tup, DL.addP_lst, DL.addP_lc, DL.addP_cl, DL.ltB_int, DL.ltB_str, DL.slL_str, DL.slL_tup, DL.slL_lst, DL.slL_rol, DL.slL_cell, DL.isNon_tup, DL.isNon_lst, DL.isNon_ins, DL.isNon_non, DL.isNon_int, DL.isNon_str, DL.isNon_bl, DL.isNon_cell, DL.insOf_ins, DL.insOf_cell, e2, er]
    rw [this]
    show Out.bnd (Out.quiet (lcL (tgN 8) yesT (callM m__law_atom (consA (varE 0) (consA (varE 3) nilA))) [.sh (.cell 0), .sh (.int 4), .sh (.int mode), .sh (.int N), .un, .un, .un, .un, .un] (rangeD 0 (1 + m0)) (s3.c :: cs))) _ = _
    rw [e3]
    rfl
  have t4 : (forX [5] (itR rng1 (consA (varE 3) nilA)) (lp__law_shape_1)) [.sh (.cell 0), .sh (.int 4), .sh (.int mode), .sh (.int N), .sh (.cell (cs.length + 1)), .un, .un, .un, .un] (s4.c :: (cs ++ [Cell.lst (b.map D.tup)])) = .nx [.sh (.cell 0), .sh (.int 4), .sh (.int mode), .sh (.int N), .sh (.cell (cs.length + 1)), .un, .un, .un, .un] (s5.c :: (cs ++ [Cell.lst (b'.map D.tup)])) := by
    simp [DL.seqS, DL.Res.seq, DL.setIxS, DL.setS, DL.exprS, DL.retS, DL.retN, DL.ifS, DL.nilS, DL.brkS, DL.cntS, DL.callB, DL.callM, DL.intF, DL.boolF, DL.consA, DL.nilA, DL.starA, DL.bin, DL.un1, DL.negP, DL.bnd, DL.Out.bnd, DL.Out.thenS, DL.opt, DL.varE, DL.litE, DL.setItem, DL.ret, DL.subP, DL.mulP, DL.modP, DL.fdivP, DL.powP, DL.intP, DL.geP, DL.leP, DL.gtP, DL.ltP, DL.eqP, DL.neP, DL.tstE, DL.boolE, DL.andT, DL.orT, DL.notT, DL.andE, DL.orE, DL.notE, DL.ifE, DL.chainE, DL.tupE, DL.lstE, DL.lstC, DL.isNP, DL.notNP, DL.runD, DL.Res.out, DL.startD, DL.itE, DL.itR, DL.rng2, DL.forS, DL.tgN, DL.tgT, DL.tgCons, DL.tgNil, DL.slE, DL.noO, DL.someO, DL.inP, DL.notInP, DL.wipeD, DL.endW, DL.turn, DL.item, DL.forX, DL.ownS, DL.szA, DL.appO, DL.coldS, DL.ownL, DL.revF, DL.allF, DL.anyF, L2.atI, L2.ixN, DL.eqB_int, DL.eqB_str, DL.eqB_bl, DL.eqB_non, DL.eqB_ni, DL.eqB_in, DL.eqB_ns, DL.eqB_sn, DL.eqB_is, DL.eqB_si, DL.rng1_nat, DL.rng1_int, DL.inB_str, DL.size_is, DL.seqOf_tup, DL.seqF_tup, DL.lenP_tup, DL.listG_tup, DL.listF_tup, DL.tupleF_tup, DL.ixP_tup, DL.truB_tup, DL.seqOf_lst, DL.seqF_lst, DL.lenP_lst, DL.listG_lst, DL.listF_lst, DL.tupleF_lst, DL.ixP_lst, DL.truB_lst, DL.seqOf_rol, DL.seqF_rol, DL.lenP_rol, DL.listG_rol, DL.listF_rol, DL.tupleF_rol, DL.ixP_rol, DL.truB_rol, DL.seqOf_cell, DL.lenP_cell, DL.listG_cell, DL.listF_cell, DL.tupleF_cell, DL.ixP_cell, DL.truB_cell, DL.rlistOf_lst, DL.rlistOf_rol, DL.rlistOf_cell, DL.listOf_lst, DL.listOf_cell, DL.lenP_str, DL.listG_str, DL.ixP_str, DL.truB_non, DL.truB_bl, DL.truB_int, DL.truB_str, DL.addP_int, DL.addP_str, DL.addP_tup, DL.addP_lst, DL.addP_lc, DL.addP_cl, DL.ltB_int, DL.ltB_str, DL.slL_str, DL.slL_tup, DL.slL_lst, DL.slL_rol, DL.slL_cell, DL.isNon_tup, DL.isNon_lst, DL.isNon_ins, DL.isNon_non, DL.isNon_int, DL.isNon_str, DL.isNon_bl, DL.isNon_cell, DL.insOf_ins, DL.insOf_cell, er2, e4]
  have t5 : (boolE (bin eqP (callM m__law_draw (consA (varE 0) (consA (litE (.int 10)) (nilA)))) (litE (.int 1)))) [.sh (.cell 0), .sh (.int 4), .sh (.int mode), .sh (.int N), .sh (.cell (cs.length + 1)), .un, .un, .un, .un] (s5.c :: (cs ++ [Cell.lst (b'.map D.tup)])) = .ok (decide (q = 1)) (s6.c :: (cs ++ [Cell.lst (b'.map D.tup)])) := by
    have : decide ((q : Int) = 1) = decide (q = 1) := by rw [decide_eq_decide]; omega
    simp [DL.seqS, DL.Res.seq, DL.setIxS, DL.setS, DL.exprS, DL.retS, DL.retN, DL.ifS, DL.nilS, DL.brkS, DL.cntS, DL.callB, DL.callM, DL.intF, DL.boolF, DL.consA, DL.nilA, DL.starA, DL.bin, DL.un1, DL.negP, DL.bnd, DL.Out.bnd, DL.Out.thenS, DL.opt, DL.varE, DL.litE, DL.setItem, DL.ret, DL.subP, DL.mulP, DL.modP, DL.fdivP, DL.powP, DL.intP, DL.geP, DL.leP, DL.gtP, DL.ltP, DL.eqP, DL.neP, DL.tstE, DL.boolE, DL.andT, DL.orT, DL.notT, DL.andE, DL.orE, DL.notE, DL.ifE, DL.chainE, DL.tupE, DL.lstE, DL.lstC, DL.isNP, DL.notNP, DL.runD, DL.Res.out, DL.startD, DL.itE, DL.itR, DL.rng2, DL.forS, DL.tgN, DL.tgT, DL.tgCons, DL.tgNil, DL.slE, DL.noO, DL.someO, DL.inP, DL.notInP, DL.wipeD, DL.endW, DL.turn, DL.item, DL.forX, DL.ownS, DL.szA, DL.appO, DL.coldS, DL.ownL, DL.revF, DL.allF, DL.anyF, L2.atI, L2.ixN, DL.eqB_int, DL.eqB_str, DL.eqB_bl, DL.eqB_non, DL.eqB_ni, DL.eqB_in, DL.eqB_ns, DL.eqB_sn, DL.eqB_is, DL.eqB_si, DL.rng1_nat, DL.rng1_int, DL.inB_str, DL.size_is, DL.seqOf_tup, DL.seqF_tup, DL.lenP_tup, DL.listG_tup, DL.listF_tup, DL.tupleF_tup, DL.ixP_tup, DL.truB_tup, DL.seqOf_lst, DL.seqF_lst, DL.lenP_lst, DL.listG_lst, DL.listF_lst, DL.tupleF_lst, DL.ixP_lst, DL.truB_lst, DL.seqOf_rol, DL.seqF_rol, DL.lenP_rol, DL.listG_rol, DL.listF_rol, DL.tupleF_rol, DL.ixP_rol, DL.truB_rol, DL.seqOf_cell, DL.lenP_cell, DL.listG_cell, DL.listF_cell, DL.tupleF_cell, DL.ixP_cell, DL.truB_cell, DL.rlistOf_lst, DL.rlistOf_rol, DL.rlistOf_cell, DL.listOf_lst, DL.listOf_cell, DL.lenP_str, DL.listG_str, DL.ixP_str, DL.truB_non, DL.truB_bl, DL.truB_int, DL.truB_str, DL.addP_int, DL.addP_str, DL.addP_tup, DL.addP_lst, DL.addP_lc, DL.addP_cl, DL.ltB_int, DL.ltB_str, DL.slL_str, DL.slL_tup, DL.slL_lst, DL.slL_rol, DL.slL_cell, DL.isNon_tup, DL.isNon_lst, DL.isNon_ins, DL.isNon_non, DL.isNon_int, DL.isNon_str, DL.isNon_bl, DL.isNon_cell, DL.insOf_ins, DL.insOf_cell, e5, this]
  have main : ∀ r, seqS (ifS (boolE (bin eqP (callM m__law_draw (consA (varE 0) (consA (litE (.int 10)) (nilA)))) (litE (.int 1)))) (retS (tupE (consA (varE 4) (consA (tupE (consA (litE (.str "never")) (nilA))) (nilA))))) (nilS)) (retS (tupE (consA (varE 4) (consA (callM m__law_atom (consA (varE 0) (consA (varE 3) (nilA)))) (nilA))))) [.sh (.cell 0), .sh (.int 4), .sh (.int mode), .sh (.int N), .sh (.cell (cs.length + 1)), .un, .un, .un, .un] (s5.c :: (cs ++ [Cell.lst (b'.map D.tup)])) = r → b__law_shape [.sh (.cell 0), .sh (.int 4), .un, .un, .un, .un, .un, .un, .un] (s.c :: cs) = r := fun r hr => by
    unfold b__law_shape
    refine (seq_nx t1).trans ?_
    refine (seq_if_f (c' := s1.c :: cs) (by simp [DL.seqS, DL.Res.seq, DL.setIxS, DL.setS, DL.exprS, DL.retS, DL.retN, DL.ifS, DL.nilS, DL.brkS, DL.cntS, DL.callB, DL.callM, DL.intF, DL.boolF, DL.consA, DL.nilA, DL.starA, DL.bin, DL.un1, DL.negP, DL.bnd, DL.Out.bnd, DL.Out.thenS, DL.opt, DL.varE, DL.litE, DL.setItem, DL.ret, DL.subP, DL.mulP, DL.modP, DL.fdivP, DL.powP, DL.intP, DL.geP, DL.leP, DL.gtP, DL.ltP, DL.eqP, DL.neP, DL.tstE, DL.boolE, DL.andT, DL.orT, DL.notT, DL.andE, DL.orE, DL.notE, DL.ifE, DL.chainE, DL.tupE, DL.lstE, DL.lstC, DL.isNP, DL.notNP, DL.runD, DL.Res.out, DL.startD, DL.itE, DL.itR, DL.rng2, DL.forS, DL.tgN, DL.tgT, DL.tgCons, DL.tgNil, DL.slE, DL.noO, DL.someO, DL.inP, DL.notInP, DL.wipeD, DL.endW, DL.turn, DL.item, DL.forX, DL.ownS, DL.szA, DL.appO, DL.coldS, DL.ownL, DL.revF, DL.allF, DL.anyF, L2.atI, L2.ixN, DL.eqB_int, DL.eqB_str, DL.eqB_bl, DL.eqB_non, DL.eqB_ni, DL.eqB_in, DL.eqB_ns, DL.eqB_sn, DL.eqB_is, DL.eqB_si, DL.rng1_nat, DL.rng1_int, DL.inB_str, DL.size_is, DL.seqOf_tup, DL.seqF_tup, DL.lenP_tup, DL.listG_tup, DL.listF_tup, DL.tupleF_tup, DL.ixP_tup, DL.truB_tup, DL.seqOf_lst, DL.seqF_lst, DL.lenP_lst, DL.listG_lst, DL.listF_lst, DL.tupleF_lst, DL.ixP_lst, DL.truB_lst, DL.seqOf_rol, DL.seqF_rol, DL.lenP_rol, DL.listG_rol, DL.listF_rol, DL.tupleF_rol, DL.ixP_rol, DL.truB_rol, DL.seqOf_cell, DL.lenP_cell, DL.listG_cell, DL.listF_cell, DL.tupleF_cell, DL.ixP_cell, DL.truB_cell, DL.rlistOf_lst, DL.rlistOf_rol, DL.rlistOf_cell, DL.listOf_lst, DL.listOf_cell, DL.lenP_str, DL.listG_str, DL.ixP_str, DL.truB_non, DL.truB_bl, DL.truB_int, DL.truB_str, DL.addP_int, DL.addP_str, DL.addP_tup, DL.addP_lst, DL.addP_lc, DL.addP_cl, DL.ltB_int, DL.ltB_str, DL.slL_str, DL.slL_tup, DL.slL_lst, DL.slL_rol, DL.slL_cell, DL.isNon_tup, DL.isNon_lst, DL.isNon_ins, DL.isNon_non, DL.isNon_int, DL.isNon_str, DL.isNon_bl, DL.isNon_cell, DL.insOf_ins, DL.insOf_cell, h0', h0])).trans ?_
    refine (seq_if_f (c' := s1.c :: cs) (by simp [DL.seqS, DL.Res.seq, DL.setIxS, DL.setS, DL.exprS, DL.retS, DL.retN, DL.ifS, DL.nilS, DL.brkS, DL.cntS, DL.callB, DL.callM, DL.intF, DL.boolF, DL.consA, DL.nilA, DL.starA, DL.bin, DL.un1, DL.negP, DL.bnd, DL.Out.bnd, DL.Out.thenS, DL.opt, DL.varE, DL.litE, DL.setItem, DL.ret, DL.subP, DL.mulP, DL.modP, DL.fdivP, DL.powP, DL.intP, DL.geP, DL.leP, DL.gtP, DL.ltP, DL.eqP, DL.neP, DL.tstE, DL.boolE, DL.andT, DL.orT, DL.notT, DL.andE, DL.orE, DL.notE, DL.ifE, DL.chainE, DL.tupE, DL.lstE, DL.lstC, DL.isNP, DL.notNP, DL.runD, DL.Res.out, DL.startD, DL.itE, DL.itR, DL.rng2, DL.forS, DL.tgN, DL.tgT, DL.tgCons, DL.tgNil, DL.slE, DL.noO, DL.someO, DL.inP, DL.notInP, DL.wipeD, DL.endW, DL.turn, DL.item, DL.forX, DL.ownS, DL.szA, DL.appO, DL.coldS, DL.ownL, DL.revF, DL.allF, DL.anyF, L2.atI, L2.ixN, DL.eqB_int, DL.eqB_str, DL.eqB_bl, DL.eqB_non, DL.eqB_ni, DL.eqB_in, DL.eqB_ns, DL.eqB_sn, DL.eqB_is, DL.eqB_si, DL.rng1_nat, DL.rng1_int, DL.inB_str, DL.size_is, DL.seqOf_tup, DL.seqF_tup, DL.lenP_tup, DL.listG_tup, DL.listF_tup, DL.tupleF_tup, DL.ixP_tup, DL.truB_tup, DL.seqOf_lst, DL.seqF_lst, DL.lenP_lst, DL.listG_lst, DL.listF_lst, DL.tupleF_lst, DL.ixP_lst, DL.truB_lst, DL.seqOf_rol, DL.seqF_rol, DL.lenP_rol, DL.listG_rol, DL.listF_rol, DL.tupleF_rol, DL.ixP_rol, DL.truB_rol, DL.seqOf_cell, DL.lenP_cell, DL.listG_cell, DL.listF_cell, DL.tupleF_cell, DL.ixP_cell, DL.truB_cell, DL.rlistOf_lst, DL.rlistOf_rol, DL.rlistOf_cell, DL.listOf_lst, DL.listOf_cell, DL.lenP_str, DL.listG_str, DL.ixP_str, DL.truB_non, DL.truB_bl, DL.truB_int, DL.truB_str, DL.addP_int, DL.addP_str, DL.addP_tup, DL.addP_lst, DL.addP_lc, DL.addP_cl, DL.ltB_int, DL.ltB_str, DL.slL_str, DL.slL_tup, DL.slL_lst, DL.slL_rol, DL.slL_cell, DL.isNon_tup, DL.isNon_lst, DL.isNon_ins, DL.isNon_non, DL.isNon_int, DL.isNon_str, DL.isNon_bl, DL.isNon_cell, DL.insOf_ins, DL.insOf_cell, h1', h1])).trans ?_
    refine (seq_nx t2).trans ?_
    refine (seq_nx t3).trans ?_
    exact (seq_nx t4).trans hr
  by_cases hq1 : q = 1
  · rw [decide_eq_true hq1] at t5
    refine ⟨b', [.str "never"], (N : Nat), s6, run_rt rfl (main _ ?_), fl, never_flatT.1, sz, never_flatT.2 _⟩
    refine (seq_rt (d := .tup [.cell (cs.length + 1), .tup [.str "never"]]) (c' := s6.c :: (cs ++ [Cell.lst (b'.map D.tup)])) ((if_t t5).trans (ret_ok ?_))).trans rfl
    simp [DL.seqS, DL.Res.seq, DL.setIxS, DL.setS, DL.exprS, DL.retS, DL.retN, DL.ifS, DL.nilS, DL.brkS, DL.cntS, DL.callB, DL.callM, DL.intF, DL.boolF, DL.consA, DL.nilA, DL.starA, DL.bin, DL.un1, DL.negP, DL.bnd, DL.Out.bnd, DL.Out.thenS, DL.opt, DL.varE, DL.litE, DL.setItem, DL.ret, DL.subP, DL.mulP, DL.modP, DL.fdivP, DL.powP, DL.intP, DL.geP, DL.leP, DL.gtP, DL.ltP, DL.eqP, DL.neP, DL.tstE, DL.boolE, DL.andT, DL.orT, DL.notT, DL.andE, DL.orE, DL.notE, DL.ifE, DL.chainE, DL.tupE, DL.lstE, DL.lstC, DL.isNP, DL.notNP, DL.runD, DL.Res.out, DL.startD, DL.itE, DL.itR, DL.rng2, DL.forS, DL.tgN, DL.tgT, DL.tgCons, DL.tgNil, DL.slE, DL.noO, DL.someO, DL.inP, DL.notInP, DL.wipeD, DL.endW, DL.turn, DL.item, DL.forX, DL.ownS, DL.szA, DL.appO, DL.coldS, DL.ownL, DL.revF, DL.allF, DL.anyF, L2.atI, L2.ixN, DL.eqB_int, DL.eqB_str, DL.eqB_bl, DL.eqB_non, DL.eqB_ni, DL.eqB_in, DL.eqB_ns, DL.eqB_sn, DL.eqB_is, DL.eqB_si, DL.rng1_nat, DL.rng1_int, DL.inB_str, DL.size_is, DL.seqOf_tup, DL.seqF_tup, DL.lenP_tup, DL.listG_tup, DL.listF_tup, DL.tupleF_tup, DL.ixP_tup, DL.truB_tup, DL.seqOf_lst, DL.seqF_lst, DL.lenP_lst, DL.listG_lst, DL.listF_lst, DL.tupleF_lst, DL.ixP_lst, DL.truB_lst, DL.seqOf_rol, DL.seqF_rol, DL.lenP_rol, DL.listG_rol, DL.listF_rol, DL.tupleF_rol, DL.ixP_rol, DL.truB_rol, DL.seqOf_cell, DL.lenP_cell, DL.listG_cell, DL.listF_cell, DL.tupleF_cell, DL.ixP_cell, DL.truB_cell, DL.rlistOf_lst, DL.rlistOf_rol, DL.rlistOf_cell, DL.listOf_lst, DL.listOf_cell, DL.lenP_str, DL.listG_str, DL.ixP_str, DL.truB_non, DL.truB_bl, DL.truB_int, DL.truB_str, DL.addP_int, DL.addP_str, DL.addP_tup, DL.addP_lst, DL.addP_lc, DL.addP_cl, DL.ltB_int, DL.ltB_str, DL.slL_str, DL.slL_tup, DL.slL_lst, DL.slL_rol, DL.slL_cell, DL.isNon_tup, DL.isNon_lst, DL.isNon_ins, DL.isNon_non, DL.isNon_int, DL.isNon_str, DL.isNon_bl, DL.isNon_cell, DL.insOf_ins, DL.insOf_cell]
  · rw [decide_eq_false hq1] at t5
    obtain ⟨h, s7, e6, ha⟩ := atom_ok s6 hN1 hN4 (cs ++ [Cell.lst (b'.map D.tup)])
    refine ⟨b', h, (N : Nat), s7, run_rt rfl (main _ ?_), fl, ha.fl, sz, ha.is⟩
    refine (seq_if_f t5).trans (ret_ok ?_)
    simp [DL.seqS, DL.Res.seq, DL.setIxS, DL.setS, DL.exprS, DL.retS, DL.retN, DL.ifS, DL.nilS, DL.brkS, DL.cntS, DL.callB, DL.callM, DL.intF, DL.boolF, DL.consA, DL.nilA, DL.starA, DL.bin, DL.un1, DL.negP, DL.bnd, DL.Out.bnd, DL.Out.thenS, DL.opt, DL.varE, DL.litE, DL.setItem, DL.ret, DL.subP, DL.mulP, DL.modP, DL.fdivP, DL.powP, DL.intP, DL.geP, DL.leP, DL.gtP, DL.ltP, DL.eqP, DL.neP, DL.tstE, DL.boolE, DL.andT, DL.orT, DL.notT, DL.andE, DL.orE, DL.notE, DL.ifE, DL.chainE, DL.tupE, DL.lstE, DL.lstC, DL.isNP, DL.notNP, DL.runD, DL.Res.out, DL.startD, DL.itE, DL.itR, DL.rng2, DL.forS, DL.tgN, DL.tgT, DL.tgCons, DL.tgNil, DL.slE, DL.noO, DL.someO, DL.inP, DL.notInP, DL.wipeD, DL.endW, DL.turn, DL.item, DL.forX, DL.ownS, DL.szA, DL.appO, DL.coldS, DL.ownL, DL.revF, DL.allF, DL.anyF, L2.atI, L2.ixN, DL.eqB_int, DL.eqB_str, DL.eqB_bl, DL.eqB_non, DL.eqB_ni, DL.eqB_in, DL.eqB_ns, DL.eqB_sn, DL.eqB_is, DL.eqB_si, DL.rng1_nat, DL.rng1_int, DL.inB_str, DL.size_is, DL.seqOf_tup, DL.seqF_tup, DL.lenP_tup, DL.listG_tup, DL.listF_tup, DL.tupleF_tup, DL.ixP_tup, DL.truB_tup, DL.seqOf_lst, DL.seqF_lst, DL.lenP_lst, DL.listG_lst, DL.listF_lst, DL.tupleF_lst, DL.ixP_lst, DL.truB_lst, DL.seqOf_rol, DL.seqF_rol, DL.lenP_rol, DL.listG_rol, DL.listF_rol, DL.tupleF_rol, DL.ixP_rol, DL.truB_rol, DL.seqOf_cell, DL.lenP_cell, DL.listG_cell, DL.listF_cell, DL.tupleF_cell, DL.ixP_cell, DL.truB_cell, DL.rlistOf_lst, DL.rlistOf_rol, DL.rlistOf_cell, DL.listOf_lst, DL.listOf_cell, DL.lenP_str, DL.listG_str, DL.ixP_str, DL.truB_non, DL.truB_bl, DL.truB_int, DL.truB_str, DL.addP_int, DL.addP_str, DL.addP_tup, DL.addP_lst, DL.addP_lc, DL.addP_cl, DL.ltB_int, DL.ltB_str, DL.slL_str, DL.slL_tup, DL.slL_lst, DL.slL_rol, DL.slL_cell, DL.isNon_tup, DL.isNon_lst, DL.isNon_ins, DL.isNon_non, DL.isNon_int, DL.isNon_str, DL.isNon_bl, DL.isNon_cell, DL.insOf_ins, DL.insOf_cell, e6]
theorem shape_ok (s : DS) (cs : Cells) : ∃ (d : D) (b : List (List D)) (h : List D) (n : Int) (s' : DS) (cs' : Cells), m__law_shape [.cell 0, .int 4] (s.c :: cs) = .ok (.tup [d, .tup h]) (s'.c :: cs') ∧ (∀ k, Shows d (b.map D.tup) (k :: cs')) ∧ Shape b h n := by
  obtain ⟨mode, s1, hm, e0⟩ := draw_o s (n := 4) (by decide) (by decide)
  by_cases h0 : mode = 0
  · subst h0
    obtain ⟨k, s2, hk, e1⟩ := draw_o s1 (n := 18) (by decide) (by decide)
    obtain ⟨b, h, n, e, sh⟩ := shape0 (by omega) e0 e1 cs
    exact ⟨_, b, h, n, s2, cs, e, fun _ => .inl rfl, sh⟩
  · by_cases h1 : mode = 1
    · subst h1
      obtain ⟨b, h, n, s', e, sh⟩ := way_ok s1 cs
      have e0 := e0 cs
      refine ⟨_, b, h, n, s', cs, run_rt rfl ?_, fun _ => .inl rfl, sh⟩
      unfold b__law_shape
      refine (seq_nx (set_ok (d := .int 1) (c' := s1.c :: cs) (by simp [DL.seqS, DL.Res.seq, DL.setIxS, DL.setS, DL.exprS, DL.retS, DL.retN, DL.ifS, DL.nilS, DL.brkS, DL.cntS, DL.callB, DL.callM, DL.intF, DL.boolF, DL.consA, DL.nilA, DL.starA, DL.bin, DL.un1, DL.negP, DL.bnd, DL.Out.bnd, DL.Out.thenS, DL.opt, DL.varE, DL.litE, DL.setItem, DL.ret, DL.subP, DL.mulP, DL.modP, DL.fdivP, DL.powP, DL.intP, DL.geP, DL.leP, DL.gtP, DL.ltP, DL.eqP, DL.neP, DL.tstE, DL.boolE, DL.andT, DL.orT, DL.notT, DL.andE, DL.orE, DL.notE, DL.ifE, DL.chainE, DL.tupE, DL.lstE, DL.lstC, DL.isNP, DL.notNP, DL.runD, DL.Res.out, DL.startD, DL.itE, DL.itR, DL.rng2, DL.forS, DL.tgN, DL.tgT, DL.tgCons, DL.tgNil, DL.slE, DL.noO, DL.someO, DL.inP, DL.notInP, DL.wipeD, DL.endW, DL.turn, DL.item, DL.forX, DL.ownS, DL.szA, DL.appO, DL.coldS, DL.ownL, DL.revF, DL.allF, DL.anyF, L2.atI, L2.ixN, DL.eqB_int, DL.eqB_str, DL.eqB_bl, DL.eqB_non, DL.eqB_ni, DL.eqB_in, DL.eqB_ns, DL.eqB_sn, DL.eqB_is, DL.eqB_si, DL.rng1_nat, DL.rng1_int, DL.inB_str, DL.size_is, DL.seqOf_tup, DL.seqF_tup, DL.lenP_tup, DL.listG_tup, DL.listF_tup, DL.tupleF_tup, DL.ixP_tup, DL.truB_tup, DL.seqOf_lst, DL.seqF_lst, DL.lenP_lst, DL.listG_lst, DL.listF_lst, DL.tupleF_lst, DL.ixP_lst, DL.truB_lst, DL.seqOf_rol, DL.seqF_rol, DL.lenP_rol, DL.listG_rol, DL.listF_rol, DL.tupleF_rol, DL.ixP_rol, DL.truB_rol, DL.seqOf_cell, DL.lenP_cell, DL.listG_cell, DL.listF_cell, DL.tupleF_cell, DL.ixP_cell, DL.truB_cell, DL.rlistOf_lst, DL.rlistOf_rol, DL.rlistOf_cell, DL.listOf_lst, DL.listOf_cell, DL.lenP_str, DL.listG_str, DL.ixP_str, DL.truB_non, DL.truB_bl, DL.truB_int, DL.truB_str, DL.addP_int, DL.addP_str, DL.addP_tup, DL.addP_lst, DL.addP_lc, DL.addP_cl, DL.ltB_int, DL.ltB_str, DL.slL_str, DL.slL_tup, DL.slL_lst, DL.slL_rol, DL.slL_cell, DL.isNon_tup, DL.isNon_lst, DL.isNon_ins, DL.isNon_non, DL.isNon_int, DL.isNon_str, DL.isNon_bl, DL.isNon_cell, DL.insOf_ins, DL.insOf_cell, e0]))).trans ?_
      refine (seq_if_f (c' := s1.c :: cs) (by simp [DL.seqS, DL.Res.seq, DL.setIxS, DL.setS, DL.exprS, DL.retS, DL.retN, DL.ifS, DL.nilS, DL.brkS, DL.cntS, DL.callB, DL.callM, DL.intF, DL.boolF, DL.consA, DL.nilA, DL.starA, DL.bin, DL.un1, DL.negP, DL.bnd, DL.Out.bnd, DL.Out.thenS, DL.opt, DL.varE, DL.litE, DL.setItem, DL.ret, DL.subP, DL.mulP, DL.modP, DL.fdivP, DL.powP, DL.intP, DL.geP, DL.leP, DL.gtP, DL.ltP, DL.eqP, DL.neP, DL.tstE, DL.boolE, DL.andT, DL.orT, DL.notT, DL.andE, DL.orE, DL.notE, DL.ifE, DL.chainE, DL.tupE, DL.lstE, DL.lstC, DL.isNP, DL.notNP, DL.runD, DL.Res.out, DL.startD, DL.itE, DL.itR, DL.rng2, DL.forS, DL.tgN, DL.tgT, DL.tgCons, DL.tgNil, DL.slE, DL.noO, DL.someO, DL.inP, DL.notInP, DL.wipeD, DL.endW, DL.turn, DL.item, DL.forX, DL.ownS, DL.szA, DL.appO, DL.coldS, DL.ownL, DL.revF, DL.allF, DL.anyF, L2.atI, L2.ixN, DL.eqB_int, DL.eqB_str, DL.eqB_bl, DL.eqB_non, DL.eqB_ni, DL.eqB_in, DL.eqB_ns, DL.eqB_sn, DL.eqB_is, DL.eqB_si, DL.rng1_nat, DL.rng1_int, DL.inB_str, DL.size_is, DL.seqOf_tup, DL.seqF_tup, DL.lenP_tup, DL.listG_tup, DL.listF_tup, DL.tupleF_tup, DL.ixP_tup, DL.truB_tup, DL.seqOf_lst, DL.seqF_lst, DL.lenP_lst, DL.listG_lst, DL.listF_lst, DL.tupleF_lst, DL.ixP_lst, DL.truB_lst, DL.seqOf_rol, DL.seqF_rol, DL.lenP_rol, DL.listG_rol, DL.listF_rol, DL.tupleF_rol, DL.ixP_rol, DL.truB_rol, DL.seqOf_cell, DL.lenP_cell, DL.listG_cell, DL.listF_cell, DL.tupleF_cell, DL.ixP_cell, DL.truB_cell, DL.rlistOf_lst, DL.rlistOf_rol, DL.rlistOf_cell, DL.listOf_lst, DL.listOf_cell, DL.lenP_str, DL.listG_str, DL.ixP_str, DL.truB_non, DL.truB_bl, DL.truB_int, DL.truB_str, DL.addP_int, DL.addP_str, DL.addP_tup, DL.addP_lst, DL.addP_lc, DL.addP_cl, DL.ltB_int, DL.ltB_str, DL.slL_str, DL.slL_tup, DL.slL_lst, DL.slL_rol, DL.slL_cell, DL.isNon_tup, DL.isNon_lst, DL.isNon_ins, DL.isNon_non, DL.isNon_int, DL.isNon_str, DL.isNon_bl, DL.isNon_cell, DL.insOf_ins, DL.insOf_cell])).trans ?_
      refine (seq_rt ((if_t (c' := s1.c :: cs) (by simp [DL.seqS, DL.Res.seq, DL.setIxS, DL.setS, DL.exprS, DL.retS, DL.retN, DL.ifS, DL.nilS, DL.brkS, DL.cntS, DL.callB, DL.callM, DL.intF, DL.boolF, DL.consA, DL.nilA, DL.starA, DL.bin, DL.un1, DL.negP, DL.bnd, DL.Out.bnd, DL.Out.thenS, DL.opt, DL.varE, DL.litE, DL.setItem, DL.ret, DL.subP, DL.mulP, DL.modP, DL.fdivP, DL.powP, DL.intP, DL.geP, DL.leP, DL.gtP, DL.ltP, DL.eqP, DL.neP, DL.tstE, DL.boolE, DL.andT, DL.orT, DL.notT, DL.andE, DL.orE, DL.notE, DL.ifE, DL.chainE, DL.tupE, DL.lstE, DL.lstC, DL.isNP, DL.notNP, DL.runD, DL.Res.out, DL.startD, DL.itE, DL.itR, DL.rng2, DL.forS, DL.tgN, DL.tgT, DL.tgCons, DL.tgNil, DL.slE, DL.noO, DL.someO, DL.inP, DL.notInP, DL.wipeD, DL.endW, DL.turn, DL.item, DL.forX, DL.ownS, DL.szA, DL.appO, DL.coldS, DL.ownL, DL.revF, DL.allF, DL.anyF, L2.atI, L2.ixN, DL.eqB_int, DL.eqB_str, DL.eqB_bl, DL.eqB_non, DL.eqB_ni, DL.eqB_in, DL.eqB_ns, DL.eqB_sn, DL.eqB_is, DL.eqB_si, DL.rng1_nat, DL.rng1_int, DL.inB_str, DL.size_is, DL.seqOf_tup, DL.seqF_tup, DL.lenP_tup, DL.listG_tup, DL.listF_tup, DL.tupleF_tup, DL.ixP_tup, DL.truB_tup, DL.seqOf_lst, DL.seqF_lst, DL.lenP_lst, DL.listG_lst, DL.listF_lst, DL.tupleF_lst, DL.ixP_lst, DL.truB_lst, DL.seqOf_rol, DL.seqF_rol, DL.lenP_rol, DL.listG_rol, DL.listF_rol, DL.tupleF_rol, DL.ixP_rol, DL.truB_rol, DL.seqOf_cell, DL.lenP_cell, DL.listG_cell, DL.listF_cell, DL.tupleF_cell, DL.ixP_cell, DL.truB_cell, DL.rlistOf_lst, DL.rlistOf_rol, DL.rlistOf_cell, DL.listOf_lst, DL.listOf_cell, DL.lenP_str, DL.listG_str, DL.ixP_str, DL.truB_non, DL.truB_bl, DL.truB_int, DL.truB_str, DL.addP_int, DL.addP_str, DL.addP_tup, DL.addP_lst, DL.addP_lc, DL.addP_cl, DL.ltB_int, DL.ltB_str, DL.slL_str, DL.slL_tup, DL.slL_lst, DL.slL_rol, DL.slL_cell, DL.isNon_tup, DL.isNon_lst, DL.isNon_ins, DL.isNon_non, DL.isNon_int, DL.isNon_str, DL.isNon_bl, DL.isNon_cell, DL.insOf_ins, DL.insOf_cell])).trans (ret_ok (d := .tup [.lst (b.map D.tup), .tup h]) (c' := s'.c :: cs) ?_))).trans rfl
      simp [DL.seqS, DL.Res.seq, DL.setIxS, DL.setS, DL.exprS, DL.retS, DL.retN, DL.ifS, DL.nilS, DL.brkS, DL.cntS, DL.callB, DL.callM, DL.intF, DL.boolF, DL.consA, DL.nilA, DL.starA, DL.bin, DL.un1, DL.negP, DL.bnd, DL.Out.bnd, DL.Out.thenS, DL.opt, DL.varE, DL.litE, DL.setItem, DL.ret, DL.subP, DL.mulP, DL.modP, DL.fdivP, DL.powP, DL.intP, DL.geP, DL.leP, DL.gtP, DL.ltP, DL.eqP, DL.neP, DL.tstE, DL.boolE, DL.andT, DL.orT, DL.notT, DL.andE, DL.orE, DL.notE, DL.ifE, DL.chainE, DL.tupE, DL.lstE, DL.lstC, DL.isNP, DL.notNP, DL.runD, DL.Res.out, DL.startD, DL.itE, DL.itR, DL.rng2, DL.forS, DL.tgN, DL.tgT, DL.tgCons, DL.tgNil, DL.slE, DL.noO, DL.someO, DL.inP, DL.notInP, DL.wipeD, DL.endW, DL.turn, DL.item, DL.forX, DL.ownS, DL.szA, DL.appO, DL.coldS, DL.ownL, DL.revF, DL.allF, DL.anyF, L2.atI, L2.ixN, DL.eqB_int, DL.eqB_str, DL.eqB_bl, DL.eqB_non, DL.eqB_ni, DL.eqB_in, DL.eqB_ns, DL.eqB_sn, DL.eqB_is, DL.eqB_si, DL.rng1_nat, DL.rng1_int, DL.inB_str, DL.size_is, DL.seqOf_tup, DL.seqF_tup, DL.lenP_tup, DL.listG_tup, DL.listF_tup, DL.tupleF_tup, DL.ixP_tup, DL.truB_tup, DL.seqOf_lst, DL.seqF_lst, DL.lenP_lst, DL.listG_lst, DL.listF_lst, DL.tupleF_lst, DL.ixP_lst, DL.truB_lst, DL.seqOf_rol, DL.seqF_rol, DL.lenP_rol, DL.listG_rol, DL.listF_rol, DL.tupleF_rol, DL.ixP_rol, DL.truB_rol, DL.seqOf_cell, DL.lenP_cell, DL.listG_cell, DL.listF_cell, DL.tupleF_cell, DL.ixP_cell, DL.truB_cell, DL.rlistOf_lst, DL.rlistOf_rol, DL.rlistOf_cell, DL.listOf_lst, DL.listOf_cell, DL.lenP_str, DL.listG_str, DL.ixP_str, DL.truB_non, DL.truB_bl, DL.truB_int, DL.truB_str, DL.addP_int, DL.addP_str, DL.addP_tup, DL.addP_lst, DL.addP_lc, DL.addP_cl, DL.ltB_int, DL.ltB_str, DL.slL_str, DL.slL_tup, DL.slL_lst, DL.slL_rol, DL.slL_cell, DL.isNon_tup, DL.isNon_lst, DL.isNon_ins, DL.isNon_non, DL.isNon_int, DL.isNon_str, DL.isNon_bl, DL.isNon_cell, DL.insOf_ins, DL.insOf_cell, e]
    · obtain ⟨b, h, n, s', e, sh⟩ := shape2 h0 h1 e0 cs
      exact ⟨_, b, h, n, s', _, e, fun _ => .inr (.inr ⟨_, rfl, by simp⟩), sh⟩
def fullB (n : Nat) : List (List D) := (List.range n).map fun (i : Nat) => [.str "W", .int i]
theorem rangeD0 (n : Nat) : rangeD 0 n = (List.range n).map fun (i : Nat) => D.int i := by simp [rangeD]
/-- the bound told by a law, so that no kernel step looks at it -/
theorem itR_1 {ms : Ev' → M (List D)} {δ : Ev'} {c c' : Cells} {z : Int} {xs : List D} (h1 : ms δ c = .ok [.int z] c') (h2 : rng1 [.int z] = some xs) : itR rng1 ms δ c = .ok xs c' := by simp [itR, bnd, h1, Out.bnd, h2, opt]
theorem full_eq {t : Nat} (h : t ≤ 4) {c : Cells} : m__law_full [.int t] c = .ok (.lst ((fullB (t + 1)).map D.tup)) c := by
  have er : rng1 [.int ((t : Int) + 1)] = some (rangeD 0 (t + 1)) := by
    have := rng1_nat (n := t + 1) (by omega)
    rw [← this]; simp
  refine run_rt rfl (ret_ok ?_)
  have : ((fullB (t + 1)).map D.tup) = (List.range (t + 1)).map fun (i : Nat) => D.tup [.str "W", .int i] := by rw [fullB, List.map_map]; rfl
  rw [this]
  refine lcE_all (enc := fun (i : Nat) => .int i) (c1 := c) ?_ fun i hi => ?_
  · rw [← rangeD0]
    exact itR_1 (by simp [DL.seqS, DL.Res.seq, DL.setIxS, DL.setS, DL.exprS, DL.retS, DL.retN, DL.ifS, DL.nilS, DL.brkS, DL.cntS, DL.callB, DL.callM, DL.intF, DL.boolF, DL.consA, DL.nilA, DL.starA, DL.bin, DL.un1, DL.negP, DL.bnd, DL.Out.bnd, DL.Out.thenS, DL.opt, DL.varE, DL.litE, DL.setItem, DL.ret, DL.subP, DL.mulP, DL.modP, DL.fdivP, DL.powP, DL.intP, DL.geP, DL.leP, DL.gtP, DL.ltP, DL.eqP, DL.neP, DL.tstE, DL.boolE, DL.andT, DL.orT, DL.notT, DL.andE, DL.orE, DL.notE, DL.ifE, DL.chainE, DL.tupE, DL.lstE, DL.lstC, DL.isNP, DL.notNP, DL.runD, DL.Res.out, DL.startD, DL.itE, DL.itR, DL.rng2, DL.forS, DL.tgN, DL.tgT, DL.tgCons, DL.tgNil, DL.slE, DL.noO, DL.someO, DL.inP, DL.notInP, DL.wipeD, DL.endW, DL.turn, DL.item, DL.forX, DL.ownS, DL.szA, DL.appO, DL.coldS, DL.ownL, DL.revF, DL.allF, DL.anyF, L2.atI, L2.ixN, DL.eqB_int, DL.eqB_str, DL.eqB_bl, DL.eqB_non, DL.eqB_ni, DL.eqB_in, DL.eqB_ns, DL.eqB_sn, DL.eqB_is, DL.eqB_si, DL.rng1_nat, DL.rng1_int, DL.inB_str, DL.size_is, DL.seqOf_tup, DL.seqF_tup, DL.lenP_tup, DL.listG_tup, DL.listF_tup, DL.tupleF_tup, DL.ixP_tup, DL.truB_tup, DL.seqOf_lst, DL.seqF_lst, DL.lenP_lst, DL.listG_lst, DL.listF_lst, DL.tupleF_lst, DL.ixP_lst, DL.truB_lst, DL.seqOf_rol, DL.seqF_rol, DL.lenP_rol, DL.listG_rol, DL.listF_rol, DL.tupleF_rol, DL.ixP_rol, DL.truB_rol, DL.seqOf_cell, DL.lenP_cell, DL.listG_cell, DL.listF_cell, DL.tupleF_cell, DL.ixP_cell, DL.truB_cell, DL.rlistOf_lst, DL.rlistOf_rol, DL.rlistOf_cell, DL.listOf_lst, DL.listOf_cell, DL.lenP_str, DL.listG_str, DL.ixP_str, DL.truB_non, DL.truB_bl, DL.truB_int, DL.truB_str, DL.addP_int, DL.addP_str, DL.addP_tup, DL.addP_lst, DL.addP_lc, DL.addP_cl, DL.ltB_int, DL.ltB_str, DL.slL_str, DL.slL_tup, DL.slL_lst, DL.slL_rol, DL.slL_cell, DL.isNon_tup, DL.isNon_lst, DL.isNon_ins, DL.isNon_non, DL.isNon_int, DL.isNon_str, DL.isNon_bl, DL.isNon_cell, DL.insOf_ins, DL.insOf_cell]) er
  · simp [item, yesT, DL.seqS, DL.Res.seq, DL.setIxS, DL.setS, DL.exprS, DL.retS, DL.retN, DL.ifS, DL.nilS, DL.brkS, DL.cntS, DL.callB, DL.callM, DL.intF, DL.boolF, DL.consA, DL.nilA, DL.starA, DL.bin, DL.un1, DL.negP, DL.bnd, DL.Out.bnd, DL.Out.thenS, DL.opt, DL.varE, DL.litE, DL.setItem, DL.ret, DL.subP, DL.mulP, DL.modP, DL.fdivP, DL.powP, DL.intP, DL.geP, DL.leP, DL.gtP, DL.ltP, DL.eqP, DL.neP, DL.tstE, DL.boolE, DL.andT, DL.orT, DL.notT, DL.andE, DL.orE, DL.notE, DL.ifE, DL.chainE, DL.tupE, DL.lstE, DL.lstC, DL.isNP, DL.notNP, DL.runD, DL.Res.out, DL.startD, DL.itE, DL.itR, DL.rng2, DL.forS, DL.tgN, DL.tgT, DL.tgCons, DL.tgNil, DL.slE, DL.noO, DL.someO, DL.inP, DL.notInP, DL.wipeD, DL.endW, DL.turn, DL.item, DL.forX, DL.ownS, DL.szA, DL.appO, DL.coldS, DL.ownL, DL.revF, DL.allF, DL.anyF, L2.atI, L2.ixN, DL.eqB_int, DL.eqB_str, DL.eqB_bl, DL.eqB_non, DL.eqB_ni, DL.eqB_in, DL.eqB_ns, DL.eqB_sn, DL.eqB_is, DL.eqB_si, DL.rng1_nat, DL.rng1_int, DL.inB_str, DL.size_is, DL.seqOf_tup, DL.seqF_tup, DL.lenP_tup, DL.listG_tup, DL.listF_tup, DL.tupleF_tup, DL.ixP_tup, DL.truB_tup, DL.seqOf_lst, DL.seqF_lst, DL.lenP_lst, DL.listG_lst, DL.listF_lst, DL.tupleF_lst, DL.ixP_lst, DL.truB_lst, DL.seqOf_rol, DL.seqF_rol, DL.lenP_rol, DL.listG_rol, DL.listF_rol, DL.tupleF_rol, DL.ixP_rol, DL.truB_rol, DL.seqOf_cell, DL.lenP_cell, DL.listG_cell, DL.listF_cell, DL.tupleF_cell, DL.ixP_cell, DL.truB_cell, DL.rlistOf_lst, DL.rlistOf_rol, DL.rlistOf_cell, DL.listOf_lst, DL.listOf_cell, DL.lenP_str, DL.listG_str, DL.ixP_str, DL.truB_non, DL.truB_bl, DL.truB_int, DL.truB_str, DL.addP_int, DL.addP_str, DL.addP_tup, DL.addP_lst, DL.addP_lc, DL.addP_cl, DL.ltB_int, DL.ltB_str, DL.slL_str, DL.slL_tup, DL.slL_lst, DL.slL_rol, DL.slL_cell, DL.isNon_tup, DL.isNon_lst, DL.isNon_ins, DL.isNon_non, DL.isNon_int, DL.isNon_str, DL.isNon_bl, DL.isNon_cell, DL.insOf_ins, DL.insOf_cell]
theorem full_flat (n : Nat) : ∀ a ∈ fullB n, flatT (.tup a) = true := fun a ha => by
  obtain ⟨i, _, rfl⟩ := List.mem_map.mp ha
  exact flat2 wr_mark.2.2.1
theorem full_len (n : Nat) : (fullB n).length = n := by simp [fullB]
theorem full_plcs (n : Nat) : plcs (fullB n) = (List.range n).map fun (i : Nat) => (i : Int) := by
  simp only [fullB, plcs, List.flatMap_map]
  show (List.range n).flatMap (fun (i : Nat) => [(i : Int)]) = _
  exact (List.map_eq_flatMap).symm
theorem full_size {t : Nat} (h : t ≤ 3) : sizeB (fullB (t + 1)) = some ((t + 1 : Nat) : Int) := by
  refine sizeB_of (by rw [full_len]; omega) (by rw [full_len]; omega) (List.all_eq_true.mpr fun a ha => ?_) (by omega) (fun i hi => ?_) fun x hx => ?_
  · obtain ⟨i, hi, rfl⟩ := List.mem_map.mp ha
    have := List.mem_range.mp hi
    simp [L26.atomB, neverB, isA, wr_mark.1, placeB]
    omega
  · rw [full_plcs] at hi
    obtain ⟨j, hj, rfl⟩ := List.mem_map.mp hi
    have := List.mem_range.mp hj
    omega
  · rw [full_plcs]
    exact List.mem_map.mpr ⟨x, List.mem_range.mpr hx, rfl⟩
theorem sizeB_inv {b : List (List D)} {n : Int} (hs : sizeB b = some n) : ∃ N : Nat, n = N ∧ 1 ≤ N ∧ N ≤ 4 ∧ (∀ i ∈ plcs b, i < N) ∧ ∀ x : Nat, x < N → (x : Int) ∈ plcs b := by
  obtain ⟨h1, h2, h3, h4⟩ := sizeB_some hs
  have hin : ((List.range (1 + maxI (plcs b)).toNat).all fun x => (plcs b).contains (x : Int)) = true := by
    unfold sizeB at hs
    rw [if_pos ⟨h1, h2, h3⟩] at hs
    split at hs
    · assumption
    · cases hs
  have p2 := (plcs_flat h3).2
  have m := maxI_lo p2
  refine ⟨n.toNat, by omega, by omega, by omega, fun i hi => ?_, fun x hx => ?_⟩
  · have : i ≤ maxI (plcs b) := by
      cases hp : plcs b with
      | nil => rw [hp] at hi; cases hi
      | cons j is =>
        rw [hp] at hi
        obtain ⟨g1, g2⟩ := foldl_max_ge is j
        rcases List.mem_cons.mp hi with rfl | hi
        · exact g1
        · exact g2 _ hi
    omega
  · have := List.all_eq_true.mp hin x (List.mem_range.mpr (by omega))
    simpa using this
theorem sizeB_like {b b' : List (List D)} {n : Int} (hs : sizeB b = some n) (h1 : 1 ≤ b'.length) (h2 : b'.length ≤ 8) (h : ∀ a, a ∈ b' ↔ a ∈ b) : sizeB b' = some n := by
  obtain ⟨N, rfl, g1, g2, g3, g4⟩ := sizeB_inv hs
  obtain ⟨_, _, h3, _⟩ := sizeB_some hs
  have hp : ∀ i, i ∈ plcs b' ↔ i ∈ plcs b := fun i => by simp only [plcs, List.mem_flatMap, h]
  exact sizeB_of h1 h2 (List.all_eq_true.mpr fun a ha => List.all_eq_true.mp h3 a ((h a).mp ha)) g1 (fun i hi => g3 i ((hp i).mp hi)) fun x hx => (hp x).mpr (g4 x hx)
/-- n times the list, cut to n -/
def rep {α : Type} (n : Nat) (b : List α) : List α := (List.replicate n b).flatten.take n
theorem rep_len {α : Type} {n : Nat} {b : List α} (h : 1 ≤ b.length) : (rep n b).length = n := by
  unfold rep
  rw [List.length_take, List.length_flatten]
  have : n ≤ ((List.replicate n b).map List.length).sum := by
    rw [List.map_replicate, List.sum_replicate_nat]
    exact Nat.le_mul_of_pos_right _ h
  omega
theorem rep_sub {α : Type} {n : Nat} {b : List α} {a : α} (h : a ∈ rep n b) : a ∈ b := by
  have := List.mem_of_mem_take h
  obtain ⟨l, hl, ha⟩ := List.mem_flatten.mp this
  rw [List.eq_of_mem_replicate hl] at ha
  exact ha
theorem rep_mem {α : Type} {n : Nat} {b : List α} (h : b.length ≤ n) (hn : 1 ≤ n) {a : α} : a ∈ rep n b ↔ a ∈ b := by
  refine ⟨rep_sub, fun ha => ?_⟩
  obtain ⟨m, rfl⟩ : ∃ m, n = m + 1 := ⟨n - 1, by omega⟩
  unfold rep
  rw [List.replicate_succ, List.flatten_cons, List.take_append]
  rw [List.take_of_length_le h]
  exact List.mem_append_left _ ha
theorem rep_map {α β : Type} (f : α → β) (n : Nat) (b : List α) : (rep n b).map f = ((List.replicate n (b.map f)).flatten).take n := by
  unfold rep
  rw [List.map_take, List.map_flatten, List.map_replicate]
theorem rep_D {b : List (List D)} (n m : Nat) : ((List.replicate n (b.map D.tup)).flatten).take m = (((List.replicate n b).flatten).take m).map D.tup := by
  rw [List.map_take, List.map_flatten, List.map_replicate]
theorem rep_low {n : Nat} {l : List Nat} (h : nameB l = true) (hn : 1 ≤ n) (h12 : n ≤ 12) : nameB (rep n l) = true := by
  simp only [nameB, Bool.and_eq_true, decide_eq_true_eq, List.all_eq_true] at h
  obtain ⟨h1, h2, h3⟩ := h
  refine nameB_of (by rw [rep_len h1]; omega) (by rw [rep_len h1]; omega) fun x hx => h3 x (rep_sub hx)
theorem mulS {l : List Nat} {n : Nat} (hl : l.length ≤ 12) (hn : n ≤ 13) {c : Cells} : mulG (.str (S l)) (.int n) c = some (.str (S (List.replicate n l).flatten)) := by
  simp only [mulG]
  rw [if_pos, repS_S]
  have z : l.length * n ≤ 12 * 13 := Nat.mul_le_mul hl hn
  refine ⟨?_, ?_, ?_⟩
  · exact Int.lt_of_lt_of_le (by decide) (Int.natCast_nonneg n)
  · have : (n : Int) < 100 := by omega
    exact Int.lt_trans this (by decide)
  · rw [S_len, size_is, Int.toNat_natCast]
    omega
theorem mulS12 {l : List Nat} (hl : l.length ≤ 12) {c : Cells} : mulG (.str (S l)) (.int 12) c = some (.str (S (List.replicate 12 l).flatten)) := mulS (n := 12) hl (by decide)
theorem mulL {xs : List D} {n : Nat} (hl : xs.length ≤ 8) (hn : n ≤ 13) {c : Cells} : mulG (.lst xs) (.int n) c = some (.lst (List.replicate n xs).flatten) := by
  simp only [mulG]
  have z : xs.length * n ≤ 8 * 13 := Nat.mul_le_mul hl hn
  rw [if_pos, Int.toNat_natCast]
  refine ⟨?_, ?_, ?_⟩
  · exact Int.lt_of_lt_of_le (by decide) (Int.natCast_nonneg n)
  · have : (n : Int) < 100 := by omega
    exact Int.lt_trans this (by decide)
  · rw [size_is, Int.toNat_natCast]
    omega
theorem mulL8 {xs : List D} (hl : xs.length ≤ 8) {c : Cells} : mulG (.lst xs) (.int 8) c = some (.lst (List.replicate 8 xs).flatten) := mulL (n := 8) hl (by decide)
section
variable {m : EM} {ms : Ev' → M (List D)} {δ : Ev'} {c c' c'' : Cells} {d : D} {ds : List D}
theorem cons_ok (h1 : m δ c = .ok d c') (h2 : ms δ c' = .ok ds c'') : consA m ms δ c = .ok (d :: ds) c'' := by simp [consA, bnd, h1, Out.bnd, h2, DL.ret]
theorem cons_p (h1 : m δ c = .ok d c) (h2 : ms δ c = .ok ds c) : consA m ms δ c = .ok (d :: ds) c := cons_ok h1 h2
theorem tup_ok (h : ms δ c = .ok ds c') (hl : ds.length ≤ 16777216) : tupE ms δ c = .ok (.tup ds) c' := by simp [tupE, bnd, h, Out.bnd, size_is, hl]
theorem lst_ok (h : ms δ c = .ok ds c') (hl : ds.length ≤ 16777216) : lstE ms δ c = .ok (.lst ds) c' := by simp [lstE, bnd, h, Out.bnd, size_is, hl]
theorem var_ok {i : Nat} (h : δ[i]? = some (.sh d)) : varE i δ c = .ok d c := by simp [varE, h]
theorem lit_ok : litE d δ c = .ok d c := rfl
theorem nilA_ok : nilA δ c = .ok [] c := rfl
theorem callM_ok {f : List D → M D} (h1 : ms δ c = .ok ds c') (h2 : f ds c' = .ok d c'') : callM f ms δ c = .ok d c'' := by simp [callM, bnd, h1, Out.bnd, h2]
theorem callB_ok {f : List D → Cells → Option D} (h1 : ms δ c = .ok ds c') (h2 : f ds c' = some d) : callB f ms δ c = .ok d c' := by simp [callB, bnd, h1, Out.bnd, h2, opt]
end
abbrev Tri := List Nat × List (List D) × List D
def tenc (g : Tri) : D := .tup [.str (S g.1), .lst (g.2.1.map D.tup), .tup g.2.2]
def goods (l l' : List Nat) (b : List (List D)) (h : List D) (t : Nat) : List Tri := [
  (l, b, h), (l', b, h), (rep 12 l, b, h), ([122], b, [.str "never"]), (l, rep 8 b, h), (l, fullB (t + 1), [.str "ar", .int t, .int 0]),
  (l, fullB (t + 1), [.str "R", .int t]), (l, fullB (t + 1), [.str "never"]), (l, [[.str "si", .int 0, .int 1]], [.str "Z", .int 1]), (l, [[.str "B", .int 0]], [.str "B", .int 0])]
theorem good_q1 {l l' : List Nat} {b : List (List D)} {h : List D} {t : Nat} (hl : l.length ≤ 12) {c : Cells} : (slE (bin mulG (varE 4) (litE (.int 12))) (noO) (someO (litE (.int 12)))) [.sh (.lst [.str (S l), .str (S l')]), .sh (.lst (b.map D.tup)), .sh (.tup h), .sh (.int t), .sh (.str (S l))] c = .ok (.str (S (rep 12 l))) c := by
  have m1 : (bin mulG (varE 4) (litE (.int 12))) [.sh (.lst [.str (S l), .str (S l')]), .sh (.lst (b.map D.tup)), .sh (.tup h), .sh (.int t), .sh (.str (S l))] c = .ok (.str (S (List.replicate 12 l).flatten)) c := bin_ok rfl rfl (mulS12 hl)
  have c1 := cutS_to (List.replicate 12 l).flatten (i := 12) 12 rfl
  have z : (S (List.replicate 12 l).flatten).length ≤ 16777216 := by
    rw [S_len, List.length_flatten, List.map_replicate, List.sum_replicate_nat]; omega
  generalize bin mulG (varE 4) (litE (.int 12)) = X at *
  simp only [slE, noO, someO, litE, bnd, m1, Out.bnd, DL.ret, intP, slL_str, size_is, if_pos z, opt, c1, rep]
theorem good_q2 {l l' : List Nat} {b : List (List D)} {h : List D} {t : Nat} (hb : b.length ≤ 8) {c : Cells} : (slE (bin mulG (varE 1) (litE (.int 8))) (noO) (someO (litE (.int 8)))) [.sh (.lst [.str (S l), .str (S l')]), .sh (.lst (b.map D.tup)), .sh (.tup h), .sh (.int t), .sh (.str (S l))] c = .ok (.lst ((rep 8 b).map D.tup)) c := by
  have m1 : (bin mulG (varE 1) (litE (.int 8))) [.sh (.lst [.str (S l), .str (S l')]), .sh (.lst (b.map D.tup)), .sh (.tup h), .sh (.int t), .sh (.str (S l))] c = .ok (.lst (List.replicate 8 (b.map D.tup)).flatten) c := bin_ok rfl rfl (mulL8 (by simpa using hb))
  have c2 := cut_to (xs := (List.replicate 8 (b.map D.tup)).flatten) (i := 8) 8 rfl
  rw [← rep_map] at c2
  generalize bin mulG (varE 1) (litE (.int 8)) = X at *
  simp only [slE, noO, someO, litE, bnd, m1, Out.bnd, DL.ret, intP, slL_lst, opt, c2]
theorem good_eq {l l' : List Nat} {b : List (List D)} {h : List D} {t : Nat} (hl : l.length ≤ 12) (hb : b.length ≤ 8) (ht : t ≤ 4) {c : Cells} :
    m__law_good [.lst [.str (S l), .str (S l')], .lst (b.map D.tup), .tup h, .int t] c = .ok (.lst ((goods l l' b h t).map tenc)) c := by
  have f := full_eq (c := c) ht
  have q1 := good_q1 (l' := l') (b := b) (h := h) (t := t) (c := c) hl
  have q2 := good_q2 (l := l) (l' := l') (h := h) (t := t) (c := c) hb
  have hz : (.str "z" : D) = .str (S [122]) := congrArg D.str (by decide +kernel)
  have hF : (fullB (t + 1)).map D.tup = (fullB (t + 1)).map D.tup := rfl
  have fin : (goods l l' b h t).map tenc = [.tup [.str (S l), .lst (b.map D.tup), .tup h], .tup [.str (S l'), .lst (b.map D.tup), .tup h], .tup [.str (S (rep 12 l)), .lst (b.map D.tup), .tup h], .tup [.str "z", .lst (b.map D.tup), .tup [.str "never"]], .tup [.str (S l), .lst ((rep 8 b).map D.tup), .tup h],
      .tup [.str (S l), .lst ((fullB (t + 1)).map D.tup), .tup [.str "ar", .int t, .int 0]], .tup [.str (S l), .lst ((fullB (t + 1)).map D.tup), .tup [.str "R", .int t]], .tup [.str (S l), .lst ((fullB (t + 1)).map D.tup), .tup [.str "never"]],
      .tup [.str (S l), .lst [.tup [.str "si", .int 0, .int 1]], .tup [.str "Z", .int 1]], .tup [.str (S l), .lst [.tup [.str "B", .int 0]], .tup [.str "B", .int 0]]] := by
    rw [hz]; rfl
  rw [fin]
  generalize (fullB (t + 1)).map D.tup = F at *
  generalize (rep 8 b).map D.tup = R8 at *
  generalize S (rep 12 l) = R12 at *
  generalize b.map D.tup = B at *
  clear fin hz hF
  refine run_rt rfl ?_
  unfold b__law_good
  refine (seq_nx (set_ok (d := .str (S l)) (c' := c) (by simp [DL.seqS, DL.Res.seq, DL.setIxS, DL.setS, DL.exprS, DL.retS, DL.retN, DL.ifS, DL.nilS, DL.brkS, DL.cntS, DL.callB, DL.callM, DL.intF, DL.boolF, DL.consA, DL.nilA, DL.starA, DL.bin, DL.un1, DL.negP, DL.bnd, DL.Out.bnd, DL.Out.thenS, DL.opt, DL.varE, DL.litE, DL.setItem, DL.ret, DL.subP, DL.mulP, DL.modP, DL.fdivP, DL.powP, DL.intP, DL.geP, DL.leP, DL.gtP, DL.ltP, DL.eqP, DL.neP, DL.tstE, DL.boolE, DL.andT, DL.orT, DL.notT, DL.andE, DL.orE, DL.notE, DL.ifE, DL.chainE, DL.tupE, DL.lstE, DL.lstC, DL.isNP, DL.notNP, DL.runD, DL.Res.out, DL.startD, DL.itE, DL.itR, DL.rng2, DL.forS, DL.tgN, DL.tgT, DL.tgCons, DL.tgNil, DL.slE, DL.noO, DL.someO, DL.inP, DL.notInP, DL.wipeD, DL.endW, DL.turn, DL.item, DL.forX, DL.ownS, DL.szA, DL.appO, DL.coldS, DL.ownL, DL.revF, DL.allF, DL.anyF, L2.atI, L2.ixN, DL.eqB_int, DL.eqB_str, DL.eqB_bl, DL.eqB_non, DL.eqB_ni, DL.eqB_in, DL.eqB_ns, DL.eqB_sn, DL.eqB_is, DL.eqB_si, DL.rng1_nat, DL.rng1_int, DL.inB_str, DL.size_is, DL.seqOf_tup, DL.seqF_tup, DL.lenP_tup, DL.listG_tup, DL.listF_tup, DL.tupleF_tup, DL.ixP_tup, DL.truB_tup, DL.seqOf_lst, DL.seqF_lst, DL.lenP_lst, DL.listG_lst, DL.listF_lst, DL.tupleF_lst, DL.ixP_lst, DL.truB_lst, DL.seqOf_rol, DL.seqF_rol, DL.lenP_rol, DL.listG_rol, DL.listF_rol, DL.tupleF_rol, DL.ixP_rol, DL.truB_rol, DL.seqOf_cell, DL.lenP_cell, DL.listG_cell, DL.listF_cell, DL.tupleF_cell, DL.ixP_cell, DL.truB_cell, DL.rlistOf_lst, DL.rlistOf_rol, DL.rlistOf_cell, DL.listOf_lst, DL.listOf_cell, DL.lenP_str, DL.listG_str, DL.ixP_str, DL.truB_non, DL.truB_bl, DL.truB_int, DL.truB_str, DL.addP_int, DL.addP_str, DL.addP_tup, DL.addP_lst, DL.addP_lc, DL.addP_cl, DL.ltB_int, DL.ltB_str, DL.slL_str, DL.slL_tup, DL.slL_lst, DL.slL_rol, DL.slL_cell, DL.isNon_tup, DL.isNon_lst, DL.isNon_ins, DL.isNon_non, DL.isNon_int, DL.isNon_str, DL.isNon_bl, DL.isNon_cell, DL.insOf_ins, DL.insOf_cell]))).trans (ret_ok ?_)
  generalize hx1 : (slE (bin mulG (varE 4) (litE (.int 12))) (noO) (someO (litE (.int 12)))) = X at *
  generalize hx2 : (slE (bin mulG (varE 1) (litE (.int 8))) (noO) (someO (litE (.int 8)))) = Y at *
  have en : (startD 5 [.lst [.str (S l), .str (S l')], .lst B, .tup h, .int t]).set 4 (.sh (.str (S l))) = [.sh (.lst [.str (S l), .str (S l')]), .sh (.lst B), .sh (.tup h), .sh (.int t), .sh (.str (S l))] := rfl
  rw [en]
  clear hx1 hx2 en
  have a1 : (bin ixP (varE 0) (litE (.int 1))) [.sh (.lst [.str (S l), .str (S l')]), .sh (.lst B), .sh (.tup h), .sh (.int t), .sh (.str (S l))] c = .ok (.str (S l')) c := by simp [DL.seqS, DL.Res.seq, DL.setIxS, DL.setS, DL.exprS, DL.retS, DL.retN, DL.ifS, DL.nilS, DL.brkS, DL.cntS, DL.callB, DL.callM, DL.intF, DL.boolF, DL.consA, DL.nilA, DL.starA, DL.bin, DL.un1, DL.negP, DL.bnd, DL.Out.bnd, DL.Out.thenS, DL.opt, DL.varE, DL.litE, DL.setItem, DL.ret, DL.subP, DL.mulP, DL.modP, DL.fdivP, DL.powP, DL.intP, DL.geP, DL.leP, DL.gtP, DL.ltP, DL.eqP, DL.neP, DL.tstE, DL.boolE, DL.andT, DL.orT, DL.notT, DL.andE, DL.orE, DL.notE, DL.ifE, DL.chainE, DL.tupE, DL.lstE, DL.lstC, DL.isNP, DL.notNP, DL.runD, DL.Res.out, DL.startD, DL.itE, DL.itR, DL.rng2, DL.forS, DL.tgN, DL.tgT, DL.tgCons, DL.tgNil, DL.slE, DL.noO, DL.someO, DL.inP, DL.notInP, DL.wipeD, DL.endW, DL.turn, DL.item, DL.forX, DL.ownS, DL.szA, DL.appO, DL.coldS, DL.ownL, DL.revF, DL.allF, DL.anyF, L2.atI, L2.ixN, DL.eqB_int, DL.eqB_str, DL.eqB_bl, DL.eqB_non, DL.eqB_ni, DL.eqB_in, DL.eqB_ns, DL.eqB_sn, DL.eqB_is, DL.eqB_si, DL.rng1_nat, DL.rng1_int, DL.inB_str, DL.size_is, DL.seqOf_tup, DL.seqF_tup, DL.lenP_tup, DL.listG_tup, DL.listF_tup, DL.tupleF_tup, DL.ixP_tup, DL.truB_tup, DL.seqOf_lst, DL.seqF_lst, DL.lenP_lst, DL.listG_lst, DL.listF_lst, DL.tupleF_lst, DL.ixP_lst, DL.truB_lst, DL.seqOf_rol, DL.seqF_rol, DL.lenP_rol, DL.listG_rol, DL.listF_rol, DL.tupleF_rol, DL.ixP_rol, DL.truB_rol, DL.seqOf_cell, DL.lenP_cell, DL.listG_cell, DL.listF_cell, DL.tupleF_cell, DL.ixP_cell, DL.truB_cell, DL.rlistOf_lst, DL.rlistOf_rol, DL.rlistOf_cell, DL.listOf_lst, DL.listOf_cell, DL.lenP_str, DL.listG_str, DL.ixP_str, DL.truB_non, DL.truB_bl, DL.truB_int, DL.truB_str, DL.addP_int, DL.addP_str, DL.addP_tup, DL.addP_lst, DL.addP_lc, DL.addP_cl, DL.ltB_int, DL.ltB_str, DL.slL_str, DL.slL_tup, DL.slL_lst, DL.slL_rol, DL.slL_cell, DL.isNon_tup, DL.isNon_lst, DL.isNon_ins, DL.isNon_non, DL.isNon_int, DL.isNon_str, DL.isNon_bl, DL.isNon_cell, DL.insOf_ins, DL.insOf_cell]
  have a2 : callM m__law_full (consA (varE 3) nilA) [.sh (.lst [.str (S l), .str (S l')]), .sh (.lst B), .sh (.tup h), .sh (.int t), .sh (.str (S l))] c = .ok (.lst F) c := callM_ok (cons_ok (var_ok rfl) nilA_ok) f
  refine lst_ok ?_ (by simp)
  repeat first
    | with_reducible exact nilA_ok
    | with_reducible exact a1
    | with_reducible exact a2
    | with_reducible exact q1
    | with_reducible exact q2
    | with_reducible exact lit_ok
    | (with_reducible refine var_ok ?_); rfl
    | with_reducible refine cons_p ?_ ?_
    | with_reducible refine tup_ok ?_ (by simp)
    | with_reducible refine lst_ok ?_ (by simp)
theorem name_len {l : List Nat} (h : nameB l = true) : 1 ≤ l.length ∧ l.length ≤ 12 ∧ Low l := by
  simp only [nameB, Bool.and_eq_true, decide_eq_true_eq, List.all_eq_true] at h
  exact h
theorem good_of {l : List Nat} {b : List (List D)} {h : List D} {n : Int} (hl : nameB l = true) (s : Shape b h n) : Good l b h n := by
  have := (sizeB_some s.sz).2.1
  have := (name_len hl).2.1
  exact ⟨⟨by omega, s.atm, by omega, s.hdf⟩, hl, s.sz, s.hd⟩
theorem shape_full {t : Nat} (h : t ≤ 3) {x : List D} (h1 : flatT (.tup x) = true) (h2 : isA x ((t + 1 : Nat) : Int) = true) : Shape (fullB (t + 1)) x ((t + 1 : Nat) : Int) := ⟨full_flat _, h1, full_size h, h2⟩
theorem shape_si : Shape [[.str "si", .int 0, .int 1]] [.str "Z", .int 1] 2 ∧ Shape [[.str "B", .int 0]] [.str "B", .int 0] 1 := by
  have e1 : sizeB [[.str "si", .int 0, .int 1]] = some 2 := by decide +kernel
  have e2 : sizeB [[.str "B", .int 0]] = some 1 := by decide +kernel
  exact ⟨⟨fun a ha => by simp at ha; subst ha; decide +kernel, by decide +kernel, e1, by decide +kernel⟩, ⟨fun a ha => by simp at ha; subst ha; decide +kernel, by decide +kernel, e2, by decide +kernel⟩⟩
theorem goods_ok {l l' : List Nat} {b : List (List D)} {h : List D} {n : Int} {t : Nat} (hl : nameB l = true) (hl' : nameB l' = true) (s : Shape b h n) (h1 : 1 ≤ t) (h3 : t ≤ 3) :
    ∀ g ∈ goods l l' b h t, ∃ m, Good g.1 g.2.1 g.2.2 m := by
  obtain ⟨b1, b8, _, _⟩ := sizeB_some s.sz
  have ar : relB (.str "ar") = true := by decide +kernel
  intro g hg
  simp only [goods, List.mem_cons, List.not_mem_nil, or_false] at hg
  rcases hg with rfl | rfl | rfl | rfl | rfl | rfl | rfl | rfl | rfl | rfl
  · exact ⟨n, good_of hl s⟩
  · exact ⟨n, good_of hl' s⟩
  · exact ⟨n, good_of (rep_low hl (by decide) (by decide)) s⟩
  · exact ⟨n, good_of (show nameB [122] = true by decide +kernel) ⟨s.atm, never_flatT.1, s.sz, never_flatT.2 _⟩⟩
  · exact ⟨n, good_of hl ⟨fun a ha => s.atm a (rep_sub ha), s.hdf, sizeB_like s.sz (by simp only; rw [rep_len b1]; decide) (by simp only; rw [rep_len b1]; decide) fun a => rep_mem b8 (by decide), s.hd⟩⟩
  · exact ⟨_, good_of hl (shape_full h3 (flat3 (rel_flat ar)) (isA3 ar ⟨by omega, by omega⟩ ⟨by omega, by omega⟩ (by omega)))⟩
  · exact ⟨_, good_of hl (shape_full h3 (flat2 wr_mark.2.2.2) (isA2 wr_mark.2.1 ⟨by omega, by omega⟩))⟩
  · exact ⟨_, good_of hl (shape_full h3 never_flatT.1 (never_flatT.2 _))⟩
  · exact ⟨_, good_of hl shape_si.1⟩
  · exact ⟨_, good_of hl shape_si.2⟩
def bads (l : List Nat) : List (List Nat) := [[], rep 13 l, 65 :: l.drop 1, l.drop 1 ++ [49], l.drop 1 ++ [32], 32 :: l.drop 1, l.drop 1 ++ [45], 95 :: l.drop 1, [90], [48]]
theorem nameB_no {l : List Nat} {x : Nat} (h : x ∈ l) (hx : x < 97) : nameB l = false := by
  rw [Bool.eq_false_iff]
  intro e
  have := (name_len e).2.2 x h
  omega
theorem bads_ok {l : List Nat} (h : nameB l = true) : ∀ x ∈ bads l, nameB x = false ∧ x.length ≤ 1000 := by
  obtain ⟨h1, h2, _⟩ := name_len h
  intro x hx
  simp only [bads, List.mem_cons, List.not_mem_nil, or_false] at hx
  rcases hx with rfl | rfl | rfl | rfl | rfl | rfl | rfl | rfl | rfl | rfl
  · exact ⟨by decide, by decide⟩
  · refine ⟨?_, by rw [rep_len h1]; decide⟩
    rw [Bool.eq_false_iff]
    intro e
    have := (name_len e).2.1
    rw [rep_len h1] at this
    omega
  · exact ⟨nameB_no (x := 65) (by simp) (by decide), by simp; omega⟩
  · exact ⟨nameB_no (x := 49) (by simp) (by decide), by simp; omega⟩
  · exact ⟨nameB_no (x := 32) (by simp) (by decide), by simp; omega⟩
  · exact ⟨nameB_no (x := 32) (by simp) (by decide), by simp; omega⟩
  · exact ⟨nameB_no (x := 45) (by simp) (by decide), by simp; omega⟩
  · exact ⟨nameB_no (x := 95) (by simp) (by decide), by simp; omega⟩
  · exact ⟨nameB_no (x := 90) (by simp) (by decide), by decide⟩
  · exact ⟨nameB_no (x := 48) (by simp) (by decide), by decide⟩
theorem mulS13 {l : List Nat} (hl : l.length ≤ 12) {c : Cells} : mulG (.str (S l)) (.int 13) c = some (.str (S (List.replicate 13 l).flatten)) := mulS (n := 13) hl (by decide)
theorem bad_q1 {l : List Nat} (hl : l.length ≤ 12) {c : Cells} : (slE (bin mulG (varE 0) (litE (.int 13))) (noO) (someO (litE (.int 13)))) [.sh (.str (S l))] c = .ok (.str (S (rep 13 l))) c := by
  have m1 : (bin mulG (varE 0) (litE (.int 13))) [.sh (.str (S l))] c = .ok (.str (S (List.replicate 13 l).flatten)) c := bin_ok rfl rfl (mulS13 hl)
  have c1 := cutS_to (List.replicate 13 l).flatten (i := 13) 13 rfl
  have z : (S (List.replicate 13 l).flatten).length ≤ 16777216 := by
    rw [S_len, List.length_flatten, List.map_replicate, List.sum_replicate_nat]; omega
  generalize bin mulG (varE 0) (litE (.int 13)) = X at *
  simp only [slE, noO, someO, litE, bnd, m1, Out.bnd, DL.ret, intP, slL_str, size_is, if_pos z, opt, c1, rep]
theorem bad_q2 {l : List Nat} (hl : l.length ≤ 12) {c : Cells} : (slE (varE 0) (someO (litE (.int 1))) (noO)) [.sh (.str (S l))] c = .ok (.str (S (l.drop 1))) c := by
  have c1 := cutS_from l (i := 1) 1 rfl
  have z : (S l).length ≤ 16777216 := by rw [S_len]; omega
  simp only [slE, noO, someO, litE, bnd, var_ok (δ := [.sh (.str (S l))]) (i := 0) (c := c) (d := .str (S l)) rfl, Out.bnd, DL.ret, intP, slL_str, size_is, if_pos z, opt, c1]
theorem addS {a b : List Nat} (ha : a.length ≤ 100) (hb : b.length ≤ 100) {c : Cells} : addP (.str (S a)) (.str (S b)) c = some (.str (S (a ++ b))) := by
  rw [addP_str, if_pos (by rw [S_len, S_len, size_is]; omega), S_add]
theorem bads_eq {l : List Nat} (hl : l.length ≤ 12) {c : Cells} : m__law_bad_names [.str (S l)] c = .ok (.lst ((bads l).map fun x => .str (S x))) c := by
  have q1 := bad_q1 (c := c) hl
  have q2 := bad_q2 (c := c) hl
  have ld : (l.drop 1).length ≤ 100 := by simp; omega
  have l1 : ("A" : PySem.Str) = S [65] ∧ ("1" : PySem.Str) = S [49] ∧ (" " : PySem.Str) = S [32] ∧ ("-" : PySem.Str) = S [45] ∧ ("_" : PySem.Str) = S [95] ∧ ("Z" : PySem.Str) = S [90] ∧ ("0" : PySem.Str) = S [48] ∧ ("" : PySem.Str) = S [] := by decide +kernel
  have fin : (bads l).map (fun x => D.str (S x)) = [.str "", .str (S (rep 13 l)), .str (S ([65] ++ l.drop 1)), .str (S (l.drop 1 ++ [49])), .str (S (l.drop 1 ++ [32])), .str (S ([32] ++ l.drop 1)), .str (S (l.drop 1 ++ [45])), .str (S ([95] ++ l.drop 1)), .str "Z", .str "0"] := by
    rw [l1.2.2.2.2.2.1, l1.2.2.2.2.2.2.1, l1.2.2.2.2.2.2.2]; rfl
  rw [fin]
  have pre {w : PySem.Str} {k : Nat} (hw : w = S [k]) : (bin addP (litE (.str w)) (slE (varE 0) (someO (litE (.int 1))) (noO))) [.sh (.str (S l))] c = .ok (.str (S ([k] ++ l.drop 1))) c := bin_ok rfl q2 (by rw [hw]; exact addS (by simp) ld)
  have suf {w : PySem.Str} {k : Nat} (hw : w = S [k]) : (bin addP (slE (varE 0) (someO (litE (.int 1))) (noO)) (litE (.str w))) [.sh (.str (S l))] c = .ok (.str (S (l.drop 1 ++ [k]))) c := bin_ok q2 rfl (by rw [hw]; exact addS ld (by simp))
  refine run_rt rfl (ret_ok (lst_ok (cons_p lit_ok (cons_p q1 (cons_p (pre l1.1) (cons_p (suf l1.2.1) (cons_p (suf l1.2.2.1) (cons_p (pre l1.2.2.1) (cons_p (suf l1.2.2.2.1) (cons_p (pre l1.2.2.2.2.1) (cons_p lit_ok (cons_p lit_ok nilA_ok)))))))))) (by simp)))
def heads (t : Nat) : List (List D) := [[.str "W", .int ((t : Int) + 1)], [.str "vis", .int 0, .int ((t : Int) + 1)], [.str "vis", .int ((t : Int) + 1), .int 0], [.str "so", .int t, .int t], [.str "W", .int (-1)], [.str "ar", .int (-1), .int 0],
  [.str "w", .int 0], [.str "WR", .int 0], [.str "vis", .int 0], [.str "never", .int 0], [.str "see", .int 0, .int 1]]
theorem heads_ok {t : Nat} (h1 : 1 ≤ t) (h3 : t ≤ 3) : ∀ x ∈ heads t, isA x ((t + 1 : Nat) : Int) = false ∧ flatT (.tup x) = true := by
  have : t = 1 ∨ t = 2 ∨ t = 3 := by omega
  have key : ∀ t ∈ [1, 2, 3], ((heads t).all fun x => !isA x ((t + 1 : Nat) : Int) && flatT (.tup x)) = true := by decide +kernel
  intro x hx
  have := List.all_eq_true.mp (key t (by rcases this with rfl | rfl | rfl <;> simp)) x hx
  simpa using this
theorem heads_eq {t : Nat} {c : Cells} : m__law_bad_heads [.int t] c = .ok (.lst ((heads t).map D.tup)) c := by
  have ad : (bin addP (varE 0) (litE (.int 1))) [.sh (.int t)] c = .ok (.int ((t : Int) + 1)) c := bin_ok rfl rfl rfl
  have ng : (un1 negP (litE (.int 1))) [.sh (.int t)] c = .ok (.int (-1)) c := rfl
  refine run_rt rfl (ret_ok (lst_ok ?_ (by simp [heads])))
  have en : startD 1 [.int (t : Int)] = [.sh (.int t)] := rfl
  rw [en]
  simp only [heads, List.map_cons, List.map_nil]
  repeat first
    | with_reducible exact nilA_ok
    | with_reducible exact ad
    | with_reducible exact ng
    | with_reducible exact lit_ok
    | (with_reducible refine var_ok ?_); rfl
    | with_reducible refine cons_p ?_ ?_
    | with_reducible refine tup_ok ?_ (by simp)
theorem sizeB_bad {b : List (List D)} {a : List D} (ha : a ∈ b) (h : atomB a = false) : sizeB b = none := by
  unfold sizeB
  rw [if_neg]
  intro ⟨_, _, z⟩
  have := List.all_eq_true.mp z a ha
  rw [h] at this
  cases this
def wrongs (hole : Nat) : List (List D) := [[.str "never"], [.str "so", .int hole, .int hole], [.str "W", .int 4], [.str "vis", .int 4, .int 0], [.str "W", .int (-1)], [.str "ar", .int (-1), .int 0], [.str "w", .int 0], [.str "WW", .int 0],
  [.str "vis", .int 0], [.str "W", .int 0, .int 1], [.str "see", .int 0, .int 1], [.str "never", .int 0]]
theorem wrongs_ok {hole : Nat} (h : hole < 3) : ∀ x ∈ wrongs hole, atomB x = false ∧ flatT (.tup x) = true := by
  have key : ∀ t ∈ [0, 1, 2], ((wrongs t).all fun x => !atomB x && flatT (.tup x)) = true := by decide +kernel
  intro x hx
  have : hole = 0 ∨ hole = 1 ∨ hole = 2 := by omega
  have := List.all_eq_true.mp (key hole (by rcases this with rfl | rfl | rfl <;> simp)) x hx
  simpa using this
def gap (t hole : Nat) : List (List D) := ((List.range (t + 1)).filter fun i => !decide (i = hole)).map fun (i : Nat) => [.str "W", .int i]
def ins (t k : Nat) (w : List D) : List (List D) := (fullB (t + 1)).take k ++ [w] ++ (fullB (t + 1)).drop k
def badBs (b : List (List D)) (t hole k : Nat) : List (List (List D)) := [[], rep 9 b, gap t hole, fullB 5] ++ (wrongs hole).map (ins t k)
theorem badBs_ok {b : List (List D)} {n : Int} {h : List D} {t hole k : Nat} (s : Shape b h n) (h3 : t ≤ 3) (hh : hole < t) : ∀ x ∈ badBs b t hole k, sizeB x = none ∧ (∀ a ∈ x, flatT (.tup a) = true) ∧ x.length ≤ 1000 := by
  obtain ⟨b1, b8, _, _⟩ := sizeB_some s.sz
  intro x hx
  simp only [badBs, List.mem_append, List.mem_cons, List.not_mem_nil, or_false] at hx
  rcases hx with (rfl | rfl | rfl | rfl) | hx
  · exact ⟨rfl, fun a ha => (by cases ha), by decide⟩
  · refine ⟨?_, fun a ha => s.atm a (rep_sub ha), by rw [rep_len b1]; decide⟩
    unfold sizeB
    rw [if_neg]
    intro ⟨_, z, _⟩
    rw [rep_len b1] at z
    omega
  · refine ⟨?_, fun a ha => ?_, ?_⟩
    · cases e : sizeB (gap t hole) with
      | none => rfl
      | some m =>
        obtain ⟨N, _, _, _, g3, g4⟩ := sizeB_inv e
        have hp : plcs (gap t hole) = ((List.range (t + 1)).filter fun i => !decide (i = hole)).map fun (i : Nat) => (i : Int) := by
          simp only [gap, plcs, List.flatMap_map]
          exact (List.map_eq_flatMap).symm
        have h1 := g3 (t : Int) (by rw [hp]; exact List.mem_map.mpr ⟨t, by simp; omega, rfl⟩)
        have h2 := g4 hole (by omega)
        rw [hp] at h2
        obtain ⟨i, hi, e⟩ := List.mem_map.mp h2
        have : i = hole := by omega
        subst this
        simp at hi
    · obtain ⟨i, _, rfl⟩ := List.mem_map.mp ha
      exact flat2 wr_mark.2.2.1
    · have : (gap t hole).length ≤ t + 1 := by
        unfold gap
        rw [List.length_map]
        have := List.length_filter_le (fun i => !decide (i = hole)) (List.range (t + 1))
        rwa [List.length_range] at this
      omega
  · refine ⟨sizeB_bad (a := [.str "W", .int 4]) (by simp [fullB]; exact ⟨4, by decide, rfl⟩) (by decide +kernel), full_flat _, by rw [full_len]; decide⟩
  · obtain ⟨w, hw, rfl⟩ := List.mem_map.mp hx
    obtain ⟨w1, w2⟩ := wrongs_ok (by omega) w hw
    refine ⟨sizeB_bad (a := w) (by simp [ins]) w1, fun a ha => ?_, ?_⟩
    · simp only [ins, List.mem_append, List.mem_singleton] at ha
      rcases ha with (ha | rfl) | ha
      · exact full_flat _ a (List.mem_of_mem_take ha)
      · exact w2
      · exact full_flat _ a (List.mem_of_mem_drop ha)
    · simp [ins, full_len]
      omega
def benc (x : List (List D)) : D := .lst (x.map D.tup)
theorem mulL9 {xs : List D} (hl : xs.length ≤ 8) {c : Cells} : mulG (.lst xs) (.int 9) c = some (.lst (List.replicate 9 xs).flatten) := mulL (n := 9) hl (by decide)
theorem bb_q1 {b : List (List D)} (hb : b.length ≤ 8) {δ : Ev'} {c : Cells} (h0 : δ[0]? = some (.sh (.lst (b.map D.tup)))) : (slE (bin mulG (varE 0) (litE (.int 9))) (noO) (someO (litE (.int 9)))) δ c = .ok (.lst ((rep 9 b).map D.tup)) c := by
  have m1 : (bin mulG (varE 0) (litE (.int 9))) δ c = .ok (.lst (List.replicate 9 (b.map D.tup)).flatten) c := bin_ok (var_ok h0) rfl (mulL9 (by simpa using hb))
  have c2 := cut_to (xs := (List.replicate 9 (b.map D.tup)).flatten) (i := 9) 9 rfl
  rw [← rep_map] at c2
  generalize bin mulG (varE 0) (litE (.int 9)) = X at *
  simp only [slE, noO, someO, litE, bnd, m1, Out.bnd, DL.ret, intP, slL_lst, opt, c2]
theorem add1 {x : EM} {δ : Ev'} {c : Cells} {t : Nat} (h : x δ c = .ok (.int t) c) : (bin addP x (litE (.int 1))) δ c = .ok (.int ((t : Int) + 1)) c := bin_ok h rfl rfl
theorem bb_q2 {t hole : Nat} (ht : t ≤ 4) {δ : Ev'} {c : Cells} (h1 : δ[1]? = some (.sh (.int t))) (h2 : δ[2]? = some (.sh (.int hole))) (h8 : δ.length = 9) :
    (lcE (itR rng1 (consA (bin addP (varE 1) (litE (.int 1))) nilA)) [8] (tgN 8) (boolE (bin neP (varE 8) (varE 2))) (tupE (consA (litE (.str "W")) (consA (varE 8) (nilA))))) δ c = .ok (.lst ((gap t hole).map D.tup)) c := by
  have er : rng1 [.int ((t : Int) + 1)] = some (rangeD 0 (t + 1)) := by
    have := rng1_nat (n := t + 1) (by omega)
    rw [← this]; simp
  have : ((gap t hole).map D.tup) = ((List.range (t + 1)).filter fun i => !decide (i = hole)).map fun (i : Nat) => D.tup [.str "W", .int i] := by rw [gap, List.map_map]; rfl
  rw [this]
  refine lcE_filter (enc := fun (i : Nat) => .int i) (c1 := c) ?_ fun i hi => ?_
  · rw [← rangeD0]
    exact itR_1 (cons_p (add1 (var_ok h1)) nilA_ok) er
  · have g2 : (wipeD δ [8])[2]? = some (.sh (.int hole)) := by simp [wipeD, h2]
    have g8 : (wipeD δ [8]).length = 9 := by simp [wipeD, h8]
    generalize wipeD δ [8] = ε at *
    have e8 : (ε.set 8 (.sh (.int (i : Int))))[8]? = some (.sh (.int i)) := by simp [g8]
    have e2 : (ε.set 8 (.sh (.int (i : Int))))[2]? = some (.sh (.int hole)) := by simp [g2]
    have tt : boolE (bin neP (varE 8) (varE 2)) (ε.set 8 (.sh (.int (i : Int)))) c = .ok (!decide (i = hole)) c := by
      have : decide ((i : Int) = hole) = decide (i = hole) := by rw [decide_eq_decide]; omega
      simp [boolE, DL.bin, bnd, var_ok e8, var_ok e2, Out.bnd, neP, eqB_int, this, opt]
    have te : tupE (consA (litE (.str "W")) (consA (varE 8) (nilA))) (ε.set 8 (.sh (.int (i : Int)))) c = .ok (.tup [.str "W", .int i]) c := tup_ok (cons_p lit_ok (cons_p (var_ok e8) nilA_ok)) (by simp)
    simp only [item, tgN, tt, Out.bnd, te, bnd]
    split <;> rfl
theorem ownS_ok {i : Nat} {ms : Ev' → M (List D)} {δ : Ev'} {c c' : Cells} {ds : List D} (h : ms δ c = .ok ds c') : ownS i ms δ c = .nx (δ.set i (.own (.lst ds))) c' := by simp [ownS, h, Out.thenS]
theorem szA_ok {ms : Ev' → M (List D)} {δ : Ev'} {c c' : Cells} {ds : List D} (h : ms δ c = .ok ds c') (hl : ds.length ≤ 16777216) : szA ms δ c = .ok ds c' := by simp [szA, bnd, h, Out.bnd, size_is, hl]
theorem forX_ok {js : List Nat} {mi : Ev' → M (List D)} {lp : List D → Ev' → Cells → Res} {δ : Ev'} {c c' : Cells} {xs : List D} (h : mi δ c = .ok xs c') : forX js mi lp δ c = lp xs (wipeD δ js) c' := by simp [forX, h, Out.thenS]
theorem itE_ok {m : EM} {δ : Ev'} {c c' : Cells} {xs : List D} (h : m δ c = .ok (.lst xs) c') : itE m δ c = .ok xs c' := by simp [itE, bnd, h, Out.bnd, seqF, opt]
theorem cold_ok {i : Nat} {b : SM} {δ : Ev'} {c : Cells} {xs : List D} (h : ownL i δ = some xs) : coldS i b δ c = b (δ.set i (.sh (.lst xs))) c := by simp [coldS, h]
abbrev bbE (b : List (List D)) (t hole k : Nat) (acc : List D) (x6 : Slot) : Ev' := [.sh (.lst (b.map D.tup)), .sh (.int t), .sh (.int hole), .sh (.int k), .own (.lst acc), .sh (.lst ((fullB (t + 1)).map D.tup)), x6, .un, .un]
theorem bb_turn {b : List (List D)} {t hole k : Nat} (ht : t ≤ 4) {acc : List D} {x6 : Slot} {w : List D} {c : Cells} (ha : acc.length < 16777216) :
    turn [7] (tgN 7) lb__law_bad_bodies_1 (.tup w) (bbE b t hole k acc x6) c = .nx (bbE b t hole k (acc ++ [benc (ins t k w)]) x6) c := by
  show endW [7] lb__law_bad_bodies_1 ((bbE b t hole k acc x6).set 7 (.sh (.tup w))) c = _
  have e5 : ((bbE b t hole k acc x6).set 7 (.sh (.tup w)))[5]? = some (.sh (.lst ((fullB (t + 1)).map D.tup))) := rfl
  have e3 : ((bbE b t hole k acc x6).set 7 (.sh (.tup w)))[3]? = some (.sh (.int k)) := rfl
  have e7 : ((bbE b t hole k acc x6).set 7 (.sh (.tup w)))[7]? = some (.sh (.tup w)) := rfl
  have ow : ownL 4 ((bbE b t hole k acc x6).set 7 (.sh (.tup w))) = some acc := rfl
  have fin : wipeD (((bbE b t hole k acc x6).set 7 (.sh (.tup w))).set 4 (.own (.lst (acc ++ [benc (ins t k w)])))) [7] = bbE b t hole k (acc ++ [benc (ins t k w)]) x6 := by simp [wipeD]
  have fl : (fullB (t + 1)).length ≤ 5 := by rw [full_len]; omega
  generalize (bbE b t hole k acc x6).set 7 (.sh (.tup w)) = ε at *
  have s1 : (slE (varE 5) (noO) (someO (varE 3))) ε c = .ok (.lst (((fullB (t + 1)).take k).map D.tup)) c := by
    have := cut_to (xs := (fullB (t + 1)).map D.tup) (i := k) k rfl
    rw [List.map_take, ← this]
    simp only [slE, noO, someO, bnd, var_ok e5, var_ok e3, Out.bnd, DL.ret, slL_lst, opt]
  have s2 : (slE (varE 5) (someO (varE 3)) (noO)) ε c = .ok (.lst (((fullB (t + 1)).drop k).map D.tup)) c := by
    have := cut_from (xs := (fullB (t + 1)).map D.tup) (i := k) k rfl
    rw [List.map_drop, ← this]
    simp only [slE, noO, someO, bnd, var_ok e5, var_ok e3, Out.bnd, DL.ret, slL_lst, opt]
  have l1 : ((fullB (t + 1)).take k).length ≤ 5 := by rw [List.length_take]; omega
  have l2 : ((fullB (t + 1)).drop k).length ≤ 5 := by rw [List.length_drop]; omega
  have s3 : (bin addP (bin addP (slE (varE 5) (noO) (someO (varE 3))) (lstE (consA (varE 7) (nilA)))) (slE (varE 5) (someO (varE 3)) (noO))) ε c = .ok (benc (ins t k w)) c := by
    refine bin_ok (bin_ok s1 (lst_ok (cons_p (var_ok e7) nilA_ok) (by simp)) (by rw [addP_lst, if_pos]; simp [size_is]; omega)) s2 ?_
    rw [addP_lst, if_pos]
    · simp [benc, ins]
    · simp [size_is]; omega
  unfold endW lb__law_bad_bodies_1
  rw [appO_ok ow s3 ha]
  simp only [fin]
theorem bodies_eq {b : List (List D)} {t hole k : Nat} (hb : b.length ≤ 8) (ht : t ≤ 4) {c : Cells} : m__law_bad_bodies [.lst (b.map D.tup), .int t, .int hole, .int k] c = .ok (.lst ((badBs b t hole k).map benc)) c := by
  refine run_rt rfl ?_
  have en : startD 9 [.lst (b.map D.tup), .int t, .int hole, .int k] = [.sh (.lst (b.map D.tup)), .sh (.int t), .sh (.int hole), .sh (.int k), .un, .un, .un, .un, .un] := rfl
  rw [en]
  have f5 : m__law_full [.int 4] c = .ok (.lst ((fullB 5).map D.tup)) c := full_eq (t := 4) (by decide)
  have ft := full_eq (t := t) (c := c) ht
  unfold b__law_bad_bodies
  refine (seq_nx (ownS_ok (szA_ok (cons_p (lst_ok nilA_ok (by simp)) (cons_p (bb_q1 hb rfl) (cons_p (bb_q2 ht rfl rfl rfl) (cons_p (callM_ok (cons_p lit_ok nilA_ok) f5) nilA_ok)))) (by simp)))).trans ?_
  refine (seq_nx (set_ok (callM_ok (cons_p (var_ok rfl) nilA_ok) ft))).trans ?_
  have ww : ∀ {δ : Ev'}, δ[2]? = some (.sh (.int hole)) → (lstE (consA (tupE (consA (litE (.str "never")) (nilA))) (consA (tupE (consA (litE (.str "so")) (consA (varE 2) (consA (varE 2) (nilA))))) (consA (tupE (consA (litE (.str "W")) (consA (litE (.int 4)) (nilA)))) (consA (tupE (consA (litE (.str "vis")) (consA (litE (.int 4)) (consA (litE (.int 0)) (nilA))))) (consA (tupE (consA (litE (.str "W")) (consA (un1 negP (litE (.int 1))) (nilA)))) (consA (tupE (consA (litE (.str "ar")) (consA (un1 negP (litE (.int 1))) (consA (litE (.int 0)) (nilA))))) (consA (tupE (consA (litE (.str "w")) (consA (litE (.int 0)) (nilA)))) (consA (tupE (consA (litE (.str "WW")) (consA (litE (.int 0)) (nilA)))) (consA (tupE (consA (litE (.str "vis")) (consA (litE (.int 0)) (nilA)))) (consA (tupE (consA (litE (.str "W")) (consA (litE (.int 0)) (consA (litE (.int 1)) (nilA))))) (consA (tupE (consA (litE (.str "see")) (consA (litE (.int 0)) (consA (litE (.int 1)) (nilA))))) (consA (tupE (consA (litE (.str "never")) (consA (litE (.int 0)) (nilA)))) (nilA)))))))))))))) δ c = .ok (.lst ((wrongs hole).map D.tup)) c := fun {δ} h2 => by
    have ng : (un1 negP (litE (.int 1))) δ c = .ok (.int (-1)) c := rfl
    have v2 := var_ok (c := c) h2
    refine lst_ok ?_ (by simp [wrongs])
    simp only [wrongs, List.map_cons, List.map_nil]
    repeat first
      | with_reducible exact nilA_ok
      | with_reducible exact ng
      | with_reducible exact lit_ok
      | with_reducible exact v2
      | with_reducible refine cons_p ?_ ?_
      | with_reducible refine tup_ok ?_ (by simp)
  refine (seq_nx (set_ok (ww rfl))).trans ?_
  have lp := lp_app (js := [7]) (tg := tgN 7) (b := lb__law_bad_bodies_1) (c := c) (enc := D.tup) (mk := fun acc => bbE b t hole k acc (.sh (.lst ((wrongs hole).map D.tup)))) (f := fun w => benc (ins t k w)) (xs := wrongs hole) (acc := [.lst [], .lst ((rep 9 b).map D.tup), .lst ((gap t hole).map D.tup), .lst ((fullB 5).map D.tup)]) (by simp [wrongs]) fun acc x _ ha => bb_turn ht ha
  refine (seq_nx (b := coldS 4 (retS (varE 4))) (δ' := bbE b t hole k ((badBs b t hole k).map benc) (.sh (.lst ((wrongs hole).map D.tup)))) (c' := c) ?_).trans ?_
  · refine (forX_ok (itE_ok (var_ok rfl))).trans ?_
    refine Eq.trans lp ?_
    simp only [badBs, List.map_append, List.map_cons, List.map_nil, List.map_map]
    rfl
  · exact (cold_ok rfl).trans (ret_ok (var_ok rfl))
section
variable {m ma mb : EM} {ms : Ev' → M (List D)} {δ : Ev'} {c c' c'' c3 : Cells} {d x y : D} {ds xs ys : List D} {C : Nat}
theorem makeM_ok {f : List D → M (List D)} (h1 : ms δ c = .ok ds c') (h2 : f ds c' = .ok xs c'') : makeM C f ms δ c = .ok (.ins C xs) c'' := by simp [makeM, bnd, h1, Out.bnd, h2, DL.ret]
theorem ownM_ok {f : List D → M D} (h1 : ma δ c = .ok (.ins C xs) c') (h2 : mb δ c' = .ok (.ins C ys) c'') (h3 : f [.ins C xs, .ins C ys] c'' = .ok d c3) : ownM C f ma mb δ c = .ok d c3 := by simp [ownM, bnd, h1, Out.bnd, h2, insOf_ins, h3]
theorem un1_ok {f : D → Cells → Option D} (h1 : m δ c = .ok x c') (h2 : f x c' = some y) : un1 f m δ c = .ok y c' := by simp [un1, bnd, h1, Out.bnd, h2, opt]
theorem nt_ok {b : Bool} (h : m δ c = .ok (.bl b) c') : notT (tstE m) δ c = .ok (!b) c' := by simp [notT, tstE, bnd, h, Out.bnd, truB_bl, opt, DL.ret]
theorem pass_ok {s t : SM} (h : m δ c = .ok (.bl true) c') : seqS (ifS (notT (tstE m)) s nilS) t δ c = t δ c' := seq_if_f (nt_ok h)
theorem pass1_ok {s : SM} (h : m δ c = .ok (.bl true) c') : ifS (notT (tstE m)) s nilS δ c = .nx δ c' := (if_f (nt_ok h)).trans rfl
end
theorem init_ok {l : List Nat} {b : List (List D)} {h : List D} {n : Int} (g : Good l b h n) {d : D} {c : Cells} (hd : Shows d (b.map D.tup) c) : m_Promise___init__ [.str (S l), d, .tup h] c = .ok [.str (S l), .tup (b.map D.tup), .tup h, .int n] c := by
  rw [init_eq hd g.f, g.made]
theorem same_bl {x : Bool} {c : Cells} : m__law_same 6 [.bl x, .bl x] c = .ok (.bl true) c := plain_refl rfl
def othr (h : List D) : List D := if neverB h then [.str "W", .int 0] else [.str "never"]
theorem equals_eq {l l' : List Nat} {b : List (List D)} {h : List D} {n : Int} (hl : nameB l = true) (hl' : nameB l' = true) (hne : l ≠ l') (s : Shape b h n) {c : Cells} : m__law_equals [.lst [.str (S l), .str (S l')], .lst (b.map D.tup), .tup h] c = .ok (.bl true) c := by
  obtain ⟨N, hn, n1, n4, _, _⟩ := sizeB_inv s.sz
  obtain ⟨b1, b8, _, _⟩ := sizeB_some s.sz
  have g := good_of hl s
  have hfl : h.all flat = true := by have := s.hdf; simp only [flatT, Bool.and_eq_true] at this; exact this.1
  have so : Shape b (othr h) n := by
    refine ⟨s.atm, ?_, s.sz, ?_⟩ <;> unfold othr <;> split
    · exact flat2 wr_mark.2.2.1
    · exact never_flatT.1
    · exact isA2 wr_mark.1 ⟨by omega, by omega⟩
    · exact never_flatT.2 _
  have g1 := good_of hl so
  have g2 := good_of hl' s
  have g3 : Good l b.reverse h n := good_of hl ⟨fun a ha => s.atm a (List.mem_reverse.mp ha), s.hdf, sizeB_like s.sz (by rw [List.length_reverse]; exact b1) (by rw [List.length_reverse]; exact b8) fun a => List.mem_reverse, s.hd⟩
  have g4 : Good l (rep 8 b) h n := good_of hl ⟨fun a ha => s.atm a (rep_sub ha), s.hdf, sizeB_like s.sz (by rw [rep_len b1]; decide) (by rw [rep_len b1]; decide) fun a => rep_mem b8 (by decide), s.hd⟩
  have i0 := init_ok g (d := .lst (b.map D.tup)) (c := c) (.inl rfl)
  have i1 := init_ok g1 (d := .lst (b.map D.tup)) (c := c) (.inl rfl)
  have i2 := init_ok g2 (d := .lst (b.map D.tup)) (c := c) (.inl rfl)
  have i3 := init_ok g3 (d := .lst (b.reverse.map D.tup)) (c := c) (.inl rfl)
  have i4 := init_ok g4 (d := .lst ((rep 8 b).map D.tup)) (c := c) (.inl rfl)
  have q1 := pr_eq (n := n) (n' := n) g.f g1.f (c := c)
  have q2 := pr_eq (n := n) (n' := n) g.f g2.f (c := c)
  have q3 := pr_eq (n := n) (n' := n) g.f g3.f (c := c)
  have q4 := pr_eq (n := n) (n' := n) g.f g4.f (c := c)
  have hh : beqD (.tup h) (.tup h) = true := beqD_refl _ (flatT_good s.hdf (n := 0))
  have ho : beqD (.tup h) (.tup (othr h)) = false := by
    rw [Bool.eq_false_iff]
    intro e
    have e := D.tup.inj (beqD_eq e)
    unfold othr at e
    split at e
    · rename_i z; rw [e] at z; cases z
    · rename_i z; exact z (by rw [e]; decide +kernel)
  have hb3 : beqD (.tup (b.map D.tup)) (.tup (b.reverse.map D.tup)) = beqD (.lst (b.reverse.map D.tup)) (.lst (b.map D.tup)) := by
    rw [Bool.eq_iff_iff, beqD_iff (body_goodT s.atm (n := 0)), beqD_iff (body_goodL (fun a ha => s.atm a (List.mem_reverse.mp ha)) (n := 0))]
    simp only [D.tup.injEq, D.lst.injEq]
    exact eq_comm
  have hb4 : beqD (.tup (b.map D.tup)) (.tup ((rep 8 b).map D.tup)) = decide ((b.length : Int) = 8) := by
    rw [Bool.eq_iff_iff, beqD_iff (body_goodT s.atm (n := 0)), D.tup.injEq, decide_eq_true_eq]
    constructor
    · intro e
      have := congrArg List.length e
      rw [List.length_map, List.length_map, rep_len b1] at this
      omega
    · intro e
      have e : b.length = 8 := by omega
      congr 1
      unfold rep
      rw [show (8 : Nat) = 7 + 1 from rfl, List.replicate_succ, List.flatten_cons, List.take_append_of_le_length (by omega), List.take_of_length_le (by omega)]
  rw [ho, Bool.and_false, Bool.and_false] at q1
  rw [decide_eq_false hne, Bool.false_and] at q2
  rw [hh, decide_eq_true rfl, Bool.true_and, Bool.and_true, hb3] at q3
  rw [hh, decide_eq_true rfl, Bool.true_and, Bool.and_true, hb4] at q4
  have er : eqB (.lst (b.reverse.map D.tup)) (.lst (b.map D.tup)) c = some (beqD (.lst (b.reverse.map D.tup)) (.lst (b.map D.tup))) := eqB_good (body_goodL (fun a ha => s.atm a (List.mem_reverse.mp ha)) (n := 0)) (body_goodL s.atm (n := 0)) (by decide)
  refine run_rt rfl ?_
  have en : startD 5 [.lst [.str (S l), .str (S l')], .lst (b.map D.tup), .tup h] = [.sh (.lst [.str (S l), .str (S l')]), .sh (.lst (b.map D.tup)), .sh (.tup h), .un, .un] := rfl
  rw [en]
  have rv : ∀ {δ : Ev'}, δ[1]? = some (.sh (.lst (b.map D.tup))) → (un1 revF (varE 1)) δ c = .ok (.lst (b.reverse.map D.tup)) c := fun h => un1_ok (var_ok h) (by rw [List.map_reverse]; rfl)
  have n0 : ∀ {δ : Ev'}, δ[0]? = some (.sh (.lst [.str (S l), .str (S l')])) → (bin ixP (varE 0) (litE (.int 0))) δ c = .ok (.str (S l)) c := fun h => bin_ok (var_ok h) rfl rfl
  have n1' : ∀ {δ : Ev'}, δ[0]? = some (.sh (.lst [.str (S l), .str (S l')])) → (bin ixP (varE 0) (litE (.int 1))) δ c = .ok (.str (S l')) c := fun h => bin_ok (var_ok h) rfl rfl
  have lg : ∀ {δ : Ev'}, δ[1]? = some (.sh (.lst (b.map D.tup))) → (callB listG (consA (varE 1) (nilA))) δ c = .ok (.lst (b.map D.tup)) c := fun h => callB_ok (cons_p (var_ok h) nilA_ok) rfl
  have r8 : ∀ {δ : Ev'}, δ[1]? = some (.sh (.lst (b.map D.tup))) → (slE (bin mulG (varE 1) (litE (.int 8))) (noO) (someO (litE (.int 8)))) δ c = .ok (.lst ((rep 8 b).map D.tup)) c := fun {δ} h0 => by
    have m1 : (bin mulG (varE 1) (litE (.int 8))) δ c = .ok (.lst (List.replicate 8 (b.map D.tup)).flatten) c := bin_ok (var_ok h0) rfl (mulL8 (by simpa using b8))
    have c2 := cut_to (xs := (List.replicate 8 (b.map D.tup)).flatten) (i := 8) 8 rfl
    rw [← rep_map] at c2
    generalize bin mulG (varE 1) (litE (.int 8)) = X at *
    simp only [slE, noO, someO, litE, bnd, m1, Out.bnd, DL.ret, intP, slL_lst, opt, c2]
  unfold b__law_equals
  refine (seq_nx (set_ok (makeM_ok (cons_p (n0 rfl) (cons_p (lg rfl) (cons_p (var_ok rfl) nilA_ok))) i0))).trans ?_
  refine (seq_nx (set_ok (tup_ok (cons_p lit_ok nilA_ok) (by simp)))).trans ?_
  refine (seq_nx (δ' := [.sh (.lst [.str (S l), .str (S l')]), .sh (.lst (b.map D.tup)), .sh (.tup h), .sh (prD l b h n), .sh (.tup (othr h))]) (c' := c) ?_).trans ?_
  · have t : (boolE (bin eqP (varE 2) (tupE (consA (litE (.str "never")) (nilA))))) [.sh (.lst [.str (S l), .str (S l')]), .sh (.lst (b.map D.tup)), .sh (.tup h), .sh (prD l b h n), .sh (.tup [.str "never"])] c = .ok (neverB h) c := by
      have e1 : (bin eqP (varE 2) (tupE (consA (litE (.str "never")) (nilA)))) [.sh (.lst [.str (S l), .str (S l')]), .sh (.lst (b.map D.tup)), .sh (.tup h), .sh (prD l b h n), .sh (.tup [.str "never"])] c = .ok (.bl (neverB h)) c :=
        bin_ok (var_ok rfl) (tup_ok (cons_p lit_ok nilA_ok) (by simp)) (by rw [eqP, never_flat hfl]; rfl)
      simp only [boolE, bnd, e1, Out.bnd]
    cases hv : neverB h with
    | true =>
      rw [hv] at t
      refine (if_t t).trans ((set_ok (tup_ok (cons_p lit_ok (cons_p lit_ok nilA_ok)) (by simp))).trans ?_)
      simp [othr, hv]
    | false =>
      rw [hv] at t
      refine (if_f t).trans ?_
      simp [othr, hv, nilS]
  refine (pass_ok (callM_ok (cons_p (ownM_ok (var_ok rfl) (makeM_ok (cons_p (n0 rfl) (cons_p (lg rfl) (cons_p (var_ok rfl) nilA_ok))) i1) q1) (cons_p lit_ok nilA_ok)) same_bl)).trans ?_
  refine (pass_ok (callM_ok (cons_p (ownM_ok (var_ok rfl) (makeM_ok (cons_p (n1' rfl) (cons_p (lg rfl) (cons_p (var_ok rfl) nilA_ok))) i2) q2) (cons_p lit_ok nilA_ok)) same_bl)).trans ?_
  refine (pass_ok (callM_ok (cons_p (ownM_ok (var_ok rfl) (makeM_ok (cons_p (n0 rfl) (cons_p (rv rfl) (cons_p (var_ok rfl) nilA_ok))) i3) q3) (cons_p (bin_ok (rv rfl) (var_ok rfl) (by rw [eqP, er]; rfl)) nilA_ok)) same_bl)).trans ?_
  refine ret_ok (callM_ok (cons_p (ownM_ok (var_ok rfl) (makeM_ok (cons_p (n0 rfl) (cons_p (r8 rfl) (cons_p (var_ok rfl) nilA_ok))) i4) q4) (cons_p (bin_ok (callB_ok (cons_p (var_ok rfl) nilA_ok) (lenP_lst)) lit_ok ?_) nilA_ok)) same_bl)
  rw [List.length_map]; rfl
theorem refuse {l : List Nat} {b : List (List D)} {h : List D} {d : D} {c : Cells} (hd : Shows d (b.map D.tup) c) (f : Flat l b h) (hm : nameB l = false ∨ sizeB b = none ∨ ∃ n, sizeB b = some n ∧ isA h n = false) :
    m__law_refused [.str (S l), d, .tup h] c = .ok (.bl true) c := by
  refine refused_eq hd f ?_
  unfold madeB
  rcases hm with h | h | ⟨n, h, h'⟩
  · rw [h]; rfl
  · split
    · rw [h]
    · rfl
  · split
    · rw [h]; simp [h']
    · rfl
abbrev lawE (b : List (List D)) (l l' : List Nat) (h : List D) (x2 : Slot) (t hole k : Nat) : Ev' → Ev' := fun tl => [tl.getD 0 .un, .sh (.cell 0), x2, .sh (.lst [.str (S l), .str (S l')]), .sh (.int t), .sh (.int hole), .sh (.int k), .sh (.lst (b.map D.tup)), .sh (.tup h), .un, .un, .un]
section
variable {b : List (List D)} {l l' : List Nat} {h : List D} {n : Int} {t hole k : Nat} {x0 x1 x2 : Slot}
abbrev fin (b : List (List D)) (l l' : List Nat) (h : List D) (t hole k : Nat) (x0 x1 x2 : Slot) : Ev' := [x0, x1, x2, .sh (.lst [.str (S l), .str (S l')]), .sh (.int t), .sh (.int hole), .sh (.int k), .sh (.lst (b.map D.tup)), .sh (.tup h), .un, .un, .un]
theorem loop1 (hl : nameB l = true) (hl' : nameB l' = true) (s : Shape b h n) (h1 : 1 ≤ t) (h3 : t ≤ 3) {K : Cell} {cs : Cells} : ∃ cs', lp_law_1 ((goods l l' b h t).map tenc) (fin b l l' h t hole k x0 x1 x2) (K :: cs) = .nx (fin b l l' h t hole k x0 x1 x2) (K :: cs') := by
  have ok := goods_ok hl hl' s h1 h3
  obtain ⟨cs', e, _⟩ := lp_inv (js := [9]) (tg := tgN 9) (b := lb_law_1) (S := Cells) (mk := fun _ => fin b l l' h t hole k x0 x1 x2) (cl := fun cs => K :: cs) (I := fun _ _ => True) (xs := (goods l l' b h t).map tenc) (k := 0) (s := cs) trivial fun i x cs hi _ => by
    obtain ⟨g, hg, rfl⟩ := List.mem_map.mp (List.mem_of_getElem? hi)
    obtain ⟨m, gd⟩ := ok g hg
    obtain ⟨c', e⟩ := let_in_eq gd (k := K) (c := cs)
    refine ⟨c', ?_, trivial⟩
    show endW [9] lb_law_1 ((fin b l l' h t hole k x0 x1 x2).set 9 (.sh (tenc g))) (K :: cs) = _
    have e9 : ((fin b l l' h t hole k x0 x1 x2).set 9 (.sh (tenc g)))[9]? = some (.sh (tenc g)) := rfl
    have w9 : wipeD ((fin b l l' h t hole k x0 x1 x2).set 9 (.sh (tenc g))) [9] = fin b l l' h t hole k x0 x1 x2 := by simp [wipeD]
    generalize (fin b l l' h t hole k x0 x1 x2).set 9 (.sh (tenc g)) = ε at *
    have y0 : (bin ixP (varE 9) (litE (.int 0))) ε (K :: cs) = .ok (.str (S g.1)) (K :: cs) := bin_ok (var_ok e9) lit_ok rfl
    have y1 : (bin ixP (varE 9) (litE (.int 1))) ε (K :: cs) = .ok (.lst (g.2.1.map D.tup)) (K :: cs) := bin_ok (var_ok e9) lit_ok rfl
    have y2 : (bin ixP (varE 9) (litE (.int 2))) ε (K :: cs) = .ok (.tup g.2.2) (K :: cs) := bin_ok (var_ok e9) lit_ok rfl
    unfold endW lb_law_1
    rw [pass1_ok (callM_ok (cons_p y0 (cons_p y1 (cons_p y2 nilA_ok))) e)]
    simp only [w9]
  exact ⟨cs', e⟩
theorem loop2 (hl : nameB l = true) (s : Shape b h n) {c : Cells} : lp_law_2 ((bads l).map fun x => .str (S x)) (fin b l l' h t hole k x0 x1 x2) c = .nx (fin b l l' h t hole k x0 x1 x2) c := by
  refine lp_all fun x hx => ?_
  obtain ⟨e1, e2⟩ := bads_ok hl x hx
  have b8 := (sizeB_some s.sz).2.1
  have r := refuse (l := x) (d := .lst (b.map D.tup)) (c := c) (.inl rfl) ⟨e2, s.atm, by omega, s.hdf⟩ (.inl e1)
  show endW [10] lb_law_2 ((fin b l l' h t hole k x0 x1 x2).set 10 (.sh (.str (S x)))) c = _
  have w : wipeD ((fin b l l' h t hole k x0 x1 x2).set 10 (.sh (.str (S x)))) [10] = fin b l l' h t hole k x0 x1 x2 := by simp [wipeD]
  unfold endW lb_law_2
  rw [pass1_ok (callM_ok (cons_p (var_ok rfl) (cons_p (var_ok rfl) (cons_p (var_ok rfl) nilA_ok))) r)]
  simp only [w]
theorem loop3 (hl : nameB l = true) (s : Shape b h n) (h3 : t ≤ 3) (hh : hole < t) {c : Cells} : lp_law_3 ((badBs b t hole k).map benc) (fin b l l' h t hole k x0 x1 x2) c = .nx (fin b l l' h t hole k x0 x1 x2) c := by
  refine lp_all fun x hx => ?_
  obtain ⟨e1, e2, e3⟩ := badBs_ok s h3 hh x hx
  have l12 := (name_len hl).2.1
  have f : Flat l x [.str "W", .int t] := ⟨by omega, e2, e3, flat2 wr_mark.2.2.1⟩
  have r1 := refuse (d := .lst (x.map D.tup)) (c := c) (.inl rfl) f (.inr (.inl e1))
  have r2 := refuse (d := .tup (x.map D.tup)) (c := c) (.inr (.inl rfl)) f (.inr (.inl e1))
  show endW [11] lb_law_3 ((fin b l l' h t hole k x0 x1 x2).set 11 (.sh (benc x))) c = _
  have w : wipeD ((fin b l l' h t hole k x0 x1 x2).set 11 (.sh (benc x))) [11] = fin b l l' h t hole k x0 x1 x2 := by simp [wipeD]
  have n0 : (bin ixP (varE 3) (litE (.int 0))) ((fin b l l' h t hole k x0 x1 x2).set 11 (.sh (benc x))) c = .ok (.str (S l)) c := bin_ok (var_ok rfl) lit_ok rfl
  have hw : (tupE (consA (litE (.str "W")) (consA (varE 4) (nilA)))) ((fin b l l' h t hole k x0 x1 x2).set 11 (.sh (benc x))) c = .ok (.tup [.str "W", .int t]) c := tup_ok (cons_p lit_ok (cons_p (var_ok rfl) nilA_ok)) (by simp)
  have a1 : (callM m__law_refused (consA (bin ixP (varE 3) (litE (.int 0))) (consA (callB listG (consA (varE 11) (nilA))) (consA (tupE (consA (litE (.str "W")) (consA (varE 4) (nilA)))) (nilA))))) ((fin b l l' h t hole k x0 x1 x2).set 11 (.sh (benc x))) c = .ok (.bl true) c :=
    callM_ok (cons_p n0 (cons_p (callB_ok (cons_p (var_ok rfl) nilA_ok) (d := .lst (x.map D.tup)) rfl) (cons_p hw nilA_ok))) r1
  have a2 : (callM m__law_refused (consA (bin ixP (varE 3) (litE (.int 0))) (consA (callB tupleF (consA (varE 11) (nilA))) (consA (tupE (consA (litE (.str "W")) (consA (varE 4) (nilA)))) (nilA))))) ((fin b l l' h t hole k x0 x1 x2).set 11 (.sh (benc x))) c = .ok (.bl true) c :=
    callM_ok (cons_p n0 (cons_p (callB_ok (cons_p (var_ok rfl) nilA_ok) (d := .tup (x.map D.tup)) rfl) (cons_p hw nilA_ok))) r2
  unfold endW lb_law_3
  rw [if_f (c' := c) ?_]
  · simp only [nilS, w]
  · have t1 := nt_ok a1
    have t2 := nt_ok a2
    simp only [orT, bnd, t1, Out.bnd, Bool.not_true, Bool.false_eq_true, if_false, t2]
theorem turn_nx {js : List Nat} {tg : D → Ev' → Option Ev'} {b : SM} {x : D} {δ δ1 δ2 : Ev'} {c c' : Cells} (h : tg x δ = some δ1) (h2 : b δ1 c = .nx δ2 c') : turn js tg b x δ c = .nx (wipeD δ2 js) c' := by simp [turn, h, endW, h2]
theorem loop4X {X : List (List D)} (ok : ∀ x ∈ X, isA x ((t + 1 : Nat) : Int) = false ∧ flatT (.tup x) = true) (hl : nameB l = true) (h1 : 1 ≤ t) (h3 : t ≤ 3) {c : Cells} : lp_law_4 (X.map D.tup) (fin b l l' h t hole k x0 x1 x2) c = .nx (fin b l l' h t hole k x0 x1 x2) c := by
  refine lp_all fun x hx => ?_
  obtain ⟨e1, e2⟩ := ok x hx
  have l12 := (name_len hl).2.1
  have r := refuse (l := l) (b := fullB (t + 1)) (h := x) (d := .lst ((fullB (t + 1)).map D.tup)) (c := c) (.inl rfl) ⟨by omega, full_flat _, by rw [full_len]; omega, e2⟩ (.inr (.inr ⟨_, full_size h3, e1⟩))
  have w : wipeD ((fin b l l' h t hole k x0 x1 x2).set 11 (.sh (.tup x))) [11] = fin b l l' h t hole k x0 x1 x2 := by simp [wipeD]
  have n0 : (bin ixP (varE 3) (litE (.int 0))) ((fin b l l' h t hole k x0 x1 x2).set 11 (.sh (.tup x))) c = .ok (.str (S l)) c := bin_ok (var_ok rfl) lit_ok rfl
  have hf := full_eq (t := t) (c := c) (by omega)
  have v4 : ((fin b l l' h t hole k x0 x1 x2).set 11 (.sh (.tup x)))[4]? = some (.sh (.int t)) := rfl
  have v11 : ((fin b l l' h t hole k x0 x1 x2).set 11 (.sh (.tup x)))[11]? = some (.sh (.tup x)) := rfl
  have tg : tgN 11 (D.tup x) (fin b l l' h t hole k x0 x1 x2) = some ((fin b l l' h t hole k x0 x1 x2).set 11 (.sh (.tup x))) := rfl
  generalize (fin b l l' h t hole k x0 x1 x2).set 11 (.sh (.tup x)) = ε at *
  generalize (fullB (t + 1)).map D.tup = F at *
  have ca : callM m__law_full (consA (varE 4) nilA) ε c = .ok (.lst F) c := callM_ok (cons_p (var_ok v4) nilA_ok) hf
  have hb : lb_law_4 ε c = .nx ε c := pass1_ok (callM_ok (cons_p n0 (cons_p ca (cons_p (var_ok v11) nilA_ok))) r)
  rw [turn_nx tg hb, w]
theorem loop4 (hl : nameB l = true) (h1 : 1 ≤ t) (h3 : t ≤ 3) {c : Cells} : lp_law_4 ((heads t).map D.tup) (fin b l l' h t hole k x0 x1 x2) c = .nx (fin b l l' h t hole k x0 x1 x2) c := loop4X (heads_ok h1 h3) hl h1 h3
end
theorem isA_R (n : Int) : isA [.str "R", .int n] n = false := by
  rw [Bool.eq_false_iff]
  intro e
  simp [isA, placeB] at e
theorem law_holds : ∀ ns : List Int, ns.length ≤ 63 → ∃ c, m_law [.rol (ns.map D.int)] [] = .ok (.bl true) c := by
  intro ns hns
  obtain ⟨s, e0⟩ := start_s hns
  obtain ⟨d, b, h, n, s1, cs, e1, hd, sh⟩ := shape_ok s []
  obtain ⟨l, l', s2, e2, hl, hl', hne⟩ := names_ok s1 cs
  obtain ⟨t0, s3, ht, e3⟩ := draw_o s2 (n := 3) (by decide) (by decide)
  obtain ⟨t, rfl⟩ : ∃ t, t = 1 + t0 := ⟨_, rfl⟩
  have htc : (1 + (t0 : Int)) = ((1 + t0 : Nat) : Int) := by omega
  have h1 : 1 ≤ 1 + t0 := by omega
  have h3 : 1 + t0 ≤ 3 := by omega
  have e3 := e3 cs
  generalize 1 + t0 = t at *
  obtain ⟨hole, s4, hh, e4⟩ := draw_o s3 (n := (t : Int)) (by omega) (by omega)
  obtain ⟨k, s5, hk, e5⟩ := draw_o s4 (n := (t : Int) + 2) (by omega) (by omega)
  have e4 := e4 cs
  have e5 := e5 cs
  obtain ⟨_, _, _, _, _⟩ := (hd s5.c).all
  have hlg : listG [d] (s5.c :: cs) = some (.lst (b.map D.tup)) := by
    rcases hd s5.c with rfl | rfl | ⟨k, rfl, hk⟩
    · rfl
    · rfl
    · simp [listG_cell, hk]
  obtain ⟨b1, b8, ba, _⟩ := sizeB_some sh.sz
  have l12 := (name_len hl).2.1
  obtain ⟨cs', f1⟩ := loop1 (hole := hole) (k := k) (x0 := .sh (.rol (ns.map D.int))) (x1 := .sh (.cell 0)) (x2 := .sh (.tup [d, .tup h])) hl hl' sh h1 h3 (K := s5.c) (cs := cs)
  have f2 := loop2 (l' := l') (t := t) (hole := hole) (k := k) (x0 := .sh (.rol (ns.map D.int))) (x1 := .sh (.cell 0)) (x2 := .sh (.tup [d, .tup h])) hl sh (c := s5.c :: cs')
  have f3 := loop3 (l' := l') (t := t) (hole := hole) (k := k) (x0 := .sh (.rol (ns.map D.int))) (x1 := .sh (.cell 0)) (x2 := .sh (.tup [d, .tup h])) hl sh h3 (by omega) (c := s5.c :: cs')
  have f4 := loop4 (b := b) (h := h) (l' := l') (t := t) (hole := hole) (k := k) (x0 := .sh (.rol (ns.map D.int))) (x1 := .sh (.cell 0)) (x2 := .sh (.tup [d, .tup h])) hl h1 h3 (c := s5.c :: cs')
  have gs := (good_of hl sh).size (c := s5.c :: cs')
  have r := refuse (l := l) (b := b) (h := [.str "R", .int n]) (d := .lst (b.map D.tup)) (c := s5.c :: cs') (.inl rfl) ⟨by omega, sh.atm, by omega, flat2 wr_mark.2.2.2⟩ (.inr (.inr ⟨_, sh.sz, isA_R n⟩))
  have q := equals_eq hl hl' hne sh (c := s5.c :: cs')
  have g1 := good_eq (l := l) (l' := l') (h := h) (t := t) l12 b8 (by omega) (c := s5.c :: cs)
  have g2 := bads_eq (l := l) l12 (c := s5.c :: cs')
  have g3 := bodies_eq (t := t) (hole := hole) (k := k) b8 (by omega) (c := s5.c :: cs')
  have g4 := heads_eq (t := t) (c := s5.c :: cs')
  generalize (heads t).map D.tup = X4 at *
  generalize (badBs b t hole k).map benc = X3 at *
  generalize ((bads l).map fun x => D.str (S x)) = X2 at *
  generalize (goods l l' b h t).map tenc = X1 at *
  refine ⟨s5.c :: cs', run_rt rfl ?_⟩
  have en : startD 12 [.rol (ns.map D.int)] = [.sh (.rol (ns.map D.int)), .un, .un, .un, .un, .un, .un, .un, .un, .un, .un, .un] := rfl
  rw [en]
  unfold b_law
  refine (seq_nx (set_ok (callM_ok (cons_p (var_ok rfl) nilA_ok) e0))).trans ?_
  refine (seq_nx (set_ok (callM_ok (cons_p (var_ok rfl) (cons_p lit_ok nilA_ok)) e1))).trans ?_
  refine (seq_nx (set_ok (callM_ok (cons_p (var_ok rfl) (cons_p lit_ok nilA_ok)) e2))).trans ?_
  refine (seq_nx (set_ok (d := .int t) (bin_ok lit_ok (callM_ok (cons_p (var_ok rfl) (cons_p lit_ok nilA_ok)) e3) (by rw [addP_int, htc])))).trans ?_
  refine (seq_nx (set_ok (callM_ok (cons_p (var_ok rfl) (cons_p (var_ok rfl) nilA_ok)) e4))).trans ?_
  refine (seq_nx (set_ok (callM_ok (cons_p (var_ok rfl) (cons_p (bin_ok (var_ok rfl) lit_ok addP_int) nilA_ok)) e5))).trans ?_
  refine (seq_nx (set_ok (callB_ok (cons_p (bin_ok (var_ok rfl) lit_ok rfl) nilA_ok) hlg))).trans ?_
  refine (seq_nx (set_ok (bin_ok (z := .tup h) (var_ok rfl) lit_ok rfl))).trans ?_
  refine (seq_nx ((forX_ok (itE_ok (callM_ok (cons_p (var_ok rfl) (cons_p (var_ok rfl) (cons_p (var_ok rfl) (cons_p (var_ok rfl) nilA_ok)))) g1))).trans f1)).trans ?_
  refine (seq_nx ((forX_ok (itE_ok (callM_ok (cons_p (bin_ok (z := .str (S l)) (var_ok rfl) lit_ok rfl) nilA_ok) g2))).trans f2)).trans ?_
  refine (seq_nx ((forX_ok (itE_ok (callM_ok (cons_p (var_ok rfl) (cons_p (var_ok rfl) (cons_p (var_ok rfl) (cons_p (var_ok rfl) nilA_ok)))) g3))).trans f3)).trans ?_
  refine (seq_nx ((forX_ok (itE_ok (callM_ok (cons_p (var_ok rfl) nilA_ok) g4))).trans f4)).trans ?_
  have fz : (bin ixP (varE 3) (litE (.int 0))) (fin b l l' h t hole k (.sh (.rol (ns.map D.int))) (.sh (.cell 0)) (.sh (.tup [d, .tup h]))) (s5.c :: cs') = .ok (.str (S l)) (s5.c :: cs') := bin_ok (var_ok rfl) lit_ok rfl
  have fy : (tupE (consA (litE (.str "R")) (consA (callM m__law_size (consA (varE 7) (nilA))) (nilA)))) (fin b l l' h t hole k (.sh (.rol (ns.map D.int))) (.sh (.cell 0)) (.sh (.tup [d, .tup h]))) (s5.c :: cs') = .ok (.tup [.str "R", .int n]) (s5.c :: cs') := tup_ok (cons_p lit_ok (cons_p (callM_ok (cons_p (var_ok rfl) nilA_ok) gs) nilA_ok)) (by simp)
  refine (pass_ok (callM_ok (cons_p fz (cons_p (var_ok rfl) (cons_p fy nilA_ok))) r)).trans ?_
  exact ret_ok (callM_ok (cons_p (var_ok rfl) (cons_p (var_ok rfl) (cons_p (var_ok rfl) nilA_ok))) q)

def df__law_start : He.DefD := DLH.defOf ("_law_start", none) "_law_start" "_law_start" s__law_start
def df__law_draw : He.DefD := DLH.defOf ("_law_draw", none) "_law_draw" "_law_draw" s__law_draw
def df__law_way : He.DefD := DLH.defOf ("_law_way", none) "_law_way" "_law_way" s__law_way
def df__law_atom : He.DefD := DLH.defOf ("_law_atom", none) "_law_atom" "_law_atom" s__law_atom
def df__law_occurs : He.DefD := DLH.defOf ("_law_occurs", none) "_law_occurs" "_law_occurs" s__law_occurs
def df__law_known : He.DefD := DLH.defOf ("_law_known", none) "_law_known" "_law_known" s__law_known
def df__law_size : He.DefD := DLH.defOf ("_law_size", none) "_law_size" "_law_size" s__law_size
def df__law_shape : He.DefD := DLH.defOf ("_law_shape", none) "_law_shape" "_law_shape" s__law_shape
def df__law_word : He.DefD := DLH.defOf ("_law_word", none) "_law_word" "_law_word" s__law_word
def df__law_names : He.DefD := DLH.defOf ("_law_names", none) "_law_names" "_law_names" s__law_names
def df__law_full : He.DefD := DLH.defOf ("_law_full", none) "_law_full" "_law_full" s__law_full
def df__law_good : He.DefD := DLH.defOf ("_law_good", none) "_law_good" "_law_good" s__law_good
def df__law_bad_names : He.DefD := DLH.defOf ("_law_bad_names", none) "_law_bad_names" "_law_bad_names" s__law_bad_names
def df__law_bad_bodies : He.DefD := DLH.defOf ("_law_bad_bodies", none) "_law_bad_bodies" "_law_bad_bodies" s__law_bad_bodies
def df__law_bad_heads : He.DefD := DLH.defOf ("_law_bad_heads", none) "_law_bad_heads" "_law_bad_heads" s__law_bad_heads
def df_places_of : He.DefD := DLH.defOf ("places_of", none) "places_of" "places_of" s_places_of
def df_is_place : He.DefD := DLH.defOf ("is_place", none) "is_place" "is_place" s_is_place
def df_is_mark : He.DefD := DLH.defOf ("is_mark", none) "is_mark" "is_mark" s_is_mark
def df_is_atom : He.DefD := DLH.defOf ("is_atom", none) "is_atom" "is_atom" s_is_atom
def df_size_of : He.DefD := DLH.defOf ("size_of", none) "size_of" "size_of" s_size_of
def df_is_name : He.DefD := DLH.defOf ("is_name", none) "is_name" "is_name" s_is_name
def df_Promise___init__ : He.DefD := DLH.defOf ("Promise", some "__init__") "__init__" "Promise.__init__" s_Promise___init__
def df__law_same : He.DefD := DLH.defOf ("_law_same", none) "_law_same" "_law_same" s__law_same
def df_Promise___eq__ : He.DefD := DLH.defOf ("Promise", some "__eq__") "__eq__" "Promise.__eq__" s_Promise___eq__
def df__law_equals : He.DefD := DLH.defOf ("_law_equals", none) "_law_equals" "_law_equals" s__law_equals
def df__law_refused : He.DefD := DLH.defOf ("_law_refused", none) "_law_refused" "_law_refused" s__law_refused
def df__law_told : He.DefD := DLH.defOf ("_law_told", none) "_law_told" "_law_told" s__law_told
def df__law_let_in : He.DefD := DLH.defOf ("_law_let_in", none) "_law_let_in" "_law_let_in" s__law_let_in
def df_law : He.DefD := DLH.defOf ("law", none) "law" "law" s_law
def tests : List DLH.Tst := [fun K => (He.Fa.glo "PromiseError").ok K,
  fun K => (He.Fa.glo "InvalidPromise").ok K,
  fun K => (He.Fa.glo "InvalidText").ok K,
  fun K => (He.Fa.glo "Promise").ok K,
  fun K => (He.Fa.glo "_law_start").ok K,
  fun K => (He.Fa.glo "_law_draw").ok K,
  fun K => (He.Fa.glo "_law_way").ok K,
  fun K => (He.Fa.glo "_law_atom").ok K,
  fun K => (He.Fa.glo "_law_occurs").ok K,
  fun K => (He.Fa.glo "_law_known").ok K,
  fun K => (He.Fa.glo "_law_size").ok K,
  fun K => (He.Fa.glo "_law_shape").ok K,
  fun K => (He.Fa.glo "_law_word").ok K,
  fun K => (He.Fa.glo "_law_names").ok K,
  fun K => (He.Fa.glo "_law_full").ok K,
  fun K => (He.Fa.glo "_law_good").ok K,
  fun K => (He.Fa.glo "_law_bad_names").ok K,
  fun K => (He.Fa.glo "_law_bad_bodies").ok K,
  fun K => (He.Fa.glo "_law_bad_heads").ok K,
  fun K => (He.Fa.glo "places_of").ok K,
  fun K => (He.Fa.glo "is_place").ok K,
  fun K => (He.Fa.glo "is_mark").ok K,
  fun K => (He.Fa.glo "is_atom").ok K,
  fun K => (He.Fa.glo "size_of").ok K,
  fun K => (He.Fa.glo "is_name").ok K,
  fun K => decide (PySem.W.findIn K (.ref (He.ga K "Promise")) "__init__" = some (some (.ref (He.ma K (He.ga K "Promise") "__init__")))),
  fun K => PySem.W.isFn K (.ref (He.ma K (He.ga K "Promise") "__init__")),
  fun K => PySem.W.keepIn K (.ref (He.ma K (He.ga K "Promise") "__init__")),
  fun K => PySem.W.makesIn K (He.ga K "Promise"),
  fun K => PySem.W.keepIn K (.ref (He.ga K "Promise")),
  fun K => (He.Fa.glo "_law_same").ok K,
  fun K => decide (PySem.W.findIn K (.ref (He.ga K "Promise")) "__eq__" = some (some (.ref (He.ma K (He.ga K "Promise") "__eq__")))),
  fun K => PySem.W.isFn K (.ref (He.ma K (He.ga K "Promise") "__eq__")),
  fun K => PySem.W.keepIn K (.ref (He.ma K (He.ga K "Promise") "__eq__")),
  fun K => (He.Fa.glo "_law_equals").ok K,
  fun K => (He.Fa.glo "_law_refused").ok K,
  fun K => (He.Fa.glo "_law_told").ok K,
  fun K => (He.Fa.glo "_law_let_in").ok K,
  fun K => (He.Fa.glo "law").ok K,
  fun K => PySem.W.plainGet K (He.ga K "Promise") Str.empty,
  fun K => PySem.W.hasDictIn K (He.ga K "Promise"),
  fun K => PySem.W.plainOver K (He.ga K "Promise"),
  fun K => decide (PySem.W.findIn K (.ref (He.ga K "Promise")) "__setattr__" = some (some (.builtin "object.__setattr__"))),
  fun K => decide (PySem.W.nsIn K mainGlobals "list" = some none),
  fun K => decide (PySem.W.nsIn K mainGlobals "len" = some none),
  fun K => decide (PySem.W.nsIn K mainGlobals "int" = some none),
  fun K => decide (PySem.W.nsIn K mainGlobals "range" = some none),
  fun K => decide (PySem.W.specialIn K (.builtin "object.__class__") "__get__" = some (some (.builtin "getset_descriptor.__get__"))),
  fun K => decide (PySem.W.takesIn K (.builtin "object.__class__") = some true),
  fun K => decide (PySem.W.findIn K (.ref (He.ga K "Promise")) "__class__" = some (some (.builtin "object.__class__"))),
  fun K => decide (PySem.W.mroIn K (He.ga K "Promise") (.type "object") = some true),
  fun K => decide (PySem.W.typeIn K (.ref (He.ga K "Promise")) = some (.type "type")),
  fun K => decide (PySem.W.subIn K (.ref (He.ga K "Promise")) (.type "NoneType") = some false),
  fun K => decide (PySem.W.subIn K (.ref (He.ga K "Promise")) (.type "bool") = some false),
  fun K => decide (PySem.W.subIn K (.ref (He.ga K "Promise")) (.type "int") = some false),
  fun K => decide (PySem.W.subIn K (.ref (He.ga K "Promise")) (.type "str") = some false),
  fun K => decide (PySem.W.subIn K (.ref (He.ga K "Promise")) (.type "list") = some false),
  fun K => decide (PySem.W.subIn K (.ref (He.ga K "Promise")) (.type "tuple") = some false),
  fun K => decide (PySem.W.subIn K (.type "NoneType") (.ref (He.ga K "Promise")) = some false),
  fun K => decide (PySem.W.subIn K (.type "bool") (.ref (He.ga K "Promise")) = some false),
  fun K => decide (PySem.W.subIn K (.type "int") (.ref (He.ga K "Promise")) = some false),
  fun K => decide (PySem.W.subIn K (.type "str") (.ref (He.ga K "Promise")) = some false),
  fun K => decide (PySem.W.subIn K (.type "list") (.ref (He.ga K "Promise")) = some false),
  fun K => decide (PySem.W.subIn K (.type "tuple") (.ref (He.ga K "Promise")) = some false),
  fun K => decide (PySem.W.nsIn K mainGlobals "isinstance" = some none),
  fun K => decide (PySem.W.nsIn K mainGlobals "str" = some none),
  DLH.conB "CAPITALS" (.str "ABCDEFGHIJKLMNOPQRSTUVWXYZ"),
  fun K => decide (PySem.W.nsIn K mainGlobals "tuple" = some none),
  DLH.conB "NEVER" (.tup [(.str "never")]),
  DLH.conB "RELATIONS" (.tup [(.str "bf"), (.str "so"), (.str "vis"), (.str "ar"), (.str "ss"), (.str "si")]),
  DLH.conB "MOST_ATOMS" (.int 8),
  fun K => PySem.W.excIn K (He.ga K "InvalidPromise") [.type "ValueError", .type "Exception", .type "BaseException", .type "object"] "ValueError.__new__",
  fun K => PySem.W.keepIn K (.ref (He.ga K "InvalidPromise")),
  fun K => decide (PySem.W.subIn K (.ref (He.ga K "InvalidPromise")) (.type "BaseException") = some true),
  fun K => decide (PySem.W.typeIn K (.ref (He.ga K "InvalidPromise")) = some (.type "type")),
  DLH.conB "MOST_EVENTS" (.int 4),
  fun K => decide (PySem.W.nsIn K mainGlobals "max" = some none),
  DLH.conB "MOST_NAME" (.int 12),
  DLH.conB "SMALL_LETTERS" (.str "abcdefghijklmnopqrstuvwxyz"),
  fun K => decide (PySem.W.nsIn K mainGlobals "all" = some none),
  fun K => decide (PySem.W.findIn K (.ref (He.ga K "Promise")) "name" = some none),
  fun K => decide (PySem.W.findIn K (.ref (He.ga K "Promise")) "body" = some none),
  fun K => decide (PySem.W.findIn K (.ref (He.ga K "Promise")) "head" = some none),
  fun K => decide (PySem.W.findIn K (.ref (He.ga K "Promise")) "size" = some none),
  fun K => decide (PySem.W.nsIn K mainGlobals "bool" = some none),
  fun K => decide ((He.ga K "InvalidPromise") ≠ (He.ga K "InvalidText")),
  fun K => PySem.W.hasDictIn K (He.ga K "InvalidText"),
  fun K => decide (PySem.W.typeIn K (.ref (He.ga K "InvalidText")) = some (.type "type")),
  fun K => decide (PySem.W.subIn K (.ref (He.ga K "InvalidPromise")) (.ref (He.ga K "InvalidText")) = some false),
  fun K => decide (PySem.W.subIn K (.ref (He.ga K "InvalidPromise")) (.type "ValueError") = some true),
  fun K => decide (PySem.W.findIn K (.ref (He.ga K "InvalidPromise")) "__getattribute__" = some (some (.builtin "BaseException.__getattribute__"))),
  fun K => decide (PySem.W.findIn K (.ref (He.ga K "InvalidPromise")) "__getattr__" = some none),
  fun K => PySem.W.hasDictIn K (He.ga K "InvalidPromise"),
  fun K => decide (PySem.W.findIn K (.ref (He.ga K "InvalidPromise")) "__class__" = some (some (.builtin "object.__class__"))),
  fun K => decide (PySem.W.mroIn K (He.ga K "InvalidPromise") (.type "object") = some true),
  fun K => decide (PySem.W.nsIn K mainGlobals "ValueError" = some none),
  fun K => decide (PySem.W.subIn K (.ref (He.ga K "PromiseError")) (.type "BaseException") = some true),
  fun K => PySem.W.hasDictIn K (He.ga K "PromiseError"),
  fun K => decide (PySem.W.typeIn K (.ref (He.ga K "PromiseError")) = some (.type "type")),
  fun K => decide (PySem.W.subIn K (.ref (He.ga K "InvalidPromise")) (.ref (He.ga K "PromiseError")) = some true)]
def dlist : List He.DefD := [df__law_start, df__law_draw, df__law_way, df__law_atom, df__law_occurs, df__law_known, df__law_size, df__law_shape, df__law_word, df__law_names, df__law_full, df__law_good, df__law_bad_names, df__law_bad_bodies, df__law_bad_heads, df_places_of, df_is_place, df_is_mark, df_is_atom, df_size_of, df_is_name, df_Promise___init__, df__law_same, df_Promise___eq__, df__law_equals, df__law_refused, df__law_told, df__law_let_in, df_law]
theorem told {w : World} {K : PySem.W.Frag} {h : Heap} {mg : PySem.Str → Option Value} {fa : Addr} (X : K.In h) (c : DLH.Says tests dlist K) (G : h.Ns mainGlobals mg) (hfa : mg "law" = some (.ref fa)) :
    ∃ fd : FuncData, (∀ (s : Shared) (v : Value), BindsTo s fd ⟨[v], []⟩ [("script", v)]) ∧ ∀ base : Heap, K.In base → base.Ns mainGlobals mg → FnOk (PySem.Challenge.rw_promiseshapes_k26_promise_parts).prog w K mg base (L2.CX (PySem.Challenge.rw_promiseshapes_k26_promise_parts).prog w) 9 fa fd ["script"] (spLaw K) := by
  obtain ⟨fd0, F0⟩ := c.def_ 0 (d := df__law_start) rfl
  obtain ⟨fd1, F1⟩ := c.def_ 1 (d := df__law_draw) rfl
  obtain ⟨fd2, F2⟩ := c.def_ 2 (d := df__law_way) rfl
  obtain ⟨fd3, F3⟩ := c.def_ 3 (d := df__law_atom) rfl
  obtain ⟨fd4, F4⟩ := c.def_ 4 (d := df__law_occurs) rfl
  obtain ⟨fd5, F5⟩ := c.def_ 5 (d := df__law_known) rfl
  obtain ⟨fd6, F6⟩ := c.def_ 6 (d := df__law_size) rfl
  obtain ⟨fd7, F7⟩ := c.def_ 7 (d := df__law_shape) rfl
  obtain ⟨fd8, F8⟩ := c.def_ 8 (d := df__law_word) rfl
  obtain ⟨fd9, F9⟩ := c.def_ 9 (d := df__law_names) rfl
  obtain ⟨fd10, F10⟩ := c.def_ 10 (d := df__law_full) rfl
  obtain ⟨fd11, F11⟩ := c.def_ 11 (d := df__law_good) rfl
  obtain ⟨fd12, F12⟩ := c.def_ 12 (d := df__law_bad_names) rfl
  obtain ⟨fd13, F13⟩ := c.def_ 13 (d := df__law_bad_bodies) rfl
  obtain ⟨fd14, F14⟩ := c.def_ 14 (d := df__law_bad_heads) rfl
  obtain ⟨fd15, F15⟩ := c.def_ 15 (d := df_places_of) rfl
  obtain ⟨fd16, F16⟩ := c.def_ 16 (d := df_is_place) rfl
  obtain ⟨fd17, F17⟩ := c.def_ 17 (d := df_is_mark) rfl
  obtain ⟨fd18, F18⟩ := c.def_ 18 (d := df_is_atom) rfl
  obtain ⟨fd19, F19⟩ := c.def_ 19 (d := df_size_of) rfl
  obtain ⟨fd20, F20⟩ := c.def_ 20 (d := df_is_name) rfl
  obtain ⟨fd21, F21⟩ := c.def_ 21 (d := df_Promise___init__) rfl
  obtain ⟨fd22, F22⟩ := c.def_ 22 (d := df__law_same) rfl
  obtain ⟨fd23, F23⟩ := c.def_ 23 (d := df_Promise___eq__) rfl
  obtain ⟨fd24, F24⟩ := c.def_ 24 (d := df__law_equals) rfl
  obtain ⟨fd25, F25⟩ := c.def_ 25 (d := df__law_refused) rfl
  obtain ⟨fd26, F26⟩ := c.def_ 26 (d := df__law_told) rfl
  obtain ⟨fd27, F27⟩ := c.def_ 27 (d := df__law_let_in) rfl
  obtain ⟨fd28, F28⟩ := c.def_ 28 (d := df_law) rfl
  have C_Promise : Cls K (He.ga K "Promise") := ⟨(show PySem.W.plainGet K (He.ga K "Promise") Str.empty = true from (c.fact 39 rfl)), (show PySem.W.hasDictIn K (He.ga K "Promise") = true from (c.fact 40 rfl)), (show PySem.W.plainOver K (He.ga K "Promise") = true from (c.fact 41 rfl)), (of_decide_eq_true (p := PySem.W.findIn K (.ref (He.ga K "Promise")) "__setattr__" = some (some (.builtin "object.__setattr__"))) (c.fact 42 rfl))⟩
  have e := hfa.symm.trans (DLH.glo_ok X G (x := "law") (c.fact 38 rfl))
  injection e with e
  injection e with e
  subst e
  have T : TT K mg (Ad.mk (He.ga K "_law_start") fd0 (He.ga K "_law_draw") fd1 (He.ga K "_law_way") fd2 (He.ga K "_law_atom") fd3 (He.ga K "_law_occurs") fd4 (He.ga K "_law_known") fd5 (He.ga K "_law_size") fd6 (He.ga K "_law_shape") fd7 (He.ga K "_law_word") fd8 (He.ga K "_law_names") fd9 (He.ga K "_law_full") fd10 (He.ga K "_law_good") fd11 (He.ga K "_law_bad_names") fd12 (He.ga K "_law_bad_bodies") fd13 (He.ga K "_law_bad_heads") fd14 (He.ga K "places_of") fd15 (He.ga K "is_place") fd16 (He.ga K "is_mark") fd17 (He.ga K "is_atom") fd18 (He.ga K "size_of") fd19 (He.ga K "is_name") fd20 (He.ma K (He.ga K "Promise") "__init__") fd21 (He.ga K "_law_same") fd22 (He.ma K (He.ga K "Promise") "__eq__") fd23 (He.ga K "_law_equals") fd24 (He.ga K "_law_refused") fd25 (He.ga K "_law_told") fd26 (He.ga K "_law_let_in") fd27 (He.ga K "law") fd28 (He.ga K "PromiseError") (He.ga K "InvalidPromise") (He.ga K "InvalidText") (He.ga K "Promise")) := {
    n_list := (DLH.free_ok X G (x := "list") (c.fact 43 rfl)),
    F__law_start := (DLH.fun_of F0),
    n_len := (DLH.free_ok X G (x := "len") (c.fact 44 rfl)),
    n_int := (DLH.free_ok X G (x := "int") (c.fact 45 rfl)),
    F__law_draw := (DLH.fun_of F1),
    g__law_draw := (DLH.glo_ok X G (x := "_law_draw") (c.fact 5 rfl)),
    n_range := (DLH.free_ok X G (x := "range") (c.fact 46 rfl)),
    F__law_way := (DLH.fun_of F2),
    F__law_atom := (DLH.fun_of F3),
    F__law_occurs := (DLH.fun_of F4),
    F__law_known := (DLH.fun_of F5),
    F__law_size := (DLH.fun_of F6),
    g__law_known := (DLH.glo_ok X G (x := "_law_known") (c.fact 9 rfl)),
    g__law_size := (DLH.glo_ok X G (x := "_law_size") (c.fact 10 rfl)),
    g__law_way := (DLH.glo_ok X G (x := "_law_way") (c.fact 6 rfl)),
    g__law_atom := (DLH.glo_ok X G (x := "_law_atom") (c.fact 7 rfl)),
    g__law_occurs := (DLH.glo_ok X G (x := "_law_occurs") (c.fact 8 rfl)),
    F__law_shape := (DLH.fun_of F7),
    F__law_word := (DLH.fun_of F8),
    g__law_word := (DLH.glo_ok X G (x := "_law_word") (c.fact 12 rfl)),
    F__law_names := (DLH.fun_of F9),
    F__law_full := (DLH.fun_of F10),
    g__law_full := (DLH.glo_ok X G (x := "_law_full") (c.fact 14 rfl)),
    F__law_good := (DLH.fun_of F11),
    F__law_bad_names := (DLH.fun_of F12),
    F__law_bad_bodies := (DLH.fun_of F13),
    F__law_bad_heads := (DLH.fun_of F14),
    F_places_of := (DLH.fun_of F15),
    isi := ⟨(DL.all_cons ⟨C_Promise, (of_decide_eq_true (p := PySem.W.findIn K (.ref (He.ga K "Promise")) "__class__" = some (some (.builtin "object.__class__"))) (c.fact 49 rfl)), (of_decide_eq_true (p := PySem.W.specialIn K (.builtin "object.__class__") "__get__" = some (some (.builtin "getset_descriptor.__get__"))) (c.fact 47 rfl)), (of_decide_eq_true (p := PySem.W.takesIn K (.builtin "object.__class__") = some true) (c.fact 48 rfl)), (of_decide_eq_true (p := PySem.W.mroIn K (He.ga K "Promise") (.type "object") = some true) (c.fact 50 rfl))⟩ DL.all_nil), (DL.all_cons (DL.all_cons (DL.kit_rt (of_decide_eq_true (p := PySem.W.subIn K (.ref (He.ga K "Promise")) (.type "NoneType") = some false) (c.fact 52 rfl)) (by decide +kernel)) (DL.all_cons (DL.kit_rt (of_decide_eq_true (p := PySem.W.subIn K (.ref (He.ga K "Promise")) (.type "bool") = some false) (c.fact 53 rfl)) (by decide +kernel)) (DL.all_cons (DL.kit_rt (of_decide_eq_true (p := PySem.W.subIn K (.ref (He.ga K "Promise")) (.type "int") = some false) (c.fact 54 rfl)) (by decide +kernel)) (DL.all_cons (DL.kit_rt (of_decide_eq_true (p := PySem.W.subIn K (.ref (He.ga K "Promise")) (.type "str") = some false) (c.fact 55 rfl)) (by decide +kernel)) (DL.all_cons (DL.kit_rt (of_decide_eq_true (p := PySem.W.subIn K (.ref (He.ga K "Promise")) (.type "list") = some false) (c.fact 56 rfl)) (by decide +kernel)) (DL.all_cons (DL.kit_rt (of_decide_eq_true (p := PySem.W.subIn K (.ref (He.ga K "Promise")) (.type "tuple") = some false) (c.fact 57 rfl)) (by decide +kernel)) DL.all_nil)))))) DL.all_nil), (DL.all_cons (DL.all_cons (DL.kit_tr (show PySem.W.hasDictIn K (He.ga K "Promise") = true from (c.fact 40 rfl)) (of_decide_eq_true (p := PySem.W.typeIn K (.ref (He.ga K "Promise")) = some (.type "type")) (c.fact 51 rfl)) (of_decide_eq_true (p := PySem.W.subIn K (.type "NoneType") (.ref (He.ga K "Promise")) = some false) (c.fact 58 rfl))) (DL.all_cons (DL.kit_tr (show PySem.W.hasDictIn K (He.ga K "Promise") = true from (c.fact 40 rfl)) (of_decide_eq_true (p := PySem.W.typeIn K (.ref (He.ga K "Promise")) = some (.type "type")) (c.fact 51 rfl)) (of_decide_eq_true (p := PySem.W.subIn K (.type "bool") (.ref (He.ga K "Promise")) = some false) (c.fact 59 rfl))) (DL.all_cons (DL.kit_tr (show PySem.W.hasDictIn K (He.ga K "Promise") = true from (c.fact 40 rfl)) (of_decide_eq_true (p := PySem.W.typeIn K (.ref (He.ga K "Promise")) = some (.type "type")) (c.fact 51 rfl)) (of_decide_eq_true (p := PySem.W.subIn K (.type "int") (.ref (He.ga K "Promise")) = some false) (c.fact 60 rfl))) (DL.all_cons (DL.kit_tr (show PySem.W.hasDictIn K (He.ga K "Promise") = true from (c.fact 40 rfl)) (of_decide_eq_true (p := PySem.W.typeIn K (.ref (He.ga K "Promise")) = some (.type "type")) (c.fact 51 rfl)) (of_decide_eq_true (p := PySem.W.subIn K (.type "str") (.ref (He.ga K "Promise")) = some false) (c.fact 61 rfl))) (DL.all_cons (DL.kit_tr (show PySem.W.hasDictIn K (He.ga K "Promise") = true from (c.fact 40 rfl)) (of_decide_eq_true (p := PySem.W.typeIn K (.ref (He.ga K "Promise")) = some (.type "type")) (c.fact 51 rfl)) (of_decide_eq_true (p := PySem.W.subIn K (.type "list") (.ref (He.ga K "Promise")) = some false) (c.fact 62 rfl))) (DL.all_cons (DL.kit_tr (show PySem.W.hasDictIn K (He.ga K "Promise") = true from (c.fact 40 rfl)) (of_decide_eq_true (p := PySem.W.typeIn K (.ref (He.ga K "Promise")) = some (.type "type")) (c.fact 51 rfl)) (of_decide_eq_true (p := PySem.W.subIn K (.type "tuple") (.ref (He.ga K "Promise")) = some false) (c.fact 63 rfl))) DL.all_nil)))))) DL.all_nil), (DL.all_cons (DL.all_cons DL.kit_self DL.all_nil) DL.all_nil)⟩,
    n_isinstance := (DLH.free_ok X G (x := "isinstance") (c.fact 64 rfl)),
    F_is_place := (DLH.fun_of F16),
    n_str := (DLH.free_ok X G (x := "str") (c.fact 65 rfl)),
    c_CAPITALS := (DLH.con_ok X G (c.fact 66 rfl)),
    F_is_mark := (DLH.fun_of F17),
    n_tuple := (DLH.free_ok X G (x := "tuple") (c.fact 67 rfl)),
    c_NEVER := (DLH.con_ok X G (c.fact 68 rfl)),
    g_is_mark := (DLH.glo_ok X G (x := "is_mark") (c.fact 21 rfl)),
    g_is_place := (DLH.glo_ok X G (x := "is_place") (c.fact 20 rfl)),
    c_RELATIONS := (DLH.con_ok X G (c.fact 69 rfl)),
    F_is_atom := (DLH.fun_of F18),
    c_MOST_ATOMS := (DLH.con_ok X G (c.fact 70 rfl)),
    x_InvalidPromise := (show PySem.W.excIn K (He.ga K "InvalidPromise") [.type "ValueError", .type "Exception", .type "BaseException", .type "object"] "ValueError.__new__" = true from (c.fact 71 rfl)),
    kp_InvalidPromise := (show PySem.W.keepIn K (.ref (He.ga K "InvalidPromise")) = true from (c.fact 72 rfl)),
    eb_InvalidPromise := (of_decide_eq_true (p := PySem.W.subIn K (.ref (He.ga K "InvalidPromise")) (.type "BaseException") = some true) (c.fact 73 rfl)),
    et_InvalidPromise := (of_decide_eq_true (p := PySem.W.typeIn K (.ref (He.ga K "InvalidPromise")) = some (.type "type")) (c.fact 74 rfl)),
    g_InvalidPromise := (DLH.glo_ok X G (x := "InvalidPromise") (c.fact 1 rfl)),
    g_is_atom := (DLH.glo_ok X G (x := "is_atom") (c.fact 22 rfl)),
    c_MOST_EVENTS := (DLH.con_ok X G (c.fact 75 rfl)),
    g_places_of := (DLH.glo_ok X G (x := "places_of") (c.fact 19 rfl)),
    n_max := (DLH.free_ok X G (x := "max") (c.fact 76 rfl)),
    F_size_of := (DLH.fun_of F19),
    c_MOST_NAME := (DLH.con_ok X G (c.fact 77 rfl)),
    c_SMALL_LETTERS := (DLH.con_ok X G (c.fact 78 rfl)),
    n_all := (DLH.free_ok X G (x := "all") (c.fact 79 rfl)),
    F_is_name := (DLH.fun_of F20),
    g_is_name := (DLH.glo_ok X G (x := "is_name") (c.fact 24 rfl)),
    g_size_of := (DLH.glo_ok X G (x := "size_of") (c.fact 23 rfl)),
    at_Promise_name := ⟨C_Promise, (of_decide_eq_true (p := PySem.W.findIn K (.ref (He.ga K "Promise")) "name" = some none) (c.fact 80 rfl)), rfl, show (["name", "body", "head", "size"] : List PySem.Str).Nodup by decide +kernel, show (["name", "body", "head", "size"] : List PySem.Str).length < 900 by decide⟩,
    at_Promise_body := ⟨C_Promise, (of_decide_eq_true (p := PySem.W.findIn K (.ref (He.ga K "Promise")) "body" = some none) (c.fact 81 rfl)), rfl, show (["name", "body", "head", "size"] : List PySem.Str).Nodup by decide +kernel, show (["name", "body", "head", "size"] : List PySem.Str).length < 900 by decide⟩,
    at_Promise_head := ⟨C_Promise, (of_decide_eq_true (p := PySem.W.findIn K (.ref (He.ga K "Promise")) "head" = some none) (c.fact 82 rfl)), rfl, show (["name", "body", "head", "size"] : List PySem.Str).Nodup by decide +kernel, show (["name", "body", "head", "size"] : List PySem.Str).length < 900 by decide⟩,
    at_Promise_size := ⟨C_Promise, (of_decide_eq_true (p := PySem.W.findIn K (.ref (He.ga K "Promise")) "size" = some none) (c.fact 83 rfl)), rfl, show (["name", "body", "head", "size"] : List PySem.Str).Nodup by decide +kernel, show (["name", "body", "head", "size"] : List PySem.Str).length < 900 by decide⟩,
    F_Promise___init__ := (DLH.fun_of F21),
    n_bool := (DLH.free_ok X G (x := "bool") (c.fact 84 rfl)),
    g__law_same := (DLH.glo_ok X G (x := "_law_same") (c.fact 30 rfl)),
    F__law_same := (DLH.fun_of F22),
    g_Promise := (DLH.glo_ok X G (x := "Promise") (c.fact 3 rfl)),
    F_Promise___eq__ := (DLH.fun_of F23),
    mk_Promise := ⟨(show PySem.W.makesIn K (He.ga K "Promise") = true from (c.fact 28 rfl)), (of_decide_eq_true (p := PySem.W.findIn K (.ref (He.ga K "Promise")) "__init__" = some (some (.ref (He.ma K (He.ga K "Promise") "__init__")))) (c.fact 25 rfl)), (show PySem.W.isFn K (.ref (He.ma K (He.ga K "Promise") "__init__")) = true from (c.fact 26 rfl)), (show PySem.W.keepIn K (.ref (He.ga K "Promise")) = true from (c.fact 29 rfl))⟩,
    me_Promise___eq__ := ⟨(of_decide_eq_true (p := PySem.W.findIn K (.ref (He.ga K "Promise")) "__eq__" = some (some (.ref (He.ma K (He.ga K "Promise") "__eq__")))) (c.fact 31 rfl)), (show PySem.W.isFn K (.ref (He.ma K (He.ga K "Promise") "__eq__")) = true from (c.fact 32 rfl)), (show PySem.W.keepIn K (.ref (He.ma K (He.ga K "Promise") "__eq__")) = true from (c.fact 33 rfl))⟩,
    F__law_equals := (DLH.fun_of F24),
    isE := (exTab_cons ⟨(of_decide_eq_true (p := PySem.W.findIn K (.ref (He.ga K "InvalidPromise")) "__getattribute__" = some (some (.builtin "BaseException.__getattribute__"))) (c.fact 90 rfl)), (of_decide_eq_true (p := PySem.W.findIn K (.ref (He.ga K "InvalidPromise")) "__getattr__" = some none) (c.fact 91 rfl)), (of_decide_eq_true (p := PySem.W.subIn K (.ref (He.ga K "InvalidPromise")) (.type "BaseException") = some true) (c.fact 73 rfl)), (show PySem.W.hasDictIn K (He.ga K "InvalidPromise") = true from (c.fact 92 rfl)), (of_decide_eq_true (p := PySem.W.findIn K (.ref (He.ga K "InvalidPromise")) "__class__" = some (some (.builtin "object.__class__"))) (c.fact 93 rfl)), (of_decide_eq_true (p := PySem.W.specialIn K (.builtin "object.__class__") "__get__" = some (some (.builtin "getset_descriptor.__get__"))) (c.fact 47 rfl)), (of_decide_eq_true (p := PySem.W.takesIn K (.builtin "object.__class__") = some true) (c.fact 48 rfl)), (of_decide_eq_true (p := PySem.W.mroIn K (He.ga K "InvalidPromise") (.type "object") = some true) (c.fact 94 rfl))⟩ (exRow_cons DL.kit_self (exRow_cons (DL.kit_rt (of_decide_eq_true (p := PySem.W.subIn K (.ref (He.ga K "InvalidPromise")) (.type "ValueError") = some true) (c.fact 89 rfl)) (by decide +kernel)) (exRow_cons (DL.kit_rr (of_decide_eq_true (p := (He.ga K "InvalidPromise") ≠ (He.ga K "InvalidText")) (c.fact 85 rfl)) (show PySem.W.hasDictIn K (He.ga K "InvalidText") = true from (c.fact 86 rfl)) (of_decide_eq_true (p := PySem.W.typeIn K (.ref (He.ga K "InvalidText")) = some (.type "type")) (c.fact 87 rfl)) (of_decide_eq_true (p := PySem.W.subIn K (.ref (He.ga K "InvalidPromise")) (.ref (He.ga K "InvalidText")) = some false) (c.fact 88 rfl))) exRow_nil))) exTab_nil),
    n_ValueError := (DLH.free_ok X G (x := "ValueError") (c.fact 95 rfl)),
    g_InvalidText := (DLH.glo_ok X G (x := "InvalidText") (c.fact 2 rfl)),
    ex_InvalidPromise_PromiseError := (PySem.W.exm_ref (of_decide_eq_true (p := PySem.W.subIn K (.ref (He.ga K "PromiseError")) (.type "BaseException") = some true) (c.fact 96 rfl)) (show PySem.W.hasDictIn K (He.ga K "PromiseError") = true from (c.fact 97 rfl)) (of_decide_eq_true (p := PySem.W.typeIn K (.ref (He.ga K "PromiseError")) = some (.type "type")) (c.fact 98 rfl)) (of_decide_eq_true (p := PySem.W.subIn K (.ref (He.ga K "InvalidPromise")) (.ref (He.ga K "PromiseError")) = some true) (c.fact 99 rfl))),
    g_PromiseError := (DLH.glo_ok X G (x := "PromiseError") (c.fact 0 rfl)),
    F__law_refused := (DLH.fun_of F25),
    F__law_told := (DLH.fun_of F26),
    g__law_told := (DLH.glo_ok X G (x := "_law_told") (c.fact 36 rfl)),
    F__law_let_in := (DLH.fun_of F27),
    g__law_start := (DLH.glo_ok X G (x := "_law_start") (c.fact 4 rfl)),
    g__law_shape := (DLH.glo_ok X G (x := "_law_shape") (c.fact 11 rfl)),
    g__law_names := (DLH.glo_ok X G (x := "_law_names") (c.fact 13 rfl)),
    g__law_good := (DLH.glo_ok X G (x := "_law_good") (c.fact 15 rfl)),
    g__law_let_in := (DLH.glo_ok X G (x := "_law_let_in") (c.fact 37 rfl)),
    g__law_bad_names := (DLH.glo_ok X G (x := "_law_bad_names") (c.fact 16 rfl)),
    g__law_refused := (DLH.glo_ok X G (x := "_law_refused") (c.fact 35 rfl)),
    g__law_bad_bodies := (DLH.glo_ok X G (x := "_law_bad_bodies") (c.fact 17 rfl)),
    g__law_bad_heads := (DLH.glo_ok X G (x := "_law_bad_heads") (c.fact 18 rfl)),
    g__law_equals := (DLH.glo_ok X G (x := "_law_equals") (c.fact 34 rfl)),
    F_law := (DLH.fun_of F28)}
  have b := FunD.bindsA (ps := ["script"]) F28 fun _ _ _ _ _ _ us hl => match us, hl with | [_], _ => rfl
  exact ⟨fd28, fun s v => b s [v] rfl, fun base _ _ => law_end (d_law T) rfl law_holds⟩
def nm0 : List PySem.Str := ["_wall", "__name__", "PromiseError", "InvalidPromise", "InvalidText", "CAPITALS", "RELATIONS", "NEVER", "LETTERS", "is_mark", "is_place", "is_atom", "places_of", "format_atom", "letter_number", "parse_atom", "MOST_EVENTS", "MOST_ATOMS", "MOST_NAME", "SMALL_LETTERS", "is_name", "size_of", "Promise", "promise_parts", "_law_start", "_law_draw", "_law_same", "_law_word", "_law_names", "_law_known"]
def nm1 : List PySem.Str := ["_law_size", "_law_atom", "_law_occurs", "_law_way", "_law_shape", "_law_refused", "_law_told", "_law_let_in", "_law_full", "_law_good", "_law_bad_names", "_law_bad_bodies", "_law_bad_heads", "_law_equals"]
def names : List PySem.Str := nm0 ++ nm1
abbrev R : PySem.W.OpenRow := PySem.W.OpenLaw.row PySem.Challenge.rw_promiseshapes_k26_promise_parts
theorem run (w : World) : HandSHeadRun.RunEq R (PySem.W.view R.prog [47]) (DLH.hook tests dlist) (DLH.ob tests dlist) 20000 names w := by
  intro os
  kernel_rfl
end L26
open PySem PySem.W PySem.Calls PyProof.Rows in
set_option maxRecDepth 100000 in
set_option maxHeartbeats 0 in
theorem PySem.Challenge.cw_promiseshapes_k26_promise_parts_holds : PySem.Challenge.rw_promiseshapes_k26_promise_parts.Holds := by
  w_on; o_law
  refine HandSHeadRun.head_any (r := OpenLaw.row PySem.Challenge.rw_promiseshapes_k26_promise_parts) (q := view (OpenLaw.row PySem.Challenge.rw_promiseshapes_k26_promise_parts).prog [47]) (H := DLH.hook L26.tests L26.dlist) (ob := DLH.ob L26.tests L26.dlist) (M := 20000) (loose := L26.names) (d := HandSHeadRun.topDef (OpenLaw.row PySem.Challenge.rw_promiseshapes_k26_promise_parts).prog 47) (kwd := []) DLH.ob_eq
    (by kernel_rfl) (fun s => by kernel_rfl) L26.run (by kernel_rfl) (by kernel_rfl) (by kernel_rfl) (by rfl) (by first | assumption | decide +kernel) (by decide +kernel) ⟨rfl, rfl, rfl, rfl, rfl, by decide +kernel⟩ ?hw ?hc
  case hw => w_witness2
  case hc =>
    refine DLH.law_walkH (l := PySem.Challenge.rw_promiseshapes_k26_promise_parts) 9 rfl (by kernel_rfl) ⟨rfl, by decide, by decide⟩ ?F
    intro w K mg fa h X c G hmg0
    have hmg : mg ("law" : PySem.Str) = some (.ref fa) := by
      have e : (HandSHeadRun.topDef (OpenLaw.row PySem.Challenge.rw_promiseshapes_k26_promise_parts).prog 47).name = ("law" : PySem.Str) := by kernel_rfl
      rw [← e]
      exact hmg0
    exact L26.told X c G hmg

