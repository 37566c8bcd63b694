import PyProof.Rows.All
import Wide.All
import OpenK.AllK
import Wide.FinOn
import HandS.ForMost
import HandS.ForExc
import HandS.Flow
import HandS.IsInst
import HandS.TryOnly
import HandS.Wide
import KE.DataCmp
import HandS.Conv
import HandS.CallSlots
import HandS.Star
import HandS.Ends
import HandS.ExcIs
import KE.SortData
import PySem.Challenge.RW_promiseshapes_k04_whole_tick_and_latest
set_option Elab.async false
set_option linter.all false
set_option maxRecDepth 100000
set_option maxHeartbeats 0
namespace DL
open PySem PySem.Spec PyProof.Rows L2

/-- the classes: where they stand, the names of their instances' attributes in the order of the stores -/
abbrev CEnv := Nat → Addr × List Str
/-- data: immutable trees; cell k: the k-th mutable object -/
inductive D where
  | non | bl (b : Bool) | int (i : Int) | str (x : Str)
  | tup (xs : List D) | lst (xs : List D)
  | ins (C : Nat) (xs : List D)
  | cell (k : Nat) | cls (C : Nat) | ty (n : String)
  | rol (xs : List D)

inductive Cell where
  | lst (xs : List D) | ins (C : Nat) (xs : List D) | dead
abbrev Cells := List Cell

inductive Out (α : Type) where
  | ok (a : α) (c : Cells)
  | exc (C : Nat) (xs : List D) (c : Cells)
  | bad
abbrev M (α : Type) := Cells → Out α
def ret {α : Type} (a : α) : M α := fun c => .ok a c
def stuck {α : Type} : M α := fun _ => .bad
def Out.bnd {α β : Type} (o : Out α) (f : α → M β) : Out β := match o with
  | .ok a c => f a c
  | .exc C xs c => .exc C xs c
  | .bad => .bad
def bnd {α β : Type} (m : M α) (f : α → M β) : M β := fun c => (m c).bnd f

/-- a name's slot: unknown; a value; an object of one's own that nobody else knows; the object that an __init__ makes -/
inductive Slot where
  | un | sh (d : D) | own (o : Cell) | slf (a : Addr) (C : Nat) (xs : List D)
def Slot.hid : Slot → Option Cell
  | .own o => some o
  | .slf _ C xs => some (.ins C xs)
  | _ => none
abbrev Ev' := List Slot
abbrev EM := Ev' → M D
abbrev TM := Ev' → M Bool

inductive Res where
  | nx (δ : Ev') (c : Cells) | rt (d : D) (c : Cells) | bk (δ : Ev') (c : Cells) | ct (δ : Ev') (c : Cells)
  | exc (C : Nat) (xs : List D) (δ : Ev') (c : Cells)
  | bad
abbrev SM := Ev' → Cells → Res

/-- ghosts: what is frozen; where the cells stand -/
structure Gh where
  F : Addr → Prop
  am : List Addr

section
variable (CE : CEnv) (K : PySem.W.Frag)

mutual
def Rep (g : Gh) (H : Hp) : D → V → Prop
  | .non, v => v = .non
  | .bl b, v => v = .bl b
  | .int i, v => v = .int i
  | .str x, v => v = .str x
  | .tup ds, v => ∃ a vs, v = .ref a ∧ SqT K H a vs ∧ ds.length ≤ sizeLine ∧ Reps g H ds vs
  | .lst ds, v => ∃ a vs, v = .ref a ∧ g.F a ∧ H a = some (.lst vs) ∧ ds.length ≤ sizeLine ∧ Reps g H ds vs
  | .rol ds, v => ∃ a vs, v = .ref a ∧ ((∃ o, H a = some (.frz o (.lst vs))) ∨ (∀ H', SqL K H' a vs)) ∧ ds.length ≤ sizeLine ∧ Reps g H ds vs
  | .ins C ds, v => ∃ a dx vs, v = .ref a ∧ g.F a ∧ H a = some (.ins (CE C).1 dx ((CE C).2.zip vs)) ∧ ds.length ≤ (CE C).2.length ∧ Reps g H ds vs
  | .cell k, v => ∃ a, v = .ref a ∧ g.am[k]? = some a
  | .cls C, v => v = .ref (CE C).1
  | .ty n, v => v = .ty n
def Reps (g : Gh) (H : Hp) : List D → List V → Prop
  | [], vs => vs = []
  | d :: ds, vs => ∃ v r, vs = v :: r ∧ Rep g H d v ∧ Reps g H ds r
end

/-- a mutable object -/
def CellAt (g : Gh) (H : Hp) (a : Addr) : Cell → Prop
  | .lst ds => ∃ vs, H a = some (.lst vs) ∧ ds.length ≤ sizeLine ∧ Reps CE K g H ds vs
  | .ins C ds => ∃ dx vs, H a = some (.ins (CE C).1 dx ((CE C).2.zip vs)) ∧ ds.length ≤ (CE C).2.length ∧ Reps CE K g H ds vs
  | .dead => True

/-- a cell that lives at a -/
def Live (g : Gh) (c : Cells) (a : Addr) : Prop := ∃ (k : Nat) (x : Cell), g.am[k]? = some a ∧ c[k]? = some x ∧ x ≠ Cell.dead

structure SOk (g : Gh) (H : Hp) (c : Cells) : Prop where
  len : g.am.length = c.length
  nd : g.am.Nodup
  nF : ∀ a, Live g c a → ¬ g.F a
  cl : ∀ (k : Nat) (a : Addr) (x : Cell), g.am[k]? = some a → c[k]? = some x → CellAt CE K g H a x
  tr : ∀ a, g.F a → H a ≠ none
  tA : ∀ a ∈ g.am, H a ≠ none

structure Ext (g : Gh) (H : Hp) (c : Cells) (g' : Gh) (H' : Hp) (c' : Cells) : Prop where
  fr : ∀ a, g.F a → g'.F a
  am : ∃ t, g'.am = g.am ++ t
  keep : ∀ a o, H a = some o → ¬ Live g c a → H' a = some o
  newF : ∀ a, g'.F a → g.F a ∨ H a = none ∨ a ∈ g.am
  newA : ∀ a, a ∈ g'.am → a ∈ g.am ∨ H a = none
  thr : ∀ a, H a ≠ none → H' a ≠ none
  dd : ∀ a, Live g' c' a → Live g c a ∨ H a = none

structure Post (g : Gh) (H : Hp) (c : Cells) (g' : Gh) (H' : Hp) (c' : Cells) : Prop where
  ext : Ext g H c g' H' c'
  ok : SOk CE K g' H' c'
end

section
variable {CE : CEnv} {K : PySem.W.Frag} {g g' g'' : Gh} {H H' H'' : Hp} {c c' c'' : Cells}

theorem Ext.refl : Ext g H c g H c := ⟨fun _ h => h, ⟨[], (List.append_nil _).symm⟩, fun _ _ h _ => h, fun _ h => .inl h, fun _ h => .inl h, fun _ h => h, fun _ h => .inl h⟩
theorem Ext.trans (a : Ext g H c g' H' c') (b : Ext g' H' c' g'' H'' c'') : Ext g H c g'' H'' c'' where
  fr := fun x h => b.fr x (a.fr x h)
  am := by
    obtain ⟨t, e⟩ := a.am
    obtain ⟨u, e'⟩ := b.am
    exact ⟨t ++ u, by rw [e', e, List.append_assoc]⟩
  keep := fun x o h n => b.keep x o (a.keep x o h n) fun l => by
    rcases a.dd x l with l | l
    · exact n l
    · rw [h] at l; cases l
  newF := fun x h => by
    rcases b.newF x h with h | h | h
    · exact a.newF x h
    · cases e : H x with
      | none => exact .inr (.inl rfl)
      | some o => exact absurd h (a.thr x (by rw [e]; simp))
    · rcases a.newA x h with h | h
      · exact .inr (.inr h)
      · exact .inr (.inl h)
  newA := fun x h => by
    rcases b.newA x h with h | h
    · exact a.newA x h
    · cases e : H x with
      | none => exact .inr rfl
      | some o => exact absurd h (a.thr x (by rw [e]; simp))
  thr := fun x h => b.thr x (a.thr x h)
  dd := fun x l => by
    rcases b.dd x l with l | l
    · exact a.dd x l
    · cases e : H x with
      | none => exact .inr rfl
      | some o => exact absurd l (a.thr x (by rw [e]; simp))
theorem Post.trans (a : Post CE K g H c g' H' c') (b : Post CE K g' H' c' g'' H'' c'') : Post CE K g H c g'' H'' c'' := ⟨a.ext.trans b.ext, b.ok⟩
theorem Post.refl (h : SOk CE K g H c) : Post CE K g H c g H c := ⟨Ext.refl, h⟩

theorem am_get (h : Ext g H c g' H' c') {k : Nat} {a : Addr} (e : g.am[k]? = some a) : g'.am[k]? = some a := by
  obtain ⟨t, e'⟩ := h.am
  rw [e', List.getElem?_append_left (List.getElem?_eq_some_iff.mp e).1]
  exact e

/-- a frozen object is no living cell -/
theorem SOk.notLive (s : SOk CE K g H c) {a : Addr} (h : g.F a) : ¬ Live g c a := fun l => s.nF a l h
theorem SOk.live_lst (s : SOk CE K g H c) {a : Addr} (l : Live g c a) : (∃ vs, H a = some (.lst vs)) ∨ ∃ C dx fs, H a = some (.ins C dx fs) := by
  obtain ⟨k, x, h1, h2, h3⟩ := l
  have q := s.cl k a x h1 h2
  cases x with
  | lst ds => obtain ⟨vs, e, _⟩ := q; exact .inl ⟨vs, e⟩
  | ins C ds => obtain ⟨dx, vs, e, _⟩ := q; exact .inr ⟨_, _, _, e⟩
  | dead => exact absurd rfl h3
/-- what data lean on stays -/
structure RK (g : Gh) (H : Hp) (g' : Gh) (H' : Hp) : Prop where
  fr : ∀ a, g.F a → g'.F a
  am : ∀ (k : Nat) (a : Addr), g.am[k]? = some a → g'.am[k]? = some a
  F : ∀ a, g.F a → H' a = H a
  tup : ∀ a xs, H a = some (.tup xs) → H' a = some (.tup xs)
  frz : ∀ a o u, H a = some (.frz o u) → H' a = some (.frz o u)
theorem Ext.rk (s : SOk CE K g H c) (x : Ext g H c g' H' c') : RK g H g' H' := ⟨x.fr, fun _ _ e => am_get x e, fun a h => by
    cases e : H a with
    | none => exact absurd e (s.tr a h)
    | some o => exact x.keep a o e (s.notLive h),
  fun a xs h => x.keep a _ h fun l => by rcases s.live_lst l with ⟨_, e⟩ | ⟨_, _, _, e⟩ <;> (rw [h] at e; cases e),
  fun a o u h => x.keep a _ h fun l => by rcases s.live_lst l with ⟨_, e⟩ | ⟨_, _, _, e⟩ <;> (rw [h] at e; cases e)⟩
theorem SqT.rk (x : RK g H g' H') {a : Addr} {vs : List V} (h : SqT K H a vs) : SqT K H' a vs := by
  rcases h with (h | ⟨o, h⟩) | h
  · exact .inl (.inl (x.tup a _ h))
  · exact .inl (.inr ⟨o, x.frz a _ _ h⟩)
  · exact .inr h
theorem SqT.keep (s : SOk CE K g H c) (x : Ext g H c g' H' c') {a : Addr} {vs : List V} (h : SqT K H a vs) : SqT K H' a vs := SqT.rk (x.rk s) h
mutual
theorem Rep.rk (x : RK g H g' H') : ∀ {d : D} {v : V}, Rep CE K g H d v → Rep CE K g' H' d v
  | .non, _, h => by simpa only [Rep] using h
  | .bl _, _, h => by simpa only [Rep] using h
  | .int _, _, h => by simpa only [Rep] using h
  | .str _, _, h => by simpa only [Rep] using h
  | .cls _, _, h => by simpa only [Rep] using h
  | .ty _, _, h => by simpa only [Rep] using h
  | .tup ds, _, h => by
    simp only [Rep] at h ⊢
    obtain ⟨a, vs, rfl, q, z, r⟩ := h
    exact ⟨a, vs, rfl, SqT.rk x q, z, Reps.rk x r⟩
  | .lst ds, _, h => by
    simp only [Rep] at h ⊢
    obtain ⟨a, vs, rfl, f, q, z, r⟩ := h
    exact ⟨a, vs, rfl, x.fr a f, (x.F a f).trans q, z, Reps.rk x r⟩
  | .rol ds, _, h => by
    simp only [Rep] at h ⊢
    obtain ⟨a, vs, rfl, q, z, r⟩ := h
    exact ⟨a, vs, rfl, q.elim (fun ⟨o, q⟩ => .inl ⟨o, x.frz a _ _ q⟩) .inr, z, Reps.rk x r⟩
  | .ins C ds, _, h => by
    simp only [Rep] at h ⊢
    obtain ⟨a, dx, vs, rfl, f, q, hl, r⟩ := h
    exact ⟨a, dx, vs, rfl, x.fr a f, (x.F a f).trans q, hl, Reps.rk x r⟩
  | .cell k, _, h => by
    simp only [Rep] at h ⊢
    obtain ⟨a, rfl, e⟩ := h
    exact ⟨a, rfl, x.am k a e⟩
theorem Reps.rk (x : RK g H g' H') : ∀ {ds : List D} {vs : List V}, Reps CE K g H ds vs → Reps CE K g' H' ds vs
  | [], _, h => by simpa only [Reps] using h
  | d :: ds, _, h => by
    simp only [Reps] at h ⊢
    obtain ⟨v, r, rfl, h1, h2⟩ := h
    exact ⟨v, r, rfl, Rep.rk x h1, Reps.rk x h2⟩
end
theorem Rep.mono (s : SOk CE K g H c) (x : Ext g H c g' H' c') {d : D} {v : V} (h : Rep CE K g H d v) : Rep CE K g' H' d v := Rep.rk (x.rk s) h
theorem Reps.mono (s : SOk CE K g H c) (x : Ext g H c g' H' c') {ds : List D} {vs : List V} (h : Reps CE K g H ds vs) : Reps CE K g' H' ds vs := Reps.rk (x.rk s) h
/-- an object that nobody knows is changed -/
theorem RK.hid {a : Addr} {xs ys : List V} (h : H a = some (.lst xs)) (n : ¬ g.F a) : RK g H g (upd H a (.lst ys)) := ⟨fun _ h => h, fun _ _ h => h,
  fun b hb => upd_ne fun e => n (e ▸ hb), fun b zs e => by rw [upd_ne (fun z => by rw [z, h] at e; cases e)]; exact e, fun b o u e => by rw [upd_ne (fun z => by rw [z, h] at e; cases e)]; exact e⟩
theorem RK.hidI {a C dx : Addr} {fs gs : List (Str × V)} (h : H a = some (.ins C dx fs)) (n : ¬ g.F a) : RK g H g (upd H a (.ins C dx gs)) := ⟨fun _ h => h, fun _ _ h => h,
  fun b hb => upd_ne fun e => n (e ▸ hb), fun b zs e => by rw [upd_ne (fun z => by rw [z, h] at e; cases e)]; exact e, fun b o u e => by rw [upd_ne (fun z => by rw [z, h] at e; cases e)]; exact e⟩
/-- a state behind the change of what nobody knows -/
theorem SOk.hid (s : SOk CE K g H c) {a : Addr} {o : HO} (x : RK g H g (upd H a o)) (na : a ∉ g.am) : SOk CE K g (upd H a o) c where
  len := s.len
  nd := s.nd
  nF := s.nF
  cl := fun k b y h1 h2 => by
    have q := s.cl k b y h1 h2
    have ne : b ≠ a := fun e => na (e ▸ List.mem_of_getElem? h1)
    cases y with
    | lst ds =>
      obtain ⟨vs, e, z, r⟩ := q
      exact ⟨vs, (upd_ne ne).trans e, z, Reps.rk x r⟩
    | ins C ds =>
      obtain ⟨dx, vs, e, z, r⟩ := q
      exact ⟨dx, vs, (upd_ne ne).trans e, z, Reps.rk x r⟩
    | dead => trivial
  tr := fun b h => by
    unfold upd; split
    · simp
    · exact s.tr b h
  tA := fun b h => by
    unfold upd; split
    · simp
    · exact s.tA b h
theorem Reps.length : ∀ {ds : List D} {vs : List V}, Reps CE K g H ds vs → vs.length = ds.length
  | [], _, h => by simp only [Reps] at h; rw [h]; rfl
  | d :: ds, _, h => by
    simp only [Reps] at h
    obtain ⟨v, r, rfl, _, h2⟩ := h
    rw [List.length_cons, List.length_cons, Reps.length h2]
theorem Reps.get : ∀ {ds : List D} {vs : List V} {i : Nat} {d : D}, Reps CE K g H ds vs → ds[i]? = some d → ∃ v, vs[i]? = some v ∧ Rep CE K g H d v
  | [], _, _, _, _, e => by simp at e
  | d :: ds, _, 0, _, h, e => by
    simp only [Reps] at h
    obtain ⟨v, r, rfl, h1, h2⟩ := h
    cases e
    exact ⟨v, rfl, h1⟩
  | d :: ds, _, i + 1, _, h, e => by
    simp only [Reps] at h
    obtain ⟨v, r, rfl, h1, h2⟩ := h
    obtain ⟨u, e1, e2⟩ := Reps.get (i := i) h2 (by simpa using e)
    exact ⟨u, by simpa using e1, e2⟩
theorem Reps.append : ∀ {ds es : List D} {vs ws : List V}, Reps CE K g H ds vs → Reps CE K g H es ws → Reps CE K g H (ds ++ es) (vs ++ ws)
  | [], _, _, _, h, h' => by simp only [Reps] at h; subst h; simpa using h'
  | d :: ds, _, _, _, h, h' => by
    simp only [Reps, List.cons_append] at h ⊢
    obtain ⟨v, r, rfl, h1, h2⟩ := h
    exact ⟨v, r ++ _, rfl, h1, Reps.append h2 h'⟩
theorem Reps.one {d : D} {v : V} (h : Rep CE K g H d v) : Reps CE K g H [d] [v] := by simp only [Reps]; exact ⟨v, [], rfl, h, rfl⟩
theorem Reps.cons {d : D} {v : V} {ds : List D} {vs : List V} (h : Rep CE K g H d v) (t : Reps CE K g H ds vs) : Reps CE K g H (d :: ds) (v :: vs) := by simp only [Reps]; exact ⟨v, vs, rfl, h, t⟩
theorem Reps.nil : Reps CE K g H [] [] := by simp only [Reps]
theorem Reps.set : ∀ {ds : List D} {vs : List V} {d : D} {v : V} (i : Nat), Reps CE K g H ds vs → Rep CE K g H d v → Reps CE K g H (ds.set i d) (vs.set i v)
  | [], _, _, _, _, h, _ => by simp only [Reps] at h; subst h; simp [Reps]
  | d :: ds, _, _, _, 0, h, h' => by
    simp only [Reps, List.set_cons_zero] at h ⊢
    obtain ⟨v, r, rfl, h1, h2⟩ := h
    exact ⟨_, r, rfl, h', h2⟩
  | d :: ds, _, _, _, i + 1, h, h' => by
    simp only [Reps, List.set_cons_succ] at h ⊢
    obtain ⟨v, r, rfl, h1, h2⟩ := h
    exact ⟨v, _, rfl, h1, Reps.set i h2 h'⟩
theorem Reps.drop : ∀ {ds : List D} {vs : List V} (n : Nat), Reps CE K g H ds vs → Reps CE K g H (ds.drop n) (vs.drop n)
  | _, _, 0, h => by simpa using h
  | [], _, n + 1, h => by simp only [Reps] at h; subst h; simp [Reps]
  | d :: ds, _, n + 1, h => by
    simp only [Reps] at h
    obtain ⟨v, r, rfl, h1, h2⟩ := h
    simpa using Reps.drop n h2
theorem Reps.take : ∀ {ds : List D} {vs : List V} (n : Nat), Reps CE K g H ds vs → Reps CE K g H (ds.take n) (vs.take n)
  | _, _, 0, h => by simp [Reps]
  | [], _, n + 1, h => by simp only [Reps] at h; subst h; simp [Reps]
  | d :: ds, _, n + 1, h => by
    simp only [Reps] at h
    obtain ⟨v, r, rfl, h1, h2⟩ := h
    simpa using Reps.cons h1 (Reps.take n h2)
theorem CellAt.mono (s : SOk CE K g H c) (x : Ext g H c g' H' c') {a : Addr} {o : Cell} (h : CellAt CE K g H a o) (n : ¬ Live g c a) : CellAt CE K g' H' a o := by
  cases o with
  | lst ds => obtain ⟨vs, e, z, r⟩ := h; exact ⟨vs, x.keep a _ e n, z, Reps.mono s x r⟩
  | ins C ds => obtain ⟨dx, vs, e, l, r⟩ := h; exact ⟨dx, vs, x.keep a _ e n, l, Reps.mono s x r⟩
  | dead => trivial

/-- the slots -/
structure EnvR (CE : CEnv) (K : PySem.W.Frag) (g : Gh) (H : Hp) (σ : L2.St) (δ : Ev') : Prop where
  len : σ.length = δ.length
  sh : ∀ (i : Nat) (d : D), δ[i]? = some (Slot.sh d) → ∃ v, σ[i]? = some (some v) ∧ Rep CE K g H d v
  own : ∀ (i : Nat) (s : Slot) (o : Cell), δ[i]? = some s → s.hid = some o → ∃ a : Addr, σ[i]? = some (some (V.ref a)) ∧ ¬ g.F a ∧ a ∉ g.am ∧ o ≠ .dead ∧ CellAt CE K g H a o ∧
    ∀ (j : Nat) (s' : Slot) (o' : Cell), δ[j]? = some s' → s'.hid = some o' → σ[j]? = some (some (V.ref a)) → j = i
  slf : ∀ (i : Nat) (a : Addr) (C : Nat) (xs : List D), δ[i]? = some (Slot.slf a C xs) → σ[i]? = some (some (V.ref a))
theorem cell_there {a : Addr} {o : Cell} (h : CellAt CE K g H a o) (n : o ≠ .dead) : H a ≠ none := by
  cases o with
  | lst ds => obtain ⟨vs, e, r⟩ := h; rw [e]; simp
  | ins C ds => obtain ⟨dx, vs, e, l, r⟩ := h; rw [e]; simp
  | dead => exact absurd rfl n
theorem EnvR.mono (s : SOk CE K g H c) (x : Ext g H c g' H' c') {σ : L2.St} {δ : Ev'} (h : EnvR CE K g H σ δ) : EnvR CE K g' H' σ δ where
  len := h.len
  sh := fun i d e => let ⟨v, e1, r⟩ := h.sh i d e; ⟨v, e1, Rep.mono s x r⟩
  own := fun i t o e eo => by
    obtain ⟨a, e1, nf, na, nd, ca, un⟩ := h.own i t o e eo
    have ht := cell_there ca nd
    refine ⟨a, e1, fun z => ?_, fun z => ?_, nd, CellAt.mono s x ca fun ⟨k, y, h1, _⟩ => na (List.mem_of_getElem? h1), un⟩
    · rcases x.newF a z with z | z | z
      · exact nf z
      · exact ht z
      · exact na z
    · rcases x.newA a z with z | z
      · exact na z
      · exact ht z
  slf := h.slf

theorem mem_am_ne (s : SOk CE K g H c) {p : Addr} (hp : H p = none) : p ∉ g.am := fun h => s.tA p h hp
theorem SOk.of (s : SOk CE K g H c) (x : Ext g H c g' H' c) (ha : g'.am = g.am) (hF : ∀ a, Live g c a → ¬ g'.F a) (hl : ∀ a, Live g c a → H' a = H a) (tr : ∀ a, g'.F a → H' a ≠ none) : SOk CE K g' H' c where
  len := by rw [ha]; exact s.len
  nd := by rw [ha]; exact s.nd
  nF := fun a l => hF a (by
    obtain ⟨k, y, h1, h2, h3⟩ := l
    exact ⟨k, y, by rw [ha] at h1; exact h1, h2, h3⟩)
  cl := fun k a y h1 h2 => by
    rw [ha] at h1
    have q := s.cl k a y h1 h2
    cases y with
    | lst ds =>
      obtain ⟨vs, e, z, r⟩ := q
      exact ⟨vs, (hl a ⟨k, _, h1, h2, by simp⟩).trans e, z, Reps.mono s x r⟩
    | ins C ds =>
      obtain ⟨dx, vs, e, z, r⟩ := q
      exact ⟨dx, vs, (hl a ⟨k, _, h1, h2, by simp⟩).trans e, z, Reps.mono s x r⟩
    | dead => trivial
  tr := tr
  tA := fun a h => by rw [ha] at h; exact x.thr a (s.tA a h)
theorem live_ne (s : SOk CE K g H c) {p a : Addr} (hp : H p = none) (l : Live g c a) : a ≠ p := fun e => by
  obtain ⟨k, y, h1, _⟩ := l
  exact s.tA a (List.mem_of_getElem? h1) (e ▸ hp)
theorem upd_thr {p : Addr} {o : HO} {a : Addr} (h : H a ≠ none) : upd H p o a ≠ none := by
  unfold upd; split
  · simp
  · exact h
/-- a new object that stays as it is: a tuple, or whatever is frozen at once (F tells which) -/
theorem Post.new (s : SOk CE K g H c) {p : Addr} (hp : H p = none) (o : HO) : Post CE K g H c ⟨fun a => g.F a ∨ a = p, g.am⟩ (upd H p o) c := by
  have x : Ext g H c ⟨fun a => g.F a ∨ a = p, g.am⟩ (upd H p o) c := ⟨fun _ h => .inl h, ⟨[], (List.append_nil _).symm⟩, fun a o' h _ => by rw [upd_ne (ne_of_none h hp)]; exact h,
    fun a h => h.elim .inl fun e => .inr (.inl (e ▸ hp)), fun _ h => .inl h, fun a h => upd_thr h, fun a l => .inl l⟩
  refine ⟨x, s.of x rfl (fun a l h => ?_) (fun a l => upd_ne (live_ne s hp l)) fun a h => ?_⟩
  · rcases h with h | h
    · exact s.nF a l h
    · exact live_ne s hp l h
  · rcases h with h | h
    · exact upd_thr (s.tr a h)
    · rw [h, upd_same]; simp
/-- a new object that nobody may freeze (one's own) -/
theorem Post.hid (s : SOk CE K g H c) {p : Addr} (hp : H p = none) (o : HO) : Post CE K g H c g (upd H p o) c := by
  have x : Ext g H c g (upd H p o) c := ⟨fun _ h => h, ⟨[], (List.append_nil _).symm⟩, fun a o' h _ => by rw [upd_ne (ne_of_none h hp)]; exact h,
    fun a h => .inl h, fun _ h => .inl h, fun a h => upd_thr h, fun a l => .inl l⟩
  exact ⟨x, s.of x rfl (fun a l h => s.nF a l h) (fun a l => upd_ne (live_ne s hp l)) fun a h => upd_thr (s.tr a h)⟩
theorem nodup_get : ∀ {l : List Addr}, l.Nodup → ∀ {i j : Nat} {a : Addr}, l[i]? = some a → l[j]? = some a → i = j
  | [], _, i, _, _, h, _ => by simp at h
  | x :: l, hn, 0, 0, _, _, _ => rfl
  | x :: l, hn, 0, j + 1, a, h1, h2 => by
    simp at h1 h2
    subst h1
    exact absurd (List.mem_of_getElem? h2) (List.nodup_cons.mp hn).1
  | x :: l, hn, i + 1, 0, a, h1, h2 => by
    simp at h1 h2
    subst h2
    exact absurd (List.mem_of_getElem? h1) (List.nodup_cons.mp hn).1
  | x :: l, hn, i + 1, j + 1, a, h1, h2 => by
    simp at h1 h2
    rw [nodup_get (List.nodup_cons.mp hn).2 h1 h2]
/-- a new cell -/
theorem Post.newCell (s : SOk CE K g H c) {p : Addr} (hp : H p = none) {o : HO} {x : Cell} (q : ∀ g' H' , Ext g H c g' H' (c ++ [x]) → H' p = some o → CellAt CE K g' H' p x) : Post CE K g H c ⟨g.F, g.am ++ [p]⟩ (upd H p o) (c ++ [x]) := by
  have lv : ∀ a, Live ⟨g.F, g.am ++ [p]⟩ (c ++ [x]) a → Live g c a ∨ a = p := fun a ⟨k, y, h1, h2, h3⟩ => by
    by_cases hk : k < g.am.length
    · rw [List.getElem?_append_left hk] at h1
      rw [List.getElem?_append_left (by rw [← s.len]; exact hk)] at h2
      exact .inl ⟨k, y, h1, h2, h3⟩
    · rw [List.getElem?_append_right (by omega)] at h1
      have := List.getElem?_eq_some_iff.mp h1
      obtain ⟨hh, e⟩ := this
      simp only [List.length_singleton, Nat.lt_one_iff] at hh
      simp only [hh, List.getElem_cons_zero] at e
      exact .inr e.symm
  have xt : Ext g H c ⟨g.F, g.am ++ [p]⟩ (upd H p o) (c ++ [x]) := ⟨fun _ h => h, ⟨[p], rfl⟩, fun a o' h _ => by rw [upd_ne (ne_of_none h hp)]; exact h,
    fun a h => .inl h, fun a h => (List.mem_append.mp h).elim .inl fun h => .inr (by simp at h; rw [h]; exact hp), fun a h => upd_thr h, fun a l => (lv a l).imp id fun e => by rw [e]; exact hp⟩
  refine ⟨xt, ⟨by simp [s.len], ?_, fun a l h => ?_, fun k a y h1 h2 => ?_, fun a h => upd_thr (s.tr a h), fun a h => ?_⟩⟩
  · refine List.nodup_append.mpr ⟨s.nd, by simp, fun a ha b hb e => ?_⟩
    simp at hb
    exact mem_am_ne s hp (hb ▸ e ▸ ha)
  · rcases lv a l with l | e
    · exact s.nF a l h
    · exact s.tr a h (e ▸ hp)
  · by_cases hk : k < g.am.length
    · simp only [List.getElem?_append_left hk] at h1
      rw [List.getElem?_append_left (by rw [← s.len]; exact hk)] at h2
      have q' := s.cl k a y h1 h2
      have ne : a ≠ p := fun e => mem_am_ne s hp (e ▸ List.mem_of_getElem? h1)
      cases y with
      | lst ds =>
        obtain ⟨vs, e, z, r⟩ := q'
        exact ⟨vs, by rw [upd_ne ne]; exact e, z, Reps.mono s xt r⟩
      | ins C ds =>
        obtain ⟨dx, vs, e, z, r⟩ := q'
        exact ⟨dx, vs, by rw [upd_ne ne]; exact e, z, Reps.mono s xt r⟩
      | dead => trivial
    · simp only [List.getElem?_append_right (show g.am.length ≤ k by omega)] at h1
      rw [List.getElem?_append_right (by have := s.len; omega), ← s.len] at h2
      obtain ⟨hh, e⟩ := List.getElem?_eq_some_iff.mp h1
      simp only [List.length_singleton, Nat.lt_one_iff] at hh
      simp only [hh, List.getElem_cons_zero] at e
      simp only [hh] at h2
      cases h2
      subst e
      exact q _ _ xt upd_same
  · rcases List.mem_append.mp h with h | h
    · exact upd_thr (s.tA a h)
    · simp at h
      rw [h, upd_same]; simp
/-- a cell is changed -/
theorem Post.setCell (s : SOk CE K g H c) {k : Nat} {a : Addr} {y x : Cell} {o : HO} (h1 : g.am[k]? = some a) (h2 : c[k]? = some y) (h3 : y ≠ .dead) (h4 : x ≠ .dead)
    (q : ∀ H', Ext g H c g H' (c.set k x) → H' a = some o → CellAt CE K g H' a x) : Post CE K g H c g (upd H a o) (c.set k x) := by
  have la : Live g c a := ⟨k, y, h1, h2, h3⟩
  have hk : k < c.length := (List.getElem?_eq_some_iff.mp h2).1
  have lv : ∀ b, Live g (c.set k x) b → Live g c b := fun b ⟨j, z, e1, e2, e3⟩ => by
    by_cases hj : j = k
    · subst hj
      rw [h1] at e1; cases e1
      exact la
    · rw [List.getElem?_set_ne (Ne.symm hj)] at e2
      exact ⟨j, z, e1, e2, e3⟩
  have xt : Ext g H c g (upd H a o) (c.set k x) := ⟨fun _ h => h, ⟨[], (List.append_nil _).symm⟩, fun b o' h n => by rw [upd_ne (fun e => n (by rw [e]; exact la))]; exact h,
    fun a h => .inl h, fun a h => .inl h, fun a h => upd_thr h, fun b l => .inl (lv b l)⟩
  refine ⟨xt, ⟨by simp [s.len], s.nd, fun b l h => s.nF b (lv b l) h, fun j b z e1 e2 => ?_, fun b h => upd_thr (s.tr b h), fun b h => upd_thr (s.tA b h)⟩⟩
  by_cases hj : j = k
  · subst hj
    rw [h1] at e1; cases e1
    rw [List.getElem?_set_self hk] at e2
    cases e2
    exact q _ xt upd_same
  · rw [List.getElem?_set_ne (Ne.symm hj)] at e2
    have ne : b ≠ a := fun e => hj (nodup_get s.nd e1 (e ▸ h1))
    have q' := s.cl j b z e1 e2
    cases z with
    | lst ds =>
      obtain ⟨vs, e, z, r⟩ := q'
      exact ⟨vs, by rw [upd_ne ne]; exact e, z, Reps.mono s xt r⟩
    | ins C ds =>
      obtain ⟨dx, vs, e, z, r⟩ := q'
      exact ⟨dx, vs, by rw [upd_ne ne]; exact e, z, Reps.mono s xt r⟩
    | dead => trivial
/-- the addresses of the frame's own objects -/
def Own (σ : L2.St) (δ : Ev') (a : Addr) : Prop := ∃ (i : Nat) (t : Slot) (o : Cell), δ[i]? = some t ∧ t.hid = some o ∧ σ[i]? = some (some (V.ref a))
structure ExtO (O : Addr → Prop) (g : Gh) (H : Hp) (c : Cells) (g' : Gh) (H' : Hp) (c' : Cells) : Prop where
  fr : ∀ a, g.F a → g'.F a
  am : ∃ t, g'.am = g.am ++ t
  keep : ∀ a o, H a = some o → ¬ Live g c a → ¬ O a → H' a = some o
  tup : ∀ a xs, H a = some (.tup xs) → H' a = some (.tup xs)
  frz : ∀ a o u, H a = some (.frz o u) → H' a = some (.frz o u)
  newF : ∀ a, g'.F a → g.F a ∨ H a = none ∨ a ∈ g.am ∨ O a
  newA : ∀ a, a ∈ g'.am → a ∈ g.am ∨ H a = none ∨ O a
  thr : ∀ a, H a ≠ none → H' a ≠ none
  dd : ∀ a, Live g' c' a → Live g c a ∨ H a = none ∨ O a
theorem Ext.o {O : Addr → Prop} (s : SOk CE K g H c) (x : Ext g H c g' H' c') : ExtO O g H c g' H' c' :=
  ⟨x.fr, x.am, fun a o h n _ => x.keep a o h n, (x.rk s).tup, (x.rk s).frz, fun a h => (x.newF a h).imp id fun h => h.imp id .inl, fun a h => (x.newA a h).imp id .inl, x.thr, fun a h => (x.dd a h).imp id .inl⟩
theorem ExtO.trans {O O' : Addr → Prop} (x : ExtO O g H c g' H' c') (y : ExtO O' g' H' c' g'' H'' c'') (h : ∀ a, O' a → O a ∨ H a = none) : ExtO O g H c g'' H'' c'' where
  fr := fun a h => y.fr a (x.fr a h)
  am := by
    obtain ⟨t, e⟩ := x.am
    obtain ⟨u, e'⟩ := y.am
    exact ⟨t ++ u, by rw [e', e, List.append_assoc]⟩
  keep := fun a o e n no => y.keep a o (x.keep a o e n no) (fun l => by
    rcases x.dd a l with l | l | l
    · exact n l
    · rw [e] at l; cases l
    · exact no l) fun z => by
    rcases h a z with z | z
    · exact no z
    · rw [e] at z; cases z
  tup := fun a xs e => y.tup a xs (x.tup a xs e)
  frz := fun a o u e => y.frz a o u (x.frz a o u e)
  newF := fun a z => by
    rcases y.newF a z with z | z | z | z
    · exact x.newF a z
    · cases e : H a with
      | none => exact .inr (.inl rfl)
      | some o => exact absurd z (x.thr a (by rw [e]; simp))
    · rcases x.newA a z with z | z | z
      · exact .inr (.inr (.inl z))
      · exact .inr (.inl z)
      · exact .inr (.inr (.inr z))
    · rcases h a z with z | z
      · exact .inr (.inr (.inr z))
      · exact .inr (.inl z)
  newA := fun a z => by
    rcases y.newA a z with z | z | z
    · exact x.newA a z
    · cases e : H a with
      | none => exact .inr (.inl rfl)
      | some o => exact absurd z (x.thr a (by rw [e]; simp))
    · rcases h a z with z | z
      · exact .inr (.inr z)
      · exact .inr (.inl z)
  thr := fun a e => y.thr a (x.thr a e)
  dd := fun a l => by
    rcases y.dd a l with l | l | l
    · exact x.dd a l
    · cases e : H a with
      | none => exact .inr (.inl rfl)
      | some o => exact absurd l (x.thr a (by rw [e]; simp))
    · rcases h a l with z | z
      · exact .inr (.inr z)
      · exact .inr (.inl z)
theorem ExtO.none {O : Addr → Prop} (x : ExtO O g H c g' H' c') (h : ∀ a, ¬ O a) : Ext g H c g' H' c' :=
  ⟨x.fr, x.am, fun a o e n => x.keep a o e n (h a), fun a z => by
    rcases x.newF a z with z | z | z | z
    · exact .inl z
    · exact .inr (.inl z)
    · exact .inr (.inr z)
    · exact absurd z (h a), fun a z => by
    rcases x.newA a z with z | z | z
    · exact .inl z
    · exact .inr z
    · exact absurd z (h a), x.thr, fun a z => by
    rcases x.dd a z with z | z | z
    · exact .inl z
    · exact .inr z
    · exact absurd z (h a)⟩
/-- the data that are no object of the frame's own stay -/
theorem ExtO.rk {O : Addr → Prop} (s : SOk CE K g H c) (nO : ∀ a, O a → ¬ g.F a) (x : ExtO O g H c g' H' c') : RK g H g' H' := ⟨x.fr, fun k a e => by
    obtain ⟨t, e'⟩ := x.am
    rw [e', List.getElem?_append_left (List.getElem?_eq_some_iff.mp e).1]
    exact e, fun a h => by
    cases e : H a with
    | none => exact absurd e (s.tr a h)
    | some o => exact x.keep a o e (s.notLive h) fun z => nO a z h, x.tup, x.frz⟩
theorem EnvR.ownF {σ : L2.St} {δ : Ev'} (er : EnvR CE K g H σ δ) {a : Addr} (h : Own σ δ a) : ¬ g.F a ∧ a ∉ g.am ∧ H a ≠ none := by
  obtain ⟨i, t, o, h1, h2, h3⟩ := h
  obtain ⟨a', e1, n1, n2, n3, n4, _⟩ := er.own i t o h1 h2
  rw [e1] at h3; cases h3
  exact ⟨n1, n2, cell_there n4 n3⟩
/-- the state behind a statement, seen from the one ahead of it -/
structure XS (CE : CEnv) (K : PySem.W.Frag) (g : Gh) (H : Hp) (c : Cells) (σ : L2.St) (δ : Ev') (g' : Gh) (H' : Hp) (c' : Cells) (σ' : L2.St) (δ' : Ev') : Prop where
  x : ExtO (Own σ δ) g H c g' H' c'
  ok : SOk CE K g' H' c'
  er : EnvR CE K g' H' σ' δ'
  sub : ∀ a, Own σ' δ' a → Own σ δ a ∨ H a = none
/-- .. behind a return -/
structure XR (CE : CEnv) (K : PySem.W.Frag) (g : Gh) (H : Hp) (c : Cells) (σ : L2.St) (δ : Ev') (g' : Gh) (H' : Hp) (c' : Cells) : Prop where
  x : ExtO (Own σ δ) g H c g' H' c'
  ok : SOk CE K g' H' c'
section
variable {σ σ' σ'' : L2.St} {δ δ' δ'' : Ev'}
theorem XS.of (ok : SOk CE K g H c) (er : EnvR CE K g H σ δ) (p : Post CE K g H c g' H' c') : XS CE K g H c σ δ g' H' c' σ δ := ⟨p.ext.o ok, p.ok, er.mono ok p.ext, fun _ h => .inl h⟩
theorem XR.of (ok : SOk CE K g H c) (p : Post CE K g H c g' H' c') : XR CE K g H c σ δ g' H' c' := ⟨p.ext.o ok, p.ok⟩
theorem XS.trans (a : XS CE K g H c σ δ g' H' c' σ' δ') (b : XS CE K g' H' c' σ' δ' g'' H'' c'' σ'' δ'') : XS CE K g H c σ δ g'' H'' c'' σ'' δ'' :=
  ⟨a.x.trans b.x a.sub, b.ok, b.er, fun z h => by
    rcases b.sub z h with h | h
    · exact a.sub z h
    · cases e : H z with
      | none => exact .inr rfl
      | some o => exact absurd h (a.x.thr z (by rw [e]; simp))⟩
theorem XS.ret (a : XS CE K g H c σ δ g' H' c' σ' δ') (b : XR CE K g' H' c' σ' δ' g'' H'' c'') : XR CE K g H c σ δ g'' H'' c'' := ⟨a.x.trans b.x a.sub, b.ok⟩
theorem XS.rep (ok : SOk CE K g H c) (er : EnvR CE K g H σ δ) (a : XS CE K g H c σ δ g' H' c' σ' δ') {d : D} {v : V} (h : Rep CE K g H d v) : Rep CE K g' H' d v := Rep.rk (a.x.rk ok fun _ z => (er.ownF z).1) h
theorem Own.set {i : Nat} {d : D} {v : Option V} {a : Addr} (h : Own (σ.set i v) (δ.set i (.sh d)) a) : Own σ δ a := by
  obtain ⟨j, t, o, h1, h2, h3⟩ := h
  by_cases hj : j = i
  · subst hj
    have hl : j < δ.length := by
      have := (List.getElem?_eq_some_iff.mp h1).1
      simpa using this
    rw [List.getElem?_set_self hl] at h1
    cases h1
    cases h2
  · rw [List.getElem?_set_ne (Ne.symm hj)] at h1 h3
    exact ⟨j, t, o, h1, h2, h3⟩
end
end
end DL

namespace DL
open PySem PySem.Spec PyProof.Rows L2

def wpo {α : Type} (o : Out α) (P : α → Cells → Prop) (E : Nat → List D → Cells → Prop) : Prop := match o with
  | .ok a c => P a c
  | .exc C xs c => E C xs c
  | .bad => False
theorem wpo_bnd {α β : Type} {o : Out α} {f : α → M β} {P : β → Cells → Prop} {E : Nat → List D → Cells → Prop} : wpo (o.bnd f) P E ↔ wpo o (fun a c => wpo (f a c) P E) E := by
  cases o <;> rfl
theorem wpo_mono {α : Type} {o : Out α} {P P' : α → Cells → Prop} {E E' : Nat → List D → Cells → Prop} (h : wpo o P E) (hp : ∀ a c, P a c → P' a c) (he : ∀ C xs c, E C xs c → E' C xs c) : wpo o P' E' := by
  cases o with
  | ok a c => exact hp a c h
  | exc C xs c => exact he C xs c h
  | bad => exact h

/-- an exception's fields: none without a dict of its own -/
def ExcAt (CE : CEnv) (K : PySem.W.Frag) (g : Gh) (H : Hp) (C : Nat) (xs : List D) : Option Addr → Prop
  | none => xs = []
  | some d => ∃ vs, H d = some (.xd ((CE C).2.zip vs)) ∧ xs.length ≤ (CE C).2.length ∧ Reps CE K g H xs vs

section
variable (CE : CEnv) (K : PySem.W.Frag) (W : WX)
def EK (g : Gh) (H : Hp) (c : Cells) (σ : L2.St) : Nat → List D → Cells → Prop := fun C xs c' =>
  ∀ g' H' dx, Post CE K g H c g' H' c' → ExcAt CE K g' H' C xs dx → W (.ref (CE C).1) dx σ H'
/-- the reading of an expression by its mirror -/
def tD (m : EM) : TE := fun σ H Q => ∃ g c δ, SOk CE K g H c ∧ EnvR CE K g H σ δ ∧
  wpo (m δ c) (fun d c' => ∀ g' H' v, Post CE K g H c g' H' c' → Rep CE K g' H' d v → Q v H') (EK CE K W g H c σ)
def tDT (m : TM) : TT := fun σ H Q => ∃ g c δ, SOk CE K g H c ∧ EnvR CE K g H σ δ ∧
  wpo (m δ c) (fun b c' => ∀ g' H', Post CE K g H c g' H' c' → Q b H') (EK CE K W g H c σ)
def tDA (m : Ev' → M (List D)) : TA := fun σ H Q => ∃ g c δ, SOk CE K g H c ∧ EnvR CE K g H σ δ ∧
  wpo (m δ c) (fun ds c' => ∀ g' H' vs, Post CE K g H c g' H' c' → Reps CE K g' H' ds vs → Q vs H') (EK CE K W g H c σ)
end
def PD (X : Cx) (CE : CEnv) (W : WX) (e : Expr) (m : EM) : Prop := PE X e (tD CE X.K W m)
def PDT (X : Cx) (CE : CEnv) (W : WX) (e : Expr) (m : TM) : Prop := PT X e (tDT CE X.K W m)
def PDA (X : Cx) (CE : CEnv) (W : WX) (es : List Expr) (m : Ev' → M (List D)) : Prop := PA X es (tDA CE X.K W m)

theorem _root_.L2.PE.wk {X : Cx} {e : Expr} {t t' : TE} (h : PE X e t) (hw : ∀ σ H Q, t' σ H Q → t σ H Q) : PE X e t' := ⟨fun pins s σ H Q I q => h.run pins s σ H Q I (hw _ _ _ q)⟩
theorem _root_.L2.PT.wk {X : Cx} {e : Expr} {t t' : TT} (h : PT X e t) (hw : ∀ σ H Q, t' σ H Q → t σ H Q) : PT X e t' := ⟨fun pins s σ H Q I q => h.run pins s σ H Q I (hw _ _ _ q)⟩
theorem _root_.L2.PA.wk {X : Cx} {e : List Expr} {t t' : TA} (h : PA X e t) (hw : ∀ σ H Q, t' σ H Q → t σ H Q) : PA X e t' := ⟨fun pos pins s σ H Q I q => h.run pos pins s σ H Q I (hw _ _ _ q)⟩

section
variable {CE : CEnv} {K : PySem.W.Frag} {W : WX} {g : Gh} {H : Hp} {c : Cells} {δ : Ev'} {σ : L2.St}
theorem use {m : EM} {R : VK} {P : D → Cells → Prop} {E' : Nat → List D → Cells → Prop} (ok : SOk CE K g H c) (er : EnvR CE K g H σ δ) (h : wpo (m δ c) P E')
    (hP : ∀ d c', P d c' → ∀ g' H' v, Post CE K g H c g' H' c' → Rep CE K g' H' d v → R v H') (hE : ∀ C xs c', E' C xs c' → EK CE K W g H c σ C xs c') : tD CE K W m σ H R :=
  ⟨g, c, δ, ok, er, wpo_mono h hP hE⟩
theorem useT {m : TM} {R : Bool → Hp → Prop} {P : Bool → Cells → Prop} {E' : Nat → List D → Cells → Prop} (ok : SOk CE K g H c) (er : EnvR CE K g H σ δ) (h : wpo (m δ c) P E')
    (hP : ∀ b c', P b c' → ∀ g' H', Post CE K g H c g' H' c' → R b H') (hE : ∀ C xs c', E' C xs c' → EK CE K W g H c σ C xs c') : tDT CE K W m σ H R :=
  ⟨g, c, δ, ok, er, wpo_mono h hP hE⟩
theorem useA {m : Ev' → M (List D)} {R : List V → Hp → Prop} {P : List D → Cells → Prop} {E' : Nat → List D → Cells → Prop} (ok : SOk CE K g H c) (er : EnvR CE K g H σ δ) (h : wpo (m δ c) P E')
    (hP : ∀ ds c', P ds c' → ∀ g' H' vs, Post CE K g H c g' H' c' → Reps CE K g' H' ds vs → R vs H') (hE : ∀ C xs c', E' C xs c' → EK CE K W g H c σ C xs c') : tDA CE K W m σ H R :=
  ⟨g, c, δ, ok, er, wpo_mono h hP hE⟩
/-- an exception's wish, seen from an earlier state -/
theorem EK.back {g1 : Gh} {H1 : Hp} {c1 : Cells} (p : Post CE K g H c g1 H1 c1) {C : Nat} {xs : List D} {c' : Cells} (h : EK CE K W g H c σ C xs c') : EK CE K W g1 H1 c1 σ C xs c' :=
  fun g' H' dx p' x => h g' H' dx (p.trans p') x
end

def varE (i : Nat) : EM := fun δ c => match δ[i]? with | some (Slot.sh d) => .ok d c | _ => .bad
def litE (d : D) : EM := fun _ c => .ok d c
section
variable {X : Cx} {CE : CEnv} {W : WX} {pos : Pos} {a b e : Expr} {es : List Expr} {ma mb : EM}
theorem pd_var (i : Nat) {x : PySem.Str} (h : PE X (.Name x pos) (tVar i)) : PD X CE W (.Name x pos) (varE i) := h.wk fun σ H Q ⟨g, c, δ, ok, er, h⟩ => by
  unfold varE at h
  cases e : δ[i]? with
  | none => rw [e] at h; exact h.elim
  | some s =>
    rw [e] at h
    cases s with
    | sh d =>
      obtain ⟨v, e1, r⟩ := er.sh i d e
      exact ⟨v, e1, h g H v (Post.refl ok) r⟩
    | un => exact h.elim
    | own o => exact h.elim
    | slf a C xs => exact h.elim
theorem pd_c {v : V} {d : D} (h : PE X e (tC v)) (r : ∀ g H, Rep CE X.K g H d v) : PD X CE W e (litE d) := h.wk fun σ H Q ⟨g, c, δ, ok, er, h⟩ => h g H v (Post.refl ok) (r g H)
theorem pd_int {i j pos} : PD X CE W (.Constant (.int i) j pos) (litE (.int i)) := pd_c pe_int fun _ _ => by simp only [Rep]
theorem pd_bl {i j pos} : PD X CE W (.Constant (.bool i) j pos) (litE (.bl i)) := pd_c pe_bl fun _ _ => by simp only [Rep]
theorem pd_non {j pos} : PD X CE W (.Constant .none j pos) (litE .non) := pd_c pe_non fun _ _ => by simp only [Rep]
theorem pd_str {x j pos} : PD X CE W (.Constant (.str x) j pos) (litE (.str x)) := pd_c pe_str fun _ _ => by simp only [Rep]

def nilA : Ev' → M (List D) := fun _ c => .ok [] c
def consA (m : EM) (ms : Ev' → M (List D)) : Ev' → M (List D) := fun δ => bnd (m δ) fun d => bnd (ms δ) fun ds => DL.ret (d :: ds)
theorem pda_nil : PDA X CE W [] nilA := pa_nil.wk fun σ H Q ⟨g, c, δ, ok, er, h⟩ => h g H [] (Post.refl ok) Reps.nil
theorem pda_cons {ms : Ev' → M (List D)} (ha : PD X CE W e ma) (hr : PDA X CE W es ms) (hs : starEach (e :: es) X.env = (false, eval e X.env) :: starEach es X.env := by rfl) : PDA X CE W (e :: es) (consA ma ms) :=
  (pa_cons ha hr hs).wk fun σ H Q ⟨g, c, δ, ok, er, h⟩ => by
    replace h := wpo_bnd.mp h
    refine use ok er h (fun d c1 h g1 H1 v p1 r1 => ?_) fun _ _ _ z => z
    replace h := wpo_bnd.mp h
    refine useA p1.ok (er.mono ok p1.ext) h (fun ds c2 h g2 H2 vs p2 r2 => ?_) fun _ _ _ z => EK.back p1 z
    exact h g2 H2 _ (p1.trans p2) (Reps.cons (Rep.mono p1.ok p2.ext r1) r2)

def opt {α : Type} (o : Option α) : M α := fun c => match o with
  | some a => .ok a c
  | none => .bad
/-- an operation's rule by a mirror: it raises nothing and leaves the cells -/
def rD (CE : CEnv) (K : PySem.W.Frag) (r : D → D → Cells → Option D) : R2 := fun x y H Q => ∃ g c d e z, SOk CE K g H c ∧ Rep CE K g H d x ∧ Rep CE K g H e y ∧
  r d e c = some z ∧ ∀ g' H' v, Post CE K g H c g' H' c → Rep CE K g' H' z v → Q v H'
def bin (r : D → D → Cells → Option D) (ma mb : EM) : EM := fun δ => bnd (ma δ) fun x => bnd (mb δ) fun y => fun c => opt (r x y c) c
theorem opt_ok {α : Type} {o : Option α} {c : Cells} {P : α → Cells → Prop} {E : Nat → List D → Cells → Prop} (h : wpo (opt o c) P E) : ∃ z, o = some z ∧ P z c := by
  cases o with
  | some z => exact ⟨z, rfl, h⟩
  | none => exact h.elim
theorem use2 {K : PySem.W.Frag} {r : D → D → Cells → Option D} {σ : L2.St} {H : Hp} {Q : VK} {g : Gh} {c : Cells} {δ : Ev'} (ok : SOk CE K g H c) (er : EnvR CE K g H σ δ)
    (h : wpo (bin r ma mb δ c) (fun d c' => ∀ g' H' v, Post CE K g H c g' H' c' → Rep CE K g' H' d v → Q v H') (EK CE K W g H c σ)) : tOp (rD CE K r) (tD CE K W ma) (tD CE K W mb) σ H Q := by
  replace h := wpo_bnd.mp h
  refine use ok er h (fun d c1 h g1 H1 v p1 r1 => ?_) fun _ _ _ z => z
  replace h := wpo_bnd.mp h
  refine use p1.ok (er.mono ok p1.ext) h (fun d2 c2 h g2 H2 v2 p2 r2 => ?_) fun _ _ _ z => EK.back p1 z
  obtain ⟨z, e, h⟩ := opt_ok h
  exact ⟨g2, c2, d, d2, z, p2.ok, Rep.mono p1.ok p2.ext r1, r2, e, fun g3 H3 v3 p3 r3 => h g3 H3 v3 ((p1.trans p2).trans p3) r3⟩
theorem pd_bin {op : Operator} {r : D → D → Cells → Option D} (ho : OpR X (binaryOp op) (rD CE X.K r)) (ha : PD X CE W a ma) (hb : PD X CE W b mb) : PD X CE W (.BinOp a op b pos) (bin r ma mb) :=
  (pe_op ho ha hb).wk fun σ H Q ⟨g, c, δ, ok, er, h⟩ => use2 ok er h
theorem pd_cmp {op : CmpOp} {r : D → D → Cells → Option D} (ho : OpR X (compareOp op) (rD CE X.K r)) (ha : PD X CE W a ma) (hb : PD X CE W b mb) (hm : behindInMarks op b = false) : PD X CE W (.Compare a [op] [b] pos) (bin r ma mb) :=
  (pe_cmpR ho ha hb hm).wk fun σ H Q ⟨g, c, δ, ok, er, h⟩ => use2 ok er h
/-- a one-place operation -/
def rD1 (CE : CEnv) (K : PySem.W.Frag) (r : D → Cells → Option D) : V → Hp → VK → Prop := fun x H Q => ∃ g c d z, SOk CE K g H c ∧ Rep CE K g H d x ∧
  r d c = some z ∧ ∀ g' H' v, Post CE K g H c g' H' c → Rep CE K g' H' z v → Q v H'
def un1 (r : D → Cells → Option D) (ma : EM) : EM := fun δ => bnd (ma δ) fun x => fun c => opt (r x c) c
theorem use1 {K : PySem.W.Frag} {r : D → Cells → Option D} {σ : L2.St} {H : Hp} {Q : VK} {g : Gh} {c : Cells} {δ : Ev'} (ok : SOk CE K g H c) (er : EnvR CE K g H σ δ)
    (h : wpo (un1 r ma δ c) (fun d c' => ∀ g' H' v, Post CE K g H c g' H' c' → Rep CE K g' H' d v → Q v H') (EK CE K W g H c σ)) : tUn (rD1 CE K r) (tD CE K W ma) σ H Q := by
  replace h := wpo_bnd.mp h
  refine use ok er h (fun d c1 h g1 H1 v p1 r1 => ?_) fun _ _ _ z => z
  obtain ⟨z, e, h⟩ := opt_ok h
  exact ⟨g1, c1, d, z, p1.ok, r1, e, fun g3 H3 v3 p3 r3 => h g3 H3 v3 (p1.trans p3) r3⟩
theorem pd_un {op : UnaryOp} {r : D → Cells → Option D} (ho : UnR X (unaryOp op) (rD1 CE X.K r)) (ha : PD X CE W a ma) : PD X CE W (.UnaryOp op a pos) (un1 r ma) :=
  (pe_un ho ha).wk fun σ H Q ⟨g, c, δ, ok, er, h⟩ => use1 ok er h
/-- a built-in's or a type's call -/
def rDA (CE : CEnv) (K : PySem.W.Frag) (r : List D → Cells → Option D) : List V → Hp → VK → Prop := fun xs H Q => ∃ g c ds z, SOk CE K g H c ∧ Reps CE K g H ds xs ∧
  r ds c = some z ∧ ∀ g' H' v, Post CE K g H c g' H' c → Rep CE K g' H' z v → Q v H'
def callB (r : List D → Cells → Option D) (ms : Ev' → M (List D)) : EM := fun δ => bnd (ms δ) fun xs => fun c => opt (r xs c) c
theorem useB {K : PySem.W.Frag} {ms : Ev' → M (List D)} {r : List D → Cells → Option D} {σ : L2.St} {H : Hp} {Q : VK} {g : Gh} {c : Cells} {δ : Ev'} (ok : SOk CE K g H c) (er : EnvR CE K g H σ δ)
    (h : wpo (callB r ms δ c) (fun d c' => ∀ g' H' v, Post CE K g H c g' H' c' → Rep CE K g' H' d v → Q v H') (EK CE K W g H c σ)) : tCB (rDA CE K r) (tDA CE K W ms) σ H Q := by
  replace h := wpo_bnd.mp h
  refine useA ok er h (fun d c1 h g1 H1 v p1 r1 => ?_) fun _ _ _ z => z
  obtain ⟨z, e, h⟩ := opt_ok h
  exact ⟨g1, c1, d, z, p1.ok, r1, e, fun g3 H3 v3 p3 r3 => h g3 H3 v3 (p1.trans p3) r3⟩
theorem pd_callB {x : PySem.Str} {id : String} {p : Pos} {ms : Ev' → M (List D)} {r : List D → Cells → Option D} (hc : CallR X (.builtin id) (rDA CE X.K r)) (hg : Gl X x) (hm : X.mg x = none) (hv : bootBuiltins x = some (.builtin id)) (ha : PDA X CE W (e :: es) ms)
    (hn : x ≠ "__name__" := by decide) (hdb : (x == ("__debug__" : PySem.Str)) = false := by decide) (he : starEach (e :: es) X.env = (false, eval e X.env) :: starEach es X.env := by rfl) (hpl : (backTo pos (starEach es X.env)).any (·.1) = false := by rfl) :
    PD X CE W (.Call (.Name x p) (e :: es) [] pos) (callB r ms) :=
  (pe_callB hc hg hm hv ha hn hdb he hpl).wk fun σ H Q ⟨g, c, δ, ok, er, h⟩ => useB ok er h
theorem pd_callTy {x : PySem.Str} {T : String} {p : Pos} {ms : Ev' → M (List D)} {r : List D → Cells → Option D} (hc : CallR X (.type T) (rDA CE X.K r)) (hg : Gl X x) (hm : X.mg x = none) (hv : bootBuiltins x = some (.type T)) (ha : PDA X CE W (e :: es) ms)
    (hn : x ≠ "__name__" := by decide) (hdb : (x == ("__debug__" : PySem.Str)) = false := by decide) (he : starEach (e :: es) X.env = (false, eval e X.env) :: starEach es X.env := by rfl) (hpl : (backTo pos (starEach es X.env)).any (·.1) = false := by rfl) :
    PD X CE W (.Call (.Name x p) (e :: es) [] pos) (callB r ms) :=
  (pe_callTy hc hg hm hv ha hn hdb he hpl).wk fun σ H Q ⟨g, c, δ, ok, er, h⟩ => useB ok er h
end
end DL

namespace DL
open PySem PySem.Spec PyProof.Rows L2

def listOf (d : D) (c : Cells) : Option (List D) := match d with
  | .lst xs => some xs
  | .cell k => match c[k]? with
    | some (Cell.lst xs) => some xs
    | _ => none
  | _ => none
def rlistOf (d : D) (c : Cells) : Option (List D) := match d with
  | .rol xs => some xs
  | d => listOf d c
def seqOf (d : D) (c : Cells) : Option (List D) := match d with
  | .tup xs => some xs
  | d => rlistOf d c
section
variable {CE : CEnv} {K : PySem.W.Frag} {g : Gh} {H : Hp} {c : Cells} {d : D} {v : V} {xs : List D}
theorem listOf_at (ok : SOk CE K g H c) (r : Rep CE K g H d v) (e : listOf d c = some xs) : ∃ a vs, v = .ref a ∧ H a = some (.lst vs) ∧ xs.length ≤ sizeLine ∧ Reps CE K g H xs vs := by
  cases d <;> try (simp [listOf] at e; done)
  case lst ds =>
    simp only [listOf, Option.some.injEq] at e
    subst e
    simp only [Rep] at r
    obtain ⟨a, vs, rfl, _, h, z, q⟩ := r
    exact ⟨a, vs, rfl, h, z, q⟩
  case cell k =>
    simp only [Rep] at r
    obtain ⟨a, rfl, h⟩ := r
    simp only [listOf] at e
    split at e
    · rename_i ys he
      cases e
      obtain ⟨vs, h1, z, q⟩ := ok.cl k a _ h he
      exact ⟨a, vs, rfl, h1, z, q⟩
    · cases e
theorem rlistOf_at (ok : SOk CE K g H c) (r : Rep CE K g H d v) (e : rlistOf d c = some xs) : ∃ a vs, v = .ref a ∧ SqL K H a vs ∧ xs.length ≤ sizeLine ∧ Reps CE K g H xs vs := by
  have gen : listOf d c = some xs → ∃ a vs, v = .ref a ∧ SqL K H a vs ∧ xs.length ≤ sizeLine ∧ Reps CE K g H xs vs := fun e =>
    let ⟨a, vs, h1, h2, h3, h4⟩ := listOf_at ok r e
    ⟨a, vs, h1, .of h2, h3, h4⟩
  cases d <;> try exact gen e
  case rol ds =>
    simp only [rlistOf, Option.some.injEq] at e
    subst e
    simp only [Rep] at r
    obtain ⟨a, vs, rfl, h, z, q⟩ := r
    exact ⟨a, vs, rfl, h.elim (fun ⟨o, h⟩ => .inl (.inr ⟨o, h⟩)) fun h => h H, z, q⟩
theorem seqOf_at (ok : SOk CE K g H c) (r : Rep CE K g H d v) (e : seqOf d c = some xs) : ∃ a vs, v = .ref a ∧ (SqL K H a vs ∨ SqT K H a vs) ∧ xs.length ≤ sizeLine ∧ Reps CE K g H xs vs := by
  have gen : rlistOf d c = some xs → ∃ a vs, v = .ref a ∧ (SqL K H a vs ∨ SqT K H a vs) ∧ xs.length ≤ sizeLine ∧ Reps CE K g H xs vs := fun e =>
    let ⟨a, vs, h1, h2, h3, h4⟩ := rlistOf_at ok r e
    ⟨a, vs, h1, .inl h2, h3, h4⟩
  cases d <;> try exact gen e
  case tup ds =>
    simp only [seqOf, Option.some.injEq] at e
    subst e
    simp only [Rep] at r
    obtain ⟨a, vs, rfl, h, z, q⟩ := r
    exact ⟨a, vs, rfl, .inr h, z, q⟩
theorem rep_int {i : Int} : Rep CE K g H (.int i) (.int i) := by simp only [Rep]
theorem rep_bl {i : Bool} : Rep CE K g H (.bl i) (.bl i) := by simp only [Rep]
theorem rep_str {i : PySem.Str} : Rep CE K g H (.str i) (.str i) := by simp only [Rep]
theorem rep_non : Rep CE K g H .non .non := by simp only [Rep]
/-- a new frozen list -/
theorem new_lst {vs : List V} {Q : VK} {p : Addr} (ok : SOk CE K g H c) (hp : H p = none) (r : Reps CE K g H xs vs) (z : xs.length ≤ sizeLine)
    (q : ∀ g' H' v, Post CE K g H c g' H' c → Rep CE K g' H' (.lst xs) v → Q v H') : Q (.ref p) (upd H p (.lst vs)) := by
  have P := Post.new ok hp (.lst vs)
  refine q _ _ _ P ?_
  simp only [Rep]
  exact ⟨p, vs, rfl, .inr rfl, upd_same, z, Reps.mono ok P.ext r⟩
theorem new_tup {vs : List V} {Q : VK} {p : Addr} (ok : SOk CE K g H c) (hp : H p = none) (r : Reps CE K g H xs vs) (z : xs.length ≤ sizeLine)
    (q : ∀ g' H' v, Post CE K g H c g' H' c → Rep CE K g' H' (.tup xs) v → Q v H') : Q (.ref p) (upd H p (.tup vs)) := by
  have P := Post.new ok hp (.tup vs)
  refine q _ _ _ P ?_
  simp only [Rep]
  exact ⟨p, vs, rfl, .of upd_same, z, Reps.mono ok P.ext r⟩
end

def smallI (i : Int) : Bool := decide (-(2 ^ 64) < i) && decide (i < 2 ^ 64)
def addP (x y : D) (c : Cells) : Option D := match x with
  | .int i => match y with
    | .int j => some (.int (i + j))
    | _ => none
  | .str i => match y with
    | .str j => if i.length + j.length ≤ sizeLine then some (.str (i ++ j)) else none
    | _ => none
  | .tup xs => match y with
    | .tup ys => if xs.length + ys.length ≤ sizeLine then some (.tup (xs ++ ys)) else none
    | _ => none
  | x => match listOf x c, listOf y c with
    | some xs, some ys => if xs.length + ys.length ≤ sizeLine then some (.lst (xs ++ ys)) else none
    | _, _ => none
def intP (f : Int → Int → Option D) (x y : D) (_ : Cells) : Option D := match x, y with
  | .int i, .int j => f i j
  | _, _ => none
def subP : D → D → Cells → Option D := intP fun i j => some (.int (i - j))
def mulP : D → D → Cells → Option D := intP fun i j => if smallI i || smallI j then some (.int (i * j)) else none
def modP : D → D → Cells → Option D := intP fun i j => if 0 < j then some (.int (i % j)) else none
def fdivP : D → D → Cells → Option D := intP fun i j => if 0 < j ∧ j.natAbs.log2 < 9000 then some (.int (i / j)) else none
def powP : D → D → Cells → Option D := intP fun i j => if 0 ≤ j ∧ j ≤ 1000000 ∧ i.natAbs < 2 ^ 64 then some (.int (i ^ j.toNat)) else none
def negP : D → Cells → Option D := fun x _ => match x with
  | .int i => some (.int (-i))
  | _ => none
section
variable {X : Cx} {CE : CEnv}
theorem opr_int {f : Value → Value → Sem Value} {r : Int → Int → Option D} {rr : R2} (h : OpR X f rr) (hr : ∀ i j z H Q, r i j = some z → (∀ v, Rep CE X.K ⟨fun _ => False, []⟩ H z v → Q v H) → (∀ g g' : Gh, ∀ H v, Rep CE X.K g H z v → Rep CE X.K g' H z v) → rr (.int i) (.int j) H Q)
    (hz : ∀ i j z, r i j = some z → ∀ (g g' : Gh) H v, Rep CE X.K g H z v → Rep CE X.K g' H z v) : OpR X f (rD CE X.K (intP r)) := by
  intro pins s σ H x y v u Q I rx ry ⟨g, c, d, e, z, ok, r1, r2, ez, q⟩
  cases d <;> cases e <;> try (simp [intP] at ez; done)
  rename_i i j
  simp only [intP] at ez
  simp only [Rep] at r1 r2
  subst r1; subst r2
  exact h pins s σ H _ _ v u Q I rx ry (hr i j z H Q ez (fun v rv => q g H v (Post.refl ok) (hz i j z ez _ _ _ _ rv)) (hz i j z ez))
theorem mono_int {i : Int} {K : PySem.W.Frag} : ∀ (g g' : Gh) H v, Rep CE K g H (.int i) v → Rep CE K g' H (.int i) v := fun _ _ _ _ h => by simpa only [Rep] using h
theorem mono_bl {i : Bool} {K : PySem.W.Frag} : ∀ (g g' : Gh) H v, Rep CE K g H (.bl i) v → Rep CE K g' H (.bl i) v := fun _ _ _ _ h => by simpa only [Rep] using h
theorem od_sub : OpR X (binaryOp .Sub) (rD CE X.K subP) := opr_int op_sub (fun i j z H Q e q _ => by cases e; exact ⟨i, j, rfl, rfl, q _ rep_int⟩) fun i j z e => by cases e; exact mono_int
theorem od_mul : OpR X (binaryOp .Mult) (rD CE X.K mulP) := opr_int op_mul (fun i j z H Q e q _ => by
    split at e
    · rename_i h
      cases e
      refine ⟨i, j, rfl, rfl, ?_, q _ rep_int⟩
      simpa [smallI, CMul] using h
    · cases e) fun i j z e => by
    split at e
    · cases e; exact mono_int
    · cases e
theorem od_mod : OpR X (binaryOp .Mod) (rD CE X.K modP) := opr_int op_mod (fun i j z H Q e q _ => by
    split at e
    · rename_i h
      cases e
      exact ⟨i, j, rfl, rfl, h, q _ rep_int⟩
    · cases e) fun i j z e => by
    split at e
    · cases e; exact mono_int
    · cases e
theorem od_fdiv : OpR X (binaryOp .FloorDiv) (rD CE X.K fdivP) := opr_int op_fdivW (fun i j z H Q e q _ => by
    split at e
    · rename_i h
      cases e
      exact ⟨i, j, rfl, rfl, h, q _ rep_int⟩
    · cases e) fun i j z e => by
    split at e
    · cases e; exact mono_int
    · cases e
theorem od_pow : OpR X (binaryOp .Pow) (rD CE X.K powP) := opr_int op_pow (fun i j z H Q e q _ => by
    split at e
    · rename_i h
      cases e
      exact ⟨i, j, rfl, rfl, h, q _ rep_int⟩
    · cases e) fun i j z e => by
    split at e
    · cases e; exact mono_int
    · cases e
theorem ud_neg : UnR X (unaryOp .USub) (rD1 CE X.K negP) := by
  intro pins s σ H x v Q I rx ⟨g, c, d, z, ok, r1, ez, q⟩
  cases d <;> try (simp [negP] at ez; done)
  simp only [negP, Option.some.injEq] at ez
  subst ez
  simp only [Rep] at r1
  subst r1
  exact un_neg pins s σ H _ v Q I rx ⟨_, rfl, q g H _ (Post.refl ok) rep_int⟩
theorem od_add_list {pins : List (Addr × Obj)} {s : Shared} {σ : L2.St} {H : Hp} {x y : V} {v u : Value} {Q : VK} (I : Inv X pins σ H s) (rx : RelV x v) (ry : RelV y u) {g : Gh} {c : Cells} {d e z : D} (ok : SOk CE X.K g H c) (r1 : Rep CE X.K g H d x) (r2 : Rep CE X.K g H e y)
    (ez : (match listOf d c, listOf e c with | some xs, some ys => if xs.length + ys.length ≤ sizeLine then some (D.lst (xs ++ ys)) else none | _, _ => none) = some z) (q : ∀ g' H' v, Post CE X.K g H c g' H' c → Rep CE X.K g' H' z v → Q v H') :
    wpAny (model X.prog X.w) X.A (binaryOp .Add v u) (EP X pins σ Q) X.xe s := by
  split at ez
  · rename_i xs ys e1 e2
    split at ez
    · rename_i hz
      cases ez
      obtain ⟨a, vs, rfl, h1, z1, q1⟩ := listOf_at ok r1 e1
      obtain ⟨b, ws, rfl, h2, z2, q2⟩ := listOf_at ok r2 e2
      refine op_cat pins s σ H _ _ v u Q I rx ry ⟨a, b, vs, ws, rfl, rfl, h1, h2, by rw [Reps.length q1, Reps.length q2]; exact hz, fun p hp => ?_⟩
      exact new_lst ok hp (Reps.append q1 q2) (by rw [List.length_append]; exact hz) q
    · cases ez
  · cases ez
theorem catT_nil : OpR X (binaryOp .Add) (fun x y H Q => ∃ a b ys, x = .ref a ∧ y = .ref b ∧ SqT X.K H a [] ∧ SqT X.K H b ys ∧ Q (.ref b) H) := by
  intro pins s σ H x y v u Q I rx ry h
  obtain ⟨a, b, ys, rfl, rfl, ha, hb, q⟩ := h
  cases rx
  cases ry
  obtain ⟨its, r1, p1, _⟩ := I.tuple ha
  obtain ⟨its2, r2, p2, _⟩ := I.tuple hb
  cases r1
  obtain ⟨⟨cls, dd, data, sl⟩, ho, hc, n, hd⟩ := id p1
  obtain ⟨⟨cls2, dd2, data2, sl2⟩, ho2, hc2, n2, hd2⟩ := id p2
  simp only at hc hd hc2 hd2
  subst hc hd hc2 hd2
  exact concat_meets ⟨_, ho, rfl⟩ ⟨_, ho2, rfl⟩ noFill_tuple_add seq_tuple_add PySem.F.slot_tuple_add PySem.F.entry_tuple_add (PySem.F.args_tuple_add_2 _ _)
      (tuple_addW0 a b _ _ n n2 dd dd2 sl sl2 rfl) ⟨ho, ho2, ⟨.ref b, H, I, rfl, q⟩⟩
theorem od_add : OpR X (binaryOp .Add) (rD CE X.K addP) := by
  intro pins s σ H x y v u Q I rx ry ⟨g, c, d, e, z, ok, r1, r2, ez, q⟩
  cases d with
  | int i =>
    cases e <;> try (simp [addP] at ez; done)
    simp only [addP, Option.some.injEq] at ez
    subst ez
    simp only [Rep] at r1 r2
    subst r1; subst r2
    exact op_add pins s σ H _ _ v u Q I rx ry ⟨_, _, rfl, rfl, q g H _ (Post.refl ok) rep_int⟩
  | str i =>
    cases e <;> try (simp [addP] at ez; done)
    simp only [addP] at ez
    split at ez
    · rename_i hz
      cases ez
      simp only [Rep] at r1 r2
      subst r1; subst r2
      exact op_add_str pins s σ H _ _ v u Q I rx ry ⟨_, _, rfl, rfl, hz, q g H _ (Post.refl ok) rep_str⟩
    · cases ez
  | tup xs =>
    cases e <;> try (simp [addP] at ez; done)
    rename_i ys
    simp only [addP] at ez
    split at ez
    · rename_i hl
      cases ez
      simp only [Rep] at r1 r2
      obtain ⟨a, vs, rfl, h1, z1, q1⟩ := r1
      obtain ⟨b, ws, rfl, h2, z2, q2⟩ := r2
      have l1 := Reps.length q1
      have l2 := Reps.length q2
      by_cases hxs : xs = []
      · subst hxs
        have : vs = [] := List.length_eq_zero_iff.mp l1
        subst this
        refine catT_nil pins s σ H _ _ v u Q I rx ry ⟨a, b, ws, rfl, rfl, h1, h2, ?_⟩
        refine q g H _ (Post.refl ok) ?_
        simp only [Rep, List.nil_append]
        exact ⟨b, ws, rfl, h2, z2, q2⟩
      refine op_catT pins s σ H _ _ v u Q I rx ry ⟨a, b, vs, ws, rfl, rfl, h1, h2, ?_, by rw [l1, l2]; exact hl, ?_, fun _ p hp => ?_⟩
      · intro e
        rw [e] at l1
        exact hxs (List.length_eq_zero_iff.mp l1.symm)
      · intro e
        subst e
        have : ys = [] := List.length_eq_zero_iff.mp l2.symm
        subst this
        refine q g H _ (Post.refl ok) ?_
        simp only [Rep, List.append_nil]
        exact ⟨a, vs, rfl, h1, z1, q1⟩
      · exact new_tup ok hp (Reps.append q1 q2) (by rw [List.length_append]; exact hl) q
    · cases ez
  | non => exact od_add_list I rx ry ok r1 r2 ez q
  | bl b => exact od_add_list I rx ry ok r1 r2 ez q
  | lst xs => exact od_add_list I rx ry ok r1 r2 ez q
  | ins C xs => exact od_add_list I rx ry ok r1 r2 ez q
  | cell k => exact od_add_list I rx ry ok r1 r2 ez q
  | cls C => exact od_add_list I rx ry ok r1 r2 ez q
  | ty n => exact od_add_list I rx ry ok r1 r2 ez q
  | rol xs => exact od_add_list I rx ry ok r1 r2 ez q
end
end DL

namespace DL
open PySem PySem.Spec PyProof.Rows L2

mutual
def toP : D → Option PyData
  | .non => some .none
  | .bl b => some (.bool b)
  | .int i => some (.int i)
  | .str x => some (.str x)
  | .tup xs => (toPs xs).map .tuple
  | .lst xs => (toPs xs).map .list
  | .rol xs => (toPs xs).map .list
  | _ => none
def toPs : List D → Option (List PyData)
  | [] => some []
  | d :: ds => match toP d, toPs ds with
    | some p, some ps => some (p :: ps)
    | _, _ => none
end
/-- a cell's list, at the top -/
def der (d : D) (c : Cells) : D := match d with
  | .cell k => match c[k]? with
    | some (Cell.lst xs) => .lst xs
    | _ => d
  | _ => d
section
variable {CE : CEnv} {K : PySem.W.Frag} {g : Gh} {H : Hp} {c : Cells}
mutual
theorem Rep.dp : ∀ {d : D} {v : V} {p : PyData}, Rep CE K g H d v → toP d = some p → Dp K H v p
  | .non, _, _, h, e => by simp only [toP, Option.some.injEq] at e; simp only [Rep] at h; subst e; subst h; exact .non
  | .bl _, _, _, h, e => by simp only [toP, Option.some.injEq] at e; simp only [Rep] at h; subst e; subst h; exact .bl _
  | .int _, _, _, h, e => by simp only [toP, Option.some.injEq] at e; simp only [Rep] at h; subst e; subst h; exact .int _
  | .str _, _, _, h, e => by simp only [toP, Option.some.injEq] at e; simp only [Rep] at h; subst e; subst h; exact .str _
  | .tup xs, _, _, h, e => by
    simp only [toP, Option.map_eq_some_iff] at e
    obtain ⟨ps, e, rfl⟩ := e
    simp only [Rep] at h
    obtain ⟨a, vs, rfl, q, z, r⟩ := h
    exact .tup q (Reps.dp r e)
  | .lst xs, _, _, h, e => by
    simp only [toP, Option.map_eq_some_iff] at e
    obtain ⟨ps, e, rfl⟩ := e
    simp only [Rep] at h
    obtain ⟨a, vs, rfl, f, q, z, r⟩ := h
    exact .lst (.of q) (Reps.dp r e)
  | .rol xs, _, _, h, e => by
    simp only [toP, Option.map_eq_some_iff] at e
    obtain ⟨ps, e, rfl⟩ := e
    simp only [Rep] at h
    obtain ⟨a, vs, rfl, q, z, r⟩ := h
    exact .lst (q.elim (fun ⟨o, h⟩ => .inl (.inr ⟨o, h⟩)) fun h => h H) (Reps.dp r e)
  | .ins _ _, _, _, _, e => by simp [toP] at e
  | .cell _, _, _, _, e => by simp [toP] at e
  | .cls _, _, _, _, e => by simp [toP] at e
  | .ty _, _, _, _, e => by simp [toP] at e
theorem Reps.dp : ∀ {ds : List D} {vs : List V} {ps : List PyData}, Reps CE K g H ds vs → toPs ds = some ps → DpAll K H vs ps
  | [], _, _, h, e => by simp only [toPs, Option.some.injEq] at e; simp only [Reps] at h; subst e; subst h; exact .nil
  | d :: ds, _, _, h, e => by
    simp only [Reps] at h
    obtain ⟨v, r, rfl, h1, h2⟩ := h
    simp only [toPs] at e
    split at e
    · rename_i p ps e1 e2
      cases e
      exact .cons (Rep.dp h1 e1) (Reps.dp h2 e2)
    · cases e
end
theorem Rep.dpc (ok : SOk CE K g H c) {d : D} {v : V} {p : PyData} (h : Rep CE K g H d v) (e : toP (der d c) = some p) : Dp K H v p := by
  cases d <;> try exact Rep.dp h e
  case cell k =>
    simp only [der] at e
    split at e
    · rename_i xs he
      simp only [Rep] at h
      obtain ⟨a, rfl, ha⟩ := h
      obtain ⟨vs, h1, z, r⟩ := ok.cl k a _ ha he
      simp only [toP, Option.map_eq_some_iff] at e
      obtain ⟨ps, e, rfl⟩ := e
      exact .lst (.of h1) (Reps.dp r e)
    · simp [toP] at e
end
/-- == of scalars that the layer's scal tells -/
def eqS (d e : D) : Option Bool := match d, e with
  | .int i, .int j => some (decide (i = j))
  | .str i, .str j => some (decide (i = j))
  | .bl i, .bl j => some (decide (i = j))
  | .non, .non => some true
  | .non, .int _ => some false
  | .int _, .non => some false
  | .non, .bl _ => some false
  | .bl _, .non => some false
  | .non, .str _ => some false
  | .str _, .non => some false
  | .int _, .str _ => some false
  | .str _, .int _ => some false
  | .bl _, .str _ => some false
  | .str _, .bl _ => some false
  | _, _ => none
def eqB (d e : D) (c : Cells) : Option Bool := match eqS d e with
  | some b => some b
  | none => match toP (der d c), toP (der e c) with
    | some p, some q => if SeqAt.shaped p && SeqAt.shaped q then some (PyData.eqv p q) else none
    | _, _ => none
def eqP (d e : D) (c : Cells) : Option D := (eqB d e c).map .bl
def neP (d e : D) (c : Cells) : Option D := (eqB d e c).map fun b => .bl (!b)
theorem eqS_scal {CE : CEnv} {K : PySem.W.Frag} {g : Gh} {H : Hp} {d e : D} {x y : V} {b : Bool} (h1 : Rep CE K g H d x) (h2 : Rep CE K g H e y) (h : eqS d e = some b) : scal x y = true ∧ decide (x = y) = b := by
  cases d <;> cases e <;> simp only [eqS, Option.some.injEq, reduceCtorEq] at h <;> simp only [Rep] at h1 h2 <;> subst h1 <;> subst h2 <;> subst h <;> refine ⟨rfl, ?_⟩ <;> simp
/-- < of ints, texts, data of one shape -/
def ltB (d e : D) : Option Bool := match d with
  | .int i => match e with
    | .int j => some (decide (i < j))
    | _ => none
  | .str i => match e with
    | .str j => some (decide (i.cps.toList < j.cps.toList))
    | _ => none
  | .tup xs => match e with
    | .tup ys => match toPs xs, toPs ys with
      | some ps, some qs => if PySem.W.alikeAll ps qs && (decide (PyData.depthAll ps < 60) && decide (PyData.depthAll qs < 60)) then some (PySem.W.dataLt (.tuple ps) (.tuple qs)) else none
      | _, _ => none
    | _ => none
  | _ => none
def ltP (d e : D) (_ : Cells) : Option D := (ltB d e).map .bl
def gtP (d e : D) (_ : Cells) : Option D := (ltB e d).map .bl
def leP (d e : D) (_ : Cells) : Option D := (ltB e d).map fun b => .bl (!b)
def geP (d e : D) (_ : Cells) : Option D := (ltB d e).map fun b => .bl (!b)
def isNon : D → Bool
  | .non => true
  | _ => false
def isNP (d e : D) (_ : Cells) : Option D := if isNon e then some (.bl (isNon d)) else none
def notNP (d e : D) (_ : Cells) : Option D := if isNon e then some (.bl (!isNon d)) else none
def strIn (i j : PySem.Str) : Bool := !(Builtin.Str.occurrences j i 0 j.length 1).isEmpty
def inB (x y : D) (c : Cells) : Option Bool := match y with
  | .str j => match x with
    | .str i => some (strIn i j)
    | _ => none
  | y => match seqOf y c with
    | some ys => match toPs ys, toP x with
      | some qs, some p => if PyData.canLayAll0 qs && PyData.canLay0 p && decide (p.depth < 60) then some (qs.any fun q => PyData.eqv q p) else none
      | _, _ => none
    | none => none
def inP (x y : D) (c : Cells) : Option D := (inB x y c).map .bl
def notInP (x y : D) (c : Cells) : Option D := (inB x y c).map fun b => .bl (!b)
section
variable {X : Cx} {CE : CEnv}
theorem od_eq (hu : X.A.units + 64 < cLine) : OpR X (compareOp .Eq) (rD CE X.K eqP) := by
  intro pins s σ H x y v u Q I rx ry ⟨g, c, d, e, z, ok, r1, r2, ez, q⟩
  simp only [eqP, Option.map_eq_some_iff] at ez
  obtain ⟨b, ez, rfl⟩ := ez
  simp only [eqB] at ez
  split at ez
  · rename_i b' eb
    cases ez
    obtain ⟨h1, h2⟩ := eqS_scal r1 r2 eb
    refine op_eq pins s σ H x y v u Q I rx ry ⟨h1, ?_⟩
    rw [h2]
    exact q g H _ (Post.refl ok) rep_bl
  · split at ez
    · rename_i p p' e1 e2
      split at ez
      · rename_i hs
        cases ez
        rw [Bool.and_eq_true] at hs
        exact op_eqD hu pins s σ H x y v u Q I rx ry ⟨p, p', Rep.dpc ok r1 e1, Rep.dpc ok r2 e2, hs.1, hs.2, q g H _ (Post.refl ok) rep_bl⟩
      · cases ez
    · cases ez
theorem od_ne (hu : X.A.units + 64 < cLine) : OpR X (compareOp .NotEq) (rD CE X.K neP) := by
  intro pins s σ H x y v u Q I rx ry ⟨g, c, d, e, z, ok, r1, r2, ez, q⟩
  simp only [neP, Option.map_eq_some_iff] at ez
  obtain ⟨b, ez, rfl⟩ := ez
  simp only [eqB] at ez
  split at ez
  · rename_i b' eb
    cases ez
    obtain ⟨h1, h2⟩ := eqS_scal r1 r2 eb
    refine op_ne pins s σ H x y v u Q I rx ry ⟨h1, ?_⟩
    rw [h2]
    exact q g H _ (Post.refl ok) rep_bl
  · split at ez
    · rename_i p p' e1 e2
      split at ez
      · rename_i hs
        cases ez
        rw [Bool.and_eq_true] at hs
        exact op_neD hu pins s σ H x y v u Q I rx ry ⟨p, p', Rep.dpc ok r1 e1, Rep.dpc ok r2 e2, hs.1, hs.2, q g H _ (Post.refl ok) rep_bl⟩
      · cases ez
    · cases ez
theorem ltB_key {a a' : D} {b : Bool} (h : ltB a a' = some b) : (∃ i j, a = .int i ∧ a' = .int j ∧ b = decide (i < j)) ∨ (∃ i j, a = .str i ∧ a' = .str j ∧ b = decide (i.cps.toList < j.cps.toList)) ∨
      ∃ xs ys ps qs, a = .tup xs ∧ a' = .tup ys ∧ toPs xs = some ps ∧ toPs ys = some qs ∧ PySem.W.alike (.tuple ps) (.tuple qs) = true ∧ (PyData.tuple ps).depth ≤ 60 ∧ (PyData.tuple qs).depth ≤ 60 ∧ b = PySem.W.dataLt (.tuple ps) (.tuple qs) := by
  cases a <;> try (simp [ltB] at h; done)
  · cases a' <;> simp only [ltB, Option.some.injEq, reduceCtorEq] at h
    exact .inl ⟨_, _, rfl, rfl, h.symm⟩
  · cases a' <;> simp only [ltB, Option.some.injEq, reduceCtorEq] at h
    exact .inr (.inl ⟨_, _, rfl, rfl, h.symm⟩)
  · cases a' <;> simp only [ltB, reduceCtorEq] at h
    rename_i xs ys
    split at h
    · rename_i ps qs e1 e2
      split at h
      · rename_i hh
        cases h
        simp only [Bool.and_eq_true, decide_eq_true_eq] at hh
        exact .inr (.inr ⟨xs, ys, ps, qs, rfl, rfl, e1, e2, by simpa only [PySem.W.alike] using hh.1, by simp only [PyData.depth]; omega, by simp only [PyData.depth]; omega, rfl⟩)
      · cases h
    · cases h
/-- an order by its three kinds; f: the two in the order that ltB takes, p: the answer -/
theorem ord_ok {op : CmpOp} {p : Bool → Bool} {sw : Bool}
    (hi : ∀ {pins : List (Addr × Obj)} {s : Shared} {σ : L2.St} {H : Hp} {i j : Int} {v u : Value} {Q : VK}, Inv X pins σ H s → RelV (.int i) v → RelV (.int j) u → Q (.bl (p (if sw then decide (j < i) else decide (i < j)))) H → wpAny (model X.prog X.w) X.A (compareOp op v u) (EP X pins σ Q) X.xe s)
    (hs : ∀ {pins : List (Addr × Obj)} {s : Shared} {σ : L2.St} {H : Hp} {i j : PySem.Str} {v u : Value} {Q : VK}, Inv X pins σ H s → RelV (.str i) v → RelV (.str j) u → Q (.bl (p (if sw then decide (j.cps.toList < i.cps.toList) else decide (i.cps.toList < j.cps.toList)))) H → wpAny (model X.prog X.w) X.A (compareOp op v u) (EP X pins σ Q) X.xe s)
    (hd : ∀ {pins : List (Addr × Obj)} {s : Shared} {σ : L2.St} {H : Hp} {v u : Value} {Q : VK} {da db : PyData} {as bs : List Addr}, Inv X pins σ H s → Reads s.heap v da as → Reads s.heap u db bs → PySem.W.alike da db = true → da ≠ .none → da.depth ≤ 60 →
      Q (.bl (p (if sw then PySem.W.dataLt db da else PySem.W.dataLt da db))) H → wpAny (model X.prog X.w) X.A (compareOp op v u) (EP X pins σ Q) X.xe s) :
    OpR X (compareOp op) (rD CE X.K fun d e _ => (if sw then ltB e d else ltB d e).map fun b => .bl (p b)) := by
  intro pins s σ H x y v u Q I rx ry ⟨g, c, d, e, z, ok, r1, r2, ez, q⟩
  simp only [Option.map_eq_some_iff] at ez
  obtain ⟨b, ez, rfl⟩ := ez
  have qq := q g H _ (Post.refl ok) rep_bl
  cases sw with
  | false =>
    simp only [Bool.false_eq_true, if_false] at ez hi hs hd
    rcases ltB_key ez with ⟨i, j, rfl, rfl, rfl⟩ | ⟨i, j, rfl, rfl, rfl⟩ | ⟨xs, ys, ps, qs, rfl, rfl, e1, e2, ha, hdp, hdq, rfl⟩
    · simp only [Rep] at r1 r2
      subst r1; subst r2
      exact hi I rx ry qq
    · simp only [Rep] at r1 r2
      subst r1; subst r2
      exact hs I rx ry qq
    · obtain ⟨as, ra⟩ := Dp.reads I _ x v (Rep.dp r1 (p := .tuple ps) (by simp [toP, e1])) rx
      obtain ⟨bs, rb⟩ := Dp.reads I _ y u (Rep.dp r2 (p := .tuple qs) (by simp [toP, e2])) ry
      exact hd I ra rb ha (by simp) hdp qq
  | true =>
    simp only [if_true] at ez hi hs hd
    rcases ltB_key ez with ⟨i, j, rfl, rfl, rfl⟩ | ⟨i, j, rfl, rfl, rfl⟩ | ⟨xs, ys, ps, qs, rfl, rfl, e1, e2, ha, hdp, hdq, rfl⟩
    · simp only [Rep] at r1 r2
      subst r1; subst r2
      exact hi I rx ry qq
    · simp only [Rep] at r1 r2
      subst r1; subst r2
      exact hs I rx ry qq
    · obtain ⟨as, ra⟩ := Dp.reads I _ x v (Rep.dp r1 (p := .tuple qs) (by simp [toP, e2])) rx
      obtain ⟨bs, rb⟩ := Dp.reads I _ y u (Rep.dp r2 (p := .tuple ps) (by simp [toP, e1])) ry
      exact hd I ra rb (by rw [PySem.W.alike_comm]; exact ha) (by simp) hdq qq
theorem not_lt_dec (i j : Int) : (!decide (j < i)) = decide (i ≤ j) := by
  by_cases h : j < i
  · simp [h]
  · simp [h]; omega
theorem od_lt (hu : X.A.units + 64 < cLine) : OpR X (compareOp .Lt) (rD CE X.K ltP) := by
  have := ord_ok (X := X) (CE := CE) (op := .Lt) (p := id) (sw := false)
    (fun {pins s σ H i j v u Q} I rx ry q => op_lt pins s σ H _ _ v u Q I rx ry ⟨i, j, rfl, rfl, q⟩)
    (fun {pins s σ H i j v u Q} I rx ry q => op_lt_str pins s σ H _ _ v u Q I rx ry ⟨i, j, rfl, rfl, q⟩)
    (fun {pins s σ H v u Q da db as bs} I ra rb ha hn hdp q => PySem.W.lt_data ra rb ha hn (by omega) ⟨.bl _, H, I, rfl, q⟩)
  exact this
theorem od_gt (hu : X.A.units + 64 < cLine) : OpR X (compareOp .Gt) (rD CE X.K gtP) := by
  have := ord_ok (X := X) (CE := CE) (op := .Gt) (p := id) (sw := true)
    (fun {pins s σ H i j v u Q} I rx ry q => op_gt pins s σ H _ _ v u Q I rx ry ⟨i, j, rfl, rfl, q⟩)
    (fun {pins s σ H i j v u Q} I rx ry q => op_gt_str pins s σ H _ _ v u Q I rx ry ⟨i, j, rfl, rfl, q⟩)
    (fun {pins s σ H v u Q da db as bs} I ra rb ha hn hdp q => PySem.W.gt_data ra rb ha hn (by omega) ⟨.bl _, H, I, rfl, q⟩)
  exact this
theorem od_le (hu : X.A.units + 64 < cLine) : OpR X (compareOp .LtE) (rD CE X.K leP) := by
  have := ord_ok (X := X) (CE := CE) (op := .LtE) (p := not) (sw := true)
    (fun {pins s σ H i j v u Q} I rx ry q => op_le pins s σ H _ _ v u Q I rx ry ⟨i, j, rfl, rfl, by simp only [if_true, not_lt_dec] at q; exact q⟩)
    (fun {pins s σ H i j v u Q} I rx ry q => op_le_str pins s σ H _ _ v u Q I rx ry ⟨i, j, rfl, rfl, by simpa using q⟩)
    (fun {pins s σ H v u Q da db as bs} I ra rb ha hn hdp q => PySem.W.le_data ra rb ha hn (by omega) ⟨.bl _, H, I, rfl, q⟩)
  exact this
theorem od_ge (hu : X.A.units + 64 < cLine) : OpR X (compareOp .GtE) (rD CE X.K geP) := by
  have := ord_ok (X := X) (CE := CE) (op := .GtE) (p := not) (sw := false)
    (fun {pins s σ H i j v u Q} I rx ry q => op_ge pins s σ H _ _ v u Q I rx ry ⟨i, j, rfl, rfl, by simp only [Bool.false_eq_true, if_false, not_lt_dec] at q; exact q⟩)
    (fun {pins s σ H i j v u Q} I rx ry q => op_ge_str pins s σ H _ _ v u Q I rx ry ⟨i, j, rfl, rfl, by simpa using q⟩)
    (fun {pins s σ H v u Q da db as bs} I ra rb ha hn hdp q => PySem.W.ge_data ra rb ha hn (by omega) ⟨.bl _, H, I, rfl, q⟩)
  exact this
theorem rep_non_iff {K : PySem.W.Frag} {g : Gh} {H : Hp} {d : D} {v : V} (h : Rep CE K g H d v) : decide (v = .non) = isNon d := by
  cases d <;> simp only [Rep] at h
  case non => subst h; rfl
  case bl => subst h; rfl
  case int => subst h; rfl
  case str => subst h; rfl
  case cls => subst h; rfl
  case ty => subst h; rfl
  case tup => obtain ⟨a, _, rfl, _⟩ := h; rfl
  case lst => obtain ⟨a, _, rfl, _⟩ := h; rfl
  case rol => obtain ⟨a, _, rfl, _⟩ := h; rfl
  case ins => obtain ⟨a, _, _, rfl, _⟩ := h; rfl
  case cell => obtain ⟨a, rfl, _⟩ := h; rfl
theorem isNon_eq {K : PySem.W.Frag} {g : Gh} {H : Hp} {d : D} {v : V} (h : Rep CE K g H d v) (e : isNon d = true) : v = .non := by
  cases d <;> try (simp [isNon] at e; done)
  simpa only [Rep] using h
theorem od_isN : OpR X (compareOp .Is) (rD CE X.K isNP) := by
  intro pins s σ H x y v u Q I rx ry ⟨g, c, d, e, z, ok, r1, r2, ez, q⟩
  unfold isNP at ez
  split at ez
  · rename_i he
    cases ez
    refine op_isN pins s σ H x y v u Q I rx ry ⟨isNon_eq r2 he, ?_⟩
    rw [rep_non_iff r1]
    exact q g H _ (Post.refl ok) rep_bl
  · cases ez
theorem od_notN : OpR X (compareOp .IsNot) (rD CE X.K notNP) := by
  intro pins s σ H x y v u Q I rx ry ⟨g, c, d, e, z, ok, r1, r2, ez, q⟩
  unfold notNP at ez
  split at ez
  · rename_i he
    cases ez
    refine op_notN pins s σ H x y v u Q I rx ry ⟨isNon_eq r2 he, ?_⟩
    rw [rep_non_iff r1]
    exact q g H _ (Post.refl ok) rep_bl
  · cases ez
theorem dp_list_of {pins : List (Addr × Obj)} {s : Shared} {σ : L2.St} {H : Hp} {g : Gh} {c : Cells} (I : Inv X pins σ H s) (ok : SOk CE X.K g H c) {d : D} {v : V} {u : Value} {ys : List D} {qs : List PyData} (rx : RelV v u) (r : Rep CE X.K g H d v) (e : seqOf d c = some ys) (e2 : toPs ys = some qs) :
    (∃ as, Reads s.heap u (.list qs) as) ∨ ∃ as, Reads s.heap u (.tuple qs) as := by
  obtain ⟨a, vs, rfl, h, z, q⟩ := seqOf_at ok r e
  rcases h with h | h
  · exact .inl (Dp.reads I _ _ u (.lst h (Reps.dp q e2)) rx)
  · exact .inr (Dp.reads I _ _ u (.tup h (Reps.dp q e2)) rx)
theorem inB_key {x y : D} {c : Cells} {b : Bool} (h : inB x y c = some b) : (∃ i j, x = .str i ∧ y = .str j ∧ b = strIn i j) ∨
    ∃ ys qs p, seqOf y c = some ys ∧ toPs ys = some qs ∧ toP x = some p ∧ PyData.canLayAll0 qs = true ∧ PyData.canLay0 p = true ∧ p.depth < 60 ∧ b = qs.any fun q => PyData.eqv q p := by
  have gen : (match seqOf y c with
    | some ys => match toPs ys, toP x with
      | some qs, some p => if PyData.canLayAll0 qs && PyData.canLay0 p && decide (p.depth < 60) then some (qs.any fun q => PyData.eqv q p) else none
      | _, _ => none
    | none => none) = some b → ∃ ys qs p, seqOf y c = some ys ∧ toPs ys = some qs ∧ toP x = some p ∧ PyData.canLayAll0 qs = true ∧ PyData.canLay0 p = true ∧ p.depth < 60 ∧ b = qs.any fun q => PyData.eqv q p := by
    intro h
    split at h
    · rename_i ys ey
      split at h
      · rename_i qs p e1 e2
        split at h
        · rename_i hh
          cases h
          simp only [Bool.and_eq_true, decide_eq_true_eq] at hh
          exact ⟨ys, qs, p, ey, e1, e2, hh.1.1, hh.1.2, hh.2, rfl⟩
        · cases h
      · cases h
    · cases h
  cases y <;> try exact .inr (gen h)
  case str j =>
    cases x <;> simp only [inB, Option.some.injEq, reduceCtorEq] at h
    exact .inl ⟨_, _, rfl, rfl, h.symm⟩
theorem od_in (hu : X.A.units + 65 < cLine) : OpR X (compareOp .In) (rD CE X.K inP) := by
  intro pins s σ H x y v u Q I rx ry ⟨g, c, d, e, z, ok, r1, r2, ez, q⟩
  simp only [inP, Option.map_eq_some_iff] at ez
  obtain ⟨b, ez, rfl⟩ := ez
  have qq := q g H _ (Post.refl ok) rep_bl
  rcases inB_key ez with ⟨i, j, rfl, rfl, rfl⟩ | ⟨ys, qs, p, e1, e2, e3, c1, c2, hdp, rfl⟩
  · simp only [Rep] at r1 r2
    subst r1; subst r2
    exact op_in_str pins s σ H _ _ v u Q I rx ry ⟨i, j, rfl, rfl, qq⟩
  · obtain ⟨bs, rb⟩ := Dp.reads I _ x v (Rep.dp r1 e3) rx
    rcases dp_list_of I ok ry r2 e1 e2 with ⟨as, ra⟩ | ⟨as, ra⟩
    · exact SeqAt.in_list_reads ra rb c1 c2 (by omega) ⟨.bl _, H, I, rfl, qq⟩
    · exact SeqAt.in_tuple_reads ra rb c1 c2 (by omega) ⟨.bl _, H, I, rfl, qq⟩
theorem od_notIn (hu : X.A.units + 65 < cLine) : OpR X (compareOp .NotIn) (rD CE X.K notInP) := by
  intro pins s σ H x y v u Q I rx ry ⟨g, c, d, e, z, ok, r1, r2, ez, q⟩
  simp only [notInP, Option.map_eq_some_iff] at ez
  obtain ⟨b, ez, rfl⟩ := ez
  have qq := q g H _ (Post.refl ok) rep_bl
  rcases inB_key ez with ⟨i, j, rfl, rfl, rfl⟩ | ⟨ys, qs, p, e1, e2, e3, c1, c2, hdp, rfl⟩
  · simp only [Rep] at r1 r2
    subst r1; subst r2
    exact op_notIn_str pins s σ H _ _ v u Q I rx ry ⟨i, j, rfl, rfl, qq⟩
  · obtain ⟨bs, rb⟩ := Dp.reads I _ x v (Rep.dp r1 e3) rx
    rcases dp_list_of I ok ry r2 e1 e2 with ⟨as, ra⟩ | ⟨as, ra⟩
    · exact SeqAt.notIn_list_reads ra rb c1 c2 (by omega) ⟨.bl _, H, I, rfl, qq⟩
    · exact SeqAt.notIn_tuple_reads ra rb c1 c2 (by omega) ⟨.bl _, H, I, rfl, qq⟩
end
end DL

namespace DL
open PySem PySem.Spec PyProof.Rows L2

/-- truth -/
def truB (d : D) (c : Cells) : Option Bool := match d with
  | .non => some false
  | .bl b => some b
  | .int i => some (i != 0)
  | .str y => if y.length ≤ sizeLine then some ((y.length : Int) != 0) else none
  | d => (seqOf d c).map fun xs => !xs.isEmpty
theorem Reps.isEmpty {CE : CEnv} {K : PySem.W.Frag} {g : Gh} {H : Hp} {xs : List D} {vs : List V} (r : Reps CE K g H xs vs) : vs.isEmpty = xs.isEmpty := by
  have := Reps.length r
  cases xs <;> cases vs <;> simp_all
theorem truB_ok {CE : CEnv} {K : PySem.W.Frag} {g : Gh} {H : Hp} {c : Cells} {d : D} {v : V} {b : Bool} (ok : SOk CE K g H c) (r : Rep CE K g H d v) (e : truB d c = some b) : TruV K v H b := by
  have gen : (seqOf d c).map (fun xs => !xs.isEmpty) = some b → TruV K v H b := by
    intro e
    obtain ⟨xs, e1, rfl⟩ := Option.map_eq_some_iff.mp e
    obtain ⟨a, vs, rfl, h, z, q⟩ := seqOf_at ok r e1
    rcases h with h | h
    · exact .inl ⟨vs, h, by rw [Reps.isEmpty q]⟩
    · exact .inr (.inl ⟨vs, h, by rw [Reps.isEmpty q]⟩)
  cases d <;> try exact gen e
  case non => simp only [Rep] at r; subst r; simp only [truB, Option.some.injEq] at e; exact e.symm
  case bl => simp only [Rep] at r; subst r; simp only [truB, Option.some.injEq] at e; exact e.symm
  case int => simp only [Rep] at r; subst r; simp only [truB, Option.some.injEq] at e; exact e.symm
  case str => 
    simp only [Rep] at r; subst r
    simp only [truB] at e
    split at e
    · rename_i hz
      simp only [Option.some.injEq] at e
      exact ⟨hz, e.symm⟩
    · cases e
def tstE (ma : EM) : TM := fun δ => bnd (ma δ) fun d => fun c => opt (truB d c) c
/-- the value is a bool -/
def boolE (ma : EM) : TM := fun δ => bnd (ma δ) fun d => fun c => match d with
  | .bl b => .ok b c
  | _ => .bad
def andT (a b : TM) : TM := fun δ => bnd (a δ) fun k => if k then b δ else DL.ret false
def orT (a b : TM) : TM := fun δ => bnd (a δ) fun k => if k then DL.ret true else b δ
def notT (a : TM) : TM := fun δ => bnd (a δ) fun k => DL.ret (!k)
def andE (a b : EM) : EM := fun δ => bnd (a δ) fun d => fun c => match truB d c with
  | some true => b δ c
  | some false => .ok d c
  | none => .bad
def orE (a b : EM) : EM := fun δ => bnd (a δ) fun d => fun c => match truB d c with
  | some true => .ok d c
  | some false => b δ c
  | none => .bad
def notE (a : EM) : EM := fun δ => bnd (a δ) fun d => fun c => match truB d c with
  | some b => .ok (.bl (!b)) c
  | none => .bad
def ifE (t : TM) (a b : EM) : EM := fun δ => bnd (t δ) fun k => if k then a δ else b δ
def chainE (r r' : D → D → Cells → Option D) (ma mb mc : EM) : EM := fun δ => bnd (ma δ) fun x => bnd (mb δ) fun y => fun c => match r x y c with
  | some (.bl true) => (bnd (mc δ) fun z => fun c => opt (r' y z c) c) c
  | some (.bl false) => .ok (.bl false) c
  | _ => .bad
section
variable {X : Cx} {CE : CEnv} {W : WX} {pos : Pos} {a b e : Expr} {es : List Expr} {ma mb mc : EM} {ta tb : TM}
theorem pt_tru (ha : PD X CE W a ma) (he : ∀ whole, isTrue a X.env whole = (do let v ← whole; standAt a.pos; holding [v] (truthy v)) := by intro _; rfl) : PDT X CE W a (tstE ma) :=
  (pt_truth ha he).wk fun σ H Q ⟨g, c, δ, ok, er, h⟩ => by
    replace h := wpo_bnd.mp h
    refine use ok er h (fun d c1 h g1 H1 v p1 r1 => ?_) fun _ _ _ z => z
    obtain ⟨k, e, h⟩ := opt_ok h
    exact ⟨k, truB_ok p1.ok r1 e, h g1 H1 p1⟩
theorem rep_bool {K : PySem.W.Frag} {g : Gh} {H : Hp} {i : Bool} {v : V} (h : Rep CE K g H (.bl i) v) : v = .bl i := by simpa only [Rep] using h
theorem useBool {K : PySem.W.Frag} {t : TE} {σ : L2.St} {H : Hp} {Q : Bool → Hp → Prop} {m : EM} (ht : ∀ Q, tD CE K W m σ H Q → t σ H Q) {g : Gh} {c : Cells} {δ : Ev'} (ok : SOk CE K g H c) (er : EnvR CE K g H σ δ)
    (h : wpo (boolE m δ c) (fun b c' => ∀ g' H', Post CE K g H c g' H' c' → Q b H') (EK CE K W g H c σ)) : tTest t σ H Q := by
  replace h := wpo_bnd.mp h
  refine ht _ (use ok er h (fun d c1 h g1 H1 v p1 r1 => ?_) fun _ _ _ z => z)
  cases d <;> try exact h.elim
  case bl k => exact ⟨k, rep_bool r1, h g1 H1 p1⟩
theorem pt_cmp {op : CmpOp} {r : D → D → Cells → Option D} (ho : OpR X (compareOp op) (rD CE X.K r)) (ha : PD X CE W a ma) (hb : PD X CE W b mb) (hm : behindInMarks op b = false) : PDT X CE W (.Compare a [op] [b] pos) (boolE (bin r ma mb)) :=
  (pt_cmpR ho ha hb hm).wk fun σ H Q ⟨g, c, δ, ok, er, h⟩ => useBool (fun Q ⟨g, c, δ, ok, er, h⟩ => use2 ok er h) ok er h
theorem use3 {K : PySem.W.Frag} {r r' : D → D → Cells → Option D} {σ : L2.St} {H : Hp} {Q : VK} {g : Gh} {c : Cells} {δ : Ev'} (ok : SOk CE K g H c) (er : EnvR CE K g H σ δ)
    (h : wpo (chainE r r' ma mb mc δ c) (fun d c' => ∀ g' H' v, Post CE K g H c g' H' c' → Rep CE K g' H' d v → Q v H') (EK CE K W g H c σ)) : tChain (rD CE K r) (rD CE K r') (tD CE K W ma) (tD CE K W mb) (tD CE K W mc) σ H Q := by
  replace h := wpo_bnd.mp h
  refine use ok er h (fun d c1 h g1 H1 v p1 r1 => ?_) fun _ _ _ z => z
  replace h := wpo_bnd.mp h
  refine use p1.ok (er.mono ok p1.ext) h (fun d2 c2 h g2 H2 v2 p2 r2 => ?_) fun _ _ _ z => EK.back p1 z
  cases e : r d d2 c2 with
  | none => rw [e] at h; exact h.elim
  | some z =>
    rw [e] at h
    refine ⟨g2, c2, d, d2, z, p2.ok, Rep.mono p1.ok p2.ext r1, r2, e, fun g3 H3 v3 p3 r3 => ?_⟩
    cases z <;> try exact h.elim
    case bl k =>
      refine ⟨k, rep_bool r3, ?_⟩
      cases k with
      | false =>
        rw [if_neg (by simp)]
        exact h g3 H3 (.bl false) ((p1.trans p2).trans p3) rep_bl
      | true =>
        rw [if_pos rfl]
        replace h := wpo_bnd.mp h
        have p13 := (p1.trans p2).trans p3
        refine use p13.ok (er.mono ok p13.ext) h (fun d4 c4 h g4 H4 v4 p4 r4 => ?_) fun _ _ _ z => EK.back p13 z
        obtain ⟨z, e, h⟩ := opt_ok h
        exact ⟨g4, c4, d2, d4, z, p4.ok, Rep.mono p2.ok (p3.trans p4).ext r2, r4, e, fun g5 H5 v5 p5 r5 => h g5 H5 v5 ((p13.trans p4).trans p5) r5⟩
theorem pd_chain {c : Expr} {op op' : CmpOp} {r r' : D → D → Cells → Option D} (ho : OpR X (compareOp op) (rD CE X.K r)) (ho' : OpR X (compareOp op') (rD CE X.K r')) (ha : PD X CE W a ma) (hb : PD X CE W b mb) (hc : PD X CE W c mc)
    (hm : lastMarks [op, op'] [b, c] = false := by with_unfolding_all rfl) : PD X CE W (.Compare a [op, op'] [b, c] pos) (chainE r r' ma mb mc) :=
  (pe_chain ho ho' ha hb hc hm).wk fun σ H Q ⟨g, c, δ, ok, er, h⟩ => use3 ok er h
theorem pt_chainD {c : Expr} {op op' : CmpOp} {r r' : D → D → Cells → Option D} (ho : OpR X (compareOp op) (rD CE X.K r)) (ho' : OpR X (compareOp op') (rD CE X.K r')) (ha : PD X CE W a ma) (hb : PD X CE W b mb) (hc : PD X CE W c mc)
    (hm : lastMarks [op, op'] [b, c] = false := by with_unfolding_all rfl) : PDT X CE W (.Compare a [op, op'] [b, c] pos) (boolE (chainE r r' ma mb mc)) :=
  (pt_chain ho ho' ha hb hc hm).wk fun σ H Q ⟨g, c, δ, ok, er, h⟩ => useBool (fun Q ⟨g, c, δ, ok, er, h⟩ => use3 ok er h) ok er h
/-- a test whatever its whole is -/
def PDW (X : Cx) (CE : CEnv) (W : WX) (e : Expr) (m : TM) : Prop := PW X e (tDT CE X.K W m)
theorem _root_.L2.PW.wk {X : Cx} {e : Expr} {t t' : TT} (h : PW X e t) (hw : ∀ σ H Q, t' σ H Q → t σ H Q) : PW X e t' := ⟨fun whole pins s σ H Q I q => h.run whole pins s σ H Q I (hw _ _ _ q)⟩
theorem pdw_and1 (ha : PDT X CE W a ta) : PDW X CE W (.BoolOp .And [a] pos) ta := pw_and1 ha
theorem pdw_or1 (ha : PDT X CE W a ta) : PDW X CE W (.BoolOp .Or [a] pos) ta := pw_or1 ha
theorem pdw_and {rest : List Expr} (ha : PDT X CE W a ta) (hb : PDW X CE W (.BoolOp .And (b :: rest) pos) tb) : PDW X CE W (.BoolOp .And (a :: b :: rest) pos) (andT ta tb) :=
  (pw_and ha hb).wk fun σ H Q ⟨g, c, δ, ok, er, h⟩ => by
    replace h := wpo_bnd.mp h
    refine useT ok er h (fun k c1 h g1 H1 p1 => ?_) fun _ _ _ z => z
    cases k with
    | true =>
      rw [if_pos rfl] at h ⊢
      exact useT p1.ok (er.mono ok p1.ext) h (fun k2 c2 h g2 H2 p2 => h g2 H2 (p1.trans p2)) fun _ _ _ z => EK.back p1 z
    | false =>
      rw [if_neg (by simp)] at h ⊢
      exact h g1 H1 p1
theorem pdw_or {rest : List Expr} (ha : PDT X CE W a ta) (hb : PDW X CE W (.BoolOp .Or (b :: rest) pos) tb) : PDW X CE W (.BoolOp .Or (a :: b :: rest) pos) (orT ta tb) :=
  (pw_or ha hb).wk fun σ H Q ⟨g, c, δ, ok, er, h⟩ => by
    replace h := wpo_bnd.mp h
    refine useT ok er h (fun k c1 h g1 H1 p1 => ?_) fun _ _ _ z => z
    cases k with
    | false =>
      rw [if_neg (by simp)] at h ⊢
      exact useT p1.ok (er.mono ok p1.ext) h (fun k2 c2 h g2 H2 p2 => h g2 H2 (p1.trans p2)) fun _ _ _ z => EK.back p1 z
    | true =>
      rw [if_pos rfl] at h ⊢
      exact h g1 H1 p1
theorem pdw_pt (h : PDW X CE W e ta) : PDT X CE W e ta := PW.pt h
theorem pdt_not (ha : PDT X CE W a ta) : PDT X CE W (.UnaryOp .Not a pos) (notT ta) :=
  (pt_not ha).wk fun σ H Q ⟨g, c, δ, ok, er, h⟩ => by
    replace h := wpo_bnd.mp h
    exact useT ok er h (fun k c1 h g1 H1 p1 => h g1 H1 p1) fun _ _ _ z => z
theorem pd_one {op : BoolOp} (h : PD X CE W a ma) : PD X CE W (.BoolOp op [a] pos) ma := pe_one h
theorem pd_and {rest : List Expr} (ha : PD X CE W a ma) (hb : PD X CE W (.BoolOp .And (b :: rest) pos) mb) : PD X CE W (.BoolOp .And (a :: b :: rest) pos) (andE ma mb) :=
  (pe_andT ha hb).wk fun σ H Q ⟨g, c, δ, ok, er, h⟩ => by
    replace h := wpo_bnd.mp h
    refine use ok er h (fun d c1 h g1 H1 v p1 r1 => ?_) fun _ _ _ z => z
    cases e : truB d c1 with
    | none => rw [e] at h; exact h.elim
    | some k =>
      rw [e] at h
      refine ⟨k, truB_ok p1.ok r1 e, ?_⟩
      cases k with
      | true =>
        rw [if_pos rfl]
        exact use p1.ok (er.mono ok p1.ext) h (fun d2 c2 h g2 H2 v2 p2 r2 => h g2 H2 v2 (p1.trans p2) r2) fun _ _ _ z => EK.back p1 z
      | false =>
        rw [if_neg (by simp)]
        exact h g1 H1 v p1 r1
theorem pd_or {rest : List Expr} (ha : PD X CE W a ma) (hb : PD X CE W (.BoolOp .Or (b :: rest) pos) mb) : PD X CE W (.BoolOp .Or (a :: b :: rest) pos) (orE ma mb) :=
  (pe_orT ha hb).wk fun σ H Q ⟨g, c, δ, ok, er, h⟩ => by
    replace h := wpo_bnd.mp h
    refine use ok er h (fun d c1 h g1 H1 v p1 r1 => ?_) fun _ _ _ z => z
    cases e : truB d c1 with
    | none => rw [e] at h; exact h.elim
    | some k =>
      rw [e] at h
      refine ⟨k, truB_ok p1.ok r1 e, ?_⟩
      cases k with
      | false =>
        rw [if_neg (by simp)]
        exact use p1.ok (er.mono ok p1.ext) h (fun d2 c2 h g2 H2 v2 p2 r2 => h g2 H2 v2 (p1.trans p2) r2) fun _ _ _ z => EK.back p1 z
      | true =>
        rw [if_pos rfl]
        exact h g1 H1 v p1 r1
theorem pd_not (ha : PD X CE W a ma) : PD X CE W (.UnaryOp .Not a pos) (notE ma) :=
  (pe_notT ha).wk fun σ H Q ⟨g, c, δ, ok, er, h⟩ => by
    replace h := wpo_bnd.mp h
    refine use ok er h (fun d c1 h g1 H1 v p1 r1 => ?_) fun _ _ _ z => z
    cases e : truB d c1 with
    | none => rw [e] at h; exact h.elim
    | some k =>
      rw [e] at h
      exact ⟨k, truB_ok p1.ok r1 e, h g1 H1 _ p1 rep_bl⟩
theorem pd_if (ht : PDT X CE W e ta) (ha : PD X CE W a ma) (hb : PD X CE W b mb) : PD X CE W (.IfExp e a b pos) (ifE ta ma mb) :=
  (pe_ifExp ht ha hb).wk fun σ H Q ⟨g, c, δ, ok, er, h⟩ => by
    replace h := wpo_bnd.mp h
    refine useT ok er h (fun k c1 h g1 H1 p1 => ?_) fun _ _ _ z => z
    cases k with
    | false =>
      rw [if_neg (by simp)] at h ⊢
      exact use p1.ok (er.mono ok p1.ext) h (fun d2 c2 h g2 H2 v2 p2 r2 => h g2 H2 v2 (p1.trans p2) r2) fun _ _ _ z => EK.back p1 z
    | true =>
      rw [if_pos rfl] at h ⊢
      exact use p1.ok (er.mono ok p1.ext) h (fun d2 c2 h g2 H2 v2 p2 r2 => h g2 H2 v2 (p1.trans p2) r2) fun _ _ _ z => EK.back p1 z
end

def tupE (ms : Ev' → M (List D)) : EM := fun δ => bnd (ms δ) fun xs => fun c => if xs.length ≤ sizeLine then .ok (.tup xs) c else .bad
def lstE (ms : Ev' → M (List D)) : EM := fun δ => bnd (ms δ) fun xs => fun c => if xs.length ≤ sizeLine then .ok (.lst xs) c else .bad
/-- a list that will be changed: a cell -/
def lstC (ms : Ev' → M (List D)) : EM := fun δ => bnd (ms δ) fun xs => fun c => if xs.length ≤ sizeLine then .ok (.cell c.length) (c ++ [Cell.lst xs]) else .bad
section
variable {X : Cx} {CE : CEnv} {W : WX} {pos : Pos} {a b e : Expr} {es : List Expr} {ma mb mc : EM} {ms : Ev' → M (List D)}
theorem pd_tup {x1} (h : PDA X CE W es ms) : PD X CE W (.Tuple es x1 pos) (tupE ms) :=
  (pe_tup h).wk fun σ H Q ⟨g, c, δ, ok, er, h⟩ => by
    replace h := wpo_bnd.mp h
    refine useA ok er h (fun ds c1 h g1 H1 vs p1 r1 => ?_) fun _ _ _ z => z
    split at h
    · rename_i hz
      refine ⟨by rw [Reps.length r1]; exact hz, fun p hp => ?_⟩
      exact new_tup p1.ok hp r1 hz fun g2 H2 v p2 r2 => h g2 H2 v (p1.trans p2) r2
    · exact h.elim
theorem pd_lst (h : PDA X CE W es ms) : PD X CE W (.List es pos) (lstE ms) :=
  (pe_lst h).wk fun σ H Q ⟨g, c, δ, ok, er, h⟩ => by
    replace h := wpo_bnd.mp h
    refine useA ok er h (fun ds c1 h g1 H1 vs p1 r1 => ?_) fun _ _ _ z => z
    split at h
    · rename_i hz
      refine ⟨by rw [Reps.length r1]; exact hz, fun p hp => ?_⟩
      exact new_lst p1.ok hp r1 hz fun g2 H2 v p2 r2 => h g2 H2 v (p1.trans p2) r2
    · exact h.elim
theorem pd_lstC (h : PDA X CE W es ms) : PD X CE W (.List es pos) (lstC ms) :=
  (pe_lst h).wk fun σ H Q ⟨g, c, δ, ok, er, h⟩ => by
    replace h := wpo_bnd.mp h
    refine useA ok er h (fun ds c1 h g1 H1 vs p1 r1 => ?_) fun _ _ _ z => z
    split at h
    · rename_i hz
      refine ⟨by rw [Reps.length r1]; exact hz, fun p hp => ?_⟩
      have P := Post.newCell (x := Cell.lst ds) (o := .lst vs) p1.ok hp fun g' H' x q => ⟨vs, q, hz, Reps.mono p1.ok x r1⟩
      refine h _ _ _ (p1.trans P) ?_
      simp only [Rep]
      exact ⟨p, rfl, by rw [← p1.ok.len]; simp⟩
    · exact h.elim
end

def ixP (x y : D) (c : Cells) : Option D := match y with
  | .int i => match x with
    | .str z => if z.length ≤ sizeLine then (atI z.cps.toList i).map fun n => .str ⟨#[n]⟩ else none
    | x => match seqOf x c with
      | some xs => atI xs i
      | none => none
  | _ => none
theorem Reps.atI {CE : CEnv} {K : PySem.W.Frag} {g : Gh} {H : Hp} {xs : List D} {vs : List V} {i : Int} {d : D} (r : Reps CE K g H xs vs) (h : L2.atI xs i = some d) : ∃ v, L2.atI vs i = some v ∧ Rep CE K g H d v := by
  unfold L2.atI at h ⊢
  rw [Reps.length r]
  cases e : ixN xs.length i with
  | none => rw [e] at h; cases h
  | some j =>
    rw [e] at h
    exact Reps.get r h
section
variable {X : Cx} {CE : CEnv} {W : WX} {pos : Pos} {a b e : Expr} {es : List Expr} {ma mb mc : EM} {ms : Ev' → M (List D)}
theorem ixr : IxR X (rD CE X.K ixP) := by
  intro value slice pins s σ H x y v u Q I rx ry ⟨g, c, d, e, z, ok, r1, r2, ez, q⟩ hs
  cases e <;> try (simp [ixP] at ez; done)
  rename_i i
  simp only [Rep] at r2
  subst r2
  have gen : (match seqOf d c with | some xs => L2.atI xs i | none => none) = some z → rIx X.K x (.int i) H Q := by
    intro ez
    split at ez
    · rename_i xs e1
      obtain ⟨a, vs, rfl, h, hz, rr⟩ := seqOf_at ok r1 e1
      obtain ⟨w, e2, rw'⟩ := Reps.atI rr ez
      have qq := q g H w (Post.refl ok) rw'
      rcases h with h | h
      · exact .inl ⟨a, vs, i, w, rfl, rfl, h, e2, qq⟩
      · exact .inr (.inl ⟨a, vs, i, w, rfl, rfl, h, e2, qq⟩)
    · cases ez
  have fin : rIx X.K x (.int i) H Q → wpAny (model X.prog X.w) X.A (subscriptTail value slice v u) (EP X pins σ Q) X.xe s := fun h => ix_seq value slice pins s σ H _ _ v u Q I rx ry h hs
  cases d <;> try exact fin (gen ez)
  case str zz =>
    simp only [ixP] at ez
    split at ez
    · rename_i hz
      obtain ⟨n, e1, rfl⟩ := Option.map_eq_some_iff.mp ez
      simp only [Rep] at r1
      subst r1
      exact fin (.inr (.inr ⟨zz, i, n, rfl, rfl, hz, e1, q g H _ (Post.refl ok) rep_str⟩))
    · cases ez
theorem pd_ix (ha : PD X CE W a ma) (hb : PD X CE W b mb) (hs : PlainIx b := by exact fun _ _ => rfl) : PD X CE W (.Subscript a b pos) (bin ixP ma mb) :=
  (pe_ix ixr ha hb hs).wk fun σ H Q ⟨g, c, δ, ok, er, h⟩ => use2 ok er h
/-- an own list -/
def ownL (i : Nat) (δ : Ev') : Option (List D) := match δ[i]? with
  | some (Slot.own (Cell.lst xs)) => some xs
  | _ => none
theorem ownL_at {K : PySem.W.Frag} {g : Gh} {H : Hp} {σ : L2.St} {δ : Ev'} {i : Nat} {xs : List D} (er : EnvR CE K g H σ δ) (e : ownL i δ = some xs) :
    δ[i]? = some (Slot.own (Cell.lst xs)) ∧ ∃ a vs, σ[i]? = some (some (V.ref a)) ∧ H a = some (.lst vs) ∧ xs.length ≤ sizeLine ∧ Reps CE K g H xs vs := by
  unfold ownL at e
  split at e
  · rename_i ys he
    cases e
    obtain ⟨a, e1, _, _, _, ⟨vs, h1, z, r⟩, _⟩ := er.own i _ _ he rfl
    exact ⟨he, a, vs, e1, h1, z, r⟩
  · cases e
/-- an own list's item -/
def ixO (i : Nat) (mb : EM) : EM := fun δ => match ownL i δ with
  | some xs => bnd (mb δ) fun y => fun c => match y with
    | .int k => opt (L2.atI xs k) c
    | _ => .bad
  | none => stuck
theorem pd_ixO (i : Nat) (ha : PE X a (tVar i)) (hb : PD X CE W b mb) (hs : PlainIx b := by exact fun _ _ => rfl) : PD X CE W (.Subscript a b pos) (ixO i mb) :=
  (pe_ix ix_list ha hb hs).wk fun σ H Q ⟨g, c, δ, ok, er, h⟩ => by
    unfold ixO at h
    cases e : ownL i δ with
    | none => rw [e] at h; exact h.elim
    | some xs =>
      rw [e] at h
      obtain ⟨e0, a, _, e1, _⟩ := ownL_at er e
      refine ⟨.ref a, e1, ?_⟩
      replace h := wpo_bnd.mp h
      refine use ok er h (fun d c1 h g1 H1 v p1 r1 => ?_) fun _ _ _ z => z
      obtain ⟨_, a', vs, e1', h1, z, r⟩ := ownL_at (er.mono ok p1.ext) e
      rw [e1] at e1'; cases e1'
      cases d <;> try exact h.elim
      rename_i k
      obtain ⟨zz, ez, h⟩ := opt_ok h
      simp only [Rep] at r1
      subst r1
      obtain ⟨w, e2, rw'⟩ := Reps.atI r ez
      exact ⟨a, vs, k, w, rfl, rfl, .of h1, e2, h g1 H1 w p1 rw'⟩
end
end DL

namespace DL
open PySem PySem.Spec PyProof.Rows L2

structure KS where
  nx : Ev' → Cells → Prop
  rt : D → Cells → Prop
  bk : Ev' → Cells → Prop
  ct : Ev' → Cells → Prop
  ex : Nat → List D → Ev' → Cells → Prop
def wps (r : Res) (k : KS) : Prop := match r with
  | .nx δ c => k.nx δ c
  | .rt d c => k.rt d c
  | .bk δ c => k.bk δ c
  | .ct δ c => k.ct δ c
  | .exc C xs δ c => k.ex C xs δ c
  | .bad => False
theorem wps_mono {r : Res} {k k' : KS} (h : wps r k) (h1 : ∀ δ c, k.nx δ c → k'.nx δ c) (h2 : ∀ d c, k.rt d c → k'.rt d c) (h3 : ∀ δ c, k.bk δ c → k'.bk δ c) (h4 : ∀ δ c, k.ct δ c → k'.ct δ c) (h5 : ∀ C xs δ c, k.ex C xs δ c → k'.ex C xs δ c) : wps r k' := by
  cases r with
  | nx δ c => exact h1 _ _ h
  | rt d c => exact h2 _ _ h
  | bk δ c => exact h3 _ _ h
  | ct δ c => exact h4 _ _ h
  | exc C xs δ c => exact h5 _ _ _ _ h
  | bad => exact h
section
variable (CE : CEnv) (K : PySem.W.Frag) (W : WX)
/-- what a state's ends want -/
def ks (D : Ends) (g : Gh) (H : Hp) (c : Cells) (σ : L2.St) (δ : Ev') : KS where
  nx := fun δ' c' => ∀ g' H' σ', XS CE K g H c σ δ g' H' c' σ' δ' → D.nx σ' H'
  rt := fun d c' => ∀ g' H' v, XR CE K g H c σ δ g' H' c' → Rep CE K g' H' d v → D.rt v H'
  bk := fun δ' c' => ∀ g' H' σ', XS CE K g H c σ δ g' H' c' σ' δ' → D.bk σ' H'
  ct := fun δ' c' => ∀ g' H' σ', XS CE K g H c σ δ g' H' c' σ' δ' → D.ct σ' H'
  ex := fun C xs δ' c' => ∀ g' H' σ' dx, XS CE K g H c σ δ g' H' c' σ' δ' → ExcAt CE K g' H' C xs dx → W (.ref (CE C).1) dx σ' H'
def tSD (m : SM) : TS := fun D σ H => ∃ g c δ, SOk CE K g H c ∧ EnvR CE K g H σ δ ∧ wps (m δ c) (ks CE K W D g H c σ δ)
end
def SD (X : Cx) (CE : CEnv) (W : WX) (st : Stmt) (m : SM) : Prop := PS X st (tSD CE X.K W m)
def SDs (X : Cx) (CE : CEnv) (W : WX) (st : List Stmt) (m : SM) : Prop := PSs X st (tSD CE X.K W m)
theorem _root_.L2.PS.wk {X : Cx} {e : Stmt} {t t' : TS} (h : PS X e t) (hw : ∀ D σ H, t' D σ H → t D σ H) : PS X e t' := ⟨fun pins s σ H D I q => h.run pins s σ H D I (hw _ _ _ q)⟩
theorem _root_.L2.PSs.wk {X : Cx} {e : List Stmt} {t t' : TS} (h : PSs X e t) (hw : ∀ D σ H, t' D σ H → t D σ H) : PSs X e t' := ⟨fun pins s σ H D I q => h.run pins s σ H D I (hw _ _ _ q)⟩
section
variable {CE : CEnv} {K : PySem.W.Frag} {W : WX} {D : Ends} {g g1 : Gh} {H H1 : Hp} {c c1 : Cells} {δ δ1 : Ev'} {σ σ1 : L2.St} {r : Res}
/-- from a later state -/
theorem ks.back (p : XS CE K g H c σ δ g1 H1 c1 σ1 δ1) (h : wps r (ks CE K W D g H c σ δ)) : wps r (ks CE K W D g1 H1 c1 σ1 δ1) :=
  wps_mono h (fun δ c q g' H' σ' x => q g' H' σ' (p.trans x)) (fun d c q g' H' v x => q g' H' v (p.ret x)) (fun δ c q g' H' σ' x => q g' H' σ' (p.trans x))
    (fun δ c q g' H' σ' x => q g' H' σ' (p.trans x)) (fun C xs δ c q g' H' σ' dx x => q g' H' σ' dx (p.trans x))
/-- an expression first -/
def Out.thenS {α : Type} (o : Out α) (δ : Ev') (f : α → Cells → Res) : Res := match o with
  | .ok a c => f a c
  | .exc C xs c => .exc C xs δ c
  | .bad => .bad
theorem useS {m : EM} {R : VK} {f : DL.D → Cells → Res} (ok : SOk CE K g H c) (er : EnvR CE K g H σ δ) (h : wps ((m δ c).thenS δ f) (ks CE K W D g H c σ δ))
    (hP : ∀ d c', wps (f d c') (ks CE K W D g H c σ δ) → ∀ g' H' v, Post CE K g H c g' H' c' → Rep CE K g' H' d v → R v H') : tD CE K W m σ H R := by
  refine ⟨g, c, δ, ok, er, ?_⟩
  cases e : m δ c with
  | ok a c' => rw [e] at h; exact hP a c' h
  | exc C xs c' => rw [e] at h; exact fun g' H' dx p x => h g' H' σ dx (XS.of ok er p) x
  | bad => rw [e] at h; exact h
theorem useST {m : TM} {R : Bool → Hp → Prop} {f : Bool → Cells → Res} (ok : SOk CE K g H c) (er : EnvR CE K g H σ δ) (h : wps ((m δ c).thenS δ f) (ks CE K W D g H c σ δ))
    (hP : ∀ d c', wps (f d c') (ks CE K W D g H c σ δ) → ∀ g' H', Post CE K g H c g' H' c' → R d H') : tDT CE K W m σ H R := by
  refine ⟨g, c, δ, ok, er, ?_⟩
  cases e : m δ c with
  | ok a c' => rw [e] at h; exact hP a c' h
  | exc C xs c' => rw [e] at h; exact fun g' H' dx p x => h g' H' σ dx (XS.of ok er p) x
  | bad => rw [e] at h; exact h
/-- a slot is stored -/
theorem EnvR.set {i : Nat} {d : DL.D} {v : V} (er : EnvR CE K g H σ δ) (r : Rep CE K g H d v) : EnvR CE K g H (σ.set i (some v)) (δ.set i (.sh d)) where
  len := by simpa using er.len
  sh := fun j e h => by
    by_cases hj : j = i
    · subst hj
      have hl : j < δ.length := by
        have := (List.getElem?_eq_some_iff.mp h).1
        simpa using this
      rw [List.getElem?_set_self hl] at h
      cases h
      exact ⟨v, List.getElem?_set_self (by rw [er.len]; exact hl), r⟩
    · rw [List.getElem?_set_ne (Ne.symm hj)] at h ⊢
      exact er.sh j e h
  own := fun j t o h ho => by
    by_cases hj : j = i
    · subst hj
      have hl : j < δ.length := by
        have := (List.getElem?_eq_some_iff.mp h).1
        simpa using this
      rw [List.getElem?_set_self hl] at h
      cases h
      cases ho
    · rw [List.getElem?_set_ne (Ne.symm hj)] at h ⊢
      obtain ⟨a, e1, n1, n2, n3, n4, n5⟩ := er.own j t o h ho
      refine ⟨a, e1, n1, n2, n3, n4, fun k t' o' h1 h1' h2 => ?_⟩
      by_cases hk : k = i
      · subst hk
        have hl : k < δ.length := by
          have := (List.getElem?_eq_some_iff.mp h1).1
          simpa using this
        rw [List.getElem?_set_self hl] at h1
        cases h1
        cases h1'
      · rw [List.getElem?_set_ne (Ne.symm hk)] at h1 h2
        exact n5 k t' o' h1 h1' h2
  slf := fun j a C xs h => by
    by_cases hj : j = i
    · subst hj
      have hl : j < δ.length := by
        have := (List.getElem?_eq_some_iff.mp h).1
        simpa using this
      rw [List.getElem?_set_self hl] at h
      cases h
    · rw [List.getElem?_set_ne (Ne.symm hj)] at h ⊢
      exact er.slf j a C xs h
end
theorem XS.set {CE : CEnv} {K : PySem.W.Frag} {g g' : Gh} {H H' : Hp} {c c' : Cells} {σ σ' : L2.St} {δ δ' : Ev'} {i : Nat} {d : DL.D} {v : V} (x : XS CE K g H c σ δ g' H' c' σ' δ') (r : Rep CE K g' H' d v) : XS CE K g H c σ δ g' H' c' (σ'.set i (some v)) (δ'.set i (.sh d)) :=
  ⟨x.x, x.ok, x.er.set r, fun a h => x.sub a h.set⟩
def nilS : SM := fun δ c => .nx δ c
def Res.seq (r : Res) (f : Ev' → Cells → Res) : Res := match r with
  | .nx δ c => f δ c
  | r => r
def seqS (a b : SM) : SM := fun δ c => (a δ c).seq b
def exprS (m : EM) : SM := fun δ c => (m δ c).thenS δ fun _ c => .nx δ c
def retS (m : EM) : SM := fun δ c => (m δ c).thenS δ fun d c => .rt d c
def retN : SM := fun _ c => .rt .non c
def setS (i : Nat) (m : EM) : SM := fun δ c => (m δ c).thenS δ fun d c => .nx (δ.set i (.sh d)) c
def ifS (t : TM) (a b : SM) : SM := fun δ c => (t δ c).thenS δ fun k c => if k then a δ c else b δ c
def brkS : SM := fun δ c => .bk δ c
def cntS : SM := fun δ c => .ct δ c
section
variable {X : Cx} {CE : CEnv} {W : WX} {pos : Pos} {e : Expr} {st : Stmt} {sts : List Stmt} {m : EM} {a b : SM} {t : TM}
theorem sd_nil : SDs X CE W [] nilS := pss_nil.wk fun D σ H ⟨g, c, δ, ok, er, h⟩ => h g H σ (XS.of ok er (Post.refl ok))
theorem sd_cons (h1 : SD X CE W st a) (h2 : SDs X CE W sts b) : SDs X CE W (st :: sts) (seqS a b) :=
  (pss_cons h1 h2).wk fun D σ H ⟨g, c, δ, ok, er, h⟩ => by
    refine ⟨g, c, δ, ok, er, ?_⟩
    unfold seqS at h
    cases e : a δ c with
    | nx δ' c' =>
      rw [e] at h
      exact fun g' H' σ' x => ⟨g', c', δ', x.ok, x.er, ks.back x h⟩
    | rt d c' => rw [e] at h; exact h
    | bk δ' c' => rw [e] at h; exact h
    | ct δ' c' => rw [e] at h; exact h
    | exc C xs δ' c' => rw [e] at h; exact h
    | bad => rw [e] at h; exact h
theorem sd_one (h : SD X CE W st a) : SDs X CE W [st] a := pss_one h
theorem sd_pass : SD X CE W (.Pass pos) nilS := ps_pass.wk fun D σ H ⟨g, c, δ, ok, er, h⟩ => h g H σ (XS.of ok er (Post.refl ok))
theorem sd_brk : SD X CE W (.Break pos) brkS := ps_break.wk fun D σ H ⟨g, c, δ, ok, er, h⟩ => h g H σ (XS.of ok er (Post.refl ok))
theorem sd_cnt : SD X CE W (.Continue pos) cntS := ps_continue.wk fun D σ H ⟨g, c, δ, ok, er, h⟩ => h g H σ (XS.of ok er (Post.refl ok))
theorem sd_doc {x j pos pos'} : SD X CE W (.Expr (.Constant (.str x) j pos) pos') nilS := ps_doc.wk fun D σ H ⟨g, c, δ, ok, er, h⟩ => h g H σ (XS.of ok er (Post.refl ok))
theorem sd_expr (he : PD X CE W e m) (hs : swapsWith e none pos.line X.env = pure false := by rfl) : SD X CE W (.Expr e pos) (exprS m) :=
  (ps_expr he hs).wk fun D σ H ⟨g, c, δ, ok, er, h⟩ => useS ok er h fun d c' h g' H' v p r => h g' H' σ (XS.of ok er p)
theorem sd_ret (he : PD X CE W e m) : SD X CE W (.Return (some e) pos) (retS m) :=
  (ps_ret he).wk fun D σ H ⟨g, c, δ, ok, er, h⟩ => useS ok er h fun d c' h g' H' v p r => h g' H' v (XR.of ok p) r
theorem sd_retN : SD X CE W (.Return none pos) retN := ps_retN.wk fun D σ H ⟨g, c, δ, ok, er, h⟩ => h g H .non (XR.of ok (Post.refl ok)) rep_non
theorem sd_set (i : Nat) {x : PySem.Str} {pos' : Pos} (hN : X.N.Nodup) (hi : X.N[i]? = some x) (hx : Loc X.env.scope x) (he : PD X CE W e m) (hs : swapsWith e (some (.Name x pos')) pos.line X.env = pure false := by rfl)
    (hf : X.fn x = true ∨ X.env.scope.names.lookup x = some .local := by first | exact .inl rfl | exact .inr rfl | assumption) : SD X CE W (.Assign [.Name x pos'] e pos) (setS i m) :=
  (ps_set hN hi hx he hs hf).wk fun D σ H ⟨g, c, δ, ok, er, h⟩ => useS ok er h fun d c' h g' H' v p r => h g' H' _ (XS.set (XS.of ok er p) r)
theorem sd_if {aa bb : List Stmt} (hc : PDT X CE W e t) (ha : SDs X CE W aa a) (hb : SDs X CE W bb b) : SD X CE W (.If e aa bb pos) (ifS t a b) :=
  (ps_if hc ha hb).wk fun D σ H ⟨g, c, δ, ok, er, h⟩ => useST ok er h fun k c' h g' H' p => by
    cases k with
    | true =>
      rw [if_pos rfl] at h ⊢
      exact ⟨g', c', δ, p.ok, er.mono ok p.ext, ks.back (XS.of ok er p) h⟩
    | false =>
      rw [if_neg (by simp)] at h ⊢
      exact ⟨g', c', δ, p.ok, er.mono ok p.ext, ks.back (XS.of ok er p) h⟩
end

/-- o[i] = e, o a list that is a cell -/
def setItem (o i d : D) (c : Cells) : Option Cells := match o with
  | .cell k => match c[k]? with
    | some (Cell.lst xs) => match i with
      | .int j => (ixN xs.length j).map fun n => c.set k (Cell.lst (xs.set n d))
      | _ => none
    | _ => none
  | _ => none
def setIxS (mo mi me : EM) : SM := fun δ c => (me δ c).thenS δ fun d c => (mo δ c).thenS δ fun o c => (mi δ c).thenS δ fun i c => match setItem o i d c with
  | some c' => .nx δ c'
  | none => .bad
section
variable {X : Cx} {CE : CEnv} {W : WX} {pos : Pos} {e o i : Expr} {st : Stmt} {sts : List Stmt} {m mo mi me : EM} {a b : SM} {t : TM}
theorem setItem_ok {K : PySem.W.Frag} {g : Gh} {H : Hp} {c c' : Cells} {o i d : D} {x y v : V} {Q : Hp → Prop} (ok : SOk CE K g H c) (r1 : Rep CE K g H o x) (r2 : Rep CE K g H i y) (r3 : Rep CE K g H d v) (e : setItem o i d c = some c')
    (q : ∀ g' H', Post CE K g H c g' H' c' → Q H') : rSetL x y v H Q := by
  unfold setItem at e
  split at e
  · rename_i k
    split at e
    · rename_i xs hk
      split at e
      · rename_i j
        obtain ⟨n, e1, rfl⟩ := Option.map_eq_some_iff.mp e
        simp only [Rep] at r1 r2
        obtain ⟨a, rfl, ha⟩ := r1
        subst r2
        obtain ⟨vs, h1, z, r⟩ := ok.cl k a _ ha hk
        refine ⟨a, vs, j, n, rfl, rfl, h1, by rw [Reps.length r]; exact e1, q g _ ?_⟩
        exact Post.setCell ok ha hk (by simp) (by simp) fun H' x hx => ⟨_, hx, by simpa using z, Reps.mono ok x (Reps.set n r r3)⟩
      · cases e
    · cases e
  · cases e
theorem sd_setIx {tpos : Pos} (ho : PD X CE W o mo) (hi : PD X CE W i mi) (he : PD X CE W e me) (hs : swapsWithSole [.Subscript o i tpos] e pos.line X.env = pure false := by rfl) (hw : swappedStores [.Subscript o i tpos] e X.env = pure none := by rfl)
    (hga : ∀ v, assign (.Subscript o i tpos) X.env v = (do
      let ov ← holding [v] (eval o X.env)
      let iv ← holding [v, ov] (eval i X.env)
      standAt tpos
      holding [v, ov, iv] (PySem.setItem ov iv v)
      release [v, ov, iv] []) := by intro _; rfl) :
    SD X CE W (.Assign [.Subscript o i tpos] e pos) (setIxS mo mi me) := by
  exact (ps_asg he (pg_sub ho hi set_list hga) hs hw).wk fun D σ H ⟨g, c, δ, ok, er, h⟩ => useS ok er h fun d c1 h g1 H1 v p1 r1 => by
    have x1 := XS.of ok er p1
    replace h := ks.back x1 h
    refine useS p1.ok x1.er h fun d2 c2 h g2 H2 v2 p2 r2 => ?_
    have x2 := XS.of p1.ok x1.er p2
    replace h := ks.back x2 h
    refine useS p2.ok x2.er h fun d3 c3 h g3 H3 v3 p3 r3 => ?_
    have x3 := XS.of p2.ok x2.er p3
    replace h := ks.back x3 h
    split at h
    · rename_i c' ec
      exact setItem_ok p3.ok (Rep.mono p2.ok p3.ext r2) r3 (Rep.mono p1.ok (p2.trans p3).ext r1) ec fun g4 H4 p4 => h g4 H4 σ (XS.of p3.ok x3.er p4)
    · exact h.elim
end
end DL

namespace DL
open PySem PySem.Spec PyProof.Rows L2

/-- J walks the data xs from the state (g, H, c) on -/
structure DWalk (CE : CEnv) (K : PySem.W.Frag) (J : It) (xs : List D) (g : Gh) (H : Hp) (c : Cells) : Prop where
  sz : xs.length ≤ sizeLine
  go : ∀ g1 H1 c1, RK g H g1 H1 → SOk CE K g1 H1 c1 → ∀ i, i < xs.length → J.go i H1
  stop : ∀ g1 H1 c1, RK g H g1 H1 → SOk CE K g1 H1 c1 → J.stop xs.length H1
  yld : ∀ g1 H1 c1, RK g H g1 H1 → SOk CE K g1 H1 c1 → ∀ i d x H2, xs[i]? = some d → J.yld i H1 x H2 → ∃ g2, Post CE K g1 H1 c1 g2 H2 c1 ∧ Rep CE K g2 H2 d x
theorem RK.trans {g g' g'' : Gh} {H H' H'' : Hp} (a : RK g H g' H') (b : RK g' H' g'' H'') : RK g H g'' H'' := ⟨fun x h => b.fr x (a.fr x h), fun k x h => b.am k x (a.am k x h), fun x h => (b.F x (a.fr x h)).trans (a.F x h), fun x xs h => b.tup x xs (a.tup x xs h), fun x o u h => b.frz x o u (a.frz x o u h)⟩
theorem DWalk.mono {CE : CEnv} {K : PySem.W.Frag} {J : It} {xs : List D} {g g' : Gh} {H H' : Hp} {c c' : Cells} (w : DWalk CE K J xs g H c) (r : RK g H g' H') : DWalk CE K J xs g' H' c' :=
  ⟨w.sz, fun g1 H1 c1 x => w.go g1 H1 c1 (r.trans x), fun g1 H1 c1 x => w.stop g1 H1 c1 (r.trans x), fun g1 H1 c1 x => w.yld g1 H1 c1 (r.trans x)⟩
theorem RK.refl {g : Gh} {H : Hp} : RK g H g H := ⟨fun _ h => h, fun _ _ h => h, fun _ _ => rfl, fun _ _ h => h, fun _ _ _ h => h⟩
section
variable (CE : CEnv) (K : PySem.W.Frag) (W : WX)
def tI (mi : Ev' → M (List D)) : TI := fun σ H R => ∃ g c δ, SOk CE K g H c ∧ EnvR CE K g H σ δ ∧
  wpo (mi δ c) (fun xs c' => ∀ g' H' J, Post CE K g H c g' H' c' → DWalk CE K J xs g' H' c' → R J H') (EK CE K W g H c σ)
def gD (js : List Nat) (tg : D → Ev' → Option Ev') : TG := fun v σ H Q => ∃ g c δ d δ', SOk CE K g H c ∧ EnvR CE K g H σ δ ∧ Rep CE K g H d v ∧ tg d δ = some δ' ∧ ∀ σ', EnvR CE K g H σ' δ' → wipe σ' js = wipe σ js → (∀ a, Own σ' δ' a → Own σ δ a) → Q σ' H
def gDs (js : List Nat) (tg : List D → Ev' → Option Ev') : TGs := fun vs σ H Q => ∃ g c δ ds δ', SOk CE K g H c ∧ EnvR CE K g H σ δ ∧ Reps CE K g H ds vs ∧ tg ds δ = some δ' ∧ ∀ σ', EnvR CE K g H σ' δ' → wipe σ' js = wipe σ js → (∀ a, Own σ' δ' a → Own σ δ a) → Q σ' H
end
def PID (X : Cx) (CE : CEnv) (W : WX) (tg iter : Expr) (mi : Ev' → M (List D)) : Prop := PI X tg iter (tI CE X.K W mi)
def PGD (X : Cx) (CE : CEnv) (js : List Nat) (tg : Expr) (t : D → Ev' → Option Ev') : Prop := PG X tg (gD CE X.K js t)
def PGDs (X : Cx) (CE : CEnv) (js : List Nat) (tg : List Expr) (t : List D → Ev' → Option Ev') : Prop := PGs X tg (gDs CE X.K js t)
theorem _root_.L2.PI.wk {X : Cx} {tg e : Expr} {t t' : TI} (h : PI X tg e t) (hw : ∀ σ H R, t' σ H R → t σ H R) : PI X tg e t' := ⟨fun pins s σ H R I q => h.run pins s σ H R I (hw _ _ _ q)⟩
theorem _root_.L2.PG.wk {X : Cx} {tg : Expr} {t t' : TG} (h : PG X tg t) (hw : ∀ v σ H Q, t' v σ H Q → t v σ H Q) : PG X tg t' := ⟨fun pins s σ H v u Q I r q => h.run pins s σ H v u Q I r (hw _ _ _ _ q)⟩
theorem _root_.L2.PGs.wk {X : Cx} {tg : List Expr} {t t' : TGs} (h : PGs X tg t) (hw : ∀ v σ H Q, t' v σ H Q → t v σ H Q) : PGs X tg t' := ⟨fun pins s σ H v u Q I r q => h.run pins s σ H v u Q I r (hw _ _ _ _ q)⟩

theorem wipe_set {i : Nat} {x : Option V} : ∀ {js : List Nat} {σ : L2.St}, i ∈ js → wipe (σ.set i x) js = wipe σ js
  | j :: js, σ, h => by
    unfold wipe
    by_cases hj : i ∈ js
    · rw [wipe_set hj]
    · have e : i = j := (List.mem_cons.mp h).resolve_right hj
      subst e
      have : wipe (σ.set i x) js = (wipe σ js).set i x := wipe_set_out hj
      rw [this, List.set_set]
where
  wipe_set_out {i : Nat} {x : Option V} : ∀ {js : List Nat} {σ : L2.St}, i ∉ js → wipe (σ.set i x) js = (wipe σ js).set i x
    | [], _, _ => rfl
    | j :: js, σ, h => by
      have h1 : i ≠ j := fun e => h (e ▸ List.mem_cons_self)
      have h2 : i ∉ js := fun e => h (List.mem_cons_of_mem _ e)
      unfold wipe
      rw [wipe_set_out h2, List.set_comm _ _ h1]
def tgN (i : Nat) : D → Ev' → Option Ev' := fun d δ => some (δ.set i (.sh d))
def tgNil : List D → Ev' → Option Ev' := fun ds δ => match ds with
  | [] => some δ
  | _ => none
def tgCons (t : D → Ev' → Option Ev') (u : List D → Ev' → Option Ev') : List D → Ev' → Option Ev' := fun ds δ => match ds with
  | d :: r => match t d δ with
    | some δ' => u r δ'
    | none => none
  | [] => none
def tgT (n : Nat) (u : List D → Ev' → Option Ev') : D → Ev' → Option Ev' := fun d δ => match d with
  | .tup ds => if ds.length = n then u ds δ else none
  | _ => none
section
variable {X : Cx} {CE : CEnv} {W : WX} {pos : Pos} {e : Expr} {es : List Expr} {t : D → Ev' → Option Ev'} {u : List D → Ev' → Option Ev'} {js : List Nat}
theorem pgd_name (i : Nat) {x : PySem.Str} (hN : X.N.Nodup) (hi : X.N[i]? = some x) (hx : Loc X.env.scope x) (hj : i ∈ js := by decide) (hf : X.fn x = true ∨ X.env.scope.names.lookup x = some .local := by first | exact .inl rfl | exact .inr rfl | assumption) : PGD X CE js (.Name x pos) (tgN i) :=
  (pg_name hN hi hx hf).wk fun v σ H Q ⟨g, c, δ, d, δ', ok, er, r, e, q⟩ => by
    cases e
    exact q _ (er.set r) (wipe_set hj) fun a h => h.set
theorem pgds_nil : PGDs X CE js [] tgNil := pgs_nil.wk fun v σ H Q ⟨g, c, δ, ds, δ', ok, er, r, e, q⟩ => by
  cases ds with
  | nil =>
    cases e
    simp only [Reps] at r
    exact ⟨r, q σ er rfl fun _ h => h⟩
  | cons d ds => cases e
theorem pgds_cons (h1 : PGD X CE js e t) (h2 : PGDs X CE js es u) (hs : (assignEach (e :: es) X.env).map (fun q => q.2) = assign e X.env :: (assignEach es X.env).map (fun q => q.2) := by rfl) : PGDs X CE js (e :: es) (tgCons t u) :=
  (pgs_cons h1 h2 hs).wk fun v σ H Q ⟨g, c, δ, ds, δ', ok, er, r, e, q⟩ => by
    cases ds with
    | nil => cases e
    | cons d ds =>
      simp only [Reps] at r
      obtain ⟨w, ws, rfl, r1, r2⟩ := r
      simp only [tgCons] at e
      split at e
      · rename_i δ1 e1
        exact ⟨w, ws, rfl, g, c, δ, d, δ1, ok, er, r1, e1, fun σ1 er1 w1 o1 => ⟨g, c, δ1, ds, δ', ok, er1, r2, e, fun σ2 er2 w2 o2 => q σ2 er2 (w2.trans w1) fun a h => o1 a (o2 a h)⟩⟩
      · cases e
theorem pgd_tup {k n : Nat} (hc : X.calm = true) (h : PGDs X CE js es u) (hn : (assignEach es X.env).length = n := by rfl) (hst : (assignEach es X.env).findIdx? (·.1) = none := by rfl) : PGD X CE js (.Tuple es k pos) (tgT n u) :=
  (pg_tup hc h hn hst).wk fun v σ H Q ⟨g, c, δ, d, δ', ok, er, r, e, q⟩ => by
    cases d <;> try (simp [tgT] at e; done)
    rename_i ds
    simp only [tgT] at e
    split at e
    · rename_i hl
      simp only [Rep] at r
      obtain ⟨a, vs, rfl, h1, z, r⟩ := r
      exact ⟨a, vs, rfl, h1, by rw [Reps.length r]; exact hl, g, c, δ, ds, δ', ok, er, r, e, q⟩
    · cases e
end

/-- data that never change -/
def seqF : D → Option (List D)
  | .tup xs => some xs
  | .lst xs => some xs
  | .rol xs => some xs
  | _ => none
def itE (m : EM) : Ev' → M (List D) := fun δ => bnd (m δ) fun d => fun c => opt (seqF d) c
def rangeD (lo : Int) (n : Nat) : List D := (List.range n).map fun (i : Nat) => D.int (lo + i)
def rng1 (ds : List D) : Option (List D) := match ds with
  | [.int j] => if -(2 ^ 62) ≤ j ∧ j ≤ 16777216 then some (rangeD 0 j.toNat) else none
  | _ => none
def rng2 (ds : List D) : Option (List D) := match ds with
  | [.int i, .int j] => if -16777216 ≤ i ∧ i < 2 ^ 62 ∧ -(2 ^ 62) ≤ j ∧ j ≤ 16777216 ∧ j - i ≤ 16777216 then some (rangeD i (j - i).toNat) else none
  | _ => none
def itR (r : List D → Option (List D)) (ms : Ev' → M (List D)) : Ev' → M (List D) := fun δ => bnd (ms δ) fun ds => fun c => opt (r ds) c
theorem rangeD_get {lo : Int} {n i : Nat} {d : D} (h : (rangeD lo n)[i]? = some d) : d = .int (lo + i) := by
  unfold rangeD at h
  rw [List.getElem?_map] at h
  obtain ⟨j, e, rfl⟩ := Option.map_eq_some_iff.mp h
  obtain ⟨hl, e⟩ := List.getElem?_eq_some_iff.mp e
  simp at e
  rw [← e]
theorem rangeD_length {lo : Int} {n : Nat} : (rangeD lo n).length = n := by simp [rangeD]
section
variable {CE : CEnv} {K : PySem.W.Frag} {g : Gh} {H : Hp} {c : Cells}
theorem dwalk_range {lo : Int} {n : Nat} (hn : n ≤ sizeLine) : DWalk CE K (Itr lo n) (rangeD lo n) g H c where
  sz := by rw [rangeD_length]; exact hn
  go := fun g1 H1 c1 p _ i h => by rw [rangeD_length] at h; exact h
  stop := fun g1 H1 c1 p _ => by rw [rangeD_length]; exact Nat.le_refl _
  yld := fun g1 H1 c1 p ok i d x H2 h ⟨e1, e2⟩ => by
    subst e1; subst e2
    rw [rangeD_get h]
    exact ⟨g1, Post.refl ok, rep_int⟩
theorem dwalk_list {a : Addr} {vs : List V} {xs : List D} (hk : ∀ g1 H1, RK g H g1 H1 → SqL K H1 a vs) (r : Reps CE K g H xs vs) (hz : xs.length ≤ sizeLine) : DWalk CE K (Itl K a) xs g H c where
  sz := hz
  go := fun g1 H1 c1 p _ i h => ⟨vs, vs[i]'(by rw [Reps.length r]; exact h), hk _ _ p, by simp [Reps.length r, h]⟩
  stop := fun g1 H1 c1 p _ => ⟨vs, hk _ _ p, by rw [Reps.length r]; exact Nat.le_refl _⟩
  yld := fun g1 H1 c1 p ok i d x H2 h ⟨e1, e2⟩ => by
    subst e1
    obtain ⟨v, e3, r3⟩ := Reps.get (Reps.rk p r) h
    have e4 := e2 vs (hk _ _ p)
    rw [e3] at e4; cases e4
    exact ⟨g1, Post.refl ok, r3⟩
theorem dwalk_tup {a : Addr} {vs : List V} {xs : List D} (hk : SqT K H a vs) (r : Reps CE K g H xs vs) (hz : xs.length ≤ sizeLine) : DWalk CE K (Itt K a) xs g H c where
  sz := hz
  go := fun g1 H1 c1 p _ i h => ⟨vs, vs[i]'(by rw [Reps.length r]; exact h), SqT.rk p hk, by simp [Reps.length r, h]⟩
  stop := fun g1 H1 c1 p _ => ⟨vs, SqT.rk p hk, by rw [Reps.length r]; exact Nat.le_refl _⟩
  yld := fun g1 H1 c1 p ok i d x H2 h ⟨e1, e2⟩ => by
    subst e1
    obtain ⟨v, e3, r3⟩ := Reps.get (Reps.rk p r) h
    have e4 := e2 vs (SqT.rk p hk)
    rw [e3] at e4; cases e4
    exact ⟨g1, Post.refl ok, r3⟩
end
section
variable {X : Cx} {CE : CEnv} {W : WX} {pos : Pos} {tg e a b : Expr} {es : List Expr} {m : EM} {ms : Ev' → M (List D)}
theorem pid_seq (he : PD X CE W e m) : PID X CE W tg e (itE m) := by
  have base : PI X tg e (fun σ H R => tD CE X.K W m σ H fun x H1 => ∃ a, x = .ref a ∧ (((∃ xs, SqL X.K H1 a xs) ∧ R (Itl X.K a) H1) ∨ ((∃ xs, SqT X.K H1 a xs) ∧ R (Itt X.K a) H1))) := by
    refine ⟨fun pins s σ H R I h => ?_⟩
    have hr := PE.run he pins s σ H _ I h
    refine thn hr fun v s1 ⟨x, H1, I1, r1, q1⟩ => ?_
    obtain ⟨a, e, ⟨⟨xs, hq⟩, q⟩ | ⟨⟨xs, hq⟩, q⟩⟩ := q1
    · subst e
      cases r1
      obtain ⟨its, rv, p, hz⟩ := I1.list hq
      refine wpAny_pyIter_list p.isList ?_
      refine ⟨s1.heap.objs.size, [s1.heap.objs.size], _, _, H1, rfl, I1.kept (t' := s1.toks) fun b o e => Heap.get?_push_of_some _ e, turn_list a _, ⟨_, Heap.get?_push_size _ rfl, rfl, rfl⟩, fun b hb => ?_, q⟩
      have e : b = s1.heap.objs.size := by simpa using hb
      rw [e]
      exact I1.fpOk (Nat.le_refl _) (I1.hok.fresh (Nat.le_refl _))
    · subst e
      cases r1
      obtain ⟨its, rv, p, hz⟩ := I1.tuple hq
      refine wpAny_pyIter_tuple (show s1.heap.IsTuple a its.toArray from p) ?_
      refine ⟨s1.heap.objs.size, [s1.heap.objs.size], _, _, H1, rfl, I1.kept (t' := s1.toks) fun b o e => Heap.get?_push_of_some _ e, turn_tuple a _, ⟨_, Heap.get?_push_size _ rfl, rfl, rfl⟩, fun b hb => ?_, q⟩
      have e : b = s1.heap.objs.size := by simpa using hb
      rw [e]
      exact I1.fpOk (Nat.le_refl _) (I1.hok.fresh (Nat.le_refl _))
  refine base.wk fun σ H R ⟨g, c, δ, ok, er, h⟩ => ?_
  replace h := wpo_bnd.mp h
  refine use ok er h (fun d c1 h g1 H1 v p1 r1 => ?_) fun _ _ _ z => z
  obtain ⟨xs, ex, h⟩ := opt_ok h
  cases d <;> try (simp [seqF] at ex; done)
  · simp only [seqF, Option.some.injEq] at ex
    subst ex
    simp only [Rep] at r1
    obtain ⟨a, vs, rfl, hq, z, r⟩ := r1
    exact ⟨a, rfl, .inr ⟨⟨vs, hq⟩, h g1 H1 _ p1 (dwalk_tup hq r z)⟩⟩
  · simp only [seqF, Option.some.injEq] at ex
    subst ex
    simp only [Rep] at r1
    obtain ⟨a, vs, rfl, hf, hq, z, r⟩ := r1
    exact ⟨a, rfl, .inl ⟨⟨vs, .of hq⟩, h g1 H1 _ p1 (dwalk_list (fun g2 H2 p2 => .of ((p2.F a hf).trans hq)) r z)⟩⟩
  · simp only [seqF, Option.some.injEq] at ex
    subst ex
    have r1' := r1
    simp only [Rep] at r1
    obtain ⟨a, vs, rfl, hq, z, r⟩ := r1
    have hk : ∀ g2 H2, RK g1 H1 g2 H2 → SqL X.K H2 a vs := fun g2 H2 p2 => by
      rcases hq with ⟨o, hq⟩ | hq
      · exact .inl (.inr ⟨o, p2.frz a _ _ hq⟩)
      · exact hq H2
    exact ⟨a, rfl, .inl ⟨⟨vs, hk g1 H1 RK.refl⟩, h g1 H1 _ p1 (dwalk_list hk r z)⟩⟩
theorem pid_range1 {p : Pos} (hg : Gl X "range") (hm : X.mg "range" = none) (ha : PDA X CE W [a] ms) (hs : starEach [a] X.env = [(false, eval a X.env)] := by rfl) : PID X CE W tg (.Call (.Name "range" p) [a] [] pos) (itR rng1 ms) :=
  (pi_range1 hg hm ha hs).wk fun σ H R ⟨g, c, δ, ok, er, h⟩ => by
    replace h := wpo_bnd.mp h
    refine useA ok er h (fun ds c1 h g1 H1 vs p1 r1 => ?_) fun _ _ _ z => z
    obtain ⟨xs, ex, h⟩ := opt_ok h
    unfold rng1 at ex
    split at ex
    · rename_i j
      split at ex
      · rename_i hb
        cases ex
        simp only [Reps, Rep] at r1
        obtain ⟨_, _, rfl, rfl, rfl⟩ := r1
        exact ⟨j, rfl, hb.1, by omega, h g1 H1 _ p1 (dwalk_range (by rw [sizeLine_eq]; omega))⟩
      · cases ex
    · cases ex
theorem pid_range2 {p : Pos} (hg : Gl X "range") (hm : X.mg "range" = none) (ha : PDA X CE W [a, b] ms) (hs : starEach [a, b] X.env = [(false, eval a X.env), (false, eval b X.env)] := by rfl) (hs2 : starEach [b] X.env = [(false, eval b X.env)] := by rfl) : PID X CE W tg (.Call (.Name "range" p) [a, b] [] pos) (itR rng2 ms) :=
  (pi_range2 hg hm ha hs hs2).wk fun σ H R ⟨g, c, δ, ok, er, h⟩ => by
    replace h := wpo_bnd.mp h
    refine useA ok er h (fun ds c1 h g1 H1 vs p1 r1 => ?_) fun _ _ _ z => z
    obtain ⟨xs, ex, h⟩ := opt_ok h
    unfold rng2 at ex
    split at ex
    · rename_i i j
      split at ex
      · rename_i hb
        cases ex
        simp only [Reps, Rep] at r1
        obtain ⟨_, _, rfl, rfl, _, _, rfl, rfl, rfl⟩ := r1
        exact ⟨i, j, rfl, ⟨by omega, hb.2.1, hb.2.2.1, by omega⟩, h g1 H1 _ p1 (dwalk_range (by rw [sizeLine_eq]; omega))⟩
      · cases ex
    · cases ex
end

def forL (tg : D → Ev' → Option Ev') (b : SM) : List D → Ev' → Cells → Res
  | [], δ, c => .nx δ c
  | x :: xs, δ, c => match tg x δ with
    | none => .bad
    | some δ1 => match b δ1 c with
      | .nx δ2 c2 => forL tg b xs δ2 c2
      | .ct δ2 c2 => forL tg b xs δ2 c2
      | .bk δ2 c2 => .nx δ2 c2
      | r => r
def forS (mi : Ev' → M (List D)) (tg : D → Ev' → Option Ev') (b : SM) : SM := fun δ c => (mi δ c).thenS δ fun xs c => forL tg b xs δ c
section
variable {X : Cx} {CE : CEnv} {W : WX} {pos : Pos} {tg iter e : Expr} {body : List Stmt} {mi : Ev' → M (List D)} {t : D → Ev' → Option Ev'} {b : SM} {js : List Nat}
theorem for_ok {K : PySem.W.Frag} {J : It} {D : Ends} {g0 : Gh} {H0 : Hp} {c0 : Cells} {xs : List DL.D} (ok0 : SOk CE K g0 H0 c0) {δ0 : Ev'} {σ0 : L2.St} (dw : DWalk CE K J xs g0 H0 c0) (er0 : EnvR CE K g0 H0 σ0 δ0) (h : wps (forL t b xs δ0 c0) (ks CE K W D g0 H0 c0 σ0 δ0)) :
    ∃ Wv : Nat → Nat → L2.St → Hp → Prop, (∃ m, Wv 0 m σ0 H0) ∧ ∀ i m σ H, Wv i m σ H →
      (J.stop i H ∧ D.nx σ H) ∨ (J.go i H ∧ ∃ N : L2.St → Hp → Prop, (∀ σ' H', N σ' H' → ∃ m', m' < m ∧ Wv (i + 1) m' σ' H') ∧ ∀ x H', J.yld i H x H' → gD CE K js t x σ H' fun σ2 H2 => tSD CE K W b { D with nx := N, ct := N, bk := D.nx } σ2 H2) := by
  refine ⟨fun i m σ H => m = xs.length - i ∧ i ≤ xs.length ∧ ∃ g c δ, XS CE K g0 H0 c0 σ0 δ0 g H c σ δ ∧ wps (forL t b (xs.drop i) δ c) (ks CE K W D g H c σ δ), ⟨xs.length, by simp, Nat.zero_le _, g0, c0, δ0, XS.of ok0 er0 (Post.refl ok0), by simpa using h⟩, ?_⟩
  rintro i m σ H ⟨rfl, hi, g, c, δ, p, h⟩
  have dw1 : DWalk CE K J xs g H c := dw.mono (p.x.rk ok0 fun _ z => (er0.ownF z).1)
  by_cases hlt : i < xs.length
  · refine .inr ⟨dw1.go _ _ _ RK.refl p.ok i hlt, fun σ H => i + 1 ≤ xs.length ∧ ∃ g c δ, XS CE K g0 H0 c0 σ0 δ0 g H c σ δ ∧ wps (forL t b (xs.drop (i + 1)) δ c) (ks CE K W D g H c σ δ), fun σ' H' ⟨h1, h2⟩ => ⟨xs.length - (i + 1), by omega, rfl, h1, h2⟩, fun x H' y => ?_⟩
    obtain ⟨g1, p1, r1⟩ := dw1.yld _ _ _ RK.refl p.ok i xs[i] x H' (by simp [hlt]) y
    have hd : xs.drop i = xs[i] :: xs.drop (i + 1) := List.drop_eq_getElem_cons hlt
    rw [hd] at h
    simp only [forL] at h
    cases e1 : t xs[i] δ with
    | none => rw [e1] at h; exact h.elim
    | some δ1 =>
      rw [e1] at h
      dsimp only at h
      have x1 := XS.of p.ok p.er p1
      refine ⟨g1, c, δ, xs[i], δ1, p1.ok, x1.er, r1, e1, fun σ1 er1 _ o1 => ?_⟩
      have x2 : XS CE K g H c σ δ g1 H' c σ1 δ1 := ⟨x1.x, x1.ok, er1, fun a h => .inl (o1 a h)⟩
      replace h := ks.back x2 h
      have p2 := p.trans x2
      refine ⟨g1, c, δ1, p1.ok, er1, ?_⟩
      cases e2 : b δ1 c with
      | nx δ2 c2 =>
        rw [e2] at h
        exact fun g' H' σ' x' => ⟨hlt, g', c2, δ2, p2.trans x', ks.back x' h⟩
      | ct δ2 c2 =>
        rw [e2] at h
        exact fun g' H' σ' x' => ⟨hlt, g', c2, δ2, p2.trans x', ks.back x' h⟩
      | bk δ2 c2 =>
        rw [e2] at h
        exact fun g' H' σ' x' => h g' H' σ' x'
      | rt d c2 => rw [e2] at h; exact h
      | exc C ys δ2 c2 => rw [e2] at h; exact h
      | bad => rw [e2] at h; exact h
  · have e : i = xs.length := by omega
    subst e
    simp only [List.drop_length, forL] at h
    exact .inl ⟨dw1.stop _ _ _ RK.refl p.ok, h g H σ (XS.of p.ok p.er (Post.refl p.ok))⟩
theorem sd_for (hp : PassesOwn (model X.prog X.w) X.A X.env X.xe) (hc : X.calm = true) (hi : PID X CE W tg iter mi) (hg : PGD X CE js tg t) (hb : SDs X CE W body b) (hs : ∀ x, foldedSetIterable iter X.env x = pure x := by intro _; rfl) : SD X CE W (.For tg iter body [] pos) (forS mi t b) :=
  (ps_for hp hc hi hg hb hs).wk fun D σ H ⟨g, c, δ, ok, er, h⟩ => by
    refine ⟨g, c, δ, ok, er, ?_⟩
    unfold forS at h
    cases e : mi δ c with
    | ok xs c' =>
      rw [e] at h
      intro g' H' J p dw
      exact for_ok p.ok dw (er.mono ok p.ext) (ks.back (XS.of ok er p) h)
    | exc C xs c' => rw [e] at h; exact fun g' H' dx p x => h g' H' σ dx (XS.of ok er p) x
    | bad => rw [e] at h; exact h
end

def whileL (t : TM) (b : SM) : Nat → Ev' → Cells → Res
  | 0, _, _ => .bad
  | n + 1, δ, c => (t δ c).thenS δ fun k c => if k then (match b δ c with
      | .nx δ2 c2 => whileL t b n δ2 c2
      | .ct δ2 c2 => whileL t b n δ2 c2
      | .bk δ2 c2 => .nx δ2 c2
      | r => r) else .nx δ c
def whileS (n : Nat) (t : TM) (b : SM) : SM := fun δ c => whileL t b n δ c
section
variable {X : Cx} {CE : CEnv} {W : WX} {pos : Pos} {e : Expr} {body : List Stmt} {t : TM} {b : SM}
theorem sd_while (n : Nat) (hp : PassesOwn (model X.prog X.w) X.A X.env X.xe) (ht : PDT X CE W e t) (hb : SDs X CE W body b) : SD X CE W (.While e body [] pos) (whileS n t b) :=
  (ps_while hp ht hb).wk fun D σ0 H0 ⟨g0, c0, δ0, ok0, er0, h⟩ => by
    refine ⟨fun m σ H => ∃ g c δ, SOk CE X.K g H c ∧ EnvR CE X.K g H σ δ ∧ wps (whileL t b m δ c) (ks CE X.K W D g H c σ δ), ⟨n, g0, c0, δ0, ok0, er0, h⟩, ?_⟩
    rintro m σ H ⟨g, c, δ, ok, er, h⟩
    cases m with
    | zero => exact h.elim
    | succ m =>
      simp only [whileL] at h
      refine useST ok er h fun k c1 h g1 H1 p1 => ?_
      have x1 := XS.of ok er p1
      cases k with
      | false =>
        rw [if_neg (by simp)] at h ⊢
        exact h g1 H1 σ x1
      | true =>
        rw [if_pos rfl] at h ⊢
        refine ⟨fun σ H => ∃ g c δ, SOk CE X.K g H c ∧ EnvR CE X.K g H σ δ ∧ wps (whileL t b m δ c) (ks CE X.K W D g H c σ δ), fun σ' H' w => ⟨m, Nat.lt_succ_self _, w⟩, g1, c1, δ, p1.ok, x1.er, ?_⟩
        replace h := ks.back x1 h
        cases e2 : b δ c1 with
        | nx δ2 c2 =>
          rw [e2] at h
          exact fun g' H' σ' x' => ⟨g', c2, δ2, x'.ok, x'.er, ks.back x' h⟩
        | ct δ2 c2 =>
          rw [e2] at h
          exact fun g' H' σ' x' => ⟨g', c2, δ2, x'.ok, x'.er, ks.back x' h⟩
        | bk δ2 c2 =>
          rw [e2] at h
          exact fun g' H' σ' x' => h g' H' σ' x'
        | rt d c2 => rw [e2] at h; exact h
        | exc C ys δ2 c2 => rw [e2] at h; exact h
        | bad => rw [e2] at h; exact h
end
end DL

namespace DL
open PySem PySem.Spec PyProof.Rows L2

/-- a def's promise by its mirror -/
def spD (CE : CEnv) (K : PySem.W.Frag) (n : Nat) (m : List D → M D) : Sp := fun vs H Q E => ∃ g c ds, SOk CE K g H c ∧ Reps CE K g H ds vs ∧ ds.length = n ∧
  wpo (m ds c) (fun d c' => ∀ g' H' v, Post CE K g H c g' H' c' → Rep CE K g' H' d v → Q v H')
    (fun C xs c' => ∀ g' H' dx, Post CE K g H c g' H' c' → ExcAt CE K g' H' C xs dx → E (.ref (CE C).1) dx H')
structure FnD (P : Program) (w : World) (K : PySem.W.Frag) (mg : PySem.Str → Option Value) (base : Heap) (CE : CEnv) (k : Nat) (f : Addr) (fd : FuncData) (ps : List PySem.Str) (m : List D → M D) : Prop where
  ok : FnOk P w K mg base (L2.CX P w) k f fd ps (spD CE K ps.length m)
  ar : ∀ ds c, ds.length ≠ ps.length → m ds c = .bad
/-- m' says no more than m -/
def Le (m' m : List D → M D) : Prop := ∀ ds c, m' ds c = .bad ∨ m' ds c = m ds c
theorem FnD.le {P : Program} {w : World} {K : PySem.W.Frag} {mg : PySem.Str → Option Value} {base : Heap} {CE : CEnv} {k : Nat} {f : Addr} {fd : FuncData} {ps : List PySem.Str} {m m' : List D → M D} (F : FnD P w K mg base CE k f fd ps m) (h : Le m' m) : FnD P w K mg base CE k f fd ps m' :=
  ⟨F.ok.imp fun vs H Q E ⟨g, c, ds, ok, r, l, q⟩ => ⟨g, c, ds, ok, r, l, by
    rcases h ds c with e | e
    · rw [e] at q; exact q.elim
    · rw [e] at q; exact q⟩, fun ds c hl => (h ds c).elim id fun e => e.trans (F.ar ds c hl)⟩
theorem FnD.mono {P : Program} {w : World} {K : PySem.W.Frag} {mg : PySem.Str → Option Value} {base : Heap} {CE : CEnv} {j k : Nat} {f : Addr} {fd : FuncData} {ps : List PySem.Str} {m : List D → M D} (F : FnD P w K mg base CE j f fd ps m) (h : j ≤ k) : FnD P w K mg base CE k f fd ps m := ⟨F.ok.mono h, F.ar⟩
def startD (n : Nat) (ds : List D) : Ev' := ds.map Slot.sh ++ List.replicate (n - ds.length) Slot.un
def Res.out (r : Res) : Out D := match r with
  | .nx _ c => .ok .non c
  | .rt d c => .ok d c
  | .exc C xs _ c => .exc C xs c
  | _ => .bad
def runD (n k : Nat) (m : SM) : List D → M D := fun ds c => if ds.length = k then (m (startD n ds) c).out else .bad
theorem start_get {n : Nat} {ds : List D} {i : Nat} {s : Slot} (h : (startD n ds)[i]? = some s) : (∃ d, ds[i]? = some d ∧ s = .sh d) ∨ s = .un := by
  unfold startD at h
  by_cases hi : i < ds.length
  · rw [List.getElem?_append_left (by simpa using hi), List.getElem?_map] at h
    obtain ⟨d, e, rfl⟩ := Option.map_eq_some_iff.mp h
    exact .inl ⟨d, e, rfl⟩
  · rw [List.getElem?_append_right (by simpa using hi)] at h
    have := List.getElem?_eq_some_iff.mp h
    obtain ⟨_, e⟩ := this
    rw [List.getElem_replicate] at e
    exact .inr e.symm
theorem start_noOwn {n : Nat} {ds : List D} {i : Nat} {s : Slot} {o : Cell} (h : (startD n ds)[i]? = some s) (ho : s.hid = some o) : False := by
  rcases start_get h with ⟨d, _, rfl⟩ | rfl <;> cases ho
theorem start_env {CE : CEnv} {K : PySem.W.Frag} {g : Gh} {H : Hp} {N : List PySem.Str} {ds : List D} {vs : List V} (r : Reps CE K g H ds vs) : EnvR CE K g H (L2.start N vs) (startD N.length ds) := by
  have hl := Reps.length r
  have get : ∀ (i : Nat) (s : Slot), (startD N.length ds)[i]? = some s → (∃ d, ds[i]? = some d ∧ s = .sh d) ∨ s = .un := by
    intro i s h
    unfold startD at h
    by_cases hi : i < ds.length
    · rw [List.getElem?_append_left (by simpa using hi), List.getElem?_map] at h
      obtain ⟨d, e, rfl⟩ := Option.map_eq_some_iff.mp h
      exact .inl ⟨d, e, rfl⟩
    · rw [List.getElem?_append_right (by simpa using hi)] at h
      have := List.getElem?_eq_some_iff.mp h
      obtain ⟨_, e⟩ := this
      rw [List.getElem_replicate] at e
      exact .inr e.symm
  refine ⟨by unfold L2.start startD; simp [hl], fun i d h => ?_, fun i s o h ho => ?_, fun i a C xs h => ?_⟩
  · rcases get i _ h with ⟨d', e, e'⟩ | e'
    · cases e'
      obtain ⟨v, e1, e2⟩ := Reps.get r e
      refine ⟨v, ?_, e2⟩
      unfold L2.start
      rw [List.getElem?_append_left (by simpa using (List.getElem?_eq_some_iff.mp e1).1), List.getElem?_map, e1]
      rfl
    · cases e'
  · rcases get i _ h with ⟨d', e, e'⟩ | e'
    · subst e'; cases ho
    · subst e'; cases ho
  · rcases get i _ h with ⟨d', e, e'⟩ | e'
    · cases e'
    · cases e'
section
variable {P : Program} {w : World} {K : PySem.W.Frag} {mg : PySem.Str → Option Value} {base : Heap} {CE : CEnv}
abbrev WF (E : XK) : WX := fun cls d _ H => E cls d H
/-- a def keeps its mirror's promise -/
theorem fn_d {x qual : PySem.Str} {st : Stmt} {f : Addr} {fd : FuncData} {N ps : List PySem.Str} {k : Nat} {m : SM} (F : Fun K x qual st f fd) (S : FnScope N ps (defScope st))
    (hb : ∀ (cdv : Value) (A : Around) (outer : List Env) (s : Shared) (H : Hp) (E : XK), Room k (A.deeper (envOfC qual (defScope st) s.heap.objs.size f cdv)) →
      Takes (cxOf (L2.CX P w) P w K mg base N qual (defScope st) f cdv A outer s H E) (WF E) → PassesOwn (model P w) (A.deeper (envOfC qual (defScope st) s.heap.objs.size f cdv)) (envOfC qual (defScope st) s.heap.objs.size f cdv) (cxOf (L2.CX P w) P w K mg base N qual (defScope st) f cdv A outer s H E).xe →
      SDs (cxOf (L2.CX P w) P w K mg base N qual (defScope st) f cdv A outer s H E) CE (WF E) (defBody st) m) : FnD P w K mg base CE (k + 1) f fd ps (runD N.length ps.length m) := by
  refine ⟨F.okX S (fun vs H Q E ⟨g, c, ds, ok, r, l, q⟩ => by rw [Reps.length r]; exact l) fun cdv A outer s H vs Q E hr ⟨g, c, ds, ok, r, l, q⟩ => ?_, fun ds c h => if_neg h⟩
  refine ⟨_, hb cdv A outer s H E hr (takes_of rfl rfl rfl rfl) (passes_of rfl), ?_⟩
  refine ⟨g, c, startD N.length ds, ok, start_env r, ?_⟩
  have no : ∀ a, ¬ Own (L2.start N vs) (startD N.length ds) a := fun a ⟨i, t, o, h1, h2, h3⟩ => start_noOwn h1 h2
  unfold runD at q
  rw [if_pos l] at q
  cases e : m (startD N.length ds) c with
  | nx δ c' => rw [e] at q; exact fun g' H' σ' x => q g' H' _ ⟨x.x.none no, x.ok⟩ rep_non
  | rt d c' => rw [e] at q; exact fun g' H' v x r => q g' H' v ⟨x.x.none no, x.ok⟩ r
  | bk δ c' => rw [e] at q; exact q.elim
  | ct δ c' => rw [e] at q; exact q.elim
  | exc C xs δ c' => rw [e] at q; exact fun g' H' σ' dx x ea => q g' H' dx ⟨x.x.none no, x.ok⟩ ea
  | bad => rw [e] at q; exact q.elim
end

def PassW (X : Cx) (W : WX) : Prop := ∀ σ, PassesAt (L2.CX X.prog X.w) X σ (WE W σ)
theorem passW {X : Cx} {W : WX} (tk : Takes X W) : PassW X W := fun σ => passAt tk σ
def W0 : WX := fun _ _ _ _ => False
theorem passW0 {X : Cx} : PassW X W0 := fun σ _ _ _ _ _ _ h => by
  obtain ⟨_, _, _, _, _, _, _, _, _, _, _, _, z⟩ := h
  exact z.elim
def callF (m : List D → M D) (dds : List D) (ms : Ev' → M (List D)) : EM := fun δ => bnd (ms δ) fun xs => m (xs ++ dds)
/-- a default's value -/
def Lit (CE : CEnv) (K : PySem.W.Frag) (dds : List D) (ds : List Value) : Prop := ∃ dvs, Vals dvs ds ∧ ∀ g H, Reps CE K g H dds dvs
theorem lit_nil {CE : CEnv} {K : PySem.W.Frag} : Lit CE K [] [] := ⟨[], .nil, fun _ _ => Reps.nil⟩
end DL

namespace DL
open PySem PySem.Spec PyProof.Rows L2

def insOf (d : D) (c : Cells) : Option (Nat × List D) := match d with
  | .ins C xs => some (C, xs)
  | .cell k => match c[k]? with
    | some (Cell.ins C xs) => some (C, xs)
    | _ => none
  | _ => none
theorem insOf_at {CE : CEnv} {K : PySem.W.Frag} {g : Gh} {H : Hp} {c : Cells} {d : D} {v : V} {C : Nat} {xs : List D} (ok : SOk CE K g H c) (r : Rep CE K g H d v) (e : insOf d c = some (C, xs)) :
    ∃ a dx vs, v = .ref a ∧ H a = some (.ins (CE C).1 dx ((CE C).2.zip vs)) ∧ xs.length ≤ (CE C).2.length ∧ Reps CE K g H xs vs := by
  cases d <;> try (simp [insOf] at e; done)
  case ins C' xs' =>
    simp only [insOf, Option.some.injEq, Prod.mk.injEq] at e
    obtain ⟨rfl, rfl⟩ := e
    simp only [Rep] at r
    obtain ⟨a, dx, vs, rfl, _, h, l, q⟩ := r
    exact ⟨a, dx, vs, rfl, h, l, q⟩
  case cell k =>
    simp only [Rep] at r
    obtain ⟨a, rfl, h⟩ := r
    simp only [insOf] at e
    split at e
    · rename_i C' xs' he
      simp only [Option.some.injEq, Prod.mk.injEq] at e
      obtain ⟨rfl, rfl⟩ := e
      obtain ⟨dx, vs, h1, l, q⟩ := ok.cl k a _ h he
      exact ⟨a, dx, vs, rfl, h1, l, q⟩
    · cases e
/-- the type of what is no instance -/
def tyN (d : D) (c : Cells) : Option String := match d with
  | .non => some "NoneType"
  | .bl _ => some "bool"
  | .int _ => some "int"
  | .str _ => some "str"
  | .lst _ => some "list"
  | .tup _ => some "tuple"
  | .cell k => match c[k]? with
    | some (Cell.lst _) => some "list"
    | _ => none
  | _ => none
theorem tyN_at {CE : CEnv} {K : PySem.W.Frag} {g : Gh} {H : Hp} {c : Cells} {d : D} {v : V} {n : String} (ok : SOk CE K g H c) (r : Rep CE K g H d v) (e : tyN d c = some n) : TyX K H v (.type n) := by
  cases d <;> simp only [tyN, Option.some.injEq, reduceCtorEq] at e <;> try (subst e)
  case non => simp only [Rep] at r; subst r; exact .base .non
  case bl b => simp only [Rep] at r; subst r; exact .base (.bl b)
  case int i => simp only [Rep] at r; subst r; exact .base (.int i)
  case str x => simp only [Rep] at r; subst r; exact .base (.str x)
  case tup xs =>
    simp only [Rep] at r
    obtain ⟨a, vs, rfl, (h | ⟨o, h⟩) | ⟨o, its, n, hk, hc, _⟩, _, _⟩ := r
    · exact .base (.tup h)
    · exact .fTuple h
    · exact .kTuple hk hc
  case lst xs =>
    simp only [Rep] at r
    obtain ⟨a, vs, rfl, _, h, _⟩ := r
    exact .base (.lst h)
  case cell k =>
    split at e
    · rename_i xs he
      cases e
      simp only [Rep] at r
      obtain ⟨a, rfl, ha⟩ := r
      obtain ⟨vs, h, _⟩ := ok.cl k a _ ha he
      exact .base (.lst h)
    · cases e
structure KCls (K : PySem.W.Frag) (a : Addr) : Prop where
  cl : Cls K a
  ha : PySem.W.findIn K (.ref a) "__class__" = some (some (.builtin "object.__class__"))
  hn : PySem.W.specialIn K (.builtin "object.__class__") "__get__" = some (some (.builtin "getset_descriptor.__get__"))
  htk : PySem.W.takesIn K (.builtin "object.__class__") = some true
  hm : PySem.W.mroIn K a (.type "object") = some true
def tys : List String := ["NoneType", "bool", "int", "str", "list", "tuple"]
/-- the classes cs tell apart -/
structure IsOk (K : PySem.W.Frag) (CE : CEnv) (cs : List Nat) : Prop where
  k : ∀ C ∈ cs, KCls K (CE C).1
  ty : ∀ C ∈ cs, ∀ T ∈ tys, PySem.W.kitOne K (.ref (CE C).1) (.type T) = some false
  bi : ∀ C ∈ cs, ∀ T ∈ tys, PySem.W.kitOne K (.type T) (.ref (CE C).1) = some false
  ow : ∀ C ∈ cs, ∀ C' ∈ cs, PySem.W.kitOne K (.ref (CE C).1) (.ref (CE C').1) = some (C == C')
def isiB (cs : List Nat) (x t : D) (c : Cells) : Option Bool := match t with
  | .ty T => match tyN x c with
    | some n => kitB n T
    | none => match insOf x c with
      | some (C, _) => if cs.contains C && tys.contains T then some false else none
      | none => none
  | .cls C' => match tyN x c with
    | some n => if cs.contains C' && tys.contains n then some false else none
    | none => match insOf x c with
      | some (C, _) => if cs.contains C && cs.contains C' then some (C == C') else none
      | none => none
  | _ => none
def isiP (cs : List Nat) (ds : List D) (c : Cells) : Option D := match ds with
  | [x, t] => (isiB cs x t c).map .bl
  | _ => none
def lenP (ds : List D) (c : Cells) : Option D := match ds with
  | [.str x] => if x.length ≤ sizeLine then some (.int x.length) else none
  | [d] => (seqOf d c).map fun xs => .int xs.length
  | _ => none
def intF (ds : List D) (_ : Cells) : Option D := match ds with
  | [.int i] => some (.int i)
  | [.bl k] => some (.int (if k then 1 else 0))
  | _ => none
def boolF (ds : List D) (_ : Cells) : Option D := match ds with
  | [.int i] => some (.bl (i != 0))
  | [.bl k] => some (.bl k)
  | _ => none
def listF (ds : List D) (c : Cells) : Option D := match ds with
  | [d] => (seqOf d c).map .lst
  | _ => none
def tupleF (ds : List D) (c : Cells) : Option D := match ds with
  | [d] => (seqOf d c).map .tup
  | _ => none
def maxF (ds : List D) (_ : Cells) : Option D := match ds with
  | [.int i, .int j] => some (.int (if j > i then j else i))
  | _ => none
def minF (ds : List D) (_ : Cells) : Option D := match ds with
  | [.int i, .int j] => some (.int (if j < i then j else i))
  | _ => none
section
variable {X : Cx} {CE : CEnv}
theorem reps1 {K : PySem.W.Frag} {g : Gh} {H : Hp} {d : D} {xs : List V} (h : Reps CE K g H [d] xs) : ∃ v, xs = [v] ∧ Rep CE K g H d v := by
  simp only [Reps] at h
  obtain ⟨v, r, rfl, h, rfl⟩ := h
  exact ⟨v, rfl, h⟩
theorem reps2 {K : PySem.W.Frag} {g : Gh} {H : Hp} {d e : D} {xs : List V} (h : Reps CE K g H [d, e] xs) : ∃ v u, xs = [v, u] ∧ Rep CE K g H d v ∧ Rep CE K g H e u := by
  simp only [Reps] at h
  obtain ⟨v, r, rfl, h, u, r', rfl, h', rfl⟩ := h
  exact ⟨v, u, rfl, h, h'⟩
theorem cd_isi {cs : List Nat} (T : IsOk X.K CE cs) : CallR X (.builtin "isinstance") (rDA CE X.K (isiP cs)) := by
  intro pins s σ H xs us Q I r ⟨g, c, ds, z, ok, r1, ez, q⟩
  unfold isiP at ez
  split at ez
  · rename_i x t
    rw [Option.map_eq_some_iff] at ez
    obtain ⟨b, ez, rfl⟩ := ez
    have qq := q g H _ (Post.refl ok) rep_bl
    obtain ⟨v, u, rfl, h1, h2⟩ := reps2 r1
    have own : ∀ {C ys} (_ : insOf x c = some (C, ys)) (_ : cs.contains C = true), TyX X.K H v (.ref (CE C).1) := fun {C ys} hi hc => by
      obtain ⟨a, dx, vs, rfl, h, l, _⟩ := insOf_at ok h1 hi
      have kc := T.k C (by simpa using hc)
      exact .base (.ins h kc.cl kc.ha kc.hn kc.htk kc.hm)
    unfold isiB at ez
    split at ez
    · rename_i T'
      simp only [Rep] at h2
      subst h2
      split at ez
      · rename_i n en
        exact call_isi pins s σ H _ us Q I r ⟨v, _, _, _, b, rfl, .ty T', tyN_at ok h1 en, kit_ty ez, qq⟩
      · split at ez
        · rename_i C ys hi
          split at ez
          · rename_i hh
            cases ez
            rw [Bool.and_eq_true] at hh
            exact call_isi pins s σ H _ us Q I r ⟨v, _, _, _, false, rfl, .ty T', own hi hh.1, T.ty C (by simpa using hh.1) T' (by simpa using hh.2), qq⟩
          · cases ez
        · cases ez
    · rename_i C'
      simp only [Rep] at h2
      subst h2
      split at ez
      · rename_i n en
        split at ez
        · rename_i hh
          cases ez
          rw [Bool.and_eq_true] at hh
          exact call_isi pins s σ H _ us Q I r ⟨v, _, _, _, false, rfl, .own _, tyN_at ok h1 en, T.bi C' (by simpa using hh.1) n (by simpa using hh.2), qq⟩
        · cases ez
      · split at ez
        · rename_i C ys hi
          split at ez
          · rename_i hh
            cases ez
            rw [Bool.and_eq_true] at hh
            exact call_isi pins s σ H _ us Q I r ⟨v, _, _, _, _, rfl, .own _, own hi hh.1, T.ow C (by simpa using hh.1) C' (by simpa using hh.2), qq⟩
          · cases ez
        · cases ez
    · cases ez
  · cases ez
theorem cd_len : CallR X (.builtin "len") (rDA CE X.K lenP) := by
  intro pins s σ H xs us Q I r ⟨g, c, ds, z, ok, r1, ez, q⟩
  unfold lenP at ez
  split at ez
  · rename_i x
    split at ez
    · rename_i hz
      cases ez
      obtain ⟨v, rfl, h1⟩ := reps1 r1
      simp only [Rep] at h1
      subst h1
      exact call_len_str pins s σ H _ us Q I r ⟨x, rfl, hz, q g H _ (Post.refl ok) rep_int⟩
    · cases ez
  · obtain ⟨ys, ey, rfl⟩ := Option.map_eq_some_iff.mp ez
    obtain ⟨v, rfl, h1⟩ := reps1 r1
    obtain ⟨a, vs, rfl, h, z, rr⟩ := seqOf_at ok h1 ey
    refine call_len_seq pins s σ H _ us Q I r ⟨a, vs, rfl, h, ?_⟩
    rw [Reps.length rr]
    exact q g H _ (Post.refl ok) rep_int
  · cases ez
theorem cd_int : CallR X (.type "int") (rDA CE X.K intF) := by
  intro pins s σ H xs us Q I r ⟨g, c, ds, z, ok, r1, ez, q⟩
  unfold intF at ez
  split at ez
  · cases ez
    obtain ⟨v, rfl, h1⟩ := reps1 r1
    simp only [Rep] at h1
    subst h1
    exact call_int1 pins s σ H _ us Q I r (.inl ⟨_, rfl, q g H _ (Post.refl ok) rep_int⟩)
  · cases ez
    obtain ⟨v, rfl, h1⟩ := reps1 r1
    simp only [Rep] at h1
    subst h1
    exact call_int1 pins s σ H _ us Q I r (.inr ⟨_, rfl, q g H _ (Post.refl ok) rep_int⟩)
  · cases ez
theorem cd_bool : CallR X (.type "bool") (rDA CE X.K boolF) := by
  intro pins s σ H xs us Q I r ⟨g, c, ds, z, ok, r1, ez, q⟩
  unfold boolF at ez
  split at ez
  · cases ez
    obtain ⟨v, rfl, h1⟩ := reps1 r1
    simp only [Rep] at h1
    subst h1
    exact call_bool1 pins s σ H _ us Q I r (.inl ⟨_, rfl, q g H _ (Post.refl ok) rep_bl⟩)
  · cases ez
    obtain ⟨v, rfl, h1⟩ := reps1 r1
    simp only [Rep] at h1
    subst h1
    exact call_bool1 pins s σ H _ us Q I r (.inr ⟨_, rfl, q g H _ (Post.refl ok) rep_bl⟩)
  · cases ez
theorem cd_list : CallR X (.type "list") (rDA CE X.K listF) := by
  intro pins s σ H xs us Q I r ⟨g, c, ds, z, ok, r1, ez, q⟩
  unfold listF at ez
  split at ez
  · obtain ⟨ys, ey, rfl⟩ := Option.map_eq_some_iff.mp ez
    obtain ⟨v, rfl, h1⟩ := reps1 r1
    obtain ⟨a, vs, rfl, h, z, rr⟩ := seqOf_at ok h1 ey
    exact call_list_of pins s σ H _ us Q I r ⟨a, vs, rfl, h, fun p hp => new_lst ok hp rr z q⟩
  · cases ez
theorem cd_tuple : CallR X (.type "tuple") (rDA CE X.K tupleF) := by
  intro pins s σ H xs us Q I r ⟨g, c, ds, z, ok, r1, ez, q⟩
  unfold tupleF at ez
  split at ez
  · obtain ⟨ys, ey, rfl⟩ := Option.map_eq_some_iff.mp ez
    obtain ⟨v, rfl, h1⟩ := reps1 r1
    obtain ⟨a, vs, rfl, h, z, rr⟩ := seqOf_at ok h1 ey
    rcases h with h | h
    · exact call_tuple_of pins s σ H _ us Q I r ⟨a, vs, rfl, .inl ⟨h, fun p hp => new_tup ok hp rr z q⟩⟩
    · refine call_tuple_of pins s σ H _ us Q I r ⟨a, vs, rfl, .inr ⟨h, q g H _ (Post.refl ok) ?_⟩⟩
      simp only [Rep]
      exact ⟨a, vs, rfl, h, z, rr⟩
  · cases ez
theorem cd_max (hc : X.calm = true) : CallR X (.builtin "max") (rDA CE X.K maxF) := by
  intro pins s σ H xs us Q I r ⟨g, c, ds, z, ok, r1, ez, q⟩
  unfold maxF at ez
  split at ez
  · cases ez
    obtain ⟨v, u, rfl, h1, h2⟩ := reps2 r1
    simp only [Rep] at h1 h2
    subst h1; subst h2
    exact call_max2 hc pins s σ H _ us Q I r ⟨_, _, rfl, q g H _ (Post.refl ok) rep_int⟩
  · cases ez
theorem cd_min (hc : X.calm = true) : CallR X (.builtin "min") (rDA CE X.K minF) := by
  intro pins s σ H xs us Q I r ⟨g, c, ds, z, ok, r1, ez, q⟩
  unfold minF at ez
  split at ez
  · cases ez
    obtain ⟨v, u, rfl, h1, h2⟩ := reps2 r1
    simp only [Rep] at h1 h2
    subst h1; subst h2
    exact call_min2 hc pins s σ H _ us Q I r ⟨_, _, rfl, q g H _ (Post.refl ok) rep_int⟩
  · cases ez
end
end DL

namespace DL
open PySem PySem.Spec PyProof.Rows L2

def wipeD (δ : Ev') : List Nat → Ev'
  | [] => δ
  | v :: vs => (wipeD δ vs).set v .un
theorem EnvR.unset {CE : CEnv} {K : PySem.W.Frag} {g : Gh} {H : Hp} {σ : L2.St} {δ : Ev'} {i : Nat} (er : EnvR CE K g H σ δ) : EnvR CE K g H (σ.set i none) (δ.set i .un) where
  len := by simpa using er.len
  sh := fun j e h => by
    by_cases hj : j = i
    · subst hj
      have hl : j < δ.length := by
        have := (List.getElem?_eq_some_iff.mp h).1
        simpa using this
      rw [List.getElem?_set_self hl] at h
      cases h
    · rw [List.getElem?_set_ne (Ne.symm hj)] at h ⊢
      exact er.sh j e h
  own := fun j t o h ho => by
    by_cases hj : j = i
    · subst hj
      have hl : j < δ.length := by
        have := (List.getElem?_eq_some_iff.mp h).1
        simpa using this
      rw [List.getElem?_set_self hl] at h
      cases h
      cases ho
    · rw [List.getElem?_set_ne (Ne.symm hj)] at h ⊢
      obtain ⟨a, e1, n1, n2, n3, n4, n5⟩ := er.own j t o h ho
      refine ⟨a, e1, n1, n2, n3, n4, fun k t' o' h1 h1' h2 => ?_⟩
      by_cases hk : k = i
      · subst hk
        have hl : k < δ.length := by
          have := (List.getElem?_eq_some_iff.mp h1).1
          simpa using this
        rw [List.getElem?_set_self hl] at h1
        cases h1
        cases h1'
      · rw [List.getElem?_set_ne (Ne.symm hk)] at h1 h2
        exact n5 k t' o' h1 h1' h2
  slf := fun j a C xs h => by
    by_cases hj : j = i
    · subst hj
      have hl : j < δ.length := by
        have := (List.getElem?_eq_some_iff.mp h).1
        simpa using this
      rw [List.getElem?_set_self hl] at h
      cases h
    · rw [List.getElem?_set_ne (Ne.symm hj)] at h ⊢
      exact er.slf j a C xs h
theorem EnvR.wipe {CE : CEnv} {K : PySem.W.Frag} {g : Gh} {H : Hp} {σ : L2.St} {δ : Ev'} (er : EnvR CE K g H σ δ) : ∀ vs : List Nat, EnvR CE K g H (L2.wipe σ vs) (wipeD δ vs)
  | [] => er
  | v :: vs => by
    unfold L2.wipe wipeD
    exact (EnvR.wipe er vs).unset
def Out.quiet {α : Type} (o : Out α) : Out α := match o with
  | .exc _ _ _ => .bad
  | o => o
def lcL (tg : D → Ev' → Option Ev') (tt : TM) (te : EM) (δ : Ev') : List D → M (List D)
  | [] => DL.ret []
  | x :: xs => match tg x δ with
    | none => stuck
    | some δ1 => bnd (tt δ1) fun b => if b then bnd (te δ1) fun y => bnd (lcL tg tt te δ xs) fun ys => DL.ret (y :: ys) else lcL tg tt te δ xs
def lcE (mi : Ev' → M (List D)) (vs : List Nat) (tg : D → Ev' → Option Ev') (tt : TM) (te : EM) : EM := fun δ => bnd (mi δ) fun xs => fun c => (bnd (lcL tg tt te (wipeD δ vs) xs) fun ys => DL.ret (D.lst ys)) c |>.quiet
def yesT : TM := fun _ c => .ok true c
def PDTs (X : Cx) (CE : CEnv) (W : WX) (ifs : List Expr) (m : TM) : Prop := PTs X ifs (tDT CE X.K W m)
theorem _root_.L2.PTs.wk {X : Cx} {e : List Expr} {t t' : TT} (h : PTs X e t) (hw : ∀ σ H Q, t' σ H Q → t σ H Q) : PTs X e t' := ⟨fun pins s σ H Q I q => h.run pins s σ H Q I (hw _ _ _ q)⟩
section
variable {X : Cx} {CE : CEnv} {W : WX} {e : Expr} {t : TM}
theorem pdts_nil : PDTs X CE W [] yesT := pts_nil.wk fun σ H Q ⟨g, c, δ, ok, er, h⟩ => h g H (Post.refl ok)
theorem pdts_one (h : PDT X CE W e t) : PDTs X CE W [e] t := pts_one h
end
theorem wpo_quiet {α : Type} {o : Out α} {P : α → Cells → Prop} {E : Nat → List D → Cells → Prop} (h : wpo o.quiet P E) : wpo o P (fun _ _ _ => False) := by
  cases o with
  | ok a c => exact h
  | exc C xs c => exact h.elim
  | bad => exact h
theorem wipe_sub {σ : L2.St} {vs : List Nat} : ∀ {us : List Nat}, (∀ u ∈ us, u ∈ vs) → L2.wipe (L2.wipe σ us) vs = L2.wipe σ vs
  | [], _ => rfl
  | u :: us, h => by
    show L2.wipe ((L2.wipe σ us).set u none) vs = _
    rw [wipe_set (h u List.mem_cons_self), wipe_sub fun v hv => h v (List.mem_cons_of_mem _ hv)]
theorem wipe_wipe {σ : L2.St} {vs : List Nat} : L2.wipe (L2.wipe σ vs) vs = L2.wipe σ vs := wipe_sub fun _ h => h
section
variable {CE : CEnv} {K : PySem.W.Frag} {tg : D → Ev' → Option Ev'} {tt : TM} {te : EM}
/-- the comprehension's loop: D0 is where the new list stands -/
theorem lc_ok {J : It} {xs : List DL.D} {g0 : Gh} {H0 : Hp} {c0 : Cells} (ok0 : SOk CE K g0 H0 c0) (dw : DWalk CE K J xs g0 H0 c0) {δ0 : Ev'} {σ0 : L2.St} {vs : List Nat} (er0 : EnvR CE K g0 H0 σ0 δ0) {D0 : Addr} (hD : H0 D0 = none) {Qd : Hp → Prop} {P : List DL.D → Cells → Prop}
    (h : wpo (lcL tg tt te (wipeD δ0 vs) xs c0) P (fun _ _ _ => False)) (hQ : ∀ ys c1, P ys c1 → ∀ g1 H1 ws, Post CE K g0 H0 c0 g1 H1 c1 → H1 D0 = some (.lst ws) → ¬ g1.F D0 → D0 ∉ g1.am → ys.length ≤ sizeLine → Reps CE K g1 H1 ys ws → Qd H1) :
    ∃ Wv : Nat → Nat → Hp → Prop, (∃ m, Wv 0 m (upd H0 D0 (.lst []))) ∧ ∀ i m H, Wv i m H → (J.stop i H ∧ Qd H) ∨ (J.go i H ∧ ∃ Nx : Hp → Prop, (∀ H', Nx H' → ∃ m', m' < m ∧ Wv (i + 1) m' H') ∧
      ∀ x H', J.yld i H x H' → gD CE K vs tg x (wipe σ0 vs) H' fun σ2 H2 => wipe σ2 vs = wipe σ0 vs ∧ tDT CE K W0 tt σ2 H2 fun b H3 => if b = true then tD CE K W0 te σ2 H3 fun y H4 => ∃ acc, H4 D0 = some (.lst acc) ∧ acc.length < sizeLine ∧ Nx (upd H4 D0 (.lst (acc ++ [y]))) else Nx H3) := by
  have F0 : ¬ g0.F D0 := fun z => ok0.tr D0 z hD
  have A0 : D0 ∉ g0.am := mem_am_ne ok0 hD
  have er0' : EnvR CE K g0 H0 (wipe σ0 vs) (wipeD δ0 vs) := er0.wipe vs
  -- the invariant at turn i
  refine ⟨fun i m H => m = xs.length - i ∧ i ≤ xs.length ∧ ∃ g c accD accV, Post CE K g0 H0 c0 g H c ∧ H D0 = some (.lst accV) ∧ ¬ g.F D0 ∧ D0 ∉ g.am ∧ accD.length ≤ i ∧ Reps CE K g H accD accV ∧
      wpo (lcL tg tt te (wipeD δ0 vs) (xs.drop i) c) (fun ys c1 => P (accD ++ ys) c1) (fun _ _ _ => False),
    ⟨xs.length, by simp, Nat.zero_le _, g0, c0, [], [], Post.hid ok0 hD _, upd_same, F0, A0, Nat.le_refl _, Reps.nil, by simpa using h⟩, ?_⟩
  rintro i m H ⟨rfl, hi, g, c, accD, accV, p, eD, nF, nA, la, ra, h⟩
  have hz := dw.sz
  by_cases hlt : i < xs.length
  · have hd : xs.drop i = xs[i] :: xs.drop (i + 1) := List.drop_eq_getElem_cons hlt
    rw [hd] at h
    refine .inr ⟨dw.go _ _ _ (p.ext.rk ok0) p.ok i hlt, fun H => i + 1 ≤ xs.length ∧ ∃ g c accD accV, Post CE K g0 H0 c0 g H c ∧ H D0 = some (.lst accV) ∧ ¬ g.F D0 ∧ D0 ∉ g.am ∧ accD.length ≤ i + 1 ∧ Reps CE K g H accD accV ∧
      wpo (lcL tg tt te (wipeD δ0 vs) (xs.drop (i + 1)) c) (fun ys c1 => P (accD ++ ys) c1) (fun _ _ _ => False), fun H' ⟨h1, h2⟩ => ⟨xs.length - (i + 1), by omega, rfl, h1, h2⟩, fun x H' y => ?_⟩
    obtain ⟨g1, p1, r1⟩ := dw.yld _ _ _ (p.ext.rk ok0) p.ok i xs[i] x H' (by simp [hlt]) y
    simp only [lcL] at h
    cases e1 : tg xs[i] (wipeD δ0 vs) with
    | none => rw [e1] at h; exact h.elim
    | some δ1 =>
      rw [e1] at h
      dsimp only at h
      replace h := wpo_bnd.mp h
      have p01 := p.trans p1
      refine ⟨g1, c, wipeD δ0 vs, xs[i], δ1, p1.ok, er0'.mono ok0 p01.ext, r1, e1, fun σ1 er1 w1 _ => ⟨by rw [w1]; exact wipe_wipe, ?_⟩⟩
      -- D0 stays hidden over any step
      have hid : ∀ {ga Ha ca gb Hb cb}, Post CE K ga Ha ca gb Hb cb → SOk CE K ga Ha ca → Ha D0 = some (.lst accV) → ¬ ga.F D0 → D0 ∉ ga.am → Hb D0 = some (.lst accV) ∧ ¬ gb.F D0 ∧ D0 ∉ gb.am := by
        intro ga Ha ca gb Hb cb q ok h1 h2 h3
        refine ⟨q.ext.keep _ _ h1 fun ⟨k, z, l1, _⟩ => h3 (List.mem_of_getElem? l1), fun z => ?_, fun z => ?_⟩
        · rcases q.ext.newF _ z with z | z | z
          · exact h2 z
          · rw [h1] at z; cases z
          · exact h3 z
        · rcases q.ext.newA _ z with z | z
          · exact h3 z
          · rw [h1] at z; cases z
      obtain ⟨d1, d2, d3⟩ := hid p1 p.ok eD nF nA
      refine useT p1.ok er1 h (fun b c2 h g2 H2 p2 => ?_) fun _ _ _ z => z.elim
      obtain ⟨d4, d5, d6⟩ := hid p2 p1.ok d1 d2 d3
      have p02 := p01.trans p2
      cases b with
      | false =>
        rw [if_neg (by simp)] at h ⊢
        exact ⟨hlt, g2, c2, accD, accV, p02, d4, d5, d6, by omega, Reps.mono p.ok (p1.trans p2).ext ra, h⟩
      | true =>
        rw [if_pos rfl] at h ⊢
        replace h := wpo_bnd.mp h
        refine use p2.ok (er1.mono p1.ok p2.ext) h (fun d c3 h g3 H3 v p3 r3 => ?_) fun _ _ _ z => z.elim
        obtain ⟨d7, d8, d9⟩ := hid p3 p2.ok d4 d5 d6
        have ra3 := Reps.mono p.ok ((p1.trans p2).trans p3).ext ra
        have p03 := p02.trans p3
        refine ⟨accV, d7, by rw [Reps.length ra3]; omega, hlt, g3, c3, accD ++ [d], accV ++ [v], ?_, upd_same, d8, d9, by rw [List.length_append]; simp; omega, ?_, ?_⟩
        · -- the list has grown: nobody else is touched
          have x3 : Ext g0 H0 c0 g3 (upd H3 D0 (.lst (accV ++ [v]))) c3 := ⟨p03.ext.fr, p03.ext.am, fun a o e n => by
            rw [upd_ne (fun z => by rw [z, hD] at e; cases e)]
            exact p03.ext.keep a o e n, p03.ext.newF, p03.ext.newA, fun a e => upd_thr (p03.ext.thr a e), p03.ext.dd⟩
          exact ⟨x3, p3.ok.hid (RK.hid d7 d8) d9⟩
        · exact Reps.rk (RK.hid d7 d8) (Reps.append ra3 (Reps.one r3))
        · replace h := wpo_bnd.mp h
          refine wpo_mono h (fun ys c4 q => ?_) fun _ _ _ z => z
          rw [List.append_assoc]
          exact q
  · have e : i = xs.length := by omega
    subst e
    simp only [List.drop_length, lcL] at h
    have h' : P (accD ++ []) c := h
    rw [List.append_nil] at h'
    exact .inl ⟨dw.stop _ _ _ (p.ext.rk ok0) p.ok, hQ accD c h' g H accV p eD nF nA (by omega) ra⟩
end
section
variable {X : Cx} {CE : CEnv} {W : WX} {elt tg iter : Expr} {ifs : List Expr} {scope : Scope} {own : List (PySem.Str × Nat)} {pos : Pos} {mi : Ev' → M (List D)} {t : D → Ev' → Option Ev'} {tt : TM} {te : EM}
theorem lc_use {K : PySem.W.Frag} {σ : L2.St} {H : Hp} {Q : VK} {vs : List Nat} {g : Gh} {c : Cells} {δ : Ev'} (ok : SOk CE K g H c) (er : EnvR CE K g H σ δ)
    (h : wpo (lcE mi vs t tt te δ c) (fun d c' => ∀ g' H' v, Post CE K g H c g' H' c' → Rep CE K g' H' d v → Q v H') (EK CE K W g H c σ)) : tLc (tI CE K W mi) (gD CE K vs t) (tDT CE K W0 tt) (tD CE K W0 te) vs σ H Q := by
  replace h := wpo_bnd.mp h
  refine ⟨g, c, δ, ok, er, wpo_mono h (fun xs c1 h g1 H1 J p1 dw => ?_) fun _ _ _ z => z⟩
  intro D0 hD
  replace h := wpo_bnd.mp (wpo_quiet h)
  refine lc_ok p1.ok dw (er.mono ok p1.ext) hD h fun ys c2 q g2 H2 ws p2 eD nF nA hz r => ?_
  have q : ∀ g' H' v, Post CE K g H c g' H' c2 → Rep CE K g' H' (.lst ys) v → Q v H' := q
  -- the list is frozen
  have hsm : ∀ a, H1 a ≠ none → a ≠ D0 := fun a h e => h (e ▸ hD)
  have x : Ext g1 H1 c1 ⟨fun a => g2.F a ∨ a = D0, g2.am⟩ H2 c2 := ⟨fun a h => .inl (p2.ext.fr a h), p2.ext.am, p2.ext.keep, fun a h => h.elim (p2.ext.newF a) fun e => .inr (.inl (e ▸ hD)), p2.ext.newA, p2.ext.thr, fun a ⟨k, y, l⟩ => p2.ext.dd a ⟨k, y, l⟩⟩
  have rk : RK g2 H2 ⟨fun a => g2.F a ∨ a = D0, g2.am⟩ H2 := ⟨fun _ h => .inl h, fun _ _ h => h, fun _ _ => rfl, fun _ _ h => h, fun _ _ _ h => h⟩
  have ok2 : SOk CE K ⟨fun a => g2.F a ∨ a = D0, g2.am⟩ H2 c2 := ⟨p2.ok.len, p2.ok.nd, fun a ⟨k, y, l1, l2, l3⟩ h => h.elim (p2.ok.nF a ⟨k, y, l1, l2, l3⟩) fun e => nA (e ▸ List.mem_of_getElem? l1), fun k a y l1 l2 => by
    have z := p2.ok.cl k a y l1 l2
    cases y with
    | lst ds => obtain ⟨us, e, z, r⟩ := z; exact ⟨us, e, z, Reps.rk rk r⟩
    | ins C ds => obtain ⟨dx, us, e, z, r⟩ := z; exact ⟨dx, us, e, z, Reps.rk rk r⟩
    | dead => trivial, fun a h => h.elim (p2.ok.tr a) fun e => by rw [e, eD]; simp, p2.ok.tA⟩
  refine q _ _ _ (p1.trans ⟨x, ok2⟩) ?_
  simp only [Rep]
  exact ⟨D0, ws, rfl, .inr rfl, eD, hz, Reps.rk rk r⟩
theorem pd_lc (hc : X.calm = true) (hN : X.N.Nodup) (hi : PID X CE W tg iter mi) (ok : BlkOk X.N X.env.scope scope own)
    (hg : ∀ (s : Shared) (H : Hp) (C : Addr) (cl : List (PySem.Str × Addr)) (fp : List Addr), PGD (X.blk s H scope (compEnvC scope cl C X.env) fp) CE (own.map (·.2)) tg t) (ht : ∀ (s : Shared) (H : Hp) (C : Addr) (cl : List (PySem.Str × Addr)) (fp : List Addr), PDTs (X.blk s H scope (compEnvC scope cl C X.env) fp) CE W0 ifs tt)
    (he : ∀ (s : Shared) (H : Hp) (C : Addr) (cl : List (PySem.Str × Addr)) (fp : List Addr), PD (X.blk s H scope (compEnvC scope cl C X.env) fp) CE W0 elt te) (hs : ∀ x, foldedSetIterable iter X.env x = pure x := by intro _; rfl) :
    PD X CE W (.ListComp elt [⟨tg, iter, ifs, 0⟩] scope pos) (lcE mi (own.map (·.2)) t tt te) :=
  (pe_lc (own := own) (g := gD CE X.K (List.map (fun q : PySem.Str × Nat => q.2) own) t) (tt := tDT CE X.K W0 tt) (te := tD CE X.K W0 te) hc hN hi ok hg ht he hs).wk fun σ H Q ⟨g, c, δ, ok, er, h⟩ => lc_use ok er h
theorem sd_setLc {i : Nat} {y : PySem.Str} {py spos : Pos} (hc : X.calm = true) (hN : X.N.Nodup) (hy : X.N[i]? = some y) (hyl : X.env.scope.names.lookup y = some .local)
    (hsw : swapsWith (.ListComp elt [⟨tg, iter, ifs, 0⟩] scope pos) (some (.Name y py)) spos.line X.env = pure true) (hi : PID X CE W tg iter mi) (ok : BlkOk X.N X.env.scope scope own)
    (hg : ∀ (s : Shared) (H : Hp) (C : Addr) (cl : List (PySem.Str × Addr)) (fp : List Addr), PGD (X.blk s H scope (compEnvC scope cl C X.env) fp) CE (own.map (·.2)) tg t) (ht : ∀ (s : Shared) (H : Hp) (C : Addr) (cl : List (PySem.Str × Addr)) (fp : List Addr), PDTs (X.blk s H scope (compEnvC scope cl C X.env) fp) CE W0 ifs tt)
    (he : ∀ (s : Shared) (H : Hp) (C : Addr) (cl : List (PySem.Str × Addr)) (fp : List Addr), PD (X.blk s H scope (compEnvC scope cl C X.env) fp) CE W0 elt te) (hs : ∀ x, foldedSetIterable iter X.env x = pure x := by intro _; rfl) :
    SD X CE W (.Assign [.Name y py] (.ListComp elt [⟨tg, iter, ifs, 0⟩] scope pos) spos) (setS i (lcE mi (own.map (·.2)) t tt te)) :=
  (ps_setLc (own := own) (g := gD CE X.K (List.map (fun q : PySem.Str × Nat => q.2) own) t) (tt := tDT CE X.K W0 tt) (te := tD CE X.K W0 te) hc hN hy hyl hsw hi ok hg ht he hs).wk fun D σ H ⟨g, c, δ, ok, er, h⟩ => by
    have k : tLc (tI CE X.K W mi) (gD CE X.K (own.map (·.2)) t) (tDT CE X.K W0 tt) (tD CE X.K W0 te) (own.map (·.2)) σ H (fun x H1 => gName i x σ H1 D.nx) := by
      refine lc_use (W := W) ok er ?_
      unfold setS at h
      cases e : lcE mi (own.map (·.2)) t tt te δ c with
      | ok d c1 => rw [e] at h; exact fun g' H' v p r => h g' H' _ (XS.set (XS.of ok er p) r)
      | exc C xs c1 => rw [e] at h; exact fun g' H' dx p x => h g' H' σ dx (XS.of ok er p) x
      | bad => rw [e] at h; exact h
    exact k
end
end DL

namespace DL
open PySem PySem.Spec PyProof.Rows L2

section
variable {CE : CEnv} {K : PySem.W.Frag} {g g' : Gh} {H H' : Hp} {c c' : Cells} {p : Addr} {o : HO}
abbrev Gh.frz (g : Gh) (p : Addr) : Gh := ⟨fun a => g.F a ∨ a = p, g.am⟩
theorem RK.cold : RK g H (g.frz p) H := ⟨fun _ h => .inl h, fun _ _ h => h, fun _ _ => rfl, fun _ _ h => h, fun _ _ _ h => h⟩
theorem SOk.frz (s : SOk CE K g H c) (e : H p ≠ none) (nA : p ∉ g.am) : SOk CE K (g.frz p) H c :=
  ⟨s.len, s.nd, fun a ⟨k, y, l1, l2, l3⟩ h => h.elim (s.nF a ⟨k, y, l1, l2, l3⟩) fun e => nA (e ▸ List.mem_of_getElem? l1), fun k a y l1 l2 => by
    have z := s.cl k a y l1 l2
    cases y with
    | lst ds => obtain ⟨us, e, z, r⟩ := z; exact ⟨us, e, z, Reps.rk RK.cold r⟩
    | ins C ds => obtain ⟨dx, us, e, z, r⟩ := z; exact ⟨dx, us, e, z, Reps.rk RK.cold r⟩
    | dead => trivial, fun a h => h.elim (s.tr a) fun e' => by rw [e']; exact e, s.tA⟩
/-- a new object is frozen -/
theorem Post.frz (q : Post CE K g H c g' H' c') (hp : H p = none) (e : H' p = some o) (nA : p ∉ g'.am) : Post CE K g H c (g'.frz p) H' c' :=
  ⟨⟨fun a h => .inl (q.ext.fr a h), q.ext.am, q.ext.keep, fun a h => h.elim (q.ext.newF a) fun e => .inr (.inl (e ▸ hp)), q.ext.newA, q.ext.thr, fun a ⟨k, y, l⟩ => q.ext.dd a ⟨k, y, l⟩⟩, q.ok.frz (by rw [e]; simp) nA⟩
abbrev Gh.put (g : Gh) (p : Addr) : Gh := ⟨g.F, g.am ++ [p]⟩
theorem RK.put : RK g H (g.put p) H := ⟨fun _ h => h, fun k a h => by
  rw [List.getElem?_append_left (List.getElem?_eq_some_iff.mp h).1]; exact h, fun _ _ => rfl, fun _ _ h => h, fun _ _ _ h => h⟩
theorem live_put (s : SOk CE K g H c) {x : Cell} {a : Addr} (l : Live (g.put p) (c ++ [x]) a) : Live g c a ∨ a = p := by
  obtain ⟨k, y, h1, h2, h3⟩ := l
  by_cases hk : k < g.am.length
  · simp only [List.getElem?_append_left hk] at h1
    rw [List.getElem?_append_left (by rw [← s.len]; exact hk)] at h2
    exact .inl ⟨k, y, h1, h2, h3⟩
  · simp only [List.getElem?_append_right (show g.am.length ≤ k by omega)] at h1
    obtain ⟨hh, e⟩ := List.getElem?_eq_some_iff.mp h1
    simp only [List.length_singleton, Nat.lt_one_iff] at hh
    simp only [hh, List.getElem_cons_zero] at e
    exact .inr e.symm
theorem SOk.put (s : SOk CE K g H c) {x : Cell} (e : H p ≠ none) (nF : ¬ g.F p) (nA : p ∉ g.am) (q : CellAt CE K g H p x) : SOk CE K (g.put p) H (c ++ [x]) where
  len := by simp [s.len]
  nd := List.nodup_append.mpr ⟨s.nd, by simp, fun a ha b hb e => by
    simp at hb
    exact nA (hb ▸ e ▸ ha)⟩
  nF := fun a l h => by
    rcases live_put s l with l | e
    · exact s.nF a l h
    · exact nF (e ▸ h)
  cl := fun k a y h1 h2 => by
    have up : ∀ y, CellAt CE K g H a y → CellAt CE K (g.put p) H a y := fun y z => by
      cases y with
      | lst ds => obtain ⟨us, e, z, r⟩ := z; exact ⟨us, e, z, Reps.rk RK.put r⟩
      | ins C ds => obtain ⟨dx, us, e, z, r⟩ := z; exact ⟨dx, us, e, z, Reps.rk RK.put r⟩
      | dead => trivial
    by_cases hk : k < g.am.length
    · simp only [List.getElem?_append_left hk] at h1
      rw [List.getElem?_append_left (by rw [← s.len]; exact hk)] at h2
      exact up y (s.cl k a y h1 h2)
    · simp only [List.getElem?_append_right (show g.am.length ≤ k by omega)] at h1
      rw [List.getElem?_append_right (by have := s.len; omega), ← s.len] at h2
      obtain ⟨hh, e⟩ := List.getElem?_eq_some_iff.mp h1
      simp only [List.length_singleton, Nat.lt_one_iff] at hh
      simp only [hh, List.getElem_cons_zero] at e
      simp only [hh] at h2
      cases h2
      subst e
      exact up _ q
  tr := s.tr
  tA := fun a h => by
    rcases List.mem_append.mp h with h | h
    · exact s.tA a h
    · simp at h; rw [h]; exact e
/-- a new object becomes a cell -/
theorem Post.put (q : Post CE K g H c g' H' c') {x : Cell} (hp : H p = none) (e : H' p = some o) (nF : ¬ g'.F p) (nA : p ∉ g'.am) (ca : CellAt CE K g' H' p x) : Post CE K g H c (g'.put p) H' (c' ++ [x]) :=
  ⟨⟨q.ext.fr, by
    obtain ⟨t, e⟩ := q.ext.am
    exact ⟨t ++ [p], by simp [e]⟩, q.ext.keep, q.ext.newF, fun a h => (List.mem_append.mp h).elim (q.ext.newA a) fun h => .inr (by simp at h; rw [h]; exact hp), q.ext.thr, fun a l => (live_put q.ok l).elim (q.ext.dd a) fun e => .inr (e ▸ hp)⟩,
   q.ok.put (by rw [e]; simp) nF nA ca⟩
end

section
variable (CE : CEnv) (K : PySem.W.Frag) (W : WX)
def tO (m : Ev' → M (List D)) : TE := fun σ H Q => ∃ g c δ, SOk CE K g H c ∧ EnvR CE K g H σ δ ∧
  wpo (m δ c) (fun ds c' => ∀ g' H' p vs, Post CE K g H c g' H' c' → H p = none → H' p = some (.lst vs) → ¬ g'.F p → p ∉ g'.am → ds.length ≤ sizeLine → Reps CE K g' H' ds vs → Q (.ref p) H') (EK CE K W g H c σ)
end
def POD (X : Cx) (CE : CEnv) (W : WX) (e : Expr) (m : Ev' → M (List D)) : Prop := PE X e (tO CE X.K W m)
def frE (m : Ev' → M (List D)) : EM := fun δ => bnd (m δ) fun ds => DL.ret (.lst ds)
def ceE (m : Ev' → M (List D)) : EM := fun δ => bnd (m δ) fun ds => fun c => .ok (.cell c.length) (c ++ [Cell.lst ds])
def szA (m : Ev' → M (List D)) : Ev' → M (List D) := fun δ => bnd (m δ) fun ds => fun c => if ds.length ≤ sizeLine then .ok ds c else .bad
def copyE (m : EM) : Ev' → M (List D) := fun δ => bnd (m δ) fun d => fun c => opt (seqOf d c) c
/-- x = e, the new list nobody else's -/
def ownS (i : Nat) (m : Ev' → M (List D)) : SM := fun δ c => (m δ c).thenS δ fun ds c => .nx (δ.set i (.own (.lst ds))) c
section
variable {X : Cx} {CE : CEnv} {W : WX} {pos : Pos} {e : Expr} {es : List Expr} {ms : Ev' → M (List D)} {me : EM}
theorem pd_fr (h : POD X CE W e ms) : PD X CE W e (frE ms) := PE.wk h fun σ H Q ⟨g, c, δ, ok, er, h⟩ => by
  replace h := wpo_bnd.mp h
  refine ⟨g, c, δ, ok, er, wpo_mono h (fun ds c1 q g1 H1 p vs p1 hp e1 nF nA hz r => ?_) fun _ _ _ z => z⟩
  have q : ∀ g' H' v, Post CE X.K g H c g' H' c1 → Rep CE X.K g' H' (.lst ds) v → Q v H' := q
  refine q _ _ _ (p1.frz hp e1 nA) ?_
  simp only [Rep]
  exact ⟨p, vs, rfl, .inr rfl, e1, hz, Reps.rk RK.cold r⟩
theorem pd_ce (h : POD X CE W e ms) : PD X CE W e (ceE ms) := PE.wk h fun σ H Q ⟨g, c, δ, ok, er, h⟩ => by
  replace h := wpo_bnd.mp h
  refine ⟨g, c, δ, ok, er, wpo_mono h (fun ds c1 q g1 H1 p vs p1 hp e1 nF nA hz r => ?_) fun _ _ _ z => z⟩
  have q : ∀ g' H' v, Post CE X.K g H c g' H' (c1 ++ [Cell.lst ds]) → Rep CE X.K g' H' (.cell c1.length) v → Q v H' := q
  refine q _ _ _ (p1.put (x := Cell.lst ds) hp e1 nF nA ⟨vs, e1, hz, r⟩) ?_
  simp only [Rep]
  exact ⟨p, rfl, by rw [← p1.ok.len]; simp⟩
theorem po_lst (h : PDA X CE W es ms) : POD X CE W (.List es pos) (szA ms) :=
  (pe_lst h).wk fun σ H Q ⟨g, c, δ, ok, er, h⟩ => by
    replace h := wpo_bnd.mp h
    refine useA ok er h (fun ds c1 h g1 H1 vs p1 r1 => ?_) fun _ _ _ z => z
    split at h
    · rename_i hz
      refine ⟨by rw [Reps.length r1]; exact hz, fun p hp => ?_⟩
      have P := Post.hid p1.ok hp (.lst vs)
      exact h _ _ p vs (p1.trans P) (Classical.byContradiction fun n => p1.ext.thr p n hp) upd_same (fun z => p1.ok.tr p z hp) (mem_am_ne p1.ok hp) hz (Reps.mono p1.ok P.ext r1)
    · exact h.elim
theorem po_list {p : Pos} (hg : Gl X "list") (hm : X.mg "list" = none) (ha : PD X CE W e me) (he : starEach [e] X.env = (false, eval e X.env) :: starEach [] X.env := by rfl) (hpl : (backTo pos (starEach [] X.env)).any (·.1) = false := by rfl) :
    POD X CE W (.Call (.Name "list" p) [e] [] pos) (copyE me) :=
  (pe_callTy call_list_of hg hm (by decide +kernel) (pa_cons ha pa_nil he) (he := he) (hpl := hpl)).wk fun σ H Q ⟨g, c, δ, ok, er, h⟩ => by
    replace h := wpo_bnd.mp h
    refine use ok er h (fun d c1 h g1 H1 v p1 r1 => ?_) fun _ _ _ z => z
    obtain ⟨ys, ey, h⟩ := opt_ok h
    obtain ⟨a, vs, rfl, hs, z, rr⟩ := seqOf_at p1.ok r1 ey
    refine ⟨a, vs, rfl, hs, fun p hp => ?_⟩
    have P := Post.hid p1.ok hp (.lst vs)
    exact h _ _ p vs (p1.trans P) (Classical.byContradiction fun n => p1.ext.thr p n hp) upd_same (fun z => p1.ok.tr p z hp) (mem_am_ne p1.ok hp) z (Reps.mono p1.ok P.ext rr)
/-- a slot gets a new object of one's own -/
theorem XS.setOwn {K : PySem.W.Frag} {g g' : Gh} {H H' : Hp} {c c' : Cells} {σ : L2.St} {δ : Ev'} {i : Nat} {p : Addr} {o : Cell} (ok : SOk CE K g H c) (er : EnvR CE K g H σ δ) (q : Post CE K g H c g' H' c') (hp : H p = none) (nF : ¬ g'.F p) (nA : p ∉ g'.am) (nd : o ≠ .dead) (ca : CellAt CE K g' H' p o) :
    XS CE K g H c σ δ g' H' c' (σ.set i (some (.ref p))) (δ.set i (.own o)) := by
  have x := XS.of ok er q
  have hi : ∀ {t}, (δ.set i (.own o))[i]? = some t → t = .own o ∧ i < δ.length := fun {t} h => by
    have hl : i < δ.length := by simpa using (List.getElem?_eq_some_iff.mp h).1
    rw [List.getElem?_set_self hl] at h
    exact ⟨(Option.some.inj h).symm, hl⟩
  refine ⟨x.x, x.ok, ⟨by simpa using er.len, fun j d h => ?_, fun j t o' h ho => ?_, fun j a C xs h => ?_⟩, fun a ⟨j, t, o', h1, h2, h3⟩ => ?_⟩
  · by_cases hj : j = i
    · subst hj; cases (hi h).1
    · rw [List.getElem?_set_ne (Ne.symm hj)] at h ⊢
      exact x.er.sh j d h
  · by_cases hj : j = i
    · subst hj
      obtain ⟨rfl, hl⟩ := hi h
      cases ho
      refine ⟨p, List.getElem?_set_self (by rw [er.len]; exact hl), nF, nA, nd, ca, fun k t' o' e1 e2 e3 => ?_⟩
      refine Classical.byContradiction fun hk => ?_
      rw [List.getElem?_set_ne (Ne.symm hk)] at e1 e3
      obtain ⟨a, e4, _, _, _, n4, _⟩ := er.own k t' o' e1 e2
      rw [e4] at e3; cases e3
      exact (er.ownF ⟨k, t', o', e1, e2, e4⟩).2.2 hp
    · rw [List.getElem?_set_ne (Ne.symm hj)] at h ⊢
      obtain ⟨a, e1, n1, n2, n3, n4, n5⟩ := x.er.own j t o' h ho
      refine ⟨a, e1, n1, n2, n3, n4, fun k t' o' h1 h1' h2 => ?_⟩
      by_cases hk : k = i
      · subst hk
        obtain ⟨rfl, hl⟩ := hi h1
        rw [List.getElem?_set_self (by rw [er.len]; exact hl)] at h2
        cases h2
        obtain ⟨a', e4, _⟩ := er.own j t _ h ho
        rw [e1] at e4; cases e4
        exact absurd hp (er.ownF ⟨j, t, _, h, ho, e1⟩).2.2
      · rw [List.getElem?_set_ne (Ne.symm hk)] at h1 h2
        exact n5 k t' o' h1 h1' h2
  · by_cases hj : j = i
    · subst hj; cases (hi h).1
    · rw [List.getElem?_set_ne (Ne.symm hj)] at h ⊢
      exact er.slf j a C xs h
  · by_cases hj : j = i
    · subst hj
      obtain ⟨rfl, hl⟩ := hi h1
      rw [List.getElem?_set_self (by rw [er.len]; exact hl)] at h3
      cases h3
      exact .inr hp
    · rw [List.getElem?_set_ne (Ne.symm hj)] at h1 h3
      exact .inl ⟨j, t, o', h1, h2, h3⟩
theorem sd_own (i : Nat) {x : PySem.Str} {pos' : Pos} (hN : X.N.Nodup) (hi : X.N[i]? = some x) (hx : Loc X.env.scope x) (he : POD X CE W e ms) (hs : swapsWith e (some (.Name x pos')) pos.line X.env = pure false := by rfl)
    (hf : X.fn x = true ∨ X.env.scope.names.lookup x = some .local := by first | exact .inl rfl | exact .inr rfl | assumption) : SD X CE W (.Assign [.Name x pos'] e pos) (ownS i ms) :=
  (ps_set hN hi hx he hs hf).wk fun D σ H ⟨g, c, δ, ok, er, h⟩ => by
    refine ⟨g, c, δ, ok, er, ?_⟩
    unfold ownS at h
    cases e : ms δ c with
    | ok ds c' => rw [e] at h; exact fun g' H' p vs q hp e1 nF nA hz r => h g' H' _ (XS.setOwn ok er q hp nF nA (by simp) ⟨vs, e1, hz, r⟩)
    | exc C xs c' => rw [e] at h; exact fun g' H' dx p x => h g' H' σ dx (XS.of ok er p) x
    | bad => rw [e] at h; exact h
end
end DL

namespace DL
open PySem PySem.Spec PyProof.Rows L2

section
variable {CE : CEnv} {K : PySem.W.Frag} {g g' : Gh} {H H' : Hp} {c c' : Cells} {σ : L2.St} {δ : Ev'} {i : Nat} {a : Addr} {t t' : Slot} {o o' : Cell} {ho : HO}
/-- an own object is changed in its place -/
theorem XS.chg (ok : SOk CE K g H c) (er : EnvR CE K g H σ δ) (h1 : δ[i]? = some t) (h2 : t.hid = some o) (h3 : σ[i]? = some (some (.ref a))) (rk : RK g H g (upd H a ho)) (h4 : t'.hid = some o') (nd : o' ≠ .dead)
    (hs : ∀ b C xs, t' = .slf b C xs → b = a) (ca : CellAt CE K g (upd H a ho) a o') : XS CE K g H c σ δ g (upd H a ho) c σ (δ.set i t') := by
  have ow : Own σ δ a := ⟨i, t, o, h1, h2, h3⟩
  obtain ⟨nF, nA, th⟩ := er.ownF ow
  have hl : i < δ.length := (List.getElem?_eq_some_iff.mp h1).1
  have hi : ∀ {s}, (δ.set i t')[i]? = some s → s = t' := fun {s} h => by
    rw [List.getElem?_set_self hl] at h
    exact (Option.some.inj h).symm
  have x : ExtO (Own σ δ) g H c g (upd H a ho) c := ⟨fun _ h => h, ⟨[], (List.append_nil _).symm⟩, fun b o'' e n no => by rw [upd_ne (fun z => no (by rw [z]; exact ow))]; exact e, rk.tup, rk.frz, fun _ h => .inl h, fun _ h => .inl h, fun b e => upd_thr e, fun _ h => .inl h⟩
  refine ⟨x, ok.hid rk nA, ⟨by simpa using er.len, fun j d h => ?_, fun j s oo h hh => ?_, fun j b C xs h => ?_⟩, fun b ⟨j, s, oo, e1, e2, e3⟩ => ?_⟩
  · by_cases hj : j = i
    · subst hj
      have := hi h
      subst this
      cases h4
    · rw [List.getElem?_set_ne (Ne.symm hj)] at h
      obtain ⟨v, e, r⟩ := er.sh j d h
      exact ⟨v, e, Rep.rk rk r⟩
  · by_cases hj : j = i
    · subst hj
      have := hi h
      subst this
      rw [h4] at hh; cases hh
      refine ⟨a, h3, nF, nA, nd, ca, fun k s' o'' e1 e2 e3 => ?_⟩
      refine Classical.byContradiction fun hk => ?_
      rw [List.getElem?_set_ne (Ne.symm hk)] at e1
      obtain ⟨a', f1, _, _, _, _, f2⟩ := er.own j t o h1 h2
      rw [h3] at f1; cases f1
      exact hk (f2 k s' o'' e1 e2 e3)
    · rw [List.getElem?_set_ne (Ne.symm hj)] at h
      obtain ⟨b, e1, n1, n2, n3, n4, n5⟩ := er.own j s oo h hh
      have nb : b ≠ a := fun z => by
        subst z
        exact hj (n5 i t o h1 h2 h3).symm
      refine ⟨b, e1, n1, n2, n3, ?_, fun k s' o'' e2 e3 e4 => ?_⟩
      · cases oo with
        | lst ds => obtain ⟨us, e, z, r⟩ := n4; exact ⟨us, (upd_ne nb).trans e, z, Reps.rk rk r⟩
        | ins C ds => obtain ⟨dx, us, e, z, r⟩ := n4; exact ⟨dx, us, (upd_ne nb).trans e, z, Reps.rk rk r⟩
        | dead => trivial
      · by_cases hk : k = i
        · subst hk
          have := hi e2
          subst this
          rw [h3] at e4; cases e4
          exact absurd rfl nb
        · rw [List.getElem?_set_ne (Ne.symm hk)] at e2
          exact n5 k s' o'' e2 e3 e4
  · by_cases hj : j = i
    · subst hj
      have := hi h
      subst this
      rw [hs b C xs rfl]
      exact h3
    · rw [List.getElem?_set_ne (Ne.symm hj)] at h
      exact er.slf j b C xs h
  · by_cases hj : j = i
    · subst hj
      rw [h3] at e3; cases e3
      exact .inl ow
    · rw [List.getElem?_set_ne (Ne.symm hj)] at e1
      exact .inl ⟨j, s, oo, e1, e2, e3⟩
/-- an own list is frozen: the name's slot holds data from here on -/
theorem XS.cold {xs : List D} (ok : SOk CE K g H c) (er : EnvR CE K g H σ δ) (h1 : ownL i δ = some xs) : ∃ p, XS CE K g H c σ δ (g.frz p) H c σ (δ.set i (.sh (.lst xs))) := by
  obtain ⟨h1, a, vs, h3, e, z, r⟩ := ownL_at er h1
  have ow : Own σ δ a := ⟨i, _, _, h1, rfl, h3⟩
  obtain ⟨nF, nA, th⟩ := er.ownF ow
  have hl : i < δ.length := (List.getElem?_eq_some_iff.mp h1).1
  have x : ExtO (Own σ δ) g H c (g.frz a) H c := ⟨fun _ h => .inl h, ⟨[], (List.append_nil _).symm⟩, fun b o'' e n no => e, fun _ _ h => h, fun _ _ _ h => h, fun b h => h.elim .inl fun e => .inr (.inr (.inr (e ▸ ow))), fun _ h => .inl h, fun b e => e, fun _ ⟨k, y, l⟩ => .inl ⟨k, y, l⟩⟩
  refine ⟨a, x, ok.frz th nA, ⟨by simpa using er.len, fun j d h => ?_, fun j s oo h hh => ?_, fun j b C xs h => ?_⟩, fun b ⟨j, s, oo, e1, e2, e3⟩ => ?_⟩
  · by_cases hj : j = i
    · subst hj
      rw [List.getElem?_set_self hl] at h
      cases h
      refine ⟨.ref a, h3, ?_⟩
      simp only [Rep]
      exact ⟨a, vs, rfl, .inr rfl, e, z, Reps.rk RK.cold r⟩
    · rw [List.getElem?_set_ne (Ne.symm hj)] at h
      obtain ⟨v, e, r⟩ := er.sh j d h
      exact ⟨v, e, Rep.rk RK.cold r⟩
  · by_cases hj : j = i
    · subst hj
      rw [List.getElem?_set_self hl] at h
      cases h
      cases hh
    · rw [List.getElem?_set_ne (Ne.symm hj)] at h
      obtain ⟨b, e1, n1, n2, n3, n4, n5⟩ := er.own j s oo h hh
      have nb : b ≠ a := fun z => by
        subst z
        exact hj (n5 i _ _ h1 rfl h3).symm
      refine ⟨b, e1, fun z => z.elim n1 nb, n2, n3, ?_, fun k s' o'' e2 e3 e4 => ?_⟩
      · cases oo with
        | lst ds => obtain ⟨us, e, z, r⟩ := n4; exact ⟨us, e, z, Reps.rk RK.cold r⟩
        | ins C ds => obtain ⟨dx, us, e, z, r⟩ := n4; exact ⟨dx, us, e, z, Reps.rk RK.cold r⟩
        | dead => trivial
      · by_cases hk : k = i
        · subst hk
          rw [List.getElem?_set_self hl] at e2
          cases e2
          cases e3
        · rw [List.getElem?_set_ne (Ne.symm hk)] at e2
          exact n5 k s' o'' e2 e3 e4
  · by_cases hj : j = i
    · subst hj
      rw [List.getElem?_set_self hl] at h
      cases h
    · rw [List.getElem?_set_ne (Ne.symm hj)] at h
      exact er.slf j b C xs h
  · by_cases hj : j = i
    · subst hj
      rw [List.getElem?_set_self hl] at e1
      cases e1
      cases e2
    · rw [List.getElem?_set_ne (Ne.symm hj)] at e1
      exact .inl ⟨j, s, oo, e1, e2, e3⟩
end
/-- the ghost step: name i's list is frozen -/
def coldS (i : Nat) (b : SM) : SM := fun δ c => match ownL i δ with
  | some xs => b (δ.set i (.sh (.lst xs))) c
  | none => b δ c
/-- x.append(e), x one's own -/
def appO (i : Nat) (m : EM) : SM := fun δ c => match ownL i δ with
  | some xs => (m δ c).thenS δ fun d c => if xs.length < sizeLine then .nx (δ.set i (.own (.lst (xs ++ [d])))) c else .bad
  | none => .bad
/-- x[j] = e, x one's own: e first -/
def setIxO (i : Nat) (mj me : EM) : SM := fun δ c => match ownL i δ with
  | some xs => (me δ c).thenS δ fun d c => (mj δ c).thenS δ fun j c => match j with
    | .int j => match ixN xs.length j with
      | some n => .nx (δ.set i (.own (.lst (xs.set n d)))) c
      | none => .bad
    | _ => .bad
  | none => .bad
/-- x.append(e), x a cell -/
def appC (mo m : EM) : SM := fun δ c => (mo δ c).thenS δ fun o c => match o with
  | .cell k => match c[k]? with
    | some (Cell.lst _) => (m δ c).thenS δ fun d c => match c[k]? with
      | some (Cell.lst xs) => if xs.length < sizeLine then .nx δ (c.set k (Cell.lst (xs ++ [d]))) else .bad
      | _ => .bad
    | _ => .bad
  | _ => .bad
section
variable {X : Cx} {CE : CEnv} {W : WX} {pos apos cpos spos : Pos} {e o : Expr} {sts : List Stmt} {b : SM} {m mo : EM}
theorem sd_cold (i : Nat) (h : SDs X CE W sts b) : SDs X CE W sts (coldS i b) := PSs.wk h fun D σ H ⟨g, c, δ, ok, er, h⟩ => by
  unfold coldS at h
  cases e : ownL i δ with
  | none => rw [e] at h; exact ⟨g, c, δ, ok, er, h⟩
  | some xs =>
    rw [e] at h
    obtain ⟨p, x⟩ := XS.cold ok er e
    exact ⟨_, c, _, x.ok, x.er, ks.back x h⟩
theorem sd_appO (i : Nat) (ho : PE X o (tVar i)) (he : PD X CE W e m) (hb : PE X (.Call (.Attribute o "append" apos) [e] [] cpos) (tBM X.K "list" rAppend (tVar i) (tCons (tD CE X.K W m) tNil)))
    (hs : swapsWith (.Call (.Attribute o "append" apos) [e] [] cpos) none spos.line X.env = pure false := by rfl) : SD X CE W (.Expr (.Call (.Attribute o "append" apos) [e] [] cpos) spos) (appO i m) :=
  (ps_expr hb hs).wk fun D σ H ⟨g, c, δ, ok, er, h⟩ => by
    unfold appO at h
    cases e : ownL i δ with
    | none => rw [e] at h; exact h.elim
    | some xs =>
      rw [e] at h
      dsimp only at h
      obtain ⟨h1, a, vs, h3, e1, z, r⟩ := ownL_at er e
      refine ⟨.ref a, h3, .inl ⟨rfl, _, .of e1⟩, ?_⟩
      refine useS ok er h fun d c1 h g1 H1 v p1 r1 => ?_
      have x1 := XS.of ok er p1
      replace h := ks.back x1 h
      split at h
      · rename_i hz
        obtain ⟨h1', a', vs', h3', e1', z', r'⟩ := ownL_at x1.er e
        rw [h3] at h3'; cases h3'
        refine ⟨a, vs', v, rfl, rfl, e1', by rw [Reps.length r']; exact hz, ?_⟩
        obtain ⟨nF, nA, _⟩ := x1.er.ownF ⟨i, _, _, h1, rfl, h3⟩
        have rk := RK.hid (ys := vs' ++ [v]) e1' nF
        refine h g1 _ σ (XS.chg p1.ok x1.er h1 rfl h3 rk (t' := .own (.lst (xs ++ [d]))) rfl (by simp) (fun _ _ _ z => by cases z) ⟨_, upd_same, by rw [List.length_append]; simp; omega, Reps.rk rk (Reps.append r' (Reps.one r1))⟩)
      · exact h.elim
theorem sd_appC (ho : PD X CE W o mo) (he : PD X CE W e m) (hb : PE X (.Call (.Attribute o "append" apos) [e] [] cpos) (tBM X.K "list" rAppend (tD CE X.K W mo) (tCons (tD CE X.K W m) tNil)))
    (hs : swapsWith (.Call (.Attribute o "append" apos) [e] [] cpos) none spos.line X.env = pure false := by rfl) : SD X CE W (.Expr (.Call (.Attribute o "append" apos) [e] [] cpos) spos) (appC mo m) :=
  (ps_expr hb hs).wk fun D σ H ⟨g, c, δ, ok, er, h⟩ => useS ok er h fun d c1 h g1 H1 v p1 r1 => by
    have x1 := XS.of ok er p1
    replace h := ks.back x1 h
    cases d <;> try exact h.elim
    rename_i k
    dsimp only at h
    split at h
    · rename_i ys ek
      have r1' := r1
      simp only [Rep] at r1
      obtain ⟨a, rfl, ha⟩ := r1
      obtain ⟨vs0, e0, _⟩ := p1.ok.cl k a _ ha ek
      refine ⟨.inl ⟨rfl, _, .of e0⟩, ?_⟩
      refine useS p1.ok x1.er h fun d2 c2 h g2 H2 v2 p2 r2 => ?_
      have x2 := XS.of p1.ok x1.er p2
      replace h := ks.back x2 h
      split at h
      · rename_i xs e2
        split at h
        · rename_i hz
          have ha2 := am_get p2.ext ha
          obtain ⟨vs, e3, z, r⟩ := p2.ok.cl k a _ ha2 e2
          refine ⟨a, vs, v2, rfl, rfl, e3, by rw [Reps.length r]; exact hz, ?_⟩
          refine h g2 _ σ (XS.of p2.ok x2.er (Post.setCell p2.ok ha2 e2 (by simp) (by simp) fun H' x hx => ⟨_, hx, by rw [List.length_append]; simp; omega, Reps.mono p2.ok x (Reps.append r (Reps.one r2))⟩))
        · exact h.elim
      · exact h.elim
    · exact h.elim
theorem sd_setIxO {tpos : Pos} {j : Expr} {mj : EM} (i : Nat) (ho : PE X o (tVar i)) (hj : PD X CE W j mj) (he : PD X CE W e m) (hs : swapsWithSole [.Subscript o j tpos] e pos.line X.env = pure false := by rfl) (hw : swappedStores [.Subscript o j tpos] e X.env = pure none := by rfl)
    (hga : ∀ v, assign (.Subscript o j tpos) X.env v = (do
      let ov ← holding [v] (eval o X.env)
      let iv ← holding [v, ov] (eval j X.env)
      standAt tpos
      holding [v, ov, iv] (PySem.setItem ov iv v)
      release [v, ov, iv] []) := by intro _; rfl) : SD X CE W (.Assign [.Subscript o j tpos] e pos) (setIxO i mj m) :=
  (ps_asg he (pg_sub ho hj set_list hga) hs hw).wk fun D σ H ⟨g, c, δ, ok, er, h⟩ => by
    unfold setIxO at h
    cases e : ownL i δ with
    | none => rw [e] at h; exact h.elim
    | some xs =>
      rw [e] at h
      dsimp only at h
      obtain ⟨h1, a, vs, h3, e1, z, r⟩ := ownL_at er e
      refine useS ok er h fun d c1 h g1 H1 v p1 r1 => ?_
      have x1 := XS.of ok er p1
      replace h := ks.back x1 h
      refine ⟨.ref a, h3, ?_⟩
      refine useS p1.ok x1.er h fun d2 c2 h g2 H2 v2 p2 r2 => ?_
      have x2 := XS.of p1.ok x1.er p2
      replace h := ks.back x2 h
      split at h
      · rename_i k
        split at h
        · rename_i n en
          simp only [Rep] at r2
          subst r2
          obtain ⟨_, a', vs', h3', e1', z', r'⟩ := ownL_at x2.er e
          rw [h3] at h3'; cases h3'
          refine ⟨a, vs', k, n, rfl, rfl, e1', by rw [Reps.length r']; exact en, ?_⟩
          obtain ⟨nF, nA, _⟩ := x2.er.ownF ⟨i, _, _, h1, rfl, h3⟩
          have rk := RK.hid (ys := vs'.set n v) e1' nF
          exact h g2 _ σ (XS.chg p2.ok x2.er h1 rfl h3 rk (t' := .own (.lst (xs.set n d))) rfl (by simp) (fun _ _ _ z => by cases z) ⟨_, upd_same, by simpa using z', Reps.rk rk (Reps.set n r' (Rep.mono p1.ok p2.ext r1))⟩)
        · exact h.elim
      · exact h.elim
end
end DL

namespace DL
open PySem PySem.Spec PyProof.Rows L2

/-- attribute f of the class C stands at place j -/
structure AtF (K : PySem.W.Frag) (CE : CEnv) (C j : Nat) (f : PySem.Str) : Prop where
  cl : Cls K (CE C).1
  na : NoAttr K (CE C).1 f
  ix : (CE C).2[j]? = some f
  nd : (CE C).2.Nodup
  sz : (CE C).2.length < 900
theorem zip_lookup {f : PySem.Str} : ∀ {ns : List PySem.Str} {vs : List V} {j : Nat}, ns.Nodup → ns[j]? = some f → (ns.zip vs).lookup f = vs[j]?
  | [], _, _, _, h => by simp at h
  | n :: ns, [], j, hn, h => by simp
  | n :: ns, v :: vs, 0, hn, h => by
    simp at h
    subst h
    simp
  | n :: ns, v :: vs, j + 1, hn, h => by
    simp at h
    have ne : f ≠ n := fun e => (List.nodup_cons.mp hn).1 (e ▸ List.mem_of_getElem? h)
    rw [List.zip_cons_cons, List.lookup_cons, show (f == n) = false from by simpa using ne]
    simpa using zip_lookup (List.nodup_cons.mp hn).2 h
theorem zip_none {f : PySem.Str} : ∀ {ns : List PySem.Str} {vs : List V}, f ∉ ns → (ns.zip vs).lookup f = none
  | [], _, _ => by simp
  | n :: ns, [], _ => by simp
  | n :: ns, v :: vs, h => by
    have ne : f ≠ n := fun e => h (e ▸ List.mem_cons_self)
    rw [List.zip_cons_cons, List.lookup_cons, show (f == n) = false from by simpa using ne]
    exact zip_none fun z => h (List.mem_cons_of_mem _ z)
theorem putF_set {f : PySem.Str} {x : V} : ∀ {ns : List PySem.Str} {vs : List V} {j : Nat}, ns.Nodup → ns[j]? = some f → j < vs.length → putF f x (ns.zip vs) = ns.zip (vs.set j x)
  | [], _, _, _, h, _ => by simp at h
  | n :: ns, [], j, hn, h, l => by simp at l
  | n :: ns, v :: vs, 0, hn, h, _ => by
    simp at h
    subst h
    simp [putF]
  | n :: ns, v :: vs, j + 1, hn, h, l => by
    simp at h l
    have ne : ¬ n = f := fun e => (List.nodup_cons.mp hn).1 (e ▸ List.mem_of_getElem? h)
    rw [List.zip_cons_cons, putF, if_neg ne, putF_set (List.nodup_cons.mp hn).2 h l]
    simp
theorem putF_new {f : PySem.Str} {x : V} : ∀ {ns : List PySem.Str} {vs : List V}, ns.Nodup → ns[vs.length]? = some f → putF f x (ns.zip vs) = ns.zip (vs ++ [x])
  | [], _, _, h => by simp at h
  | n :: ns, [], hn, h => by
    simp at h
    subst h
    simp [putF]
  | n :: ns, v :: vs, hn, h => by
    simp at h
    have ne : ¬ n = f := fun e => (List.nodup_cons.mp hn).1 (e ▸ List.mem_of_getElem? h)
    rw [List.zip_cons_cons, putF, if_neg ne, putF_new (List.nodup_cons.mp hn).2 h]
    simp
/-- an attribute by the class's table -/
def fldP (tab : List (Nat × Nat)) (d : D) (c : Cells) : Option D := match insOf d c with
  | some (C, xs) => match tab.lookup C with
    | some j => xs[j]?
    | none => none
  | none => none
def AtFs (K : PySem.W.Frag) (CE : CEnv) (tab : List (Nat × Nat)) (f : PySem.Str) : Prop := ∀ C j, tab.lookup C = some j → AtF K CE C j f
theorem atFs_one {K : PySem.W.Frag} {CE : CEnv} {C j : Nat} {f : PySem.Str} (h : AtF K CE C j f) : AtFs K CE [(C, j)] f := fun C' j' e => by
  rw [List.lookup_cons] at e
  split at e
  · rename_i h'
    cases e
    have : C' = C := by simpa using h'
    rw [this]; exact h
  · simp at e
theorem atFs_cons {K : PySem.W.Frag} {CE : CEnv} {C j : Nat} {tab : List (Nat × Nat)} {f : PySem.Str} (h : AtF K CE C j f) (t : AtFs K CE tab f) : AtFs K CE ((C, j) :: tab) f := fun C' j' e => by
  rw [List.lookup_cons] at e
  split at e
  · rename_i h'
    cases e
    have : C' = C := by simpa using h'
    rw [this]; exact h
  · exact t C' j' e
section
variable {X : Cx} {CE : CEnv} {W : WX} {pos pos' apos : Pos} {e o : Expr} {es : List Expr} {f m : PySem.Str} {me mo : EM} {tab : List (Nat × Nat)} {ms : Ev' → M (List D)}
theorem ins_read {K : PySem.W.Frag} {g : Gh} {H : Hp} {c : Cells} {C j : Nat} {xs : List D} {d : D} {vs : List V} (A : AtF K CE C j f) (r : Reps CE K g H xs vs) (ej : xs[j]? = some d) : ∃ v, ((CE C).2.zip vs).lookup f = some v ∧ Rep CE K g H d v := by
  obtain ⟨v, e, rv⟩ := Reps.get r ej
  exact ⟨v, (zip_lookup A.nd A.ix).trans e, rv⟩
theorem pd_fld (T : AtFs X.K CE tab f) (he : PD X CE W e me) (hb : attributeBase e f X.env (eval e X.env) = eval e X.env := by rfl) : PD X CE W (.Attribute e f pos) (un1 (fldP tab) me) :=
  (pe_fld he hb).wk fun σ H Q ⟨g, c, δ, ok, er, h⟩ => by
    replace h := wpo_bnd.mp h
    refine use ok er h (fun d c1 h g1 H1 v p1 r1 => ?_) fun _ _ _ z => z
    obtain ⟨z, ez, h⟩ := opt_ok h
    unfold fldP at ez
    split at ez
    · rename_i C xs ei
      split at ez
      · rename_i j et
        have A := T C j et
        obtain ⟨a, dx, vs, rfl, e1, l, r⟩ := insOf_at p1.ok r1 ei
        obtain ⟨v, e2, rv⟩ := ins_read (c := c1) A r ez
        exact ⟨a, (CE C).1, dx, _, v, rfl, e1, A.cl, A.na, e2, h g1 H1 v p1 rv⟩
      · cases ez
    · cases ez
/-- the attributes that an __init__ has stored so far -/
def slfL (i : Nat) (δ : Ev') : Option (Addr × Nat × List D) := match δ[i]? with
  | some (Slot.slf a C xs) => some (a, C, xs)
  | _ => none
theorem slfL_at {K : PySem.W.Frag} {g : Gh} {H : Hp} {σ : L2.St} {δ : Ev'} {i : Nat} {a : Addr} {C : Nat} {xs : List D} (er : EnvR CE K g H σ δ) (e : slfL i δ = some (a, C, xs)) :
    δ[i]? = some (Slot.slf a C xs) ∧ σ[i]? = some (some (V.ref a)) ∧ ∃ dx vs, H a = some (.ins (CE C).1 dx ((CE C).2.zip vs)) ∧ xs.length ≤ (CE C).2.length ∧ Reps CE K g H xs vs := by
  unfold slfL at e
  split at e
  · rename_i b C' ys he
    cases e
    have e1 := er.slf i _ _ _ he
    obtain ⟨a', e2, _, _, _, ⟨dx, vs, h1, z, r⟩, _⟩ := er.own i _ _ he rfl
    rw [e1] at e2; cases e2
    exact ⟨he, e1, dx, vs, h1, z, r⟩
  · cases e
def fldO (i : Nat) (tab : List (Nat × Nat)) : EM := fun δ c => match slfL i δ with
  | some (_, C, xs) => match tab.lookup C with
    | some j => opt xs[j]? c
    | none => .bad
  | none => .bad
theorem pd_fldO (i : Nat) (T : AtFs X.K CE tab f) (he : PE X e (tVar i)) (hb : attributeBase e f X.env (eval e X.env) = eval e X.env := by rfl) : PD X CE W (.Attribute e f pos) (fldO i tab) :=
  (pe_fld he hb).wk fun σ H Q ⟨g, c, δ, ok, er, h⟩ => by
    unfold fldO at h
    cases es : slfL i δ with
    | none => rw [es] at h; exact h.elim
    | some q =>
      obtain ⟨a, C, xs⟩ := q
      rw [es] at h
      dsimp only at h
      split at h
      · rename_i j et
        have A := T C j et
        obtain ⟨z, ez, h⟩ := opt_ok h
        obtain ⟨h1, h2, dx, vs, e1, l, r⟩ := slfL_at er es
        obtain ⟨v, e2, rv⟩ := ins_read (c := c) A r ez
        exact ⟨.ref a, h2, a, (CE C).1, dx, _, v, rfl, e1, A.cl, A.na, e2, h g H v (Post.refl ok) rv⟩
      · exact h.elim
/-- self.f = e in an __init__ -/
def slfS (i C j : Nat) (me : EM) : SM := fun δ c => match slfL i δ with
  | some (a, C', xs) => if C' = C then (me δ c).thenS δ fun d c => if j < xs.length then .nx (δ.set i (.slf a C (xs.set j d))) c else if j = xs.length then .nx (δ.set i (.slf a C (xs ++ [d]))) c else .bad else .bad
  | none => .bad
theorem sd_slf (i : Nat) {C j : Nat} (A : AtF X.K CE C j f) (ho : PE X o (tVar i)) (he : PD X CE W e me) (hs : swapsWith e (some (.Attribute o f pos')) pos.line X.env = pure false := by rfl) : SD X CE W (.Assign [.Attribute o f pos'] e pos) (slfS i C j me) :=
  (ps_fld ho he hs).wk fun D σ H ⟨g, c, δ, ok, er, h⟩ => by
    unfold slfS at h
    cases es : slfL i δ with
    | none => rw [es] at h; exact h.elim
    | some q =>
      obtain ⟨a, C', xs⟩ := q
      rw [es] at h
      dsimp only at h
      split at h
      · rename_i hC
        subst hC
        refine useS ok er h fun d c1 h g1 H1 v p1 r1 => ?_
        have x1 := XS.of ok er p1
        replace h := ks.back x1 h
        obtain ⟨h1, h2, dx, vs, e1, l, r⟩ := slfL_at x1.er es
        obtain ⟨nF, nA, _⟩ := x1.er.ownF ⟨i, _, _, h1, rfl, h2⟩
        have lz : ((CE C').2.zip vs).length < 1000 := by
          rw [List.length_zip]
          have := A.sz
          omega
        refine ⟨.ref a, h2, a, (CE C').1, dx, _, rfl, e1, A.cl, A.na, lz, ?_⟩
        have lv := Reps.length r
        split at h
        · rename_i hj
          rw [putF_set A.nd A.ix (by omega)]
          have rk := RK.hidI (gs := (CE C').2.zip (vs.set j v)) e1 nF
          exact h g1 _ σ (XS.chg p1.ok x1.er h1 rfl h2 rk (t' := .slf a C' (xs.set j d)) rfl (by simp) (fun _ _ _ z => by cases z; rfl) ⟨dx, _, upd_same, by simpa using l, Reps.rk rk (Reps.set j r r1)⟩)
        · split at h
          · rename_i hj
            have hl : (CE C').2[vs.length]? = some f := by rw [lv, ← hj]; exact A.ix
            rw [putF_new A.nd hl]
            have rk := RK.hidI (gs := (CE C').2.zip (vs ++ [v])) e1 nF
            have lt := (List.getElem?_eq_some_iff.mp hl).1
            exact h g1 _ σ (XS.chg p1.ok x1.er h1 rfl h2 rk (t' := .slf a C' (xs ++ [d])) rfl (by simp) (fun _ _ _ z => by cases z; rfl) ⟨dx, _, upd_same, by rw [List.length_append]; simp; omega, Reps.rk rk (Reps.append r (Reps.one r1))⟩)
          · exact h.elim
      · exact h.elim
/-- o.f = e, o a cell -/
def fldC (tab : List (Nat × Nat)) (mo me : EM) : SM := fun δ c => (me δ c).thenS δ fun d c => (mo δ c).thenS δ fun o c => match o with
  | .cell k => match c[k]? with
    | some (Cell.ins C xs) => match tab.lookup C with
      | some j => if j < xs.length then .nx δ (c.set k (Cell.ins C (xs.set j d))) else .bad
      | none => .bad
    | _ => .bad
  | _ => .bad
theorem sd_fldC (T : AtFs X.K CE tab f) (ho : PD X CE W o mo) (he : PD X CE W e me) (hs : swapsWith e (some (.Attribute o f pos')) pos.line X.env = pure false := by rfl) : SD X CE W (.Assign [.Attribute o f pos'] e pos) (fldC tab mo me) :=
  (ps_fld ho he hs).wk fun D σ H ⟨g, c, δ, ok, er, h⟩ => useS ok er h fun d c1 h g1 H1 v p1 r1 => by
    have x1 := XS.of ok er p1
    replace h := ks.back x1 h
    refine useS p1.ok x1.er h fun d2 c2 h g2 H2 v2 p2 r2 => ?_
    have x2 := XS.of p1.ok x1.er p2
    replace h := ks.back x2 h
    cases d2 <;> try exact h.elim
    rename_i k
    dsimp only at h
    split at h
    · rename_i C xs ek
      split at h
      · rename_i j et
        split at h
        · rename_i hj
          have A := T C j et
          simp only [Rep] at r2
          obtain ⟨a, rfl, ha⟩ := r2
          obtain ⟨dx, vs, e1, l, r⟩ := p2.ok.cl k a _ ha ek
          have lz : ((CE C).2.zip vs).length < 1000 := by
            rw [List.length_zip]
            have := A.sz
            omega
          refine ⟨a, (CE C).1, dx, _, rfl, e1, A.cl, A.na, lz, ?_⟩
          rw [putF_set A.nd A.ix (by rw [Reps.length r]; exact hj)]
          exact h g2 _ σ (XS.of p2.ok x2.er (Post.setCell p2.ok ha ek (by simp) (by simp) fun H' x hx => ⟨dx, _, hx, by simpa using l, Reps.mono p2.ok x (Reps.set j r (Rep.mono p1.ok p2.ext r1))⟩))
        · exact h.elim
      · exact h.elim
    · exact h.elim
end

/-- an __init__'s promise: the attributes of the new instance -/
def spI (CE : CEnv) (K : PySem.W.Frag) (C n : Nat) (m : List D → M (List D)) : Sp := fun vs H Q E => ∃ g c ds x dx vs' H0, vs = .ref x :: vs' ∧ H0 x = none ∧ H0 dx = none ∧ dx ≠ x ∧ H = upd (upd H0 dx (.own x)) x (.ins (CE C).1 dx []) ∧ SOk CE K g H0 c ∧ Reps CE K g H0 ds vs' ∧ ds.length + 1 = n ∧
  wpo (m ds c) (fun xs c' => ∀ g' H' dx' ws, Post CE K g H0 c g' H' c' → H' x = some (.ins (CE C).1 dx' ((CE C).2.zip ws)) → xs.length ≤ (CE C).2.length → Reps CE K g' H' xs ws → ¬ g'.F x → x ∉ g'.am → Q .non H')
    (fun C' xs c' => ∀ g' H' d, Post CE K g H0 c g' H' c' → ExcAt CE K g' H' C' xs d → E (.ref (CE C').1) d H')
structure FnI (P : Program) (w : World) (K : PySem.W.Frag) (mg : PySem.Str → Option Value) (base : Heap) (CE : CEnv) (C k : Nat) (f : Addr) (fd : FuncData) (ps : List PySem.Str) (m : List D → M (List D)) : Prop where
  ok : FnOk P w K mg base (L2.CX P w) k f fd ps (spI CE K C ps.length m)
  ar : ∀ ds c, ds.length + 1 ≠ ps.length → m ds c = .bad
theorem FnI.mono {P : Program} {w : World} {K : PySem.W.Frag} {mg : PySem.Str → Option Value} {base : Heap} {CE : CEnv} {C j k : Nat} {f : Addr} {fd : FuncData} {ps : List PySem.Str} {m : List D → M (List D)} (F : FnI P w K mg base CE C j f fd ps m) (h : j ≤ k) : FnI P w K mg base CE C k f fd ps m := ⟨F.ok.mono h, F.ar⟩
def Res.outI (r : Res) (a : Addr) (C : Nat) : Out (List D) := match r with
  | .nx δ c => match slfL 0 δ with
    | some (a', C', xs) => if a' = a ∧ C' = C then .ok xs c else .bad
    | none => .bad
  | .exc C xs _ c => .exc C xs c
  | _ => .bad
def runI (n k C : Nat) (m : SM) (a : Addr) : List D → M (List D) := fun ds c => if ds.length + 1 = k then (m (.slf a C [] :: startD n ds) c).outI a C else .bad
section
variable {P : Program} {w : World} {K : PySem.W.Frag} {mg : PySem.Str → Option Value} {base : Heap} {CE : CEnv}
theorem post_back {g g' : Gh} {H0 H H' : Hp} {c c' : Cells} {x dx : Addr} {o o' : HO} (s : SOk CE K g H0 c) (hx : H0 x = none) (hd : H0 dx = none) (ne : dx ≠ x) (eH : H = upd (upd H0 dx o) x o') {O : Addr → Prop} (hO : ∀ a, O a → a = x) (e : ExtO O g H c g' H' c') (ok : SOk CE K g' H' c') : Post CE K g H0 c g' H' c' := by
  subst eH
  have p1 := Post.hid s hd o
  have hx1 : (upd H0 dx o) x = none := by rw [upd_ne (Ne.symm ne)]; exact hx
  have p2 := Post.hid p1.ok hx1 o'
  have p := p1.trans p2
  exact ⟨((p.ext.o (O := fun _ => False) s).trans e fun a h => .inr (by rw [hO a h]; exact hx)).none fun _ h => h, ok⟩
theorem fn_i {x qual : PySem.Str} {st : Stmt} {f : Addr} {fd : FuncData} {N ps : List PySem.Str} {n C k : Nat} {b : SM} {m : List D → M (List D)} (F : Fun K x qual st f fd) (S : FnScope N ps (defScope st)) (hn : N.length = n + 1)
    (hm : ∀ a ds c, m ds c = .bad ∨ m ds c = runI n ps.length C b a ds c)
    (hb : ∀ (cdv : Value) (A : Around) (outer : List Env) (s : Shared) (H : Hp) (E : XK), Room k (A.deeper (envOfC qual (defScope st) s.heap.objs.size f cdv)) →
      Takes (cxOf (L2.CX P w) P w K mg base N qual (defScope st) f cdv A outer s H E) (WF E) → PassesOwn (model P w) (A.deeper (envOfC qual (defScope st) s.heap.objs.size f cdv)) (envOfC qual (defScope st) s.heap.objs.size f cdv) (cxOf (L2.CX P w) P w K mg base N qual (defScope st) f cdv A outer s H E).xe →
      SDs (cxOf (L2.CX P w) P w K mg base N qual (defScope st) f cdv A outer s H E) CE (WF E) (defBody st) b) : FnI P w K mg base CE C (k + 1) f fd ps m := by
  refine ⟨F.okX S (fun vs H Q E ⟨g, c, ds, x, dx, vs', H0, ev, _, _, _, _, _, r, l, q⟩ => by rw [ev, List.length_cons, Reps.length r]; exact l) fun cdv A outer s H vs Q E hr ⟨g, c, ds, x, dx, vs', H0, ev, hx, hd, ne, eH, ok, r, l, q⟩ => ?_, fun ds c h => ?_⟩
  · refine ⟨_, hb cdv A outer s H E hr (takes_of rfl rfl rfl rfl) (passes_of rfl), ?_⟩
    have p1 := Post.hid ok hd (.own x)
    have hx1 : (upd H0 dx (.own x)) x = none := by rw [upd_ne (Ne.symm ne)]; exact hx
    have p2 := Post.hid p1.ok hx1 (.ins (CE C).1 dx [])
    have p := p1.trans p2
    rw [← eH] at p
    have hxx : H x = some (.ins (CE C).1 dx []) := by rw [eH]; exact upd_same
    have nF : ¬ g.F x := fun z => ok.tr x z hx
    have nA : x ∉ g.am := mem_am_ne ok hx
    have rs := Reps.mono ok p.ext r
    have e1 : L2.start N vs = some (.ref x) :: L2.start (List.replicate n (Str.ofString "")) vs' := by
      subst ev
      unfold L2.start
      simp only [List.map_cons, List.length_cons, hn, List.cons_append, List.length_replicate, Nat.add_sub_add_right]
    have er0 := start_env (N := List.replicate n (Str.ofString "")) rs
    rw [List.length_replicate] at er0
    have er : EnvR CE K g H (L2.start N vs) (.slf x C [] :: startD n ds) := by
      rw [e1]
      refine ⟨by simp [er0.len], fun i d h => ?_, fun i t o h ho => ?_, fun i a C' xs h => ?_⟩
      · cases i with
        | zero => cases h
        | succ i => exact er0.sh i d (by simpa using h)
      · cases i with
        | zero =>
          simp at h
          subst h
          cases ho
          refine ⟨x, rfl, nF, nA, by simp, ⟨dx, [], by simpa using hxx, Nat.zero_le _, Reps.nil⟩, fun j t' o' h1 h2 h3 => ?_⟩
          cases j with
          | zero => rfl
          | succ j => exact (start_noOwn (by simpa using h1) h2).elim
        | succ i => exact (start_noOwn (by simpa using h) ho).elim
      · cases i with
        | zero =>
          simp at h
          obtain ⟨rfl, rfl, rfl⟩ := h
          rfl
        | succ i =>
          have h' : (startD n ds)[i]? = some (.slf a C' xs) := by simpa using h
          exact (start_noOwn h' rfl).elim
    have ow : ∀ a, Own (L2.start N vs) (.slf x C [] :: startD n ds) a → a = x := fun a ⟨i, t, o, h1, h2, h3⟩ => by
      cases i with
      | zero =>
        rw [e1] at h3
        simp at h3
        exact h3.symm
      | succ i => exact (start_noOwn (by simpa using h1) h2).elim
    refine ⟨g, c, .slf x C [] :: startD n ds, p.ok, er, ?_⟩
    rcases hm x ds c with eb | em
    · rw [eb] at q; exact q.elim
    rw [em] at q
    unfold runI at q
    rw [if_pos l] at q
    cases e : b (.slf x C [] :: startD n ds) c with
    | nx δ' c' =>
      rw [e] at q
      simp only [Res.outI] at q
      intro g' H' σ' X'
      cases es : slfL 0 δ' with
      | none => rw [es] at q; exact q.elim
      | some t =>
        obtain ⟨a, C', ys⟩ := t
        rw [es] at q
        dsimp only at q
        split at q
        · rename_i hh
          obtain ⟨rfl, rfl⟩ := hh
          obtain ⟨h1, h2, dx', ws, e2, hl, rr⟩ := slfL_at X'.er es
          obtain ⟨nF', nA', _⟩ := X'.er.ownF ⟨0, _, _, h1, rfl, h2⟩
          exact q g' H' dx' ws (post_back ok hx hd ne eH ow X'.x X'.ok) e2 hl rr nF' nA'
        · exact q.elim
    | rt d c' => rw [e] at q; exact q.elim
    | bk δ' c' => rw [e] at q; exact q.elim
    | ct δ' c' => rw [e] at q; exact q.elim
    | exc C' xs δ' c' => rw [e] at q; exact fun g' H' σ' d xs' ea => q g' H' d (post_back ok hx hd ne eH ow xs'.x xs'.ok) ea
    | bad => rw [e] at q; exact q.elim
  · rcases hm 0 ds c with e | e
    · exact e
    · rw [e]; unfold runI; rw [if_neg h]
end
end DL

namespace DL
open PySem PySem.Spec PyProof.Rows L2

def spP (CE : CEnv) (K : PySem.W.Frag) (m : List D → M D) : Sp := fun vs H Q E => ∃ g c ds, SOk CE K g H c ∧ Reps CE K g H ds vs ∧
  wpo (m ds c) (fun d c' => ∀ g' H' v, Post CE K g H c g' H' c' → Rep CE K g' H' d v → Q v H')
    (fun C xs c' => ∀ g' H' dx, Post CE K g H c g' H' c' → ExcAt CE K g' H' C xs dx → E (.ref (CE C).1) dx H')
def spPI (CE : CEnv) (K : PySem.W.Frag) (C : Nat) (m : List D → M (List D)) : Sp := fun vs H Q E => ∃ g c ds x dx vs' H0, vs = .ref x :: vs' ∧ H0 x = none ∧ H0 dx = none ∧ dx ≠ x ∧ H = upd (upd H0 dx (.own x)) x (.ins (CE C).1 dx []) ∧ SOk CE K g H0 c ∧ Reps CE K g H0 ds vs' ∧
  wpo (m ds c) (fun xs c' => ∀ g' H' dx' ws, Post CE K g H0 c g' H' c' → H' x = some (.ins (CE C).1 dx' ((CE C).2.zip ws)) → xs.length ≤ (CE C).2.length → Reps CE K g' H' xs ws → ¬ g'.F x → x ∉ g'.am → Q .non H')
    (fun C' xs c' => ∀ g' H' d, Post CE K g H0 c g' H' c' → ExcAt CE K g' H' C' xs d → E (.ref (CE C').1) d H')
/-- the def at f, called with positional values, does what m says -/
def FnP (P : Program) (w : World) (K : PySem.W.Frag) (mg : PySem.Str → Option Value) (base : Heap) (CE : CEnv) (k : Nat) (f : Addr) (m : List D → M D) : Prop := FnR P w K mg base (L2.CX P w) k f (spP CE K m)
def FnPI (P : Program) (w : World) (K : PySem.W.Frag) (mg : PySem.Str → Option Value) (base : Heap) (CE : CEnv) (C k : Nat) (f : Addr) (m : List D → M (List D)) : Prop := FnR P w K mg base (L2.CX P w) k f (spPI CE K C m)
/-- m' says no more than m -/
def Les {α : Type} (m' m : List D → M α) : Prop := ∀ ds c, m' ds c = .bad ∨ m' ds c = m ds c
theorem Les.refl {α : Type} {m : List D → M α} : Les m m := fun _ _ => .inr rfl
section
variable {P : Program} {w : World} {K : PySem.W.Frag} {mg : PySem.Str → Option Value} {base : Heap} {CE : CEnv} {C j k : Nat} {f : Addr} {fd : FuncData} {ps : List PySem.Str} {m m' : List D → M D} {mi mi' : List D → M (List D)} {ds : List Value} {dds : List D}
theorem FnP.mono (F : FnP P w K mg base CE j f m) (h : j ≤ k) : FnP P w K mg base CE k f m := FnR.mono F h
theorem FnPI.mono (F : FnPI P w K mg base CE C j f mi) (h : j ≤ k) : FnPI P w K mg base CE C k f mi := FnR.mono F h
theorem FnP.le (F : FnP P w K mg base CE k f m) (h : Les m' m) : FnP P w K mg base CE k f m' := FnR.imp F fun vs H Q E ⟨g, c, ds, ok, r, q⟩ => ⟨g, c, ds, ok, r, by
  rcases h ds c with e | e
  · rw [e] at q; exact q.elim
  · rw [e] at q; exact q⟩
theorem FnPI.le (F : FnPI P w K mg base CE C k f mi) (h : Les mi' mi) : FnPI P w K mg base CE C k f mi' := FnR.imp F fun vs H Q E ⟨g, c, ds, x, dx, vs', H0, h1, h2, h3, h4, h5, ok, r, q⟩ => ⟨g, c, ds, x, dx, vs', H0, h1, h2, h3, h4, h5, ok, r, by
  rcases h ds c with e | e
  · rw [e] at q; exact q.elim
  · rw [e] at q; exact q⟩
theorem FnD.pos (F : FnD P w K mg base CE k f fd ps m) (hb : Binds K fd ps ds) (hd : Lit CE K dds ds) : FnP P w K mg base CE k f (fun xs => m (xs ++ dds)) := by
  obtain ⟨dvs, hv, hd⟩ := hd
  refine FnR.imp (F.ok.raw hb hv) fun vs H Q E ⟨g, c, ds, ok, r, q⟩ => ?_
  refine ⟨g, c, ds ++ dds, ok, Reps.append r (hd _ _), Classical.byContradiction fun hl => ?_, q⟩
  dsimp only at q
  rw [F.ar _ _ hl] at q
  exact q.elim
theorem FnD.pos0 (F : FnD P w K mg base CE k f fd ps m) (hb : Binds K fd ps []) : FnP P w K mg base CE k f m := by
  have h := F.pos (dds := []) hb lit_nil
  simpa only [List.append_nil] using h
theorem FnI.pos (F : FnI P w K mg base CE C k f fd ps mi) (hb : Binds K fd ps ds) (hd : Lit CE K dds ds) : FnPI P w K mg base CE C k f (fun xs => mi (xs ++ dds)) := by
  obtain ⟨dvs, hv, hd⟩ := hd
  refine FnR.imp (F.ok.raw hb hv) fun vs H Q E ⟨g, c, ds, x, dx, vs', H0, h1, h2, h3, h4, h5, ok, r, q⟩ => ?_
  refine ⟨g, c, ds ++ dds, x, dx, vs' ++ dvs, H0, by rw [h1]; rfl, h2, h3, h4, h5, ok, Reps.append r (hd _ _), Classical.byContradiction fun hl => ?_, q⟩
  dsimp only at q
  rw [F.ar _ _ hl] at q
  exact q.elim
theorem FnI.pos0 (F : FnI P w K mg base CE C k f fd ps mi) (hb : Binds K fd ps []) : FnPI P w K mg base CE C k f mi := by
  have h := F.pos (dds := []) hb lit_nil
  simpa only [List.append_nil] using h
/-- def f(a, .., *v) -/
def starM (n : Nat) (m : List D → M D) : List D → M D := fun xs => if n ≤ xs.length ∧ (xs.drop n).length ≤ sizeLine then m (xs.take n ++ [.tup (xs.drop n)]) else stuck
theorem fn_pstar {x qual pv : PySem.Str} {st : Stmt} {N : List PySem.Str} {b : SM} (F : Fun K x qual st f fd) (S : FnScope N (ps ++ [pv]) (defScope st))
    (hbind : ∀ (kV doc pm : Value) (an : Option Addr) (cdv ct : Value) (us rest : List Value), us.length = ps.length → bindArgs (PySem.W.fnOf x qual (defArgs st) (defBody st) (defScope st) .none kV doc pm an cdv ct) ⟨us ++ rest, []⟩ = (newTuple rest >>= fun t => pure (ps.zip us ++ [(pv, t)])))
    (hb : ∀ (cdv : Value) (A : Around) (outer : List Env) (s : Shared) (H : Hp) (E : XK), Room k (A.deeper (envOfC qual (defScope st) s.heap.objs.size f cdv)) →
      Takes (cxOf (L2.CX P w) P w K mg base N qual (defScope st) f cdv A outer s H E) (WF E) → PassesOwn (model P w) (A.deeper (envOfC qual (defScope st) s.heap.objs.size f cdv)) (envOfC qual (defScope st) s.heap.objs.size f cdv) (cxOf (L2.CX P w) P w K mg base N qual (defScope st) f cdv A outer s H E).xe →
      SDs (cxOf (L2.CX P w) P w K mg base N qual (defScope st) f cdv A outer s H E) CE (WF E) (defBody st) b) : FnP P w K mg base CE (k + 1) f (starM ps.length (runD N.length (ps.length + 1) b)) := by
  obtain ⟨oc, od, kV, doc, pm, an, cdv, ct, osl, rfl, lk, hcd⟩ := F.ex
  refine FnR.imp (StX.fn_star (CX := L2.CX P w) (sp := spP CE K (runD N.length (ps.length + 1) b)) lk hcd S StX.cxUp (hbind kV doc pm an cdv ct) fun A outer s H vs Q E hr ⟨g, c, ds, ok, r, q⟩ => ?_) fun vs H Q E ⟨g, c, ds, ok, r, q⟩ => ?_
  · refine ⟨_, hb cdv A outer s H E hr (takes_of rfl rfl rfl rfl) (passes_of rfl), ?_⟩
    refine ⟨g, c, startD N.length ds, ok, start_env r, ?_⟩
    have no : ∀ a, ¬ Own (L2.start N vs) (startD N.length ds) a := fun a ⟨i, t, o, h1, h2, h3⟩ => start_noOwn h1 h2
    unfold runD at q
    split at q
    · cases e : b (startD N.length ds) c with
      | nx δ c' => rw [e] at q; exact fun g' H' σ' x => q g' H' _ ⟨x.x.none no, x.ok⟩ rep_non
      | rt d c' => rw [e] at q; exact fun g' H' v x r => q g' H' v ⟨x.x.none no, x.ok⟩ r
      | bk δ c' => rw [e] at q; exact q.elim
      | ct δ c' => rw [e] at q; exact q.elim
      | exc C xs δ c' => rw [e] at q; exact fun g' H' σ' dx x ea => q g' H' dx ⟨x.x.none no, x.ok⟩ ea
      | bad => rw [e] at q; exact q.elim
    · exact q.elim
  · unfold starM at q
    split at q
    · rename_i hl
      have hlen := Reps.length r
      refine ⟨vs.take ps.length, vs.drop ps.length, by simp, by simp; omega, by rw [List.length_drop, hlen, ← List.length_drop]; exact hl.2, fun p hp => ?_⟩
      have P' := Post.hid ok hp (.tup (vs.drop ps.length))
      refine ⟨g, c, ds.take ps.length ++ [.tup (ds.drop ps.length)], P'.ok, Reps.append (Reps.mono ok P'.ext (Reps.take _ r)) (Reps.one ?_), wpo_mono q (fun d c' z g' H' v p r => z g' H' v (P'.trans p) r) fun C xs c' z g' H' dx p => z g' H' dx (P'.trans p)⟩
      simp only [Rep]
      exact ⟨p, _, rfl, .of upd_same, hl.2, Reps.mono ok P'.ext (Reps.drop _ r)⟩
    · exact q.elim
end

def callM (m : List D → M D) (ms : Ev' → M (List D)) : EM := fun δ => bnd (ms δ) fun xs => m xs
def methM (C : Nat) (m : List D → M D) (mo : EM) (ms : Ev' → M (List D)) : EM := fun δ => bnd (mo δ) fun o => fun c => match insOf o c with
  | some (C', _) => if C' = C then bnd (ms δ) (fun xs => m (o :: xs)) c else .bad
  | none => .bad
def makeM (C : Nat) (m : List D → M (List D)) (ms : Ev' → M (List D)) : EM := fun δ => bnd (ms δ) fun xs => bnd (m xs) fun ys => DL.ret (.ins C ys)
def makeC (C : Nat) (m : List D → M (List D)) (ms : Ev' → M (List D)) : EM := fun δ => bnd (ms δ) fun xs => bnd (m xs) fun ys => fun c => .ok (.cell c.length) (c ++ [Cell.ins C ys])
section
variable {X : Cx} {CE : CEnv} {W : WX} {C k : Nat} {f : Addr} {x mn : PySem.Str} {p pos apos : Pos} {e o : Expr} {es : List Expr} {ms : Ev' → M (List D)} {m : List D → M D} {mi : List D → M (List D)} {mo : EM}
theorem run_P {sp : Sp} {E : XK} {pins : List (Addr × Obj)} {σ : L2.St} {H : Hp} {s : Shared} {Q : VK} {us : List Value} {vs : List V} (F : FnR X.prog X.w X.K X.mg X.base (L2.CX X.prog X.w) k f sp) (hr : Room k X.A) (hx : PassesAt (L2.CX X.prog X.w) X σ E)
    (I : Inv X pins σ H s) (r : Vals vs us) (h : sp vs H Q E) : wpAny (model X.prog X.w) X.A (call (.ref f) us) (EP X pins σ Q) X.xe s := by
  refine wpAny_call (codeAny_mono (F X.A X.stack s H us vs Q E hr I.env0 r h) fun r s' hq => ?_)
  cases r with
  | error e => exact hx pins H s e s' I hq
  | ok fl =>
    cases fl with
    | ret u => exact I.after hq
    | next => exact hq.elim
    | brk => exact hq.elim
    | cont => exact hq.elim
theorem spP_of {σ : L2.St} {g0 g : Gh} {H0 H : Hp} {c0 c : Cells} {ds : List D} {vs : List V} {Q : VK} (p : Post CE X.K g0 H0 c0 g H c) (r : Reps CE X.K g H ds vs) (h : wpo (m ds c) (fun d c' => ∀ g' H' v, Post CE X.K g0 H0 c0 g' H' c' → Rep CE X.K g' H' d v → Q v H') (EK CE X.K W g0 H0 c0 σ)) :
    spP CE X.K m vs H Q (WE W σ) := ⟨g, c, ds, p.ok, r, wpo_mono h (fun d c' q g' H' v p' r' => q g' H' v (p.trans p') r') fun C ys c' q g' H' dx p' x' => q g' H' dx (p.trans p') x'⟩
theorem pd_call (F : FnP X.prog X.w X.K X.mg X.base CE k f m) (hr : Room k X.A) (hg : Gl X x) (hm : X.mg x = some (.ref f)) (hk : PySem.W.keepIn X.K (.ref f) = true) (pw : PassW X W)
    (ha : PDA X CE W (e :: es) ms) (hdb : (x == ("__debug__" : PySem.Str)) = false := by decide) (he : starEach (e :: es) X.env = (false, eval e X.env) :: starEach es X.env := by rfl) (hpl : (backTo pos (starEach es X.env)).any (·.1) = false := by rfl) :
    PD X CE W (.Call (.Name x p) (e :: es) [] pos) (callM m ms) := ⟨fun pins s σ H Q I ⟨g, c, δ, ok, er, h⟩ => by
  refine wpAny_Call_Name_kw (ld_glob I hg hm ?_ hdb)
  have h' : tDA CE X.K W ms σ H fun vs H1 => spP CE X.K m vs H1 Q (WE W σ) := useA ok er (wpo_bnd.mp h) (fun xs c1 h g1 H1 vs p1 r1 => spP_of p1 r1 h) fun _ _ _ z => z
  refine PySem.W.callWith_K (h₀ := X.base) I.ok.mod.kin hk (thn (PA.run ha pos pins s σ H _ I h') fun us s1 ⟨vs, H1, I1, r, q⟩ => ⟨I1.kIn, ?_⟩) he hpl
  exact run_P F hr (pw σ) I1 r q⟩
theorem pd_call0 (F : FnP X.prog X.w X.K X.mg X.base CE k f m) (hr : Room k X.A) (hg : Gl X x) (hm : X.mg x = some (.ref f)) (hk : PySem.W.keepIn X.K (.ref f) = true) (pw : PassW X W) (hdb : (x == ("__debug__" : PySem.Str)) = false := by decide) :
    PD X CE W (.Call (.Name x p) [] [] pos) (callM m nilA) := ⟨fun pins s σ H Q I ⟨g, c, δ, ok, er, h⟩ => by
  refine wpAny_Call_Name_kw (ld_glob I hg hm ?_ hdb)
  exact PySem.W.callWith_K0 I.kIn hk (run_P (us := []) F hr (pw σ) I .nil (spP_of (Post.refl ok) Reps.nil h))⟩
/-- the class C's method mn -/
structure MtF (K : PySem.W.Frag) (CE : CEnv) (C : Nat) (mn : PySem.Str) (f : Addr) : Prop where
  cl : Cls K (CE C).1
  mt : Meth K (CE C).1 mn f
  no : mn ∉ (CE C).2
theorem pd_meth {pl : Sem Bool} (T : MtF X.K CE C mn f) (F : FnP X.prog X.w X.K X.mg X.base CE k f m) (hr : Room k X.A) (pw : PassW X W) (ho : PD X CE W o mo) (ha : PDA X CE W (e :: es) ms)
    (hst : starEach (e :: es) X.env = (false, eval e X.env) :: starEach es X.env := by rfl) (hpl : (backTo pos (starEach es X.env)).any (·.1) = false := by rfl)
    (ht : eval (.Call (.Attribute o mn apos) (e :: es) [] pos) X.env = (do
      let ov ← eval o X.env; standAt apos.atName
      let (f, first) ← holding [ov] (getMethod ov mn pl)
      callWith pos f first (backTo pos (starEach (e :: es) X.env)) (backToKw pos (keywordEach [] X.env))) := by rfl) :
    PD X CE W (.Call (.Attribute o mn apos) (e :: es) [] pos) (methM C m mo ms) := ⟨fun pins s σ H Q I ⟨g, c, δ, ok, er, h⟩ => by
  have h1 : tD CE X.K W mo σ H fun v H1 => ∃ a dx fs, v = .ref a ∧ H1 a = some (.ins (CE C).1 dx fs) ∧ fs.lookup mn = none ∧ tDA CE X.K W ms σ H1 fun vs H2 => spP CE X.K m (v :: vs) H2 Q (WE W σ) := by
    refine use ok er (wpo_bnd.mp h) (fun d c1 hh g1 H1 v p1 r1 => ?_) fun _ _ _ z => z
    cases ei : insOf d c1 with
    | none => rw [ei] at hh; exact hh.elim
    | some q =>
      obtain ⟨C', xs⟩ := q
      rw [ei] at hh
      dsimp only at hh
      split at hh
      · rename_i hC
        subst hC
        obtain ⟨a, dx, vs, rfl, e1, l, r⟩ := insOf_at p1.ok r1 ei
        refine ⟨a, dx, _, rfl, e1, zip_none T.no, useA p1.ok (er.mono ok p1.ext) (wpo_bnd.mp hh) (fun xs c2 hh g2 H2 vs p2 r2 => ?_) fun _ _ _ z => EK.back p1 z⟩
        exact spP_of (p1.trans p2) (Reps.cons (Rep.mono p1.ok p2.ext r1) r2) hh
      · exact hh.elim
  refine PySem.W.methodCall_KW (pl := pl) (thn (PE.run ho pins s σ H _ I h1) fun u s1 ⟨v, H1, I1, rx, a, dx, fs, ex, ea, l, q⟩ => ?_) ht
  subst ex
  obtain rfl : u = Value.ref a := rx
  refine getmeth_ok I1 ea T.cl T.mt l ?_
  refine PySem.W.callWith_K (first := [.ref a]) (h₀ := X.base) I.ok.mod.kin T.mt.kp (thn (PA.run ha pos pins s1 σ H1 _ I1 q) fun us s2 ⟨vs, H2, I2, r, q2⟩ => ⟨I2.kIn, ?_⟩) hst hpl
  exact run_P (us := .ref a :: us) (vs := .ref a :: vs) F hr (pw σ) I2 (.cons rfl r) q2⟩
theorem pd_meth0 {pl : Sem Bool} (T : MtF X.K CE C mn f) (F : FnP X.prog X.w X.K X.mg X.base CE k f m) (hr : Room k X.A) (pw : PassW X W) (ho : PD X CE W o mo)
    (ht : eval (.Call (.Attribute o mn apos) [] [] pos) X.env = (do
      let ov ← eval o X.env; standAt apos.atName
      let (f, first) ← holding [ov] (getMethod ov mn pl)
      callWith pos f first (backTo pos (starEach [] X.env)) (backToKw pos (keywordEach [] X.env))) := by rfl) :
    PD X CE W (.Call (.Attribute o mn apos) [] [] pos) (methM C m mo nilA) := ⟨fun pins s σ H Q I ⟨g, c, δ, ok, er, h⟩ => by
  have h1 : tD CE X.K W mo σ H fun v H1 => ∃ a dx fs, v = .ref a ∧ H1 a = some (.ins (CE C).1 dx fs) ∧ fs.lookup mn = none ∧ spP CE X.K m [v] H1 Q (WE W σ) := by
    refine use ok er (wpo_bnd.mp h) (fun d c1 hh g1 H1 v p1 r1 => ?_) fun _ _ _ z => z
    cases ei : insOf d c1 with
    | none => rw [ei] at hh; exact hh.elim
    | some q =>
      obtain ⟨C', xs⟩ := q
      rw [ei] at hh
      dsimp only at hh
      split at hh
      · rename_i hC
        subst hC
        obtain ⟨a, dx, vs, rfl, e1, l, r⟩ := insOf_at p1.ok r1 ei
        exact ⟨a, dx, _, rfl, e1, zip_none T.no, spP_of p1 (Reps.one r1) hh⟩
      · exact hh.elim
  refine PySem.W.methodCall_KW (pl := pl) (thn (PE.run ho pins s σ H _ I h1) fun u s1 ⟨v, H1, I1, rx, a, dx, fs, ex, ea, l, q⟩ => ?_) ht
  subst ex
  obtain rfl : u = Value.ref a := rx
  refine getmeth_ok I1 ea T.cl T.mt l ?_
  exact PySem.W.callWith_K0 (first := [.ref a]) I1.kIn T.mt.kp (run_P (us := [.ref a]) (vs := [.ref a]) F hr (pw σ) I1 (.cons rfl .nil) q)⟩
theorem run_mk {sp : Sp} {E : XK} {C' : Addr} {pins : List (Addr × Obj)} {σ : L2.St} {H : Hp} {s : Shared} {Q : VK} {us : List Value} {vs : List V} (M' : Mk X.K C' f) (F : FnR X.prog X.w X.K X.mg X.base (L2.CX X.prog X.w) k f sp) (hr : Room (k + 1) X.A) (hx : PassesAt (L2.CX X.prog X.w) X σ E)
    (I : Inv X pins σ H s) (r : Vals vs us) (h : ∀ y dx, H y = none → H dx = none → dx ≠ y → sp (.ref y :: vs) (upd (upd H dx (.own y)) y (.ins C' dx [])) (fun v H2 => v = .non ∧ Q (.ref y) H2) E) :
    wpAny (model X.prog X.w) X.A (call (.ref C') us) (EP X pins σ Q) X.xe s := by
  have hq := h (s.heap.objs.size + 1) s.heap.objs.size (I.hok.fresh (Nat.le_succ _)) (I.hok.fresh (Nat.le_refl _)) (Nat.ne_of_lt (Nat.lt_succ_self _))
  have I2 := Inv.made (C := C') I
  refine wpAny_call (make_map (f := f) I.kIn M'.makes M'.init (beq_iff_eq.mp M'.fn) (codeAny_mono (F _ X.stack _ _ (Value.ref (s.heap.objs.size + 1) :: us) _ _ E (hr.make C' us []) (I2.env0.make C' us []) (show Vals (V.ref (s.heap.objs.size + 1) :: vs) (Value.ref (s.heap.objs.size + 1) :: us) from .cons rfl r) hq) fun r s' hq' => ?_))
  cases r with
  | error e => exact hx pins _ _ e s' I2 hq'
  | ok fl =>
    cases fl with
    | ret u =>
      obtain ⟨v, H', I3, rv, ev, q3⟩ := I2.after hq'
      subst ev
      exact ⟨rv, ⟨V.ref (s.heap.objs.size + 1), H', I3, rfl, q3⟩⟩
    | next => exact hq'.elim
    | brk => exact hq'.elim
    | cont => exact hq'.elim
theorem mk_sp {σ : L2.St} {g0 g : Gh} {H0 H : Hp} {c0 c : Cells} {ds : List D} {vs : List V} {Q : VK} {y dx : Addr} {mm : List D → M D} (hmm : (mm = fun xs => bnd (mi xs) fun ys => DL.ret (D.ins C ys)) ∨ (mm = fun xs => bnd (mi xs) fun ys => fun c => .ok (.cell c.length) (c ++ [Cell.ins C ys])))
    (p : Post CE X.K g0 H0 c0 g H c) (r : Reps CE X.K g H ds vs) (hy : H y = none) (hd : H dx = none) (ne : dx ≠ y) (h : wpo (mm ds c) (fun d c' => ∀ g' H' v, Post CE X.K g0 H0 c0 g' H' c' → Rep CE X.K g' H' d v → Q v H') (EK CE X.K W g0 H0 c0 σ)) :
    spPI CE X.K C mi (.ref y :: vs) (upd (upd H dx (.own y)) y (.ins (CE C).1 dx [])) (fun v H2 => v = .non ∧ Q (.ref y) H2) (WE W σ) := by
  have back : H0 y = none := Classical.byContradiction fun n => p.ext.thr y n hy
  refine ⟨g, c, ds, y, dx, vs, H, rfl, hy, hd, ne, rfl, p.ok, r, ?_⟩
  rcases hmm with rfl | rfl
  · exact wpo_mono (wpo_bnd.mp h) (fun xs c' q g' H' dx' ws p' e l rr nF nA => ⟨rfl, by
      have q : ∀ g' H' v, Post CE X.K g0 H0 c0 g' H' c' → Rep CE X.K g' H' (.ins C xs) v → Q v H' := q
      refine q _ _ _ (p.trans (p'.frz hy e nA)) ?_
      simp only [Rep]
      exact ⟨y, dx', ws, rfl, .inr rfl, e, l, Reps.rk RK.cold rr⟩⟩) fun C' xs c' q g' H' d p' x' => q g' H' d (p.trans p') x'
  · exact wpo_mono (wpo_bnd.mp h) (fun xs c' q g' H' dx' ws p' e l rr nF nA => ⟨rfl, by
      have q : ∀ g' H' v, Post CE X.K g0 H0 c0 g' H' (c' ++ [Cell.ins C xs]) → Rep CE X.K g' H' (.cell c'.length) v → Q v H' := q
      refine q _ _ _ (p.trans (p'.put (x := Cell.ins C xs) hy e nF nA ⟨dx', ws, e, l, rr⟩)) ?_
      simp only [Rep]
      exact ⟨y, rfl, by rw [← p'.ok.len]; simp⟩⟩) fun C' xs c' q g' H' d p' x' => q g' H' d (p.trans p') x'
theorem pd_make (T : Mk X.K (CE C).1 f) (F : FnPI X.prog X.w X.K X.mg X.base CE C k f mi) (hr : Room (k + 1) X.A) (hg : Gl X x) (hm : X.mg x = some (.ref (CE C).1)) (pw : PassW X W) (ha : PDA X CE W (e :: es) ms)
    (hdb : (x == ("__debug__" : PySem.Str)) = false := by decide) (he : starEach (e :: es) X.env = (false, eval e X.env) :: starEach es X.env := by rfl) (hpl : (backTo pos (starEach es X.env)).any (·.1) = false := by rfl) :
    PD X CE W (.Call (.Name x p) (e :: es) [] pos) (makeM C mi ms) := ⟨fun pins s σ H Q I ⟨g, c, δ, ok, er, h⟩ => by
  refine wpAny_Call_Name_kw (ld_glob I hg hm ?_ hdb)
  have h' : tDA CE X.K W ms σ H fun vs H1 => ∀ y dx, H1 y = none → H1 dx = none → dx ≠ y → spPI CE X.K C mi (.ref y :: vs) (upd (upd H1 dx (.own y)) y (.ins (CE C).1 dx [])) (fun v H2 => v = .non ∧ Q (.ref y) H2) (WE W σ) :=
    useA ok er (wpo_bnd.mp h) (fun xs c1 h g1 H1 vs p1 r1 y dx hy hd ne => mk_sp (.inl rfl) p1 r1 hy hd ne h) fun _ _ _ z => z
  refine PySem.W.callWith_K (h₀ := X.base) I.ok.mod.kin T.kp (thn (PA.run ha pos pins s σ H _ I h') fun us s1 ⟨vs, H1, I1, r, q⟩ => ⟨I1.kIn, ?_⟩) he hpl
  exact run_mk T F hr (pw σ) I1 r q⟩
theorem pd_makeC (T : Mk X.K (CE C).1 f) (F : FnPI X.prog X.w X.K X.mg X.base CE C k f mi) (hr : Room (k + 1) X.A) (hg : Gl X x) (hm : X.mg x = some (.ref (CE C).1)) (pw : PassW X W) (ha : PDA X CE W (e :: es) ms)
    (hdb : (x == ("__debug__" : PySem.Str)) = false := by decide) (he : starEach (e :: es) X.env = (false, eval e X.env) :: starEach es X.env := by rfl) (hpl : (backTo pos (starEach es X.env)).any (·.1) = false := by rfl) :
    PD X CE W (.Call (.Name x p) (e :: es) [] pos) (makeC C mi ms) := ⟨fun pins s σ H Q I ⟨g, c, δ, ok, er, h⟩ => by
  refine wpAny_Call_Name_kw (ld_glob I hg hm ?_ hdb)
  have h' : tDA CE X.K W ms σ H fun vs H1 => ∀ y dx, H1 y = none → H1 dx = none → dx ≠ y → spPI CE X.K C mi (.ref y :: vs) (upd (upd H1 dx (.own y)) y (.ins (CE C).1 dx [])) (fun v H2 => v = .non ∧ Q (.ref y) H2) (WE W σ) :=
    useA ok er (wpo_bnd.mp h) (fun xs c1 h g1 H1 vs p1 r1 y dx hy hd ne => mk_sp (.inr rfl) p1 r1 hy hd ne h) fun _ _ _ z => z
  refine PySem.W.callWith_K (h₀ := X.base) I.ok.mod.kin T.kp (thn (PA.run ha pos pins s σ H _ I h') fun us s1 ⟨vs, H1, I1, r, q⟩ => ⟨I1.kIn, ?_⟩) he hpl
  exact run_mk T F hr (pw σ) I1 r q⟩
end
end DL

namespace DL
open PySem PySem.Spec PyProof.Rows L2

def raiseS (C : Nat) : SM := fun δ c => .exc C [] δ c
def Res.calm (r : Res) : Res := match r with
  | .exc _ _ _ _ => .bad
  | r => r
/-- try: body, except X: suite; tab: which classes X takes -/
def tryS (tab : List (Nat × Bool)) (body suite : SM) : SM := fun δ c => match body δ c with
  | .exc C xs δ' c' => match tab.lookup C with
    | some true => (suite δ' c').calm
    | some false => .exc C xs δ' c'
    | none => .bad
  | r => r
def ExT (K : PySem.W.Frag) (CE : CEnv) (tab : List (Nat × Bool)) (v : Value) : Prop := ∀ C b, tab.lookup C = some b → PySem.W.exmOne K (.ref (CE C).1) v = some b
theorem exT_nil {K : PySem.W.Frag} {CE : CEnv} {v : Value} : ExT K CE [] v := fun C b e => by simp at e
theorem exT_cons {K : PySem.W.Frag} {CE : CEnv} {C : Nat} {b : Bool} {tab : List (Nat × Bool)} {v : Value} (h : PySem.W.exmOne K (.ref (CE C).1) v = some b) (t : ExT K CE tab v) : ExT K CE ((C, b) :: tab) v := fun C' b' e => by
  rw [List.lookup_cons] at e
  split at e
  · rename_i h'
    cases e
    have : C' = C := by simpa using h'
    rw [this]; exact h
  · exact t C' b' e
section
variable {CE : CEnv} {K : PySem.W.Frag} {W : WX} {D : Ends} {g : Gh} {H : Hp} {c : Cells} {δ : Ev'} {σ : L2.St} {r : Res}
theorem calm_ok {W' : WX} (h : wps r.calm (ks CE K W D g H c σ δ)) : wps r (ks CE K W' D g H c σ δ) := by
  cases r with
  | nx δ c => exact h
  | rt d c => exact h
  | bk δ c => exact h
  | ct δ c => exact h
  | exc C xs δ c => exact h.elim
  | bad => exact h
end
section
variable {X : Cx} {CE : CEnv} {W : WX} {C : Nat} {x : PySem.Str} {v : Value} {body suite : List Stmt} {b₀ : Stmt} {np pos pos' p p2 : Pos} {mb ms : SM} {tab : List (Nat × Bool)} {e : Expr}
theorem sd_raise (hc : X.calm = true) (tk : Takes X W) (he : PMk X e (fun _ H Q => Q (.ref (CE C).1) none H)) : SD X CE W (.Raise (some e) none pos) (raiseS C) :=
  (ps_raise hc tk he).wk fun D σ H ⟨g, c, δ, ok, er, h⟩ => h g H σ none (XS.of ok er (Post.refl ok)) rfl
theorem sd_try (hs : X.stack = X.env :: X.outer) (hf : X.env.frame = some X.env.locals) (hc : Names X x v) (T : ExT X.K CE tab v) (tk : Takes X W)
    (hb : ∀ (W' : WX) (pn : List (Addr × Obj)) (xe : Value → Shared → Prop), Takes (X.tr pn xe) W' → PassesOwn (model X.prog X.w) X.A X.env xe → SDs (X.tr pn xe) CE W' body mb)
    (hsu : ∀ (a : Addr) (oe : Obj) (cls : Value) (d : Option Addr) (pn : List (Addr × Obj)), Zc cls d oe → (∃ vs, oe.data = .fields vs) → SDs (X.suite a ((a, oe) :: pn)) CE W0 (b₀ :: suite) ms) :
    SD X CE W (.Try body [.ExceptHandler (some (.Name x np)) none (b₀ :: suite) pos'] [] [] pos) (tryS tab mb ms) :=
  (ps_try_only (tb := fun W' => tSD CE X.K W' mb) (ts := fun _ _ _ => tSD CE X.K W0 ms) hs hf hc tk hb hsu).wk fun D σ H ⟨g, c, δ, ok, er, h⟩ => by
    refine ⟨g, c, δ, ok, er, ?_⟩
    unfold tryS at h
    cases e : mb δ c with
    | nx δ' c' => rw [e] at h; exact h
    | rt d c' => rw [e] at h; exact h
    | bk δ' c' => rw [e] at h; exact h
    | ct δ' c' => rw [e] at h; exact h
    | bad => rw [e] at h; exact h
    | exc C' xs δ' c' =>
      rw [e] at h
      dsimp only at h
      intro g' H' σ' dx X' ea
      cases et : tab.lookup C' with
      | none => rw [et] at h; exact h.elim
      | some b =>
        rw [et] at h
        refine ⟨b, T C' b et, fun hb a _ => ?_, fun hb => ?_⟩
        · subst hb
          exact ⟨g', c', δ', X'.ok, X'.er, ks.back X' (calm_ok h)⟩
        · subst hb
          exact h g' H' σ' dx X' ea
end
end DL

namespace DL
open PySem PySem.Spec PyProof.Rows L2

def PDO (X : Cx) (CE : CEnv) (W : WX) (e : Option Expr) (m : Ev' → M (Option Int)) : Prop := PO X e (fun σ H Q => ∃ g c δ, SOk CE X.K g H c ∧ EnvR CE X.K g H σ δ ∧
  wpo (m δ c) (fun i c' => ∀ g' H', Post CE X.K g H c g' H' c' → Q i H') (EK CE X.K W g H c σ))
def noO : Ev' → M (Option Int) := fun _ c => .ok none c
def someO (m : EM) : Ev' → M (Option Int) := fun δ => bnd (m δ) fun d => fun c => match d with
  | .int i => .ok (some i) c
  | _ => .bad
def cutD (xs : List D) (lo hi : Option Int) : List D := (xs.drop (HT.sIx xs.length 0 lo)).take (HT.sIx xs.length xs.length hi - HT.sIx xs.length 0 lo)
/-- a slice of a list (a new one) -/
def slL (d : D) (lo hi : Option Int) (c : Cells) : Option D := match d with
  | .str z => if z.length ≤ sizeLine then some (.str (cutS z lo hi)) else none
  | .tup xs => some (.tup (cutD xs lo hi))
  | d => (rlistOf d c).map fun xs => .lst (cutD xs lo hi)
def slE (m : EM) (ml mh : Ev' → M (Option Int)) : EM := fun δ => bnd (m δ) fun d => bnd (ml δ) fun lo => bnd (mh δ) fun hi => fun c => opt (slL d lo hi c) c
theorem Reps.cut {CE : CEnv} {K : PySem.W.Frag} {g : Gh} {H : Hp} {xs : List D} {vs : List V} {lo hi : Option Int} (r : Reps CE K g H xs vs) : Reps CE K g H (cutD xs lo hi) (cutV vs lo hi) := by
  unfold cutD cutV
  rw [Reps.length r]
  exact Reps.take _ (Reps.drop _ r)
theorem cutD_len {xs : List D} {lo hi : Option Int} : (cutD xs lo hi).length ≤ xs.length := by
  unfold cutD
  rw [List.length_take, List.length_drop]
  omega
theorem cutD_all {xs : List D} {lo hi : Option Int} (h1 : HT.sIx xs.length 0 lo = 0) (h2 : HT.sIx xs.length xs.length hi = xs.length) : cutD xs lo hi = xs := by
  unfold cutD
  rw [h1, h2]
  simp
section
variable {X : Cx} {CE : CEnv} {W : WX} {pos p2 : Pos} {e : Expr} {lo hi : Option Expr} {m : EM} {ml mh : Ev' → M (Option Int)}
theorem pdo_none : PDO X CE W none noO := ⟨fun pins s σ H Q I ⟨g, c, δ, ok, er, h⟩ => po_none.run pins s σ H Q I (h g H (Post.refl ok))⟩
theorem pdo_some (h : PD X CE W e m) : PDO X CE W (some e) (someO m) := ⟨fun pins s σ H Q I ⟨g, c, δ, ok, er, h'⟩ => (po_some h).run pins s σ H Q I (by
  refine use ok er (wpo_bnd.mp h') (fun d c1 h g1 H1 v p1 r1 => ?_) fun _ _ _ z => z
  cases d <;> try exact h.elim
  simp only [Rep] at r1
  exact ⟨_, r1, h g1 H1 p1⟩)⟩
theorem getItem_tuple_whole {prog : Program} {w : World} {A : Around} {E : Value → Shared → Prop} {s : Shared} {t sl : Addr} {items : Array Value} {vl vu : Value} {lo hi : Option Int} {Q : Value → Shared → Prop} (ht : IsTup s.heap t items) (hs : s.heap.IsSliceOf sl vl vu .none) (pl : IsPart vl lo) (pu : IsPart vu hi)
    (h0 : HT.sIx items.size 0 lo = 0) (h1 : HT.sIx items.size items.size hi = items.size) (h : Q (.ref t) s) : wpAny (model prog w) A (getItem (.ref t) (.ref sl)) Q E s := by
  have hTs : s.TypeIs (.ref sl) "slice" := by
    obtain ⟨os, hos, hcs, hds⟩ := id hs
    exact ⟨os, hos, hcs⟩
  unfold getItem
  try with_reducible refine wpAny_holding ?_
  first | refine wpAny_bind (wpAny_pure ?_) | skip
  refine wpAny_bind (wpAny_sequenceKey ht.typeIs (by decide) ?_)
  refine wpAny_bind (wpAny_callSpecial?_slot (name := Str.ofString "__getitem__") ht.typeIs PyProof.Rows.slot_tuple_getitem
    (wpAny_call_entry PyProof.Rows.slot_tuple_getitem ht.typeIs entry_tuple_getitem ?_ (args_tuple_getitem _ _)))
  show wpAny _ _ (Builtin.Tuple.tupleItemsOf (.ref t) >>= _) _ _ s
  refine wpAny_bind (tupleItemsOf_ ht ?_)
  refine wpAny_bind (wpAny_typeOf hTs ?_)
  rw [if_pos (by decide)]
  refine wpAny_bind (HT.sliceApplied_gen hs pl pu ?_)
  have hyes : ((((HT.sIx items.size 0 lo : Nat) : Int) == 0 && (1 : Int) == 1 && (HT.sIx items.size items.size hi - HT.sIx items.size 0 lo) == items.size) = true) := by
    rw [h0, h1]; simp
  show wpAny _ _ (if (((HT.sIx items.size 0 lo : Nat) : Int) == 0 && (1 : Int) == 1 && (HT.sIx items.size items.size hi - HT.sIx items.size 0 lo) == items.size) = true then _ else _) _ _ s
  rw [if_pos hyes]
  unfold Builtin.Tuple.tupleIsExact
  refine wpAny_bind (wpAny_bind (wpAny_typeOf ht.typeIs (wpAny_pure ?_)))
  rw [if_pos (by decide)]
  exact wpAny_bind (wpAny_rule (wpAny_pure ⟨_, rfl, wpAny_pure h⟩))
theorem cut_all_tup : SlR X (fun x lo hi H Q => ∃ a xs, x = .ref a ∧ SqT X.K H a xs ∧ HT.sIx xs.length 0 lo = 0 ∧ HT.sIx xs.length xs.length hi = xs.length ∧ Q (.ref a) H) := by
  intro pins s σ H x v vl vu lo hi sl Q I rx hs pl pu ⟨a, xs, ex, hx, h0, h1, q⟩
  subst ex
  cases rx
  obtain ⟨its, r, ht, hz⟩ := I.tuple hx
  have hlen : its.toArray.size = xs.length := by rw [List.size_toArray]; exact r.length.symm
  exact ⟨"tuple", _, PyProof.Rows.slot_tuple_getitem.lookup, ht.typeIs, getItem_tuple_whole ht hs pl pu (by rw [hlen]; exact h0) (by rw [hlen]; exact h1) ⟨.ref a, H, I, rfl, q⟩⟩
theorem sl_ok : SlR X (fun x lo hi H Q => ∃ g c d z, SOk CE X.K g H c ∧ Rep CE X.K g H d x ∧ slL d lo hi c = some z ∧ ∀ g' H' v, Post CE X.K g H c g' H' c → Rep CE X.K g' H' z v → Q v H') := by
  intro pins s σ H x v vl vu lo hi sl Q I rx hs pl pu ⟨g, c, d, z, ok, r, ez, q⟩
  have gen : (rlistOf d c).map (fun xs => D.lst (cutD xs lo hi)) = some z → rSlL X.K x lo hi H Q := by
    intro ez
    obtain ⟨xs, e1, rfl⟩ := Option.map_eq_some_iff.mp ez
    obtain ⟨a, vs, rfl, h, hz, rr⟩ := rlistOf_at ok r e1
    exact ⟨a, vs, rfl, h, fun p hp => new_lst ok hp (Reps.cut rr) (Nat.le_trans cutD_len hz) q⟩
  cases d <;> try exact sl_list pins s σ H x v vl vu lo hi sl Q I rx hs pl pu (gen ez)
  case str zz =>
    simp only [slL] at ez
    split at ez
    · rename_i hz
      cases ez
      simp only [Rep] at r
      exact sl_str pins s σ H x v vl vu lo hi sl Q I rx hs pl pu ⟨zz, r, hz, q g H _ (Post.refl ok) rep_str⟩
    · cases ez
  case tup xs =>
    simp only [slL, Option.some.injEq] at ez
    subst ez
    simp only [Rep] at r
    obtain ⟨a, vs, rfl, h, hz, rr⟩ := r
    by_cases hh : HT.sIx xs.length 0 lo = 0 ∧ HT.sIx xs.length xs.length hi = xs.length
    · refine cut_all_tup pins s σ H _ v vl vu lo hi sl Q I rx hs pl pu ⟨a, vs, rfl, h, by rw [Reps.length rr]; exact hh.1, by rw [Reps.length rr]; exact hh.2, q g H _ (Post.refl ok) ?_⟩
      rw [cutD_all hh.1 hh.2]
      simp only [Rep]
      exact ⟨a, vs, rfl, h, hz, rr⟩
    · exact sl_tup pins s σ H _ v vl vu lo hi sl Q I rx hs pl pu ⟨a, vs, rfl, h, by rw [Reps.length rr]; exact hh, fun p hp => new_tup ok hp (Reps.cut rr) (Nat.le_trans cutD_len hz) q⟩
theorem pd_slice (he : PD X CE W e m) (hl : PDO X CE W lo ml) (hh : PDO X CE W hi mh) : PD X CE W (.Subscript e (.Slice lo hi none p2) pos) (slE m ml mh) :=
  (pe_slice (sl_ok (CE := CE)) he hl hh).wk fun σ H Q ⟨g, c, δ, ok, er, h⟩ => by
    refine use ok er (wpo_bnd.mp h) (fun d c1 h g1 H1 v p1 r1 => ?_) fun _ _ _ z => z
    refine ⟨g1, c1, δ, p1.ok, er.mono ok p1.ext, wpo_mono (wpo_bnd.mp h) (fun i c2 h g2 H2 p2 => ?_) fun _ _ _ z => EK.back p1 z⟩
    have p12 := p1.trans p2
    refine ⟨g2, c2, δ, p2.ok, er.mono ok p12.ext, wpo_mono (wpo_bnd.mp h) (fun j c3 h g3 H3 p3 => ?_) fun _ _ _ z => EK.back p12 z⟩
    obtain ⟨z, ez, h⟩ := opt_ok h
    exact ⟨g3, c3, d, z, p3.ok, Rep.mono p1.ok (p2.trans p3).ext r1, ez, fun g4 H4 v4 p4 r4 => h g4 H4 v4 ((p12.trans p3).trans p4) r4⟩
end
end DL

namespace DL
open PySem PySem.Spec PyProof.Rows L2

mutual
def KC (K : PySem.W.Frag) : D → Value → Prop
  | .non, u => u = .none
  | .bl b, u => u = .bool b
  | .int i, u => ∃ t, u = .int i t
  | .str x, u => ∃ t, u = .str x t
  | .tup ds, u => ∃ (a : Addr) (o : Obj) (its : List Value) (n : Nat), u = .ref a ∧ K.lookup a = some o ∧ o.cls = .type "tuple" ∧ o.data = .seq its.toArray n ∧ its.length ≤ sizeLine ∧ KCs K ds its
  | .rol ds, u => ∃ (a : Addr) (o : Obj) (its : List Value) (n : Nat), u = .ref a ∧ K.lookup a = some o ∧ o.cls = .type "list" ∧ o.dict = none ∧ o.data = .seq its.toArray n ∧ its.length ≤ sizeLine ∧ KCs K ds its
  | _, _ => False
def KCs (K : PySem.W.Frag) : List D → List Value → Prop
  | [], us => us = []
  | d :: ds, us => ∃ u r, us = u :: r ∧ KC K d u ∧ KCs K ds r
end
theorem KC.rep {CE : CEnv} {K : PySem.W.Frag} : (∀ {d : D} {u : Value}, KC K d u → ∃ v, RelV v u ∧ ∀ g H, Rep CE K g H d v) := by
  have := fun d => D.rec (motive_1 := fun d => ∀ u : Value, KC K d u → ∃ v, RelV v u ∧ ∀ g H, Rep CE K g H d v)
    (motive_2 := fun ds => ∀ us : List Value, KCs K ds us → ∃ vs, Vals vs us ∧ ∀ g H, Reps CE K g H ds vs)
    (fun u h => ⟨.non, by simp only [KC] at h; exact h, fun _ _ => rep_non⟩)
    (fun b u h => ⟨.bl b, by simp only [KC] at h; exact h, fun _ _ => rep_bl⟩)
    (fun i u h => ⟨.int i, by simp only [KC] at h; exact h, fun _ _ => rep_int⟩)
    (fun i u h => ⟨.str i, by simp only [KC] at h; exact h, fun _ _ => rep_str⟩)
    (fun ds ih u h => by
      simp only [KC] at h
      obtain ⟨a, o, its, n, rfl, h1, h2, h3, h4, h5⟩ := h
      obtain ⟨vs, rv, rr⟩ := ih _ h5
      refine ⟨.ref a, rfl, fun g H => ?_⟩
      simp only [Rep]
      exact ⟨a, vs, rfl, .inr ⟨o, its.toArray, n, h1, h2, h3, by simpa using h4, by simpa using rv⟩, by rw [← Reps.length (rr g H), rv.length]; exact h4, rr g H⟩)
    (fun ds ih u h => by simp only [KC] at h)
    (fun C ds ih u h => by simp only [KC] at h)
    (fun k u h => by simp only [KC] at h)
    (fun k u h => by simp only [KC] at h)
    (fun k u h => by simp only [KC] at h)
    (fun ds ih u h => by
      simp only [KC] at h
      obtain ⟨a, o, its, n, rfl, h1, h2, h3, h3', h4, h5⟩ := h
      obtain ⟨vs, rv, rr⟩ := ih _ h5
      refine ⟨.ref a, rfl, fun g H => ?_⟩
      simp only [Rep]
      exact ⟨a, vs, rfl, .inr fun H' => .inr ⟨o, its.toArray, n, h1, h2, h3, h3', by simpa using h4, by simpa using rv⟩, by rw [← Reps.length (rr g H), rv.length]; exact h4, rr g H⟩)
    (fun us h => by
      simp only [KCs] at h
      subst h
      exact ⟨[], .nil, fun _ _ => Reps.nil⟩)
    (fun d ds ih ihs us h => by
      simp only [KCs] at h
      obtain ⟨u, r, rfl, h1, h2⟩ := h
      obtain ⟨v, rv, rr⟩ := ih _ h1
      obtain ⟨vs, rvs, rrs⟩ := ihs _ h2
      exact ⟨v :: vs, .cons rv rvs, fun g H => Reps.cons (rr g H) (rrs g H)⟩) d
  exact fun {d u} h => this d u h
/-- the module's name x holds the constant d -/
def Con (K : PySem.W.Frag) (mg : PySem.Str → Option Value) (x : PySem.Str) (d : D) : Prop := ∃ u, mg x = some u ∧ KC K d u
section
variable {X : Cx} {CE : CEnv} {W : WX} {pos p : Pos} {e o : Expr} {es : List Expr} {m mo : EM} {ms : Ev' → M (List D)} {x : PySem.Str} {d : D}
theorem pd_con (hg : Gl X x) (h : Con X.K X.mg x d) (hd : (x == ("__debug__" : PySem.Str)) = false := by decide) : PD X CE W (.Name x pos) (litE d) := by
  obtain ⟨u, hm, hk⟩ := h
  obtain ⟨v, rv, rr⟩ := KC.rep (CE := CE) hk
  exact pd_c (pe_glob hg hm rv hd) rr
/-- a class or a type as a value -/
theorem pd_clsV {C : Nat} (hg : Gl X x) (h : X.mg x = some (.ref (CE C).1)) (hd : (x == ("__debug__" : PySem.Str)) = false := by decide) : PD X CE W (.Name x pos) (litE (.cls C)) :=
  pd_c (pe_glob (v := .ref (CE C).1) hg h rfl hd) fun _ _ => by simp only [Rep]
theorem pd_tyV {n : String} (hg : Gl X x) (h : X.mg x = none) (hv : bootBuiltins x = some (.type n)) (hn : x ≠ "__name__" := by decide) (hd : (x == ("__debug__" : PySem.Str)) = false := by decide) : PD X CE W (.Name x pos) (litE (.ty n)) :=
  pd_c (pe_bltn (v := .ty n) hg h hv rfl hn hd) fun _ _ => by simp only [Rep]
def starA (m : EM) (ms : Ev' → M (List D)) : Ev' → M (List D) := fun δ => bnd (m δ) fun d => bnd (fun c => opt (seqOf d c) c) fun xs => bnd (ms δ) fun ys => DL.ret (xs ++ ys)
theorem pda_star (he : PD X CE W e m) (hr : PDA X CE W es ms) (hs : starEach (.Starred e p :: es) X.env = (true, eval e X.env) :: starEach es X.env := by rfl) : PDA X CE W (.Starred e p :: es) (starA m ms) :=
  (StX.pa_star he hr hs).wk fun σ H Q ⟨g, c, δ, ok, er, h⟩ => by
    replace h := wpo_bnd.mp h
    refine use ok er h (fun d c1 h g1 H1 v p1 r1 => ?_) fun _ _ _ z => z
    replace h := wpo_bnd.mp h
    obtain ⟨xs, ex, h⟩ := opt_ok h
    obtain ⟨a, vs, rfl, hx, hz, rr⟩ := seqOf_at p1.ok r1 ex
    refine ⟨a, vs, rfl, hx.symm, ?_⟩
    replace h := wpo_bnd.mp h
    refine useA p1.ok (er.mono ok p1.ext) h (fun ds c2 h g2 H2 ws p2 r2 => ?_) fun _ _ _ z => EK.back p1 z
    exact h g2 H2 _ (p1.trans p2) (Reps.append (Reps.mono p1.ok p2.ext rr) r2)
end
def chars (x : PySem.Str) : List D := x.cps.toList.map fun n => .str ⟨#[n]⟩
def listG (ds : List D) (c : Cells) : Option D := match ds with
  | [.str x] => if x.length ≤ sizeLine then some (.lst (chars x)) else none
  | ds => listF ds c
theorem reps_chars {CE : CEnv} {K : PySem.W.Frag} {g : Gh} {H : Hp} : ∀ {l : List Nat}, Reps CE K g H (l.map fun n => .str ⟨#[n]⟩) (l.map fun n => V.str ⟨#[n]⟩)
  | [] => Reps.nil
  | _ :: _ => Reps.cons rep_str reps_chars
section
variable {X : Cx} {CE : CEnv} {W : WX} {pos p : Pos} {e o : Expr} {es : List Expr} {m mo : EM} {ms : Ev' → M (List D)} {x : PySem.Str} {d : D}
theorem cd_listG (hcalm : X.calm = true) : CallR X (.type "list") (rDA CE X.K listG) := by
  intro pins s σ H xs us Q I r ⟨g, c, ds, z, ok, r1, ez, q⟩
  by_cases hs : ∃ x, ds = [.str x]
  · obtain ⟨x, rfl⟩ := hs
    simp only [listG] at ez
    split at ez
    · rename_i hx
      cases ez
      obtain ⟨v, rfl, h1⟩ := reps1 r1
      simp only [Rep] at h1
      subst h1
      cases r with
      | cons rx r =>
        cases r
        obtain ⟨t, rfl⟩ := rx
        have hp : H s.heap.objs.size = none := I.hok.fresh (Nat.le_refl _)
        refine call_list_str (I.ok.hd hcalm) x t (fun h' tk acc' c' hk hS hacc => ?_) (by exact hx)
        have el : acc'.toList.length = acc'.size := by simp
        refine ⟨.ref s.heap.objs.size, upd H s.heap.objs.size (.lst (x.cps.toList.map fun n => V.str ⟨#[n]⟩)), I.laid hk (Nat.le_refl _) (show ObjOk X.prog X.w _ _ _ (.lst _) from ⟨?_, acc'.toList, c', ?_, ?_⟩), rfl, new_lst ok hp reps_chars ?_ q⟩
        · rw [List.length_map, Array.length_toList]; exact hx
        · refine L2.vals_of_at (by rw [List.length_map, el, hacc.1]; simp) fun j y w h1 h2 => ?_
          obtain ⟨cc, k, e1, rfl⟩ := hacc.2 j w (by rw [← Array.getElem?_toList]; exact h2)
          rw [List.getElem?_map, Array.getElem?_toList, e1] at h1
          cases h1
          exact ⟨k, rfl⟩
        · simpa using hS
        · rw [List.length_map, Array.length_toList]; exact hx
    · cases ez
  · have ez' : listF ds c = some z := by
      unfold listG at ez
      split at ez
      · exact absurd ⟨_, rfl⟩ hs
      · exact ez
    exact cd_list pins s σ H xs us Q I r ⟨g, c, ds, z, ok, r1, ez', q⟩
def upF (d : D) (_ : Cells) : Option D := match d with
  | .str a => if a.length ≤ 5592405 then some (.str (Txt.upper a)) else none
  | _ => none
def lowF (d : D) (_ : Cells) : Option D := match d with
  | .str a => if a.length ≤ 5592405 then some (.str (Txt.lower a)) else none
  | _ => none
theorem pd_upper {apos : Pos} (ho : PD X CE W o mo) (hbase : attributeBase o "upper" X.env (eval o X.env) = eval o X.env := by rfl) (hline : (apos.endLine == pos.line) = true := by rfl) :
    PD X CE W (.Call (.Attribute o "upper" apos) [] [] pos) (un1 upF mo) :=
  (pe_upper ho hbase hline).wk fun σ H Q ⟨g, c, δ, ok, er, h⟩ => by
    replace h := wpo_bnd.mp h
    refine use ok er h (fun d c1 h g1 H1 v p1 r1 => ?_) fun _ _ _ z => z
    obtain ⟨z, ez, h⟩ := opt_ok h
    unfold upF at ez
    split at ez
    · split at ez
      · rename_i a ha
        cases ez
        simp only [Rep] at r1
        subst r1
        exact ⟨⟨_, rfl⟩, a, rfl, rfl, ha, h g1 H1 _ p1 rep_str⟩
      · cases ez
    · cases ez
theorem pd_lower {apos : Pos} (ho : PD X CE W o mo) (hbase : attributeBase o "lower" X.env (eval o X.env) = eval o X.env := by rfl) (hline : (apos.endLine == pos.line) = true := by rfl) :
    PD X CE W (.Call (.Attribute o "lower" apos) [] [] pos) (un1 lowF mo) :=
  (pe_lower ho hbase hline).wk fun σ H Q ⟨g, c, δ, ok, er, h⟩ => by
    replace h := wpo_bnd.mp h
    refine use ok er h (fun d c1 h g1 H1 v p1 r1 => ?_) fun _ _ _ z => z
    obtain ⟨z, ez, h⟩ := opt_ok h
    unfold lowF at ez
    split at ez
    · split at ez
      · rename_i a ha
        cases ez
        simp only [Rep] at r1
        subst r1
        exact ⟨⟨_, rfl⟩, a, rfl, rfl, ha, h g1 H1 _ p1 rep_str⟩
      · cases ez
    · cases ez
end
end DL

namespace DL
open PySem PySem.Spec PyProof.Rows L2

theorem huD {A : Around} {k : Nat} (hr : Room k A) : A.units + 64 < cLine := by have := hr.un; omega
theorem huE {A : Around} {k : Nat} (hr : Room k A) : A.units + 65 < cLine := by have := hr.un; omega
/-- what the law is asked, as its caller hears it -/
def spLaw (K : PySem.W.Frag) : Sp := fun vs H Q E => ∃ (a : Addr) (ns : List Int), vs = [.ref a] ∧ ns.length ≤ 63 ∧ Only H ∧ SqL K H a (ns.map V.int) ∧ ∀ H', Q (.bl true) H'
section
variable {P : Program} {w : World} {K : PySem.W.Frag} {mg : PySem.Str → Option Value} {base : Heap} {CE : CEnv}
theorem reps_ints {g : Gh} {H : Hp} : ∀ {ns : List Int}, Reps CE K g H (ns.map D.int) (ns.map V.int)
  | [] => Reps.nil
  | _ :: _ => Reps.cons rep_int reps_ints
theorem law_end {k : Nat} {f : Addr} {fd : FuncData} {ps : List PySem.Str} {m : List D → M D} (F : FnD P w K mg base CE k f fd ps m) (h1 : ps.length = 1)
    (h : ∀ ns : List Int, ns.length ≤ 63 → ∃ c, m [.rol (ns.map D.int)] [] = .ok (.bl true) c) : FnOk P w K mg base (L2.CX P w) k f fd ps (spLaw K) :=
  F.ok.imp fun vs H Q E ⟨a, ns, ev, hl, hO, hS, q⟩ => by
    subst ev
    have rd : (∃ o, H a = some (.frz o (.lst (ns.map V.int)))) ∨ (∀ H', SqL K H' a (ns.map V.int)) := by
      rcases hS with hS | hS
      · rcases hS with hS | ⟨o, hS⟩
        · rcases hO a with e | ⟨o, xs, e⟩
          · rw [e] at hS; cases hS
          · rw [e] at hS; cases hS
        · exact .inl ⟨o, hS⟩
      · exact .inr fun H' => .inr hS
    obtain ⟨c, e⟩ := h ns hl
    have ok : SOk CE K ⟨fun _ => False, []⟩ H [] := ⟨rfl, List.nodup_nil, fun a ⟨k, x, z, _⟩ => by simp at z, fun k a x z => by simp at z, fun a z => z.elim, fun a z => by simp at z⟩
    refine ⟨⟨fun _ => False, []⟩, [], [.rol (ns.map D.int)], ok, ?_, h1.symm, ?_⟩
    · refine Reps.one ?_
      simp only [Rep]
      exact ⟨a, ns.map V.int, rfl, rd, by rw [List.length_map]; exact Nat.le_trans hl (by decide), reps_ints⟩
    · rw [e]
      intro g' H' v p r
      simp only [Rep] at r
      subst r
      exact q H'
end
theorem law_walk {l : PySem.W.OpenLaw} {q : Program} {loose : List PySem.Str} {XP : (PySem.Str → Option Value) → Heap → Prop} {YP : World → Heap → Prop} {d : DefRec} {K : Params → PySem.W.Frag} (k : Nat) (hn : l.most = some 63) (hdf : d.params.defaults = []) (hr : Room k callerA)
    (hY : ∀ (w : World) (h : Heap), YP w h → (K w.params).In h)
    (F : ∀ (w : World) (mg : PySem.Str → Option Value) (fa : Addr) (h : Heap), (K w.params).In h → h.Ns mainGlobals mg → mg d.name = some (.ref fa) →
      ∃ fd : FuncData, (∀ (s : Shared) (u : Value), BindsTo s fd ⟨[u], []⟩ [("script", u)]) ∧ ∀ base : Heap, (K w.params).In base → base.Ns mainGlobals mg → FnOk l.prog w (K w.params) mg base (L2.CX l.prog w) k fa fd ["script"] (spLaw (K w.params))) :
    PySem.W.WalkO q loose XP YP l.row.toRowW d [] (fun f vs => PySem.call f vs) :=
  walk_of (CX := fun w => L2.CX l.prog w) (sp := fun w => spLaw (K w.params)) hn (by decide) hdf hr hY F (fun w H a ns hl hO hS => ⟨a, ns, rfl, hl, hO, hS, fun _ => rfl⟩)
    fun w H s e s' ⟨_, _, _, _, _, _, _, _, _, _, _, _, z⟩ => z
end DL

namespace DL
open PySem PySem.Spec PyProof.Rows L2

def blkB (N : List PySem.Str) (sc scope : Scope) (own : List (PySem.Str × Nat)) : Bool :=
  (scope.kind == .function) && (scope.names.all fun y => scope.names.lookup y.1 == some y.2) && (own.all fun p => N[p.2]? == some p.1) &&
    (scope.names.all fun y => !(y.2 == .free) || (sc.names.lookup y.1 == some .cell || sc.names.lookup y.1 == some .free)) &&
    (scope.names.all fun y => !(y.2 == .local || y.2 == .cell) || ((own.map (·.1)).contains y.1 || !(N.contains y.1)))
theorem blkT {N : List PySem.Str} {sc scope : Scope} {own : List (PySem.Str × Nat)} (h : blkB N sc scope own = true) : BlkOk N sc scope own := by
  unfold blkB at h
  simp only [Bool.and_eq_true, List.all_eq_true, Bool.or_eq_true, Bool.not_eq_true', beq_iff_eq] at h
  obtain ⟨⟨⟨⟨h1, h2⟩, h3⟩, h4⟩, h5⟩ := h
  refine ⟨by simpa using h1, fun y hy => by simpa using h2 y hy, fun p hp => by simpa using h3 p hp, fun y hy e => ?_, fun y hy e => ?_⟩
  · rcases h4 y hy with z | z
    · rw [e] at z; cases z
    · simpa using z
  · rcases h5 y hy with z | z
    · rcases e with e | e <;> (rw [e] at z; simp at z)
    · simpa using z
section
variable {P : Program} {w : World} {K : PySem.W.Frag} {mg : PySem.Str → Option Value} {base : Heap} {CE : CEnv} {k : Nat} {f : Addr}
/-- nothing is promised -/
theorem FnP.non : FnP P w K mg base CE k f (fun _ => stuck) := fun A outer s H us vs Q E hr e0 r ⟨g, c, ds, ok, rr, q⟩ => q.elim
end
section
variable {K : PySem.W.Frag} {mg : PySem.Str → Option Value} {x : PySem.Str} {a : Addr} {o : Obj} {ds : List D}
def KTup (K : PySem.W.Frag) (o : Obj) (ds : List D) : Prop := ∃ (its : List Value) (n : Nat), o.cls = .type "tuple" ∧ o.data = .seq its.toArray n ∧ its.length ≤ sizeLine ∧ KCs K ds its
def KLst (K : PySem.W.Frag) (o : Obj) (ds : List D) : Prop := ∃ (its : List Value) (n : Nat), o.cls = .type "list" ∧ o.dict = none ∧ o.data = .seq its.toArray n ∧ its.length ≤ sizeLine ∧ KCs K ds its
theorem conKTup (h : mg x = some (.ref a)) (l : K.lookup a = some o) (t : KTup K o ds) : Con K mg x (.tup ds) := by
  obtain ⟨its, n, t1, t2, t3, t4⟩ := t
  refine ⟨_, h, ?_⟩
  simp only [KC]
  exact ⟨a, o, its, n, rfl, l, t1, t2, t3, t4⟩
theorem conKLst (h : mg x = some (.ref a)) (l : K.lookup a = some o) (t : KLst K o ds) : Con K mg x (.rol ds) := by
  obtain ⟨its, n, t1, t2, t3, t4, t5⟩ := t
  refine ⟨_, h, ?_⟩
  simp only [KC]
  exact ⟨a, o, its, n, rfl, l, t1, t2, t3, t4, t5⟩
theorem kc_str {z : PySem.Str} {t : Tok} : KC K (.str z) (.str z t) := by simp only [KC]; exact ⟨t, rfl⟩
theorem kc_int {z : Int} {t : Tok} : KC K (.int z) (.int z t) := by simp only [KC]; exact ⟨t, rfl⟩
theorem kc_bl {z : Bool} : KC K (.bl z) (.bool z) := by simp only [KC]
theorem kc_non : KC K .non .none := by simp only [KC]
theorem kcs_nil : KCs K [] [] := by simp only [KCs]
theorem kcs_cons {d : D} {u : Value} {us : List Value} (h : KC K d u) (t : KCs K ds us) : KCs K (d :: ds) (u :: us) := by simp only [KCs]; exact ⟨u, us, rfl, h, t⟩
theorem isOk_nil {CE : CEnv} : IsOk K CE [] := ⟨fun _ h => by simp at h, fun _ h => by simp at h, fun _ h => by simp at h, fun _ h => by simp at h⟩
end
end DL

namespace DL
open PySem PySem.Spec PyProof.Rows L2

def b_start : SM := retS (lstC (consA (callB listG (consA (varE 0) (nilA))) (consA (litE (.int 0)) (consA (litE (.int 0)) (consA (litE (.int 0)) (consA (litE (.int 0)) (consA (litE (.bl false)) (nilA))))))))
def m_start : List D → M D := runD 1 1 b_start
def b_drawA : SM := seqS (setIxS (varE 0) (litE (.int 2)) (callB intF (consA (bin ixP (bin ixP (varE 0) (litE (.int 0))) (bin ixP (varE 0) (litE (.int 1)))) (nilA)))) (seqS (setIxS (varE 0) (litE (.int 1)) (bin addP (bin ixP (varE 0) (litE (.int 1))) (litE (.int 1)))) (seqS (setIxS (varE 0) (litE (.int 3)) (litE (.int 8))) (seqS (setIxS (varE 0) (litE (.int 4)) (litE (.int 0))) (seqS (setIxS (varE 0) (litE (.int 5)) (bin geP (bin ixP (varE 0) (litE (.int 2))) (bin powP (litE (.int 10)) (litE (.int 18))))) (ifS (tstE (bin ixP (varE 0) (litE (.int 5)))) (setIxS (varE 0) (litE (.int 3)) (litE (.int 60))) (nilS))))))
def b_drawB : SM := seqS (setS 4 (bin modP (callB intF (consA (bin ixP (varE 0) (litE (.int 2))) (nilA))) (varE 1))) (seqS (setIxS (varE 0) (litE (.int 2)) (bin fdivP (callB intF (consA (bin ixP (varE 0) (litE (.int 2))) (nilA))) (varE 1))) (seqS (ifS (boolE (bin eqP (bin ixP (varE 0) (litE (.int 2))) (litE (.int 0)))) (setIxS (varE 0) (litE (.int 3)) (litE (.int 0))) (nilS)) (retS (varE 4))))
def b_drawC : SM := seqS (setS 2 (bin ixP (varE 0) (litE (.int 4)))) (seqS (setS 3 (bin modP (callB intF (consA (bin mulP (bin ixP (varE 0) (litE (.int 2))) (litE (.int 48271))) (nilA))) (litE (.int 2147483647)))) (seqS (setS 3 (bin modP (callB intF (consA (bin mulP (varE 3) (bin addP (bin addP (bin mulP (bin mulP (litE (.int 69621)) (varE 2)) (varE 2)) (bin mulP (litE (.int 40014)) (varE 2))) (litE (.int 1)))) (nilA))) (litE (.int 2147483399)))) (retS (bin modP (callB intF (consA (varE 3) (nilA))) (varE 1)))))
def b_draw : SM := seqS (ifS (andT (boolE (bin eqP (bin ixP (varE 0) (litE (.int 3))) (litE (.int 0)))) (boolE (bin ltP (bin ixP (varE 0) (litE (.int 1))) (callB lenP (consA (bin ixP (varE 0) (litE (.int 0))) (nilA)))))) b_drawA (nilS)) (seqS (ifS (orT (boolE (bin eqP (bin ixP (varE 0) (litE (.int 3))) (litE (.int 0)))) (boolE (bin ltP (varE 1) (litE (.int 2))))) (retS (litE (.int 0))) (nilS)) (seqS (setIxS (varE 0) (litE (.int 3)) (bin subP (bin ixP (varE 0) (litE (.int 3))) (litE (.int 1)))) (seqS (setIxS (varE 0) (litE (.int 4)) (bin addP (bin ixP (varE 0) (litE (.int 4))) (litE (.int 1)))) (seqS (ifS (tstE (bin ixP (varE 0) (litE (.int 5)))) b_drawB (nilS)) b_drawC))))
def m_draw : List D → M D := runD 5 2 b_draw

structure Dr where
  ns : List Int
  p : Nat
  v : Int
  l : Int
  s : Int
  b : Bool
def Dr.cell (d : Dr) : Cell := .lst [.lst (d.ns.map .int), .int d.p, .int d.v, .int d.l, .int d.s, .bl d.b]
structure Dr.Ok (d : Dr) : Prop where
  len : d.ns.length ≤ 63
  l : 0 ≤ d.l
  s : 0 ≤ d.s
  ls : d.l + d.s ≤ 60

section
variable {cs : Cells} {xs : List D} {d : D} {δ : Ev'} {i n : Int}
theorem start_eq {ns : List Int} (h : ns.length ≤ 63) {c : Cells} : m_start [.rol (ns.map .int)] c = .ok (.cell c.length) (c ++ [Dr.cell ⟨ns, 0, 0, 0, 0, false⟩]) := by
  simp [m_start, runD, startD, b_start, retS, lstC, bnd, Out.bnd, consA, callB, nilA, varE, opt, listG, listF, seqOf, rlistOf, DL.ret, litE, Out.thenS, Res.out, Dr.cell, sizeLine]
def Dr.next (d : Dr) : Dr := if d.l = 0 ∧ d.p < d.ns.length then ⟨d.ns, d.p + 1, d.ns.getD d.p 0, if d.ns.getD d.p 0 ≥ 10 ^ 18 then 60 else 8, 0, decide (d.ns.getD d.p 0 ≥ 10 ^ 18)⟩ else d
abbrev drE (n : Int) (x y z : Slot) : Ev' := [.sh (.cell 0), .sh (.int n), x, y, z]
theorem drawA_eq {d : Dr} {x y z : Slot} (h0 : d.l = 0) (h : d.p < d.ns.length) : b_drawA (drE n x y z) (d.cell :: cs) = .nx (drE n x y z) (d.next.cell :: cs) := by
  obtain ⟨ns, p, v, l, s, b⟩ := d
  dsimp only at h0 h
  subst h0
  by_cases hb : (1000000000000000000 : Int) ≤ ns[p]
  · have hb' : ¬ ns[p] < (1000000000000000000 : Int) := by omega
    simp [Dr.next, h, hb, hb', b_drawA, Dr.cell, drE, seqS, Res.seq, setIxS, setS, exprS, retS, retN, ifS, nilS, brkS, cntS, callB, callM, intF, boolF, consA, nilA, starA, bin, un1, negP, bnd, Out.bnd, Out.thenS, opt, varE, litE, ixP, seqOf, rlistOf, listOf, L2.atI, L2.ixN, DL.setItem, DL.ret, addP, subP, mulP, modP, fdivP, powP, intP, geP, leP, gtP, ltP, ltB, eqP, neP, eqB, eqS, tstE, truB, boolE, andT, orT, notT, andE, orE, notE, ifE, chainE, tupE, lstE, lstC, isNP, notNP, isNon, lenP, runD, Res.out, startD, itE, itR, seqF, rng1, rng2, forS, tgN, tgT, tgCons, tgNil, slE, slL, noO, someO]
  · have hb' : ns[p] < (1000000000000000000 : Int) := by omega
    simp [Dr.next, h, hb, hb', b_drawA, Dr.cell, drE, seqS, Res.seq, setIxS, setS, exprS, retS, retN, ifS, nilS, brkS, cntS, callB, callM, intF, boolF, consA, nilA, starA, bin, un1, negP, bnd, Out.bnd, Out.thenS, opt, varE, litE, ixP, seqOf, rlistOf, listOf, L2.atI, L2.ixN, DL.setItem, DL.ret, addP, subP, mulP, modP, fdivP, powP, intP, geP, leP, gtP, ltP, ltB, eqP, neP, eqB, eqS, tstE, truB, boolE, andT, orT, notT, andE, orE, notE, ifE, chainE, tupE, lstE, lstC, isNP, notNP, isNon, lenP, runD, Res.out, startD, itE, itR, seqF, rng1, rng2, forS, tgN, tgT, tgCons, tgNil, slE, slL, noO, someO]
theorem Dr.Ok.next {d : Dr} (o : d.Ok) : d.next.Ok := by
  unfold Dr.next
  split
  · refine ⟨o.len, ?_, Int.le_refl _, ?_⟩ <;> (dsimp only; split <;> omega)
  · exact o
/-- the draw -/
theorem draw_ex {d : Dr} (o : d.Ok) (hn : n.natAbs.log2 < 9000) (h1 : 1 ≤ n) : ∃ (v : Int) (e : Dr), e.Ok ∧ 0 ≤ v ∧ v < n ∧ ∀ cs, m_draw [.cell 0, .int n] (d.cell :: cs) = .ok (.int v) (e.cell :: cs) := by
  have o' := o.next
  have step : ∀ cs, m_draw [.cell 0, .int n] (d.cell :: cs) = (seqS (ifS (orT (boolE (bin eqP (bin ixP (varE 0) (litE (.int 3))) (litE (.int 0)))) (boolE (bin ltP (varE 1) (litE (.int 2))))) (retS (litE (.int 0))) (nilS)) (seqS (setIxS (varE 0) (litE (.int 3)) (bin subP (bin ixP (varE 0) (litE (.int 3))) (litE (.int 1)))) (seqS (setIxS (varE 0) (litE (.int 4)) (bin addP (bin ixP (varE 0) (litE (.int 4))) (litE (.int 1)))) (seqS (ifS (tstE (bin ixP (varE 0) (litE (.int 5)))) b_drawB (nilS)) b_drawC))) (drE n .un .un .un) (d.next.cell :: cs)).out := by
    intro cs
    by_cases h0 : d.l = 0 ∧ d.p < d.ns.length
    · have e := drawA_eq (n := n) (cs := cs) (x := .un) (y := .un) (z := .un) h0.1 h0.2
      have t : (andT (boolE (bin eqP (bin ixP (varE 0) (litE (.int 3))) (litE (.int 0)))) (boolE (bin ltP (bin ixP (varE 0) (litE (.int 1))) (callB lenP (consA (bin ixP (varE 0) (litE (.int 0))) (nilA)))))) (drE n .un .un .un) (d.cell :: cs) = .ok true (d.cell :: cs) := by
        obtain ⟨ns, p, v, l, s, b⟩ := d
        obtain ⟨h0, h⟩ := h0
        dsimp only at h0 h
        subst h0
        simp [h, Dr.cell, drE, seqS, Res.seq, setIxS, setS, exprS, retS, retN, ifS, nilS, brkS, cntS, callB, callM, intF, boolF, consA, nilA, starA, bin, un1, negP, bnd, Out.bnd, Out.thenS, opt, varE, litE, ixP, seqOf, rlistOf, listOf, L2.atI, L2.ixN, DL.setItem, DL.ret, addP, subP, mulP, modP, fdivP, powP, intP, geP, leP, gtP, ltP, ltB, eqP, neP, eqB, eqS, tstE, truB, boolE, andT, orT, notT, andE, orE, notE, ifE, chainE, tupE, lstE, lstC, isNP, notNP, isNon, lenP, runD, Res.out, startD, itE, itR, seqF, rng1, rng2, forS, tgN, tgT, tgCons, tgNil, slE, slL, noO, someO]
      unfold m_draw b_draw
      simp only [runD, List.length_cons, List.length_nil, if_true, startD, List.map_cons, List.map_nil, List.replicate, List.cons_append, List.nil_append, ifS, Nat.reduceAdd, Nat.reduceSub, seqS]
      rw [t]
      simp only [Out.thenS, if_true]
      rw [e]
      simp only [Res.seq]
      rfl
    · have en : d.next = d := if_neg h0
      have t : (andT (boolE (bin eqP (bin ixP (varE 0) (litE (.int 3))) (litE (.int 0)))) (boolE (bin ltP (bin ixP (varE 0) (litE (.int 1))) (callB lenP (consA (bin ixP (varE 0) (litE (.int 0))) (nilA)))))) (drE n .un .un .un) (d.cell :: cs) = .ok false (d.cell :: cs) := by
        obtain ⟨ns, p, v, l, s, b⟩ := d
        dsimp only at h0
        by_cases hl : l = 0
        · subst hl
          have h : ¬ p < ns.length := fun h => h0 ⟨rfl, h⟩
          simp [h, Dr.cell, drE, seqS, Res.seq, setIxS, setS, exprS, retS, retN, ifS, nilS, brkS, cntS, callB, callM, intF, boolF, consA, nilA, starA, bin, un1, negP, bnd, Out.bnd, Out.thenS, opt, varE, litE, ixP, seqOf, rlistOf, listOf, L2.atI, L2.ixN, DL.setItem, DL.ret, addP, subP, mulP, modP, fdivP, powP, intP, geP, leP, gtP, ltP, ltB, eqP, neP, eqB, eqS, tstE, truB, boolE, andT, orT, notT, andE, orE, notE, ifE, chainE, tupE, lstE, lstC, isNP, notNP, isNon, lenP, runD, Res.out, startD, itE, itR, seqF, rng1, rng2, forS, tgN, tgT, tgCons, tgNil, slE, slL, noO, someO]
        · simp [hl, Dr.cell, drE, seqS, Res.seq, setIxS, setS, exprS, retS, retN, ifS, nilS, brkS, cntS, callB, callM, intF, boolF, consA, nilA, starA, bin, un1, negP, bnd, Out.bnd, Out.thenS, opt, varE, litE, ixP, seqOf, rlistOf, listOf, L2.atI, L2.ixN, DL.setItem, DL.ret, addP, subP, mulP, modP, fdivP, powP, intP, geP, leP, gtP, ltP, ltB, eqP, neP, eqB, eqS, tstE, truB, boolE, andT, orT, notT, andE, orE, notE, ifE, chainE, tupE, lstE, lstC, isNP, notNP, isNon, lenP, runD, Res.out, startD, itE, itR, seqF, rng1, rng2, forS, tgN, tgT, tgCons, tgNil, slE, slL, noO, someO]
      unfold m_draw b_draw
      simp only [runD, List.length_cons, List.length_nil, if_true, startD, List.map_cons, List.map_nil, List.replicate, List.cons_append, List.nil_append, ifS, Nat.reduceAdd, Nat.reduceSub, seqS]
      rw [t, en]
      simp [Out.thenS, Res.seq, nilS, seqS, ifS]
  generalize d.next = d at step o'
  obtain ⟨ns, p, v, l, s, b⟩ := d
  obtain ⟨o1, o2, o3, o4⟩ := o'
  dsimp only at o1 o2 o3 o4
  by_cases hz : l = 0 ∨ n < 2
  · refine ⟨0, ⟨ns, p, v, l, s, b⟩, ⟨o1, o2, o3, o4⟩, Int.le_refl _, by omega, fun cs => ?_⟩
    rw [step]
    rcases hz with hz | hz
    · subst hz
      simp [Dr.cell, drE, seqS, Res.seq, setIxS, setS, exprS, retS, retN, ifS, nilS, brkS, cntS, callB, callM, intF, boolF, consA, nilA, starA, bin, un1, negP, bnd, Out.bnd, Out.thenS, opt, varE, litE, ixP, seqOf, rlistOf, listOf, L2.atI, L2.ixN, DL.setItem, DL.ret, addP, subP, mulP, modP, fdivP, powP, intP, geP, leP, gtP, ltP, ltB, eqP, neP, eqB, eqS, tstE, truB, boolE, andT, orT, notT, andE, orE, notE, ifE, chainE, tupE, lstE, lstC, isNP, notNP, isNon, lenP, runD, Res.out, startD, itE, itR, seqF, rng1, rng2, forS, tgN, tgT, tgCons, tgNil, slE, slL, noO, someO]
    · by_cases hl : l = 0 <;> simp [hz, hl, Dr.cell, drE, seqS, Res.seq, setIxS, setS, exprS, retS, retN, ifS, nilS, brkS, cntS, callB, callM, intF, boolF, consA, nilA, starA, bin, un1, negP, bnd, Out.bnd, Out.thenS, opt, varE, litE, ixP, seqOf, rlistOf, listOf, L2.atI, L2.ixN, DL.setItem, DL.ret, addP, subP, mulP, modP, fdivP, powP, intP, geP, leP, gtP, ltP, ltB, eqP, neP, eqB, eqS, tstE, truB, boolE, andT, orT, notT, andE, orE, notE, ifE, chainE, tupE, lstE, lstC, isNP, notNP, isNon, lenP, runD, Res.out, startD, itE, itR, seqF, rng1, rng2, forS, tgN, tgT, tgCons, tgNil, slE, slL, noO, someO]
  · have hl : ¬ l = 0 := fun h => hz (.inl h)
    have hn2 : ¬ n < 2 := fun h => hz (.inr h)
    have hn0 : 0 < n := by omega
    cases b with
    | true =>
      refine ⟨v % n, ⟨ns, p, v / n, if v / n = 0 then 0 else l - 1, s + 1, true⟩, ⟨o1, ?_, by dsimp only; omega, ?_⟩, Int.emod_nonneg _ (by omega), Int.emod_lt_of_pos _ hn0, fun cs => ?_⟩
      · dsimp only; split <;> omega
      · dsimp only; split <;> omega
      · rw [step]
        by_cases hq : v / n = 0 <;> simp [hl, hn2, hn0, hn, hq, Dr.cell, drE, b_drawB, seqS, Res.seq, setIxS, setS, exprS, retS, retN, ifS, nilS, brkS, cntS, callB, callM, intF, boolF, consA, nilA, starA, bin, un1, negP, bnd, Out.bnd, Out.thenS, opt, varE, litE, ixP, seqOf, rlistOf, listOf, L2.atI, L2.ixN, DL.setItem, DL.ret, addP, subP, mulP, modP, fdivP, powP, intP, geP, leP, gtP, ltP, ltB, eqP, neP, eqB, eqS, tstE, truB, boolE, andT, orT, notT, andE, orE, notE, ifE, chainE, tupE, lstE, lstC, isNP, notNP, isNon, lenP, runD, Res.out, startD, itE, itR, seqF, rng1, rng2, forS, tgN, tgT, tgCons, tgNil, slE, slL, noO, someO]
    | false =>
      have hs : smallI (69621 : Int) = true := by decide
      refine ⟨_, ⟨ns, p, v, l - 1, s + 1, false⟩, ⟨o1, by dsimp only; omega, by dsimp only; omega, by dsimp only; omega⟩, Int.emod_nonneg ((v * 48271) % 2147483647 * (69621 * (s + 1) * (s + 1) + 40014 * (s + 1) + 1) % 2147483399) (by omega), Int.emod_lt_of_pos _ hn0, fun cs => ?_⟩
      rw [step]
      have h1 : smallI (48271 : Int) = true := by decide
      have h2 : smallI (s + 1) = true := by simp [smallI]; omega
      have h3 : smallI ((v * 48271) % 2147483647) = true := by
        have := Int.emod_nonneg (v * 48271) (b := 2147483647) (by decide)
        have := Int.emod_lt_of_pos (v * 48271) (b := 2147483647) (by decide)
        simp [smallI]; omega
      have h4 : smallI (40014 : Int) = true := by decide
      simp [hl, hn2, hn0, hn, hs, h1, h2, h3, h4, Dr.cell, drE, b_drawC, seqS, Res.seq, setIxS, setS, exprS, retS, retN, ifS, nilS, brkS, cntS, callB, callM, intF, boolF, consA, nilA, starA, bin, un1, negP, bnd, Out.bnd, Out.thenS, opt, varE, litE, ixP, seqOf, rlistOf, listOf, L2.atI, L2.ixN, DL.setItem, DL.ret, addP, subP, mulP, modP, fdivP, powP, intP, geP, leP, gtP, ltP, ltB, eqP, neP, eqB, eqS, tstE, truB, boolE, andT, orT, notT, andE, orE, notE, ifE, chainE, tupE, lstE, lstC, isNP, notNP, isNon, lenP, runD, Res.out, startD, itE, itR, seqF, rng1, rng2, forS, tgN, tgT, tgCons, tgNil, slE, slL, noO, someO]
end
end DL

namespace DL
open PySem PySem.Spec PyProof.Rows L2

theorem forL_inv {tg : D → Ev' → Option Ev'} {b : SM} (I : Nat → Ev' → Cells → Prop) : ∀ {xs : List D} {k : Nat} {δ : Ev'} {c : Cells}, I k δ c →
    (∀ i x δ c, xs[i]? = some x → I (k + i) δ c → ∃ δ1, tg x δ = some δ1 ∧ ∃ δ2 c2, (b δ1 c = .nx δ2 c2 ∨ b δ1 c = .ct δ2 c2) ∧ I (k + i + 1) δ2 c2) →
    ∃ δ' c', forL tg b xs δ c = .nx δ' c' ∧ I (k + xs.length) δ' c'
  | [], k, δ, c, h, _ => ⟨δ, c, rfl, h⟩
  | x :: xs, k, δ, c, h, hs => by
    obtain ⟨δ1, e1, δ2, c2, e2, h2⟩ := hs 0 x δ c rfl h
    obtain ⟨δ', c', e, h'⟩ := forL_inv I (xs := xs) (k := k + 1) h2 fun i y δ c hi hI => by
      have := hs (i + 1) y δ c (by simpa using hi) (by rw [show k + (i + 1) = k + 1 + i by omega]; exact hI)
      rw [show k + (i + 1) + 1 = k + 1 + i + 1 by omega] at this
      exact this
    refine ⟨δ', c', ?_, by rw [List.length_cons, show k + (xs.length + 1) = k + 1 + xs.length by omega]; exact h'⟩
    unfold forL
    rw [e1]
    rcases e2 with e2 | e2 <;> (dsimp only; rw [e2]; exact e)
/-- a loop that changes nothing but its own name and never leaves -/
theorem forL_still {tg : D → Ev' → Option Ev'} {b : SM} {c : Cells} (I : Ev' → Prop) {xs : List D} {δ : Ev'} (h : I δ)
    (hs : ∀ x δ, x ∈ xs → I δ → ∃ δ1, tg x δ = some δ1 ∧ ∃ δ2, (b δ1 c = .nx δ2 c ∨ b δ1 c = .ct δ2 c) ∧ I δ2) : ∃ δ', forL tg b xs δ c = .nx δ' c ∧ I δ' := by
  obtain ⟨δ', c', e, h1, h2⟩ := forL_inv (fun _ δ c' => I δ ∧ c' = c) (k := 0) ⟨h, rfl⟩ fun i x δ c' hi ⟨hI, hc⟩ => by
    subst hc
    obtain ⟨δ1, e1, δ2, e2, h2⟩ := hs x δ (List.mem_of_getElem? hi) hI
    exact ⟨δ1, e1, δ2, _, e2, h2, rfl⟩
  subst h2
  exact ⟨δ', e, h1⟩
theorem lcL_map {tg : D → Ev' → Option Ev'} {tt : TM} {te : EM} {δ : Ev'} {c : Cells} {f : D → D} : ∀ {xs : List D}, (∀ x ∈ xs, ∃ δ1, tg x δ = some δ1 ∧ tt δ1 c = .ok true c ∧ te δ1 c = .ok (f x) c) → lcL tg tt te δ xs c = .ok (xs.map f) c
  | [], _ => rfl
  | x :: xs, h => by
    obtain ⟨δ1, e1, e2, e3⟩ := h x (by simp)
    have ih := lcL_map (tg := tg) (tt := tt) (te := te) (δ := δ) (c := c) (f := f) (xs := xs) fun y hy => h y (by simp [hy])
    unfold lcL
    simp [e1, bnd, Out.bnd, e2, e3, ih, DL.ret]
theorem mem_rangeD {lo : Int} {n : Nat} {x : D} (h : x ∈ rangeD lo n) : ∃ i : Nat, i < n ∧ x = .int (lo + i) := by
  unfold rangeD at h
  obtain ⟨i, hi, rfl⟩ := List.mem_map.mp h
  exact ⟨i, by simpa using hi, rfl⟩

def b_same (isis : List Nat) (self : List D → M D) : SM := seqS (ifS (boolE (bin isNP (varE 1) (litE .non))) (retS (bin isNP (varE 0) (litE .non))) (nilS)) (seqS (ifS (tstE (callB (isiP isis) (consA (varE 1) (consA (litE (.ty "bool")) (nilA))))) (retS (andE (callB (isiP isis) (consA (varE 0) (consA (litE (.ty "bool")) (nilA)))) (bin eqP (varE 0) (varE 1)))) (nilS)) (seqS (ifS (tstE (callB (isiP isis) (consA (varE 1) (consA (litE (.ty "int")) (nilA))))) (retS (andE (callB (isiP isis) (consA (varE 0) (consA (litE (.ty "int")) (nilA)))) (andE (notE (callB (isiP isis) (consA (varE 0) (consA (litE (.ty "bool")) (nilA))))) (bin eqP (varE 0) (varE 1))))) (nilS)) (seqS (ifS (tstE (callB (isiP isis) (consA (varE 1) (consA (litE (.ty "str")) (nilA))))) (retS (andE (callB (isiP isis) (consA (varE 0) (consA (litE (.ty "str")) (nilA)))) (bin eqP (varE 0) (varE 1)))) (nilS)) (seqS (ifS (tstE (callB (isiP isis) (consA (varE 1) (consA (litE (.ty "list")) (nilA))))) (ifS (notT (tstE (callB (isiP isis) (consA (varE 0) (consA (litE (.ty "list")) (nilA)))))) (retS (litE (.bl false))) (nilS)) (ifS (notT (tstE (callB (isiP isis) (consA (varE 0) (consA (litE (.ty "tuple")) (nilA)))))) (retS (litE (.bl false))) (nilS))) (seqS (ifS (boolE (bin neP (callB lenP (consA (varE 0) (nilA))) (callB lenP (consA (varE 1) (nilA))))) (retS (litE (.bl false))) (nilS)) (seqS (forS (itR rng1 (consA (callB lenP (consA (varE 1) (nilA))) nilA)) (tgN 2) (ifS (notT (tstE (callM self (consA (bin ixP (varE 0) (varE 2)) (consA (bin ixP (varE 1) (varE 2)) (nilA)))))) (retS (litE (.bl false))) (nilS))) (retS (litE (.bl true)))))))))
def m_same (isis : List Nat) : Nat → List D → M D
  | 0 => fun _ => stuck
  | n + 1 => runD 3 2 (b_same isis (m_same isis n))
/-- data of scalars, tuples, lists -/
def plainN : Nat → D → Bool
  | 0, _ => false
  | n + 1, d => match d with
    | .non => true
    | .bl _ => true
    | .int _ => true
    | .str _ => true
    | .tup xs => xs.all (plainN n) && decide (xs.length ≤ 1000000)
    | .lst xs => xs.all (plainN n) && decide (xs.length ≤ 1000000)
    | _ => false
theorem kit_b : kitB "bool" "bool" = some true ∧ kitB "int" "bool" = some false ∧ kitB "int" "int" = some true ∧ kitB "str" "bool" = some false ∧ kitB "str" "int" = some false ∧ kitB "str" "str" = some true ∧
    kitB "list" "bool" = some false ∧ kitB "list" "int" = some false ∧ kitB "list" "str" = some false ∧ kitB "list" "list" = some true ∧
    kitB "tuple" "bool" = some false ∧ kitB "tuple" "int" = some false ∧ kitB "tuple" "str" = some false ∧ kitB "tuple" "list" = some false ∧ kitB "tuple" "tuple" = some true := by decide +kernel
theorem same_refl {isis : List Nat} {c : Cells} : ∀ {n : Nat} {e : D}, plainN n e = true → m_same isis n [e, e] c = .ok (.bl true) c
  | 0, _, h => by simp [plainN] at h
  | n + 1, e, h => by
    obtain ⟨k1, k2, k3, k4, k5, k6, k7, k8, k9, k10, k11, k12, k13, k14, k15⟩ := kit_b
    cases e <;> try (simp [plainN] at h; done)
    case non => simp [m_same, b_same, seqS, Res.seq, setIxS, setS, exprS, retS, retN, ifS, nilS, brkS, cntS, callB, callM, intF, boolF, consA, nilA, starA, bin, un1, negP, bnd, Out.bnd, Out.thenS, opt, varE, litE, ixP, seqOf, rlistOf, listOf, L2.atI, L2.ixN, DL.setItem, DL.ret, addP, subP, mulP, modP, fdivP, powP, intP, geP, leP, gtP, ltP, ltB, eqP, neP, eqB, eqS, tstE, truB, boolE, andT, orT, notT, andE, orE, notE, ifE, chainE, tupE, lstE, lstC, isNP, notNP, isNon, lenP, runD, Res.out, startD, itE, itR, seqF, rng1, rng2, forS, tgN, tgT, tgCons, tgNil, slE, slL, noO, someO]
    case bl b => simp [m_same, b_same, seqS, Res.seq, setIxS, setS, exprS, retS, retN, ifS, nilS, brkS, cntS, callB, callM, intF, boolF, consA, nilA, starA, bin, un1, negP, bnd, Out.bnd, Out.thenS, opt, varE, litE, ixP, seqOf, rlistOf, listOf, L2.atI, L2.ixN, DL.setItem, DL.ret, addP, subP, mulP, modP, fdivP, powP, intP, geP, leP, gtP, ltP, ltB, eqP, neP, eqB, eqS, tstE, truB, boolE, andT, orT, notT, andE, orE, notE, ifE, chainE, tupE, lstE, lstC, isNP, notNP, isNon, lenP, runD, Res.out, startD, itE, itR, seqF, rng1, rng2, forS, tgN, tgT, tgCons, tgNil, slE, slL, noO, someO, isiP, isiB, tyN, k1]
    case int i => simp [m_same, b_same, seqS, Res.seq, setIxS, setS, exprS, retS, retN, ifS, nilS, brkS, cntS, callB, callM, intF, boolF, consA, nilA, starA, bin, un1, negP, bnd, Out.bnd, Out.thenS, opt, varE, litE, ixP, seqOf, rlistOf, listOf, L2.atI, L2.ixN, DL.setItem, DL.ret, addP, subP, mulP, modP, fdivP, powP, intP, geP, leP, gtP, ltP, ltB, eqP, neP, eqB, eqS, tstE, truB, boolE, andT, orT, notT, andE, orE, notE, ifE, chainE, tupE, lstE, lstC, isNP, notNP, isNon, lenP, runD, Res.out, startD, itE, itR, seqF, rng1, rng2, forS, tgN, tgT, tgCons, tgNil, slE, slL, noO, someO, isiP, isiB, tyN, k2, k3]
    case str i => simp [m_same, b_same, seqS, Res.seq, setIxS, setS, exprS, retS, retN, ifS, nilS, brkS, cntS, callB, callM, intF, boolF, consA, nilA, starA, bin, un1, negP, bnd, Out.bnd, Out.thenS, opt, varE, litE, ixP, seqOf, rlistOf, listOf, L2.atI, L2.ixN, DL.setItem, DL.ret, addP, subP, mulP, modP, fdivP, powP, intP, geP, leP, gtP, ltP, ltB, eqP, neP, eqB, eqS, tstE, truB, boolE, andT, orT, notT, andE, orE, notE, ifE, chainE, tupE, lstE, lstC, isNP, notNP, isNon, lenP, runD, Res.out, startD, itE, itR, seqF, rng1, rng2, forS, tgN, tgT, tgCons, tgNil, slE, slL, noO, someO, isiP, isiB, tyN, k4, k5, k6]
    case tup xs =>
      simp only [plainN, Bool.and_eq_true, List.all_eq_true, decide_eq_true_eq] at h
      obtain ⟨h1, h2⟩ := h
      have hl : -(2 ^ 62) ≤ (xs.length : Int) ∧ (xs.length : Int) ≤ 16777216 := by omega
      obtain ⟨δ', e, _⟩ := forL_still (tg := tgN 2) (b := ifS (notT (tstE (callM (m_same isis n) (consA (bin ixP (varE 0) (varE 2)) (consA (bin ixP (varE 1) (varE 2)) (nilA)))))) (retS (litE (.bl false))) (nilS)) (c := c)
        (fun δ => ∃ z, δ = [.sh (.tup xs), .sh (.tup xs), z]) (xs := rangeD 0 xs.length) (δ := [.sh (.tup xs), .sh (.tup xs), .un]) ⟨_, rfl⟩ fun x δ hx ⟨z, hz⟩ => by
          subst hz
          obtain ⟨i, hi, rfl⟩ := mem_rangeD hx
          have := same_refl (isis := isis) (c := c) (h1 xs[i] (List.getElem_mem hi))
          refine ⟨_, rfl, _, .inl ?_, ⟨.sh (.int (0 + i)), rfl⟩⟩
          simp [seqS, Res.seq, setIxS, setS, exprS, retS, retN, ifS, nilS, brkS, cntS, callB, callM, intF, boolF, consA, nilA, starA, bin, un1, negP, bnd, Out.bnd, Out.thenS, opt, varE, litE, ixP, seqOf, rlistOf, listOf, L2.atI, L2.ixN, DL.setItem, DL.ret, addP, subP, mulP, modP, fdivP, powP, intP, geP, leP, gtP, ltP, ltB, eqP, neP, eqB, eqS, tstE, truB, boolE, andT, orT, notT, andE, orE, notE, ifE, chainE, tupE, lstE, lstC, isNP, notNP, isNon, lenP, runD, Res.out, startD, itE, itR, seqF, rng1, rng2, forS, tgN, tgT, tgCons, tgNil, slE, slL, noO, someO, hi, this]
      simp [m_same, b_same, seqS, Res.seq, setIxS, setS, exprS, retS, retN, ifS, nilS, brkS, cntS, callB, callM, intF, boolF, consA, nilA, starA, bin, un1, negP, bnd, Out.bnd, Out.thenS, opt, varE, litE, ixP, seqOf, rlistOf, listOf, L2.atI, L2.ixN, DL.setItem, DL.ret, addP, subP, mulP, modP, fdivP, powP, intP, geP, leP, gtP, ltP, ltB, eqP, neP, eqB, eqS, tstE, truB, boolE, andT, orT, notT, andE, orE, notE, ifE, chainE, tupE, lstE, lstC, isNP, notNP, isNon, lenP, runD, Res.out, startD, itE, itR, seqF, rng1, rng2, forS, tgN, tgT, tgCons, tgNil, slE, slL, noO, someO, isiP, isiB, tyN, k11, k12, k13, k14, k15, hl, e]
    case lst xs =>
      simp only [plainN, Bool.and_eq_true, List.all_eq_true, decide_eq_true_eq] at h
      obtain ⟨h1, h2⟩ := h
      have hl : -(2 ^ 62) ≤ (xs.length : Int) ∧ (xs.length : Int) ≤ 16777216 := by omega
      obtain ⟨δ', e, _⟩ := forL_still (tg := tgN 2) (b := ifS (notT (tstE (callM (m_same isis n) (consA (bin ixP (varE 0) (varE 2)) (consA (bin ixP (varE 1) (varE 2)) (nilA)))))) (retS (litE (.bl false))) (nilS)) (c := c)
        (fun δ => ∃ z, δ = [.sh (.lst xs), .sh (.lst xs), z]) (xs := rangeD 0 xs.length) (δ := [.sh (.lst xs), .sh (.lst xs), .un]) ⟨_, rfl⟩ fun x δ hx ⟨z, hz⟩ => by
          subst hz
          obtain ⟨i, hi, rfl⟩ := mem_rangeD hx
          have := same_refl (isis := isis) (c := c) (h1 xs[i] (List.getElem_mem hi))
          refine ⟨_, rfl, _, .inl ?_, ⟨.sh (.int (0 + i)), rfl⟩⟩
          simp [seqS, Res.seq, setIxS, setS, exprS, retS, retN, ifS, nilS, brkS, cntS, callB, callM, intF, boolF, consA, nilA, starA, bin, un1, negP, bnd, Out.bnd, Out.thenS, opt, varE, litE, ixP, seqOf, rlistOf, listOf, L2.atI, L2.ixN, DL.setItem, DL.ret, addP, subP, mulP, modP, fdivP, powP, intP, geP, leP, gtP, ltP, ltB, eqP, neP, eqB, eqS, tstE, truB, boolE, andT, orT, notT, andE, orE, notE, ifE, chainE, tupE, lstE, lstC, isNP, notNP, isNon, lenP, runD, Res.out, startD, itE, itR, seqF, rng1, rng2, forS, tgN, tgT, tgCons, tgNil, slE, slL, noO, someO, hi, this]
      simp [m_same, b_same, seqS, Res.seq, setIxS, setS, exprS, retS, retN, ifS, nilS, brkS, cntS, callB, callM, intF, boolF, consA, nilA, starA, bin, un1, negP, bnd, Out.bnd, Out.thenS, opt, varE, litE, ixP, seqOf, rlistOf, listOf, L2.atI, L2.ixN, DL.setItem, DL.ret, addP, subP, mulP, modP, fdivP, powP, intP, geP, leP, gtP, ltP, ltB, eqP, neP, eqB, eqS, tstE, truB, boolE, andT, orT, notT, andE, orE, notE, ifE, chainE, tupE, lstE, lstC, isNP, notNP, isNon, lenP, runD, Res.out, startD, itE, itR, seqF, rng1, rng2, forS, tgN, tgT, tgCons, tgNil, slE, slL, noO, someO, isiP, isiB, tyN, k7, k8, k9, k10, hl, e]
end DL

namespace DL
open PySem PySem.Spec PyProof.Rows L2

section
variable {a b : SM} {t : TM} {m : EM} {δ δ' : Ev'} {c c' : Cells} {d : D} {C : Nat} {xs : List D} {r : Res}
theorem seq_nx (h : a δ c = .nx δ' c') : seqS a b δ c = b δ' c' := by simp [seqS, Res.seq, h]
theorem seq_rt (h : a δ c = .rt d c') : seqS a b δ c = .rt d c' := by simp [seqS, Res.seq, h]
theorem seq_exc (h : a δ c = .exc C xs δ' c') : seqS a b δ c = .exc C xs δ' c' := by simp [seqS, Res.seq, h]
theorem if_t (h : t δ c = .ok true c') : ifS t a b δ c = a δ c' := by simp [ifS, Out.thenS, h]
theorem if_f (h : t δ c = .ok false c') : ifS t a b δ c = b δ c' := by simp [ifS, Out.thenS, h]
theorem set_ok {i : Nat} (h : m δ c = .ok d c') : setS i m δ c = .nx (δ.set i (.sh d)) c' := by simp [setS, Out.thenS, h]
theorem ret_ok (h : m δ c = .ok d c') : retS m δ c = .rt d c' := by simp [retS, Out.thenS, h]
theorem run_rt {n k : Nat} {ds : List D} (hl : ds.length = k) (h : a (startD n ds) c = .rt d c') : runD n k a ds c = .ok d c' := by simp [runD, hl, h, Res.out]
theorem run_exc {n k : Nat} {ds : List D} (hl : ds.length = k) (h : a (startD n ds) c = .exc C xs δ' c') : runD n k a ds c = .exc C xs c' := by simp [runD, hl, h, Res.out]
theorem for_nx {mi : Ev' → M (List D)} {tg : D → Ev' → Option Ev'} (hi : mi δ c = .ok xs c') (h : forL tg b xs δ c' = r) : forS mi tg b δ c = r := by simp [forS, Out.thenS, hi, h]
theorem call_ok {m : List D → M D} {ms : Ev' → M (List D)} {c'' : Cells} (h1 : ms δ c = .ok xs c') (h2 : m xs c' = .ok d c'') : callM m ms δ c = .ok d c'' := by simp [callM, bnd, Out.bnd, h1, h2]
end
end DL

namespace DL
open PySem PySem.Spec PyProof.Rows L2

def badE : EM := fun _ => stuck
def badS : SM := fun _ _ => .bad
def badT : TM := fun _ => stuck
section
variable {X : Cx} {CE : CEnv} {W : WX} {e : Expr} {st : Stmt}
theorem pd_bad : PD X CE W e badE := ⟨fun pins s σ H Q I ⟨g, c, δ, ok, er, h⟩ => h.elim⟩
theorem sd_bad : SD X CE W st badS := ⟨fun pins s σ H D I ⟨g, c, δ, ok, er, h⟩ => h.elim⟩
end
def ownM (C : Nat) (m : List D → M D) (ma mb : EM) : EM := fun δ => bnd (ma δ) fun x => bnd (mb δ) fun y => fun c => match insOf x c, insOf y c with
  | some (C1, _), some (C2, _) => if C1 = C ∧ C2 = C then m [x, y] c else .bad
  | _, _ => .bad
section
variable {X : Cx} {CE : CEnv} {W : WX} {C k : Nat} {f : Addr} {mn : PySem.Str} {pos : Pos} {a b : Expr} {m : List D → M D} {ma mb : EM}
/-- both sides evaluated, the callee at hand -/
def tOwn (CE : CEnv) (X : Cx) (W : WX) (C : Nat) (m : List D → M D) (ma mb : EM) : TE := fun σ H Q => tD CE X.K W ma σ H fun x H1 => tD CE X.K W mb σ H1 fun y H2 =>
  ∃ p q dp dq fs gs, x = .ref p ∧ y = .ref q ∧ H2 p = some (.ins (CE C).1 dp fs) ∧ H2 q = some (.ins (CE C).1 dq gs) ∧ spP CE X.K m [x, y] H2 Q (WE W σ)
theorem useOwn {σ : L2.St} {H : Hp} {Q : VK} {g : Gh} {c : Cells} {δ : Ev'} (ok : SOk CE X.K g H c) (er : EnvR CE X.K g H σ δ)
    (h : wpo (ownM C m ma mb δ c) (fun d c' => ∀ g' H' v, Post CE X.K g H c g' H' c' → Rep CE X.K g' H' d v → Q v H') (EK CE X.K W g H c σ)) : tOwn CE X W C m ma mb σ H Q := by
  refine use ok er (wpo_bnd.mp h) (fun d c1 hh g1 H1 v p1 r1 => ?_) fun _ _ _ z => z
  refine use p1.ok (er.mono ok p1.ext) (wpo_bnd.mp hh) (fun e c2 h2 g2 H2 u p2 r2 => ?_) fun _ _ _ z => EK.back p1 z
  have r1' := Rep.mono p1.ok p2.ext r1
  cases e1 : insOf d c2 with
  | none => rw [e1] at h2; exact h2.elim
  | some q1 =>
    cases e2 : insOf e c2 with
    | none => rw [e1, e2] at h2; exact h2.elim
    | some q2 =>
      obtain ⟨C1, xs⟩ := q1
      obtain ⟨C2, ys⟩ := q2
      rw [e1, e2] at h2
      dsimp only at h2
      split at h2
      · rename_i hC
        obtain ⟨rfl, rfl⟩ := hC
        obtain ⟨p, dp, vs, rfl, k1, _, _⟩ := insOf_at p2.ok r1' e1
        obtain ⟨q, dq, us, rfl, k2, _, _⟩ := insOf_at p2.ok r2 e2
        exact ⟨p, q, dp, dq, _, _, rfl, rfl, k1, k2, spP_of (p1.trans p2) (Reps.cons r1' (Reps.one r2)) h2⟩
      · exact h2.elim
theorem own_back {σ : L2.St} {pins : List (Addr × Obj)} {Q : VK} {s : Shared} {v : Value} (h : EP X pins σ Q v s) : PySem.W.CmpBack (EP X pins σ Q) v s := by
  obtain ⟨x, H, I, r, q⟩ := id h
  cases v <;> first
    | exact h
    | (cases x <;> simp [L2.RelV] at r)
theorem own_cmp {op : CmpOp} {σ : L2.St} {pins : List (Addr × Obj)} {Q : VK} {s : Shared} {H : Hp} {p q dp dq : Addr} {fs gs : List (PySem.Str × V)} (hname : (cmpInfo op).2.1 = mn) (hc : ∀ v u, compareOp op v u = richCompare op v u) (T : Meth X.K (CE C).1 mn f) (F : FnP X.prog X.w X.K X.mg X.base CE k f m) (hr : Room k X.A) (pw : PassW X W) (I : Inv X pins σ H s)
    (h1 : H p = some (.ins (CE C).1 dp fs)) (h2 : H q = some (.ins (CE C).1 dq gs)) (h : spP CE X.K m [.ref p, .ref q] H Q (WE W σ)) : wpAny (model X.prog X.w) X.A (compareOp op (.ref p) (.ref q)) (EP X pins σ Q) X.xe s := by
  obtain ⟨mA, J, _⟩ := ins_get I.hok h1
  obtain ⟨mB, J', _⟩ := ins_get I.hok h2
  obtain ⟨od, J, _⟩ := J.look
  obtain ⟨od', J', _⟩ := J'.look
  obtain ⟨m', hF⟩ := I.fr
  rw [hc]
  refine PySem.W.cmp_K (op := op) (tb := .ref (CE C).1) (by have := hr.un; omega) hF I.ok.mod.kin J J'.type (by simp [PySem.W.notFirst]) (by rw [hname]; exact T.at_) T.fn ?_
  exact wpAny_mono (run_P (vs := [.ref p, .ref q]) (us := [.ref p, .ref q]) F hr (pw σ) I (.cons rfl (.cons rfl .nil)) h) (fun v s' z => own_back z) fun _ _ z => z
/-- a < b with the text's own method -/
theorem pd_cmpOwn {op : CmpOp} (hname : (cmpInfo op).2.1 = mn) (hc : ∀ v u, compareOp op v u = richCompare op v u) (T : Meth X.K (CE C).1 mn f) (F : FnP X.prog X.w X.K X.mg X.base CE k f m) (hr : Room k X.A) (pw : PassW X W) (ha : PD X CE W a ma) (hb : PD X CE W b mb) (hm : behindInMarks op b = false) :
    PD X CE W (.Compare a [op] [b] pos) (ownM C m ma mb) := by
  have c : PC X op a b (tOwn CE X W C m ma mb) := ⟨fun pins s σ H Q I h => by
    refine thn (PE.run ha pins s σ H _ I h) fun v s1 ⟨x, H1, I1, rx, h1⟩ => ?_
    refine thn (PE.run hb pins s1 σ H1 _ I1 h1) fun u s2 ⟨y, H2, I2, ry, p, q, dp, dq, fs, gs, ex, ey, e1, e2, hs⟩ => ?_
    subst ex; subst ey
    obtain rfl : v = Value.ref p := rx
    obtain rfl : u = Value.ref q := ry
    exact own_cmp hname hc T F hr pw I2 e1 e2 hs⟩
  exact (pe_cmp c hm).wk fun σ H Q ⟨g, c, δ, ok, er, h⟩ => useOwn ok er h
theorem pt_cmpOwn {op : CmpOp} (hname : (cmpInfo op).2.1 = mn) (hc : ∀ v u, compareOp op v u = richCompare op v u) (T : Meth X.K (CE C).1 mn f) (F : FnP X.prog X.w X.K X.mg X.base CE k f m) (hr : Room k X.A) (pw : PassW X W) (ha : PD X CE W a ma) (hb : PD X CE W b mb) (hm : behindInMarks op b = false) :
    PDT X CE W (.Compare a [op] [b] pos) (boolE (ownM C m ma mb)) := by
  have c : PC X op a b (tOwn CE X W C m ma mb) := ⟨fun pins s σ H Q I h => by
    refine thn (PE.run ha pins s σ H _ I h) fun v s1 ⟨x, H1, I1, rx, h1⟩ => ?_
    refine thn (PE.run hb pins s1 σ H1 _ I1 h1) fun u s2 ⟨y, H2, I2, ry, p, q, dp, dq, fs, gs, ex, ey, e1, e2, hs⟩ => ?_
    subst ex; subst ey
    obtain rfl : v = Value.ref p := rx
    obtain rfl : u = Value.ref q := ry
    exact own_cmp hname hc T F hr pw I2 e1 e2 hs⟩
  exact (L2.pt_cmp c hm).wk fun σ H Q ⟨g, c, δ, ok, er, h⟩ => useBool (fun Q ⟨g, c, δ, ok, er, h⟩ => useOwn ok er h) ok er h
/-- a + b with the text's own method -/
theorem pd_binOwn {op : Operator} (hname : PySem.dunder op.info.2 = mn) (hsf : PySem.W.selfFirst X.K (CE C).1 = true) (T : Meth X.K (CE C).1 mn f) (F : FnP X.prog X.w X.K X.mg X.base CE k f m) (hr : Room k X.A) (pw : PassW X W) (ha : PD X CE W a ma) (hb : PD X CE W b mb) :
    PD X CE W (.BinOp a op b pos) (ownM C m ma mb) := by
  have c : PE X (.BinOp a op b pos) (tOwn CE X W C m ma mb) := ⟨fun pins s σ H Q I h => by
    refine wpAny_BinOp ?_
    refine thn (PE.run ha pins s σ H _ I h) fun v s1 ⟨x, H1, I1, rx, h1⟩ => ?_
    refine thn (PE.run hb pins s1 σ H1 _ I1 h1) fun u s2 ⟨y, H2, I2, ry, p, q, dp, dq, fs, gs, ex, ey, e1, e2, hs⟩ => ?_
    subst ex; subst ey
    obtain rfl : v = Value.ref p := rx
    obtain rfl : u = Value.ref q := ry
    obtain ⟨mA, J, _⟩ := ins_get I2.hok e1
    obtain ⟨mB, J', _⟩ := ins_get I2.hok e2
    obtain ⟨od, J, _⟩ := J.look
    obtain ⟨od', J', _⟩ := J'.look
    obtain ⟨m', hF⟩ := I2.fr
    refine PySem.W.binop_K hF I2.ok.mod.kin J J'.type hsf (by rw [hname]; exact T.at_) T.fn ?_
    exact wpAny_mono (run_P (vs := [.ref p, .ref q]) (us := [.ref p, .ref q]) F hr (pw σ) I2 (.cons rfl (.cons rfl .nil)) hs) (fun v s' z => own_back z) fun _ _ z => z⟩
  exact c.wk fun σ H Q ⟨g, c, δ, ok, er, h⟩ => useOwn ok er h
end
open Classical in
noncomputable def mI (n k C : Nat) (b : SM) : List D → M (List D) := fun ds c => if ∀ a, runI n k C b a ds c = runI n k C b 0 ds c then runI n k C b 0 ds c else .bad
theorem mI_is {n k C : Nat} {b : SM} : ∀ a ds c, mI n k C b ds c = .bad ∨ mI n k C b ds c = runI n k C b a ds c := fun a ds c => by
  unfold mI
  by_cases h : ∀ a, runI n k C b a ds c = runI n k C b 0 ds c
  · rw [if_pos h]; exact .inr (h a).symm
  · rw [if_neg h]; exact .inl rfl
theorem mI_eq {n k C : Nat} {b : SM} {ds : List D} {c : Cells} {r : Out (List D)} (h : ∀ a, runI n k C b a ds c = r) : mI n k C b ds c = r := by
  unfold mI
  rw [if_pos fun a => (h a).trans (h 0).symm]
  exact h 0
theorem all_nil {α : Type} {p : α → Prop} : ∀ x ∈ ([] : List α), p x := fun _ h => by cases h
theorem all_cons {α : Type} {p : α → Prop} {a : α} {l : List α} (h : p a) (t : ∀ x ∈ l, p x) : ∀ x ∈ a :: l, p x := fun x hx => by
  rcases List.mem_cons.mp hx with rfl | hx
  · exact h
  · exact t x hx
section
variable {K : PySem.W.Frag} {C D' : Addr} {T : String} {b : Bool}
theorem kit_rt (h : PySem.W.subIn K (.ref C) (.type T) = some b) (m : PySem.W.kitMeta T = true) : PySem.W.kitOne K (.ref C) (.type T) = some b := by
  unfold PySem.W.kitOne
  rw [if_neg (by simp)]
  exact (if_pos m).trans h
theorem kit_tr (hd : PySem.W.hasDictIn K C = true) (ht : PySem.W.typeIn K (.ref C) = some (.type "type")) (h : PySem.W.subIn K (.type T) (.ref C) = some b) : PySem.W.kitOne K (.type T) (.ref C) = some b := by
  obtain ⟨cd, hc, _⟩ := PySem.W.any_some hd
  unfold PySem.W.kitOne
  rw [if_neg (by simp)]
  show (if ((PySem.W.clsIn K C).isSome && PySem.W.typeIn K (.ref C) == some (.type "type")) = true then PySem.W.subIn K (.type T) (.ref C) else none) = some b
  rw [hc, ht]
  exact (if_pos (by simp)).trans h
theorem kit_self : PySem.W.kitOne K (.ref C) (.ref C) = some true := by
  unfold PySem.W.kitOne
  exact if_pos (by simp)
theorem kit_rr (ne : C ≠ D') (hd : PySem.W.hasDictIn K D' = true) (ht : PySem.W.typeIn K (.ref D') = some (.type "type")) (h : PySem.W.subIn K (.ref C) (.ref D') = some b) : PySem.W.kitOne K (.ref C) (.ref D') = some b := by
  obtain ⟨cd, hc, _⟩ := PySem.W.any_some hd
  unfold PySem.W.kitOne
  rw [if_neg (by simpa using ne)]
  show (if ((PySem.W.clsIn K D').isSome && PySem.W.typeIn K (.ref D') == some (.type "type")) = true then PySem.W.subIn K (.ref C) (.ref D') else none) = some b
  rw [hc, ht]
  exact (if_pos (by simp)).trans h
end
end DL

namespace DL
open PySem PySem.Spec PyProof.Rows L2

theorem forL_fold {α σ : Type} {tg : D → Ev' → Option Ev'} {b : SM} {c : Cells} {enc : α → D} {mk : σ → Slot → Ev'} {step : σ → α → σ} {P : σ → Prop} :
    ∀ {xs : List α} {s : σ} {z : Slot}, P s → (∀ s z x, x ∈ xs → P s → ∃ z' δ1, tg (enc x) (mk s z) = some δ1 ∧ (b δ1 c = .nx (mk (step s x) z') c ∨ b δ1 c = .ct (mk (step s x) z') c) ∧ P (step s x)) →
    ∃ z', forL tg b (xs.map enc) (mk s z) c = .nx (mk (xs.foldl step s) z') c ∧ P (xs.foldl step s)
  | [], s, z, h, _ => ⟨z, rfl, h⟩
  | x :: xs, s, z, h, hs => by
    obtain ⟨z1, δ1, e1, e2, h1⟩ := hs s z x (by simp) h
    obtain ⟨z', e, h'⟩ := forL_fold (xs := xs) (s := step s x) (z := z1) h1 fun s z y hy => hs s z y (by simp [hy])
    refine ⟨z', ?_, h'⟩
    simp only [List.map_cons, forL, e1]
    rcases e2 with e2 | e2 <;> (rw [e2]; exact e)
section
variable {a a' b : SM} {t : TM} {δ : Ev'} {c c' c'' : Cells} {d : D} {xs : List D}
theorem seq_if_f (h : t δ c = .ok false c') : seqS (ifS t a nilS) b δ c = b δ c' := by simp [seqS, Res.seq, ifS, Out.thenS, h, nilS]
theorem seq_if_rt (h : t δ c = .ok true c') (h2 : a δ c' = .rt d c'') : seqS (ifS t a a') b δ c = .rt d c'' := by simp [seqS, Res.seq, ifS, Out.thenS, h, h2]
theorem cut_from (n : Nat) {i : Int} (hi : i = n) : DL.cutD xs (some i) none = xs.drop n := by
  subst hi
  unfold DL.cutD
  rw [HT.sIx_nat, HT.sIx_none]
  by_cases h : n ≤ xs.length
  · rw [Nat.min_eq_left h]
    exact List.take_of_length_le (by simp)
  · rw [Nat.min_eq_right (by omega), Nat.sub_self, List.take_zero]
    exact (List.drop_eq_nil_of_le (by omega)).symm
theorem cut_to (n : Nat) {i : Int} (hi : i = n) : DL.cutD xs none (some i) = xs.take n := by
  subst hi
  unfold DL.cutD
  rw [HT.sIx_nat, HT.sIx_none, List.drop_zero, Nat.sub_zero]
  by_cases h : n ≤ xs.length
  · rw [Nat.min_eq_left h]
  · rw [Nat.min_eq_right (by omega), List.take_of_length_le (by omega), List.take_of_length_le (by omega)]
end
section
variable {a b : TM} {m ma mb : EM} {δ : Ev'} {c c' c'' : Cells} {k : Bool} {d x y z : D} {r : Out Bool}
theorem or_t (h : a δ c = .ok true c') : orT a b δ c = .ok true c' := by simp [orT, bnd, Out.bnd, h, DL.ret]
theorem or_f (h : a δ c = .ok false c') : orT a b δ c = b δ c' := by simp [orT, bnd, Out.bnd, h]
theorem and_t (h : a δ c = .ok true c') : andT a b δ c = b δ c' := by simp [andT, bnd, Out.bnd, h]
theorem and_f (h : a δ c = .ok false c') : andT a b δ c = .ok false c' := by simp [andT, bnd, Out.bnd, h, DL.ret]
theorem not_ok (h : a δ c = .ok k c') : notT a δ c = .ok (!k) c' := by simp [notT, bnd, Out.bnd, h, DL.ret]
theorem bool_ok (h : m δ c = .ok (.bl k) c') : boolE m δ c = .ok k c' := by simp [boolE, bnd, Out.bnd, h]
theorem tst_bl (h : m δ c = .ok (.bl k) c') : tstE m δ c = .ok k c' := by simp [tstE, bnd, Out.bnd, h, truB, opt]
theorem bin_ok {r : D → D → Cells → Option D} (h1 : ma δ c = .ok x c') (h2 : mb δ c' = .ok y c'') (h3 : r x y c'' = some z) : bin r ma mb δ c = .ok z c'' := by simp [bin, bnd, Out.bnd, h1, h2, h3, opt]
theorem own_ok {C : Nat} {f : List D → M D} {xs ys : List D} {o : Out D} (h1 : ma δ c = .ok x c') (h2 : mb δ c' = .ok y c'') (h3 : insOf x c'' = some (C, xs)) (h4 : insOf y c'' = some (C, ys)) (h5 : f [x, y] c'' = o) : ownM C f ma mb δ c = o := by simp [ownM, bnd, Out.bnd, h1, h2, h3, h4, h5]
end
theorem lcL_st {S : Type} (cell : S → Cells) {Pn : S → Prop} {Q : D → Prop} {tg : D → Ev' → Option Ev'} {tt : TM} {te : EM} {δ : Ev'}
    (h : ∀ x s, Pn s → ∃ δ1 y s', tg x δ = some δ1 ∧ tt δ1 (cell s) = .ok true (cell s) ∧ te δ1 (cell s) = .ok y (cell s') ∧ Pn s' ∧ Q y) :
    ∀ (xs : List D) (s : S), Pn s → ∃ ys s', lcL tg tt te δ xs (cell s) = .ok ys (cell s') ∧ Pn s' ∧ ys.length = xs.length ∧ ∀ y ∈ ys, Q y
  | [], s, hs => ⟨[], s, rfl, hs, rfl, fun _ h => by cases h⟩
  | x :: xs, s, hs => by
    obtain ⟨δ1, y, s1, e1, e2, e3, h1, hq⟩ := h x s hs
    obtain ⟨ys, s', e, h', hl, ha⟩ := lcL_st cell h xs s1 h1
    refine ⟨y :: ys, s', ?_, h', by simp [hl], fun z hz => ?_⟩
    · unfold lcL
      simp [e1, bnd, Out.bnd, e2, e3, e, DL.ret]
    · rcases List.mem_cons.mp hz with rfl | hz
      · exact hq
      · exact ha z hz
theorem map_of {α : Type} {enc : α → D} {P : α → Prop} : ∀ {ys : List D}, (∀ y ∈ ys, ∃ a, P a ∧ y = enc a) → ∃ xs : List α, ys = xs.map enc ∧ xs.length = ys.length ∧ ∀ x ∈ xs, P x
  | [], _ => ⟨[], rfl, rfl, fun _ h => by cases h⟩
  | y :: ys, h => by
    obtain ⟨a, ha, rfl⟩ := h y (by simp)
    obtain ⟨xs, rfl, hl, hx⟩ := map_of (ys := ys) fun z hz => h z (by simp [hz])
    refine ⟨a :: xs, rfl, by simp, fun x hx' => ?_⟩
    rcases List.mem_cons.mp hx' with rfl | hx'
    · exact ha
    · exact hx x hx'
/-- a draw, the draws in slot i -/
theorem draw_i {i : Nat} {δ : Ev'} {n v : Int} {c c' : Cells} {me : EM} (h : δ[i]? = some (.sh (.cell 0))) (hE : me δ c = .ok (.int n) c) (e : m_draw [.cell 0, .int n] c = .ok (.int v) c') : callM m_draw (consA (varE i) (consA me (nilA))) δ c = .ok (.int v) c' := by
  simp [DL.callM, DL.consA, DL.nilA, DL.bnd, DL.Out.bnd, DL.ret, DL.varE, h, hE, e]
section
variable {m : EM} {ms : Ev' → M (List D)} {δ : Ev'} {c c' c'' : Cells} {d : D} {xs ys : List D} {mi : List D → M (List D)} {C : Nat}
theorem cons_ok (h1 : m δ c = .ok d c') (h2 : ms δ c' = .ok xs c'') : consA m ms δ c = .ok (d :: xs) c'' := by simp [consA, bnd, Out.bnd, h1, h2, DL.ret]
theorem make_ok (h1 : ms δ c = .ok xs c') (h2 : mi xs c' = .ok ys c'') : makeM C mi ms δ c = .ok (.ins C ys) c'' := by simp [makeM, bnd, Out.bnd, h1, h2, DL.ret]
theorem tup_ok (h1 : ms δ c = .ok xs c') (z : xs.length ≤ sizeLine) : tupE ms δ c = .ok (.tup xs) c' := by simp [tupE, bnd, Out.bnd, h1, z]
theorem lst_ok (h1 : ms δ c = .ok xs c') (z : xs.length ≤ sizeLine) : lstE ms δ c = .ok (.lst xs) c' := by simp [lstE, bnd, Out.bnd, h1, z]
end
end DL

namespace L04
open PySem PySem.Spec PyProof.Rows L2 DL
def topS (i : Nat) : Stmt := PySem.Challenge.pw_promiseshapes_k04_whole_tick_and_latest.main.body.getD i (.Pass ⟨0, 0, 0, 0⟩)
structure Ad where
  a_Stamp___init__ : Addr
  f_Stamp___init__ : FuncData
  a__law_start : Addr
  f__law_start : FuncData
  a__law_draw : Addr
  f__law_draw : FuncData
  a__law_rows_of_stamps : Addr
  f__law_rows_of_stamps : FuncData
  a_Stamp_tick : Addr
  f_Stamp_tick : FuncData
  a__law_ticked : Addr
  f__law_ticked : FuncData
  a__law_same : Addr
  f__law_same : FuncData
  a__law_is_stamp : Addr
  f__law_is_stamp : FuncData
  a_Stamp___lt__ : Addr
  f_Stamp___lt__ : FuncData
  a__law_ticks_well : Addr
  f__law_ticks_well : FuncData
  a_latest : Addr
  f_latest : FuncData
  a__law_latest : Addr
  f__law_latest : FuncData
  a__law_tells_latest : Addr
  f__law_tells_latest : FuncData
  a_law : Addr
  f_law : FuncData
  a_InvalidStamp : Addr
  a_Stamp : Addr
def ceOf (A : Ad) : CEnv := fun C => match C with
  | 1 => (A.a_InvalidStamp, [])
  | 2 => (A.a_Stamp, ["count", "place"])
  | _ => (0, [])
def isis : List Nat := [2]
abbrev s_Stamp___init__ : Stmt := inClass (topS 11) 0
abbrev s__law_start : Stmt := topS 14
abbrev s__law_draw : Stmt := topS 15
abbrev s__law_rows_of_stamps : Stmt := topS 17
abbrev s_Stamp_tick : Stmt := inClass (topS 11) 7
abbrev s__law_ticked : Stmt := topS 19
abbrev s__law_same : Stmt := topS 16
abbrev s__law_is_stamp : Stmt := topS 18
abbrev s_Stamp___lt__ : Stmt := inClass (topS 11) 2
abbrev s__law_ticks_well : Stmt := topS 21
abbrev s_latest : Stmt := topS 12
abbrev s__law_latest : Stmt := topS 20
abbrev s__law_tells_latest : Stmt := topS 22
abbrev s_law : Stmt := topS 23
structure TT (K : PySem.W.Frag) (mg : PySem.Str → Option Value) (A : Ad) : Prop where
  c_MOST_COUNT : Con K mg "MOST_COUNT" (.int 1000000000000)
  c_MOST_PLACE : Con K mg "MOST_PLACE" (.int 99)
  x_InvalidStamp : PySem.W.excIn K A.a_InvalidStamp [.type "ValueError", .type "Exception", .type "BaseException", .type "object"] "ValueError.__new__" = true
  kp_InvalidStamp : PySem.W.keepIn K (.ref A.a_InvalidStamp) = true
  eb_InvalidStamp : PySem.W.subIn K (.ref A.a_InvalidStamp) (.type "BaseException") = some true
  et_InvalidStamp : PySem.W.typeIn K (.ref A.a_InvalidStamp) = some (.type "type")
  g_InvalidStamp : mg "InvalidStamp" = some (.ref A.a_InvalidStamp)
  at_Stamp_count : AtF K (ceOf A) 2 0 "count"
  at_Stamp_place : AtF K (ceOf A) 2 1 "place"
  F_Stamp___init__ : Fun K "__init__" "Stamp.__init__" s_Stamp___init__ A.a_Stamp___init__ A.f_Stamp___init__
  n_list : mg "list" = none
  F__law_start : Fun K "_law_start" "_law_start" s__law_start A.a__law_start A.f__law_start
  n_len : mg "len" = none
  n_int : mg "int" = none
  F__law_draw : Fun K "_law_draw" "_law_draw" s__law_draw A.a__law_draw A.f__law_draw
  g__law_draw : mg "_law_draw" = some (.ref A.a__law_draw)
  n_range : mg "range" = none
  F__law_rows_of_stamps : Fun K "_law_rows_of_stamps" "_law_rows_of_stamps" s__law_rows_of_stamps A.a__law_rows_of_stamps A.f__law_rows_of_stamps
  n_max : mg "max" = none
  mk_Stamp : Mk K (ceOf A 2).1 A.a_Stamp___init__
  g_Stamp : mg "Stamp" = some (.ref A.a_Stamp)
  F_Stamp_tick : Fun K "tick" "Stamp.tick" s_Stamp_tick A.a_Stamp_tick A.f_Stamp_tick
  mt_Stamp_tick : MtF K (ceOf A) 2 "tick" A.a_Stamp_tick
  ex_InvalidStamp_InvalidStamp : PySem.W.exmOne K (.ref A.a_InvalidStamp) (.ref A.a_InvalidStamp) = some true
  F__law_ticked : Fun K "_law_ticked" "_law_ticked" s__law_ticked A.a__law_ticked A.f__law_ticked
  n_bool : mg "bool" = none
  isi : IsOk K (ceOf A) isis
  n_isinstance : mg "isinstance" = none
  n_str : mg "str" = none
  n_tuple : mg "tuple" = none
  g__law_same : mg "_law_same" = some (.ref A.a__law_same)
  F__law_same : Fun K "_law_same" "_law_same" s__law_same A.a__law_same A.f__law_same
  F__law_is_stamp : Fun K "_law_is_stamp" "_law_is_stamp" s__law_is_stamp A.a__law_is_stamp A.f__law_is_stamp
  F_Stamp___lt__ : Fun K "__lt__" "Stamp.__lt__" s_Stamp___lt__ A.a_Stamp___lt__ A.f_Stamp___lt__
  g__law_ticked : mg "_law_ticked" = some (.ref A.a__law_ticked)
  g__law_is_stamp : mg "_law_is_stamp" = some (.ref A.a__law_is_stamp)
  me_Stamp___lt__ : Meth K (ceOf A 2).1 "__lt__" A.a_Stamp___lt__
  F__law_ticks_well : Fun K "_law_ticks_well" "_law_ticks_well" s__law_ticks_well A.a__law_ticks_well A.f__law_ticks_well
  F_latest : Fun K "latest" "latest" s_latest A.a_latest A.f_latest
  g_latest : mg "latest" = some (.ref A.a_latest)
  F__law_latest : Fun K "_law_latest" "_law_latest" s__law_latest A.a__law_latest A.f__law_latest
  g__law_latest : mg "_law_latest" = some (.ref A.a__law_latest)
  F__law_tells_latest : Fun K "_law_tells_latest" "_law_tells_latest" s__law_tells_latest A.a__law_tells_latest A.f__law_tells_latest
  g__law_start : mg "_law_start" = some (.ref A.a__law_start)
  g__law_rows_of_stamps : mg "_law_rows_of_stamps" = some (.ref A.a__law_rows_of_stamps)
  g__law_tells_latest : mg "_law_tells_latest" = some (.ref A.a__law_tells_latest)
  g__law_ticks_well : mg "_law_ticks_well" = some (.ref A.a__law_ticks_well)
  F_law : Fun K "law" "law" s_law A.a_law A.f_law
section
variable {P : Program} {w : World} {K : PySem.W.Frag} {mg : PySem.Str → Option Value} {base : Heap} {A : Ad}
theorem sc_Stamp___init__ : FnScope ["self", "count", "place"] ["self", "count", "place"] (defScope s_Stamp___init__) := ⟨rfl, rfl, rfl, by decide +kernel, rfl, by decide +kernel, by decide +kernel⟩
def b_Stamp___init__ : SM := seqS (ifS (orT (notT (boolE (chainE leP leP (litE (.int 0)) (varE 1) (litE (.int 1000000000000))))) (notT (boolE (chainE leP leP (litE (.int 0)) (varE 2) (litE (.int 99)))))) (raiseS 1) (nilS)) (seqS (slfS 0 2 0 (varE 1)) (slfS 0 2 1 (varE 2)))
noncomputable def m_Stamp___init__ : List D → M (List D) := mI 2 3 2 b_Stamp___init__
theorem f_Stamp___init__ (t : TT K mg A) : FnPI P w K mg base (ceOf A) 2 1 A.a_Stamp___init__ m_Stamp___init__ := (fn_i t.F_Stamp___init__ sc_Stamp___init__ rfl mI_is fun cdv A0 outer s H E hr tk po => have hu := huD hr; have hv := huE hr; sd_cons (sd_if (pdw_pt (pdw_or (pdt_not (pt_chainD (od_le hu) (od_le hu) (pd_int) (pd_var 1 (pv 1)) (pd_con (by rfl) t.c_MOST_COUNT))) (pdw_or1 (pdt_not (pt_chainD (od_le hu) (od_le hu) (pd_int) (pd_var 2 (pv 2)) (pd_con (by rfl) t.c_MOST_PLACE)))))) (sd_one (sd_raise (C := 1) rfl tk (pmk_own PySem.F.excBase_ValueError t.x_InvalidStamp t.g_InvalidStamp t.kp_InvalidStamp (raises_own t.eb_InvalidStamp t.et_InvalidStamp) (by rfl)))) (sd_nil)) (sd_cons (sd_slf 0 t.at_Stamp_count (pv 0) (pd_var 1 (pv 1))) (sd_one (sd_slf 0 t.at_Stamp_place (pv 0) (pd_var 2 (pv 2))))) : FnI P w K mg base (ceOf A) 2 1 A.a_Stamp___init__ A.f_Stamp___init__ ["self", "count", "place"] m_Stamp___init__).pos0 (t.F_Stamp___init__.binds fun _ _ _ _ _ _ us hl => match us, hl with | [_, _, _], _ => rfl)
theorem sc__law_start : FnScope ["script"] ["script"] (defScope s__law_start) := ⟨rfl, rfl, rfl, by decide +kernel, rfl, by decide +kernel, by decide +kernel⟩
abbrev b__law_start : SM := DL.b_start
abbrev m__law_start : List D → M D := DL.m_start
theorem d__law_start (t : TT K mg A) : FnD P w K mg base (ceOf A) 1 A.a__law_start A.f__law_start ["script"] m__law_start :=
  fn_d t.F__law_start sc__law_start fun cdv A0 outer s H E hr tk po => have hu := huD hr; have hv := huE hr; sd_one (sd_ret (pd_lstC (pda_cons (pd_callTy (cd_listG rfl) (by rfl) t.n_list (by decide +kernel) (pda_cons (pd_var 0 (pv 0)) (pda_nil))) (pda_cons (pd_int) (pda_cons (pd_int) (pda_cons (pd_int) (pda_cons (pd_int) (pda_cons (pd_bl) (pda_nil)))))))))
theorem f__law_start (t : TT K mg A) : FnP P w K mg base (ceOf A) 1 A.a__law_start m__law_start := (d__law_start t).pos0 (t.F__law_start.binds fun _ _ _ _ _ _ us hl => match us, hl with | [_], _ => rfl)
theorem sc__law_draw : FnScope ["draws", "limit", "step", "mixed", "value"] ["draws", "limit"] (defScope s__law_draw) := ⟨rfl, rfl, rfl, by decide +kernel, rfl, by decide +kernel, by decide +kernel⟩
abbrev b__law_draw : SM := DL.b_draw
abbrev m__law_draw : List D → M D := DL.m_draw
theorem d__law_draw (t : TT K mg A) : FnD P w K mg base (ceOf A) 1 A.a__law_draw A.f__law_draw ["draws", "limit"] m__law_draw :=
  fn_d t.F__law_draw sc__law_draw fun cdv A0 outer s H E hr tk po => have hu := huD hr; have hv := huE hr; sd_cons (sd_if (pdw_pt (pdw_and (pt_cmp (od_eq hu) (pd_ix (pd_var 0 (pv 0)) (pd_int)) (pd_int) (by rfl)) (pdw_and1 (pt_cmp (od_lt hu) (pd_ix (pd_var 0 (pv 0)) (pd_int)) (pd_callB cd_len (by rfl) t.n_len (by decide +kernel) (pda_cons (pd_ix (pd_var 0 (pv 0)) (pd_int)) (pda_nil))) (by rfl))))) (sd_cons (sd_setIx (pd_var 0 (pv 0)) (pd_int) (pd_callTy cd_int (by rfl) t.n_int (by decide +kernel) (pda_cons (pd_ix (pd_ix (pd_var 0 (pv 0)) (pd_int)) (pd_ix (pd_var 0 (pv 0)) (pd_int))) (pda_nil)))) (sd_cons (sd_setIx (pd_var 0 (pv 0)) (pd_int) (pd_bin od_add (pd_ix (pd_var 0 (pv 0)) (pd_int)) (pd_int))) (sd_cons (sd_setIx (pd_var 0 (pv 0)) (pd_int) (pd_int)) (sd_cons (sd_setIx (pd_var 0 (pv 0)) (pd_int) (pd_int)) (sd_cons (sd_setIx (pd_var 0 (pv 0)) (pd_int) (pd_cmp (od_ge hu) (pd_ix (pd_var 0 (pv 0)) (pd_int)) (pd_bin od_pow (pd_int) (pd_int)) (by rfl))) (sd_one (sd_if (pt_tru (pd_ix (pd_var 0 (pv 0)) (pd_int))) (sd_one (sd_setIx (pd_var 0 (pv 0)) (pd_int) (pd_int))) (sd_nil)))))))) (sd_nil)) (sd_cons (sd_if (pdw_pt (pdw_or (pt_cmp (od_eq hu) (pd_ix (pd_var 0 (pv 0)) (pd_int)) (pd_int) (by rfl)) (pdw_or1 (pt_cmp (od_lt hu) (pd_var 1 (pv 1)) (pd_int) (by rfl))))) (sd_one (sd_ret (pd_int))) (sd_nil)) (sd_cons (sd_setIx (pd_var 0 (pv 0)) (pd_int) (pd_bin od_sub (pd_ix (pd_var 0 (pv 0)) (pd_int)) (pd_int))) (sd_cons (sd_setIx (pd_var 0 (pv 0)) (pd_int) (pd_bin od_add (pd_ix (pd_var 0 (pv 0)) (pd_int)) (pd_int))) (sd_cons (sd_if (pt_tru (pd_ix (pd_var 0 (pv 0)) (pd_int))) (sd_cons (sd_set 4 sc__law_draw.nd rfl (by first | exact Or.inl rfl | exact Or.inr rfl) (pd_bin od_mod (pd_callTy cd_int (by rfl) t.n_int (by decide +kernel) (pda_cons (pd_ix (pd_var 0 (pv 0)) (pd_int)) (pda_nil))) (pd_var 1 (pv 1)))) (sd_cons (sd_setIx (pd_var 0 (pv 0)) (pd_int) (pd_bin od_fdiv (pd_callTy cd_int (by rfl) t.n_int (by decide +kernel) (pda_cons (pd_ix (pd_var 0 (pv 0)) (pd_int)) (pda_nil))) (pd_var 1 (pv 1)))) (sd_cons (sd_if (pt_cmp (od_eq hu) (pd_ix (pd_var 0 (pv 0)) (pd_int)) (pd_int) (by rfl)) (sd_one (sd_setIx (pd_var 0 (pv 0)) (pd_int) (pd_int))) (sd_nil)) (sd_one (sd_ret (pd_var 4 (pv 4))))))) (sd_nil)) (sd_cons (sd_set 2 sc__law_draw.nd rfl (by first | exact Or.inl rfl | exact Or.inr rfl) (pd_ix (pd_var 0 (pv 0)) (pd_int))) (sd_cons (sd_set 3 sc__law_draw.nd rfl (by first | exact Or.inl rfl | exact Or.inr rfl) (pd_bin od_mod (pd_callTy cd_int (by rfl) t.n_int (by decide +kernel) (pda_cons (pd_bin od_mul (pd_ix (pd_var 0 (pv 0)) (pd_int)) (pd_int)) (pda_nil))) (pd_int))) (sd_cons (sd_set 3 sc__law_draw.nd rfl (by first | exact Or.inl rfl | exact Or.inr rfl) (pd_bin od_mod (pd_callTy cd_int (by rfl) t.n_int (by decide +kernel) (pda_cons (pd_bin od_mul (pd_var 3 (pv 3)) (pd_bin od_add (pd_bin od_add (pd_bin od_mul (pd_bin od_mul (pd_int) (pd_var 2 (pv 2))) (pd_var 2 (pv 2))) (pd_bin od_mul (pd_int) (pd_var 2 (pv 2)))) (pd_int))) (pda_nil))) (pd_int))) (sd_one (sd_ret (pd_bin od_mod (pd_callTy cd_int (by rfl) t.n_int (by decide +kernel) (pda_cons (pd_var 3 (pv 3)) (pda_nil))) (pd_var 1 (pv 1))))))))))))
theorem f__law_draw (t : TT K mg A) : FnP P w K mg base (ceOf A) 1 A.a__law_draw m__law_draw := (d__law_draw t).pos0 (t.F__law_draw.binds fun _ _ _ _ _ _ us hl => match us, hl with | [_, _], _ => rfl)
theorem sc__law_rows_of_stamps : FnScope ["draws", "count", "place", "rows", "mode", "k"] ["draws"] (defScope s__law_rows_of_stamps) := ⟨rfl, rfl, rfl, by decide +kernel, rfl, by decide +kernel, by decide +kernel⟩
noncomputable def b__law_rows_of_stamps : SM := seqS (ifS (boolE (bin eqP (callM m__law_draw (consA (varE 0) (consA (litE (.int 3)) (nilA)))) (litE (.int 2)))) (retS (lcE (itR rng1 (consA (litE (.int 5)) nilA)) [5] (tgN 5) (yesT) (tupE (consA (callM m__law_draw (consA (varE 0) (consA (bin addP (bin powP (litE (.int 10)) (litE (.int 12))) (litE (.int 1))) (nilA)))) (consA (callM m__law_draw (consA (varE 0) (consA (litE (.int 100)) (nilA)))) (nilA)))))) (nilS)) (seqS (setS 1 (callM m__law_draw (consA (varE 0) (consA (bin addP (bin powP (litE (.int 10)) (litE (.int 12))) (litE (.int 1))) (nilA))))) (seqS (ifS (boolE (bin eqP (callM m__law_draw (consA (varE 0) (consA (litE (.int 3)) (nilA)))) (litE (.int 1)))) (setS 1 (bin subP (bin powP (litE (.int 10)) (litE (.int 12))) (callM m__law_draw (consA (varE 0) (consA (litE (.int 3)) (nilA)))))) (nilS)) (seqS (setS 2 (callM m__law_draw (consA (varE 0) (consA (litE (.int 100)) (nilA))))) (seqS (ownS 3 (szA (consA (tupE (consA (varE 1) (consA (varE 2) (nilA)))) (consA (tupE (consA (varE 1) (consA (bin modP (callB intF (consA (bin addP (bin addP (varE 2) (litE (.int 1))) (callM m__law_draw (consA (varE 0) (consA (litE (.int 99)) (nilA))))) (nilA))) (litE (.int 100))) (nilA)))) (nilA))))) (seqS (appO 3 (tupE (consA (bin modP (callB intF (consA (bin addP (bin addP (varE 1) (litE (.int 1))) (callM m__law_draw (consA (varE 0) (consA (litE (.int 3)) (nilA))))) (nilA))) (bin addP (bin powP (litE (.int 10)) (litE (.int 12))) (litE (.int 1)))) (consA (callM m__law_draw (consA (varE 0) (consA (litE (.int 100)) (nilA)))) (nilA))))) (seqS (setS 4 (callM m__law_draw (consA (varE 0) (consA (litE (.int 4)) (nilA))))) (seqS (ifS (boolE (bin ltP (varE 4) (litE (.int 3)))) (appO 3 (ixO 3 (varE 4))) (appO 3 (tupE (consA (callM m__law_draw (consA (varE 0) (consA (bin addP (bin powP (litE (.int 10)) (litE (.int 12))) (litE (.int 1))) (nilA)))) (consA (callM m__law_draw (consA (varE 0) (consA (litE (.int 100)) (nilA)))) (nilA)))))) (seqS (appO 3 (tupE (consA (callM m__law_draw (consA (varE 0) (consA (bin addP (bin powP (litE (.int 10)) (litE (.int 12))) (litE (.int 1))) (nilA)))) (consA (callM m__law_draw (consA (varE 0) (consA (litE (.int 100)) (nilA)))) (nilA))))) (coldS 3 (retS (varE 3)))))))))))
noncomputable def m__law_rows_of_stamps : List D → M D := runD 6 1 b__law_rows_of_stamps
theorem d__law_rows_of_stamps (t : TT K mg A) : FnD P w K mg base (ceOf A) 2 A.a__law_rows_of_stamps A.f__law_rows_of_stamps ["draws"] m__law_rows_of_stamps :=
  fn_d t.F__law_rows_of_stamps sc__law_rows_of_stamps fun cdv A0 outer s H E hr tk po => have hu := huD hr; have hv := huE hr; sd_cons (sd_if (pt_cmp (od_eq hu) (pd_call (f__law_draw t) (hr.mono (by decide)) (by rfl) t.g__law_draw t.F__law_draw.kp (passW tk) (pda_cons (pd_var 0 (pv 0)) (pda_cons (pd_int) (pda_nil)))) (pd_int) (by rfl)) (sd_one (sd_ret (pd_lc (own := [("k", 5)]) rfl sc__law_rows_of_stamps.nd (pid_range1 (by rfl) t.n_range (pda_cons (pd_int) pda_nil)) (blkT (by rfl)) (fun _ _ _ _ _ => pgd_name (js := [5]) 5 sc__law_rows_of_stamps.nd rfl (by first | exact Or.inl rfl | exact Or.inr rfl)) (fun _ _ _ _ _ => pdts_nil) (fun _ _ _ _ _ => pd_tup (pda_cons (pd_call (f__law_draw t) (hr.mono (by decide)) (by rfl) t.g__law_draw t.F__law_draw.kp passW0 (pda_cons (pd_var 0 (pv 0)) (pda_cons (pd_bin od_add (pd_bin od_pow (pd_int) (pd_int)) (pd_int)) (pda_nil)))) (pda_cons (pd_call (f__law_draw t) (hr.mono (by decide)) (by rfl) t.g__law_draw t.F__law_draw.kp passW0 (pda_cons (pd_var 0 (pv 0)) (pda_cons (pd_int) (pda_nil)))) (pda_nil))))))) (sd_nil)) (sd_cons (sd_set 1 sc__law_rows_of_stamps.nd rfl (by first | exact Or.inl rfl | exact Or.inr rfl) (pd_call (f__law_draw t) (hr.mono (by decide)) (by rfl) t.g__law_draw t.F__law_draw.kp (passW tk) (pda_cons (pd_var 0 (pv 0)) (pda_cons (pd_bin od_add (pd_bin od_pow (pd_int) (pd_int)) (pd_int)) (pda_nil))))) (sd_cons (sd_if (pt_cmp (od_eq hu) (pd_call (f__law_draw t) (hr.mono (by decide)) (by rfl) t.g__law_draw t.F__law_draw.kp (passW tk) (pda_cons (pd_var 0 (pv 0)) (pda_cons (pd_int) (pda_nil)))) (pd_int) (by rfl)) (sd_one (sd_set 1 sc__law_rows_of_stamps.nd rfl (by first | exact Or.inl rfl | exact Or.inr rfl) (pd_bin od_sub (pd_bin od_pow (pd_int) (pd_int)) (pd_call (f__law_draw t) (hr.mono (by decide)) (by rfl) t.g__law_draw t.F__law_draw.kp (passW tk) (pda_cons (pd_var 0 (pv 0)) (pda_cons (pd_int) (pda_nil))))))) (sd_nil)) (sd_cons (sd_set 2 sc__law_rows_of_stamps.nd rfl (by first | exact Or.inl rfl | exact Or.inr rfl) (pd_call (f__law_draw t) (hr.mono (by decide)) (by rfl) t.g__law_draw t.F__law_draw.kp (passW tk) (pda_cons (pd_var 0 (pv 0)) (pda_cons (pd_int) (pda_nil))))) (sd_cons (sd_own 3 sc__law_rows_of_stamps.nd rfl (by first | exact Or.inl rfl | exact Or.inr rfl) (po_lst (pda_cons (pd_tup (pda_cons (pd_var 1 (pv 1)) (pda_cons (pd_var 2 (pv 2)) (pda_nil)))) (pda_cons (pd_tup (pda_cons (pd_var 1 (pv 1)) (pda_cons (pd_bin od_mod (pd_callTy cd_int (by rfl) t.n_int (by decide +kernel) (pda_cons (pd_bin od_add (pd_bin od_add (pd_var 2 (pv 2)) (pd_int)) (pd_call (f__law_draw t) (hr.mono (by decide)) (by rfl) t.g__law_draw t.F__law_draw.kp (passW tk) (pda_cons (pd_var 0 (pv 0)) (pda_cons (pd_int) (pda_nil))))) (pda_nil))) (pd_int)) (pda_nil)))) (pda_nil))))) (sd_cons (sd_appO 3 (pv 3) (pd_tup (pda_cons (pd_bin od_mod (pd_callTy cd_int (by rfl) t.n_int (by decide +kernel) (pda_cons (pd_bin od_add (pd_bin od_add (pd_var 1 (pv 1)) (pd_int)) (pd_call (f__law_draw t) (hr.mono (by decide)) (by rfl) t.g__law_draw t.F__law_draw.kp (passW tk) (pda_cons (pd_var 0 (pv 0)) (pda_cons (pd_int) (pda_nil))))) (pda_nil))) (pd_bin od_add (pd_bin od_pow (pd_int) (pd_int)) (pd_int))) (pda_cons (pd_call (f__law_draw t) (hr.mono (by decide)) (by rfl) t.g__law_draw t.F__law_draw.kp (passW tk) (pda_cons (pd_var 0 (pv 0)) (pda_cons (pd_int) (pda_nil)))) (pda_nil)))) (pe_bm PySem.F.plainAttrs_list PySem.F.slot_list_append PySem.F.type_list_append mt_append (pv 3) (pa_cons (pd_tup (pda_cons (pd_bin od_mod (pd_callTy cd_int (by rfl) t.n_int (by decide +kernel) (pda_cons (pd_bin od_add (pd_bin od_add (pd_var 1 (pv 1)) (pd_int)) (pd_call (f__law_draw t) (hr.mono (by decide)) (by rfl) t.g__law_draw t.F__law_draw.kp (passW tk) (pda_cons (pd_var 0 (pv 0)) (pda_cons (pd_int) (pda_nil))))) (pda_nil))) (pd_bin od_add (pd_bin od_pow (pd_int) (pd_int)) (pd_int))) (pda_cons (pd_call (f__law_draw t) (hr.mono (by decide)) (by rfl) t.g__law_draw t.F__law_draw.kp (passW tk) (pda_cons (pd_var 0 (pv 0)) (pda_cons (pd_int) (pda_nil)))) (pda_nil)))) pa_nil))) (sd_cons (sd_set 4 sc__law_rows_of_stamps.nd rfl (by first | exact Or.inl rfl | exact Or.inr rfl) (pd_call (f__law_draw t) (hr.mono (by decide)) (by rfl) t.g__law_draw t.F__law_draw.kp (passW tk) (pda_cons (pd_var 0 (pv 0)) (pda_cons (pd_int) (pda_nil))))) (sd_cons (sd_if (pt_cmp (od_lt hu) (pd_var 4 (pv 4)) (pd_int) (by rfl)) (sd_one (sd_appO 3 (pv 3) (pd_ixO 3 (pv 3) (pd_var 4 (pv 4))) (pe_bm PySem.F.plainAttrs_list PySem.F.slot_list_append PySem.F.type_list_append mt_append (pv 3) (pa_cons (pd_ixO 3 (pv 3) (pd_var 4 (pv 4))) pa_nil)))) (sd_one (sd_appO 3 (pv 3) (pd_tup (pda_cons (pd_call (f__law_draw t) (hr.mono (by decide)) (by rfl) t.g__law_draw t.F__law_draw.kp (passW tk) (pda_cons (pd_var 0 (pv 0)) (pda_cons (pd_bin od_add (pd_bin od_pow (pd_int) (pd_int)) (pd_int)) (pda_nil)))) (pda_cons (pd_call (f__law_draw t) (hr.mono (by decide)) (by rfl) t.g__law_draw t.F__law_draw.kp (passW tk) (pda_cons (pd_var 0 (pv 0)) (pda_cons (pd_int) (pda_nil)))) (pda_nil)))) (pe_bm PySem.F.plainAttrs_list PySem.F.slot_list_append PySem.F.type_list_append mt_append (pv 3) (pa_cons (pd_tup (pda_cons (pd_call (f__law_draw t) (hr.mono (by decide)) (by rfl) t.g__law_draw t.F__law_draw.kp (passW tk) (pda_cons (pd_var 0 (pv 0)) (pda_cons (pd_bin od_add (pd_bin od_pow (pd_int) (pd_int)) (pd_int)) (pda_nil)))) (pda_cons (pd_call (f__law_draw t) (hr.mono (by decide)) (by rfl) t.g__law_draw t.F__law_draw.kp (passW tk) (pda_cons (pd_var 0 (pv 0)) (pda_cons (pd_int) (pda_nil)))) (pda_nil)))) pa_nil))))) (sd_cons (sd_appO 3 (pv 3) (pd_tup (pda_cons (pd_call (f__law_draw t) (hr.mono (by decide)) (by rfl) t.g__law_draw t.F__law_draw.kp (passW tk) (pda_cons (pd_var 0 (pv 0)) (pda_cons (pd_bin od_add (pd_bin od_pow (pd_int) (pd_int)) (pd_int)) (pda_nil)))) (pda_cons (pd_call (f__law_draw t) (hr.mono (by decide)) (by rfl) t.g__law_draw t.F__law_draw.kp (passW tk) (pda_cons (pd_var 0 (pv 0)) (pda_cons (pd_int) (pda_nil)))) (pda_nil)))) (pe_bm PySem.F.plainAttrs_list PySem.F.slot_list_append PySem.F.type_list_append mt_append (pv 3) (pa_cons (pd_tup (pda_cons (pd_call (f__law_draw t) (hr.mono (by decide)) (by rfl) t.g__law_draw t.F__law_draw.kp (passW tk) (pda_cons (pd_var 0 (pv 0)) (pda_cons (pd_bin od_add (pd_bin od_pow (pd_int) (pd_int)) (pd_int)) (pda_nil)))) (pda_cons (pd_call (f__law_draw t) (hr.mono (by decide)) (by rfl) t.g__law_draw t.F__law_draw.kp (passW tk) (pda_cons (pd_var 0 (pv 0)) (pda_cons (pd_int) (pda_nil)))) (pda_nil)))) pa_nil))) (sd_cold 3 (sd_one (sd_ret (pd_var 3 (pv 3)))))))))))))
theorem f__law_rows_of_stamps (t : TT K mg A) : FnP P w K mg base (ceOf A) 2 A.a__law_rows_of_stamps m__law_rows_of_stamps := (d__law_rows_of_stamps t).pos0 (t.F__law_rows_of_stamps.binds fun _ _ _ _ _ _ us hl => match us, hl with | [_], _ => rfl)
theorem sc_Stamp_tick : FnScope ["self", "others", "most", "other"] ["self", "others"] (defScope s_Stamp_tick) := ⟨rfl, rfl, rfl, by decide +kernel, rfl, by decide +kernel, by decide +kernel⟩
noncomputable def b_Stamp_tick : SM := seqS (setS 2 (un1 (fldP [(2, 0)]) (varE 0))) (seqS (forS (itE (varE 1)) (tgN 3) (setS 2 (callB maxF (consA (varE 2) (consA (un1 (fldP [(2, 0)]) (varE 3)) (nilA)))))) (retS (makeM 2 m_Stamp___init__ (consA (bin addP (varE 2) (litE (.int 1))) (consA (un1 (fldP [(2, 1)]) (varE 0)) (nilA))))))
noncomputable def m_Stamp_tick : List D → M D := starM 1 (runD 4 2 b_Stamp_tick)
theorem f_Stamp_tick (t : TT K mg A) : FnP P w K mg base (ceOf A) 3 A.a_Stamp_tick m_Stamp_tick := fn_pstar (ps := ["self"]) t.F_Stamp_tick sc_Stamp_tick (fun _ _ _ _ _ _ us rest h => match us, h with | [_], _ => match rest with | [] => rfl | _ :: _ => rfl) fun cdv A0 outer s H E hr tk po => have hu := huD hr; have hv := huE hr; sd_cons (sd_set 2 sc_Stamp_tick.nd rfl (by first | exact Or.inl rfl | exact Or.inr rfl) (pd_fld (atFs_one t.at_Stamp_count) (pd_var 0 (pv 0)))) (sd_cons (sd_for po rfl (pid_seq (pd_var 1 (pv 1))) (pgd_name (js := [3]) 3 sc_Stamp_tick.nd rfl (by first | exact Or.inl rfl | exact Or.inr rfl)) (sd_one (sd_set 2 sc_Stamp_tick.nd rfl (by first | exact Or.inl rfl | exact Or.inr rfl) (pd_callB (cd_max rfl) (by rfl) t.n_max (by decide +kernel) (pda_cons (pd_var 2 (pv 2)) (pda_cons (pd_fld (atFs_one t.at_Stamp_count) (pd_var 3 (pv 3))) (pda_nil))))))) (sd_one (sd_ret (pd_make (C := 2) t.mk_Stamp (f_Stamp___init__ t) (hr.mono (by decide)) (by rfl) t.g_Stamp (passW tk) (pda_cons (pd_bin od_add (pd_var 2 (pv 2)) (pd_int)) (pda_cons (pd_fld (atFs_one t.at_Stamp_place) (pd_var 0 (pv 0))) (pda_nil)))))))
theorem sc__law_ticked : FnScope ["stamp", "others"] ["stamp", "others"] (defScope s__law_ticked) := ⟨rfl, rfl, rfl, by decide +kernel, rfl, by decide +kernel, by decide +kernel⟩
noncomputable def b__law_ticked : SM := tryS [(1, true)] (seqS (ifS (boolE (bin eqP (callB lenP (consA (varE 1) (nilA))) (litE (.int 0)))) (retS (tupE (consA (litE (.str "stamp")) (consA (methM 2 m_Stamp_tick (varE 0) nilA) (nilA))))) (nilS)) (seqS (ifS (boolE (bin eqP (callB lenP (consA (varE 1) (nilA))) (litE (.int 1)))) (retS (tupE (consA (litE (.str "stamp")) (consA (methM 2 m_Stamp_tick (varE 0) (consA (bin ixP (varE 1) (litE (.int 0))) (nilA))) (nilA))))) (nilS)) (seqS (ifS (boolE (bin eqP (callB lenP (consA (varE 1) (nilA))) (litE (.int 2)))) (retS (tupE (consA (litE (.str "stamp")) (consA (methM 2 m_Stamp_tick (varE 0) (consA (bin ixP (varE 1) (litE (.int 0))) (consA (bin ixP (varE 1) (litE (.int 1))) (nilA)))) (nilA))))) (nilS)) (seqS (ifS (boolE (bin eqP (callB lenP (consA (varE 1) (nilA))) (litE (.int 3)))) (retS (tupE (consA (litE (.str "stamp")) (consA (methM 2 m_Stamp_tick (varE 0) (consA (bin ixP (varE 1) (litE (.int 0))) (consA (bin ixP (varE 1) (litE (.int 1))) (consA (bin ixP (varE 1) (litE (.int 2))) (nilA))))) (nilA))))) (nilS)) (retS (tupE (consA (litE (.str "stamp")) (consA (methM 2 m_Stamp_tick (varE 0) (consA (bin ixP (varE 1) (litE (.int 0))) (consA (bin ixP (varE 1) (litE (.int 1))) (consA (bin ixP (varE 1) (litE (.int 2))) (consA (bin ixP (varE 1) (litE (.int 3))) (nilA)))))) (nilA))))))))) (retS (tupE (consA (litE (.str "refused")) (consA (litE .non) (nilA)))))
noncomputable def m__law_ticked : List D → M D := runD 2 2 b__law_ticked
theorem d__law_ticked (t : TT K mg A) : FnD P w K mg base (ceOf A) 4 A.a__law_ticked A.f__law_ticked ["stamp", "others"] m__law_ticked :=
  fn_d t.F__law_ticked sc__law_ticked fun cdv A0 outer s H E hr tk po => have hu := huD hr; have hv := huE hr; sd_one (sd_try (tab := [(1, true)]) rfl rfl ⟨by rfl, by decide, Or.inl t.g_InvalidStamp⟩ (exT_cons t.ex_InvalidStamp_InvalidStamp exT_nil) tk (fun W' pn xe tk' po' => sd_cons (sd_if (pt_cmp (od_eq hu) (pd_callB cd_len (by rfl) t.n_len (by decide +kernel) (pda_cons (pd_var 1 (pv 1)) (pda_nil))) (pd_int) (by rfl)) (sd_one (sd_ret (pd_tup (pda_cons (pd_str) (pda_cons (pd_meth0 t.mt_Stamp_tick (f_Stamp_tick t) (hr.mono (by decide)) (passW tk') (pd_var 0 (pv 0))) (pda_nil)))))) (sd_nil)) (sd_cons (sd_if (pt_cmp (od_eq hu) (pd_callB cd_len (by rfl) t.n_len (by decide +kernel) (pda_cons (pd_var 1 (pv 1)) (pda_nil))) (pd_int) (by rfl)) (sd_one (sd_ret (pd_tup (pda_cons (pd_str) (pda_cons (pd_meth t.mt_Stamp_tick (f_Stamp_tick t) (hr.mono (by decide)) (passW tk') (pd_var 0 (pv 0)) (pda_cons (pd_ix (pd_var 1 (pv 1)) (pd_int)) (pda_nil))) (pda_nil)))))) (sd_nil)) (sd_cons (sd_if (pt_cmp (od_eq hu) (pd_callB cd_len (by rfl) t.n_len (by decide +kernel) (pda_cons (pd_var 1 (pv 1)) (pda_nil))) (pd_int) (by rfl)) (sd_one (sd_ret (pd_tup (pda_cons (pd_str) (pda_cons (pd_meth t.mt_Stamp_tick (f_Stamp_tick t) (hr.mono (by decide)) (passW tk') (pd_var 0 (pv 0)) (pda_cons (pd_ix (pd_var 1 (pv 1)) (pd_int)) (pda_cons (pd_ix (pd_var 1 (pv 1)) (pd_int)) (pda_nil)))) (pda_nil)))))) (sd_nil)) (sd_cons (sd_if (pt_cmp (od_eq hu) (pd_callB cd_len (by rfl) t.n_len (by decide +kernel) (pda_cons (pd_var 1 (pv 1)) (pda_nil))) (pd_int) (by rfl)) (sd_one (sd_ret (pd_tup (pda_cons (pd_str) (pda_cons (pd_meth t.mt_Stamp_tick (f_Stamp_tick t) (hr.mono (by decide)) (passW tk') (pd_var 0 (pv 0)) (pda_cons (pd_ix (pd_var 1 (pv 1)) (pd_int)) (pda_cons (pd_ix (pd_var 1 (pv 1)) (pd_int)) (pda_cons (pd_ix (pd_var 1 (pv 1)) (pd_int)) (pda_nil))))) (pda_nil)))))) (sd_nil)) (sd_one (sd_ret (pd_tup (pda_cons (pd_str) (pda_cons (pd_meth t.mt_Stamp_tick (f_Stamp_tick t) (hr.mono (by decide)) (passW tk') (pd_var 0 (pv 0)) (pda_cons (pd_ix (pd_var 1 (pv 1)) (pd_int)) (pda_cons (pd_ix (pd_var 1 (pv 1)) (pd_int)) (pda_cons (pd_ix (pd_var 1 (pv 1)) (pd_int)) (pda_cons (pd_ix (pd_var 1 (pv 1)) (pd_int)) (pda_nil)))))) (pda_nil)))))))))) (fun a oe cls d pn _ _ => sd_one (sd_ret (pd_tup (pda_cons (pd_str) (pda_cons (pd_non) (pda_nil)))))))
theorem f__law_ticked (t : TT K mg A) : FnP P w K mg base (ceOf A) 4 A.a__law_ticked m__law_ticked := (d__law_ticked t).pos0 (t.F__law_ticked.binds fun _ _ _ _ _ _ us hl => match us, hl with | [_, _], _ => rfl)
theorem sc__law_same : FnScope ["actual", "expected", "k"] ["actual", "expected"] (defScope s__law_same) := ⟨rfl, rfl, rfl, by decide +kernel, rfl, by decide +kernel, by decide +kernel⟩
abbrev b__law_same (self : List D → M D) : SM := DL.b_same isis self
abbrev m__law_same : Nat → List D → M D := DL.m_same isis
theorem f__law_same (t : TT K mg A) : ∀ n, FnP P w K mg base (ceOf A) (0 + n) A.a__law_same (m__law_same n)
  | 0 => FnP.non
  | n + 1 => (fn_d t.F__law_same sc__law_same fun cdv A0 outer s H E hr tk po => have hu := huD hr; have hv := huE hr; sd_cons (sd_if (pt_cmp od_isN (pd_var 1 (pv 1)) (pd_non) (by rfl)) (sd_one (sd_ret (pd_cmp od_isN (pd_var 0 (pv 0)) (pd_non) (by rfl)))) (sd_nil)) (sd_cons (sd_if (pt_tru (pd_callB (cd_isi t.isi) (by rfl) t.n_isinstance (by decide +kernel) (pda_cons (pd_var 1 (pv 1)) (pda_cons (pd_tyV (by rfl) t.n_bool (by decide +kernel)) (pda_nil))))) (sd_one (sd_ret (pd_and (pd_callB (cd_isi t.isi) (by rfl) t.n_isinstance (by decide +kernel) (pda_cons (pd_var 0 (pv 0)) (pda_cons (pd_tyV (by rfl) t.n_bool (by decide +kernel)) (pda_nil)))) (pd_one (pd_cmp (od_eq hu) (pd_var 0 (pv 0)) (pd_var 1 (pv 1)) (by rfl)))))) (sd_nil)) (sd_cons (sd_if (pt_tru (pd_callB (cd_isi t.isi) (by rfl) t.n_isinstance (by decide +kernel) (pda_cons (pd_var 1 (pv 1)) (pda_cons (pd_tyV (by rfl) t.n_int (by decide +kernel)) (pda_nil))))) (sd_one (sd_ret (pd_and (pd_callB (cd_isi t.isi) (by rfl) t.n_isinstance (by decide +kernel) (pda_cons (pd_var 0 (pv 0)) (pda_cons (pd_tyV (by rfl) t.n_int (by decide +kernel)) (pda_nil)))) (pd_and (pd_not (pd_callB (cd_isi t.isi) (by rfl) t.n_isinstance (by decide +kernel) (pda_cons (pd_var 0 (pv 0)) (pda_cons (pd_tyV (by rfl) t.n_bool (by decide +kernel)) (pda_nil))))) (pd_one (pd_cmp (od_eq hu) (pd_var 0 (pv 0)) (pd_var 1 (pv 1)) (by rfl))))))) (sd_nil)) (sd_cons (sd_if (pt_tru (pd_callB (cd_isi t.isi) (by rfl) t.n_isinstance (by decide +kernel) (pda_cons (pd_var 1 (pv 1)) (pda_cons (pd_tyV (by rfl) t.n_str (by decide +kernel)) (pda_nil))))) (sd_one (sd_ret (pd_and (pd_callB (cd_isi t.isi) (by rfl) t.n_isinstance (by decide +kernel) (pda_cons (pd_var 0 (pv 0)) (pda_cons (pd_tyV (by rfl) t.n_str (by decide +kernel)) (pda_nil)))) (pd_one (pd_cmp (od_eq hu) (pd_var 0 (pv 0)) (pd_var 1 (pv 1)) (by rfl)))))) (sd_nil)) (sd_cons (sd_if (pt_tru (pd_callB (cd_isi t.isi) (by rfl) t.n_isinstance (by decide +kernel) (pda_cons (pd_var 1 (pv 1)) (pda_cons (pd_tyV (by rfl) t.n_list (by decide +kernel)) (pda_nil))))) (sd_one (sd_if (pdt_not (pt_tru (pd_callB (cd_isi t.isi) (by rfl) t.n_isinstance (by decide +kernel) (pda_cons (pd_var 0 (pv 0)) (pda_cons (pd_tyV (by rfl) t.n_list (by decide +kernel)) (pda_nil)))))) (sd_one (sd_ret (pd_bl))) (sd_nil))) (sd_one (sd_if (pdt_not (pt_tru (pd_callB (cd_isi t.isi) (by rfl) t.n_isinstance (by decide +kernel) (pda_cons (pd_var 0 (pv 0)) (pda_cons (pd_tyV (by rfl) t.n_tuple (by decide +kernel)) (pda_nil)))))) (sd_one (sd_ret (pd_bl))) (sd_nil)))) (sd_cons (sd_if (pt_cmp (od_ne hu) (pd_callB cd_len (by rfl) t.n_len (by decide +kernel) (pda_cons (pd_var 0 (pv 0)) (pda_nil))) (pd_callB cd_len (by rfl) t.n_len (by decide +kernel) (pda_cons (pd_var 1 (pv 1)) (pda_nil))) (by rfl)) (sd_one (sd_ret (pd_bl))) (sd_nil)) (sd_cons (sd_for po rfl (pid_range1 (by rfl) t.n_range (pda_cons (pd_callB cd_len (by rfl) t.n_len (by decide +kernel) (pda_cons (pd_var 1 (pv 1)) (pda_nil))) pda_nil)) (pgd_name (js := [2]) 2 sc__law_same.nd rfl (by first | exact Or.inl rfl | exact Or.inr rfl)) (sd_one (sd_if (pdt_not (pt_tru (pd_call (f__law_same t n) (hr.mono (Nat.le_refl _)) (by rfl) t.g__law_same t.F__law_same.kp (passW tk) (pda_cons (pd_ix (pd_var 0 (pv 0)) (pd_var 2 (pv 2))) (pda_cons (pd_ix (pd_var 1 (pv 1)) (pd_var 2 (pv 2))) (pda_nil)))))) (sd_one (sd_ret (pd_bl))) (sd_nil)))) (sd_one (sd_ret (pd_bl))))))))) : FnD P w K mg base (ceOf A) (0 + n + 1) A.a__law_same A.f__law_same ["actual", "expected"] (runD 3 2 (b__law_same (m__law_same n)))).pos0 (t.F__law_same.binds fun _ _ _ _ _ _ us hl => match us, hl with | [_, _], _ => rfl)
theorem sc__law_is_stamp : FnScope ["stamp", "row"] ["stamp", "row"] (defScope s__law_is_stamp) := ⟨rfl, rfl, rfl, by decide +kernel, rfl, by decide +kernel, by decide +kernel⟩
noncomputable def b__law_is_stamp : SM := seqS (ifS (notT (tstE (callB (isiP isis) (consA (varE 0) (consA (litE (.cls 2)) (nilA)))))) (retS (litE (.bl false))) (nilS)) (retS (callM (m__law_same 6) (consA (tupE (consA (un1 (fldP [(2, 0)]) (varE 0)) (consA (un1 (fldP [(2, 1)]) (varE 0)) (nilA)))) (consA (varE 1) (nilA)))))
noncomputable def m__law_is_stamp : List D → M D := runD 2 2 b__law_is_stamp
theorem d__law_is_stamp (t : TT K mg A) : FnD P w K mg base (ceOf A) 7 A.a__law_is_stamp A.f__law_is_stamp ["stamp", "row"] m__law_is_stamp :=
  fn_d t.F__law_is_stamp sc__law_is_stamp fun cdv A0 outer s H E hr tk po => have hu := huD hr; have hv := huE hr; sd_cons (sd_if (pdt_not (pt_tru (pd_callB (cd_isi t.isi) (by rfl) t.n_isinstance (by decide +kernel) (pda_cons (pd_var 0 (pv 0)) (pda_cons (pd_clsV (C := 2) (by rfl) t.g_Stamp) (pda_nil)))))) (sd_one (sd_ret (pd_bl))) (sd_nil)) (sd_one (sd_ret (pd_call (f__law_same t 6) (hr.mono (by decide)) (by rfl) t.g__law_same t.F__law_same.kp (passW tk) (pda_cons (pd_tup (pda_cons (pd_fld (atFs_one t.at_Stamp_count) (pd_var 0 (pv 0))) (pda_cons (pd_fld (atFs_one t.at_Stamp_place) (pd_var 0 (pv 0))) (pda_nil)))) (pda_cons (pd_var 1 (pv 1)) (pda_nil))))))
theorem f__law_is_stamp (t : TT K mg A) : FnP P w K mg base (ceOf A) 7 A.a__law_is_stamp m__law_is_stamp := (d__law_is_stamp t).pos0 (t.F__law_is_stamp.binds fun _ _ _ _ _ _ us hl => match us, hl with | [_, _], _ => rfl)
theorem sc_Stamp___lt__ : FnScope ["self", "other"] ["self", "other"] (defScope s_Stamp___lt__) := ⟨rfl, rfl, rfl, by decide +kernel, rfl, by decide +kernel, by decide +kernel⟩
noncomputable def b_Stamp___lt__ : SM := seqS (ifS (notT (tstE (callB (isiP isis) (consA (varE 1) (consA (litE (.cls 2)) (nilA)))))) (retS (badE)) (nilS)) (retS (bin ltP (tupE (consA (un1 (fldP [(2, 0)]) (varE 0)) (consA (un1 (fldP [(2, 1)]) (varE 0)) (nilA)))) (tupE (consA (un1 (fldP [(2, 0)]) (varE 1)) (consA (un1 (fldP [(2, 1)]) (varE 1)) (nilA))))))
noncomputable def m_Stamp___lt__ : List D → M D := runD 2 2 b_Stamp___lt__
theorem d_Stamp___lt__ (t : TT K mg A) : FnD P w K mg base (ceOf A) 1 A.a_Stamp___lt__ A.f_Stamp___lt__ ["self", "other"] m_Stamp___lt__ :=
  fn_d t.F_Stamp___lt__ sc_Stamp___lt__ fun cdv A0 outer s H E hr tk po => have hu := huD hr; have hv := huE hr; sd_cons (sd_if (pdt_not (pt_tru (pd_callB (cd_isi t.isi) (by rfl) t.n_isinstance (by decide +kernel) (pda_cons (pd_var 1 (pv 1)) (pda_cons (pd_clsV (C := 2) (by rfl) t.g_Stamp) (pda_nil)))))) (sd_one (sd_ret (pd_bad))) (sd_nil)) (sd_one (sd_ret (pd_cmp (od_lt hu) (pd_tup (pda_cons (pd_fld (atFs_one t.at_Stamp_count) (pd_var 0 (pv 0))) (pda_cons (pd_fld (atFs_one t.at_Stamp_place) (pd_var 0 (pv 0))) (pda_nil)))) (pd_tup (pda_cons (pd_fld (atFs_one t.at_Stamp_count) (pd_var 1 (pv 1))) (pda_cons (pd_fld (atFs_one t.at_Stamp_place) (pd_var 1 (pv 1))) (pda_nil)))) (by rfl))))
theorem f_Stamp___lt__ (t : TT K mg A) : FnP P w K mg base (ceOf A) 1 A.a_Stamp___lt__ m_Stamp___lt__ := (d_Stamp___lt__ t).pos0 (t.F_Stamp___lt__.binds fun _ _ _ _ _ _ us hl => match us, hl with | [_, _], _ => rfl)
theorem sc__law_ticks_well : FnScope ["stamps", "rows", "most", "row", "ticked", "stamp", "again"] ["stamps", "rows"] (defScope s__law_ticks_well) := ⟨rfl, rfl, rfl, by decide +kernel, rfl, by decide +kernel, by decide +kernel⟩
noncomputable def b__law_ticks_well : SM := seqS (setS 2 (litE (.int 0))) (seqS (forS (itE (varE 1)) (tgN 3) (ifS (boolE (bin gtP (bin ixP (varE 3) (litE (.int 0))) (varE 2))) (setS 2 (bin ixP (varE 3) (litE (.int 0)))) (nilS))) (seqS (setS 4 (callM m__law_ticked (consA (bin ixP (varE 0) (litE (.int 0))) (consA (slE (varE 0) (someO (litE (.int 1))) (noO)) (nilA))))) (seqS (ifS (boolE (bin eqP (varE 2) (bin powP (litE (.int 10)) (litE (.int 12))))) (retS (bin eqP (bin ixP (varE 4) (litE (.int 0))) (litE (.str "refused")))) (nilS)) (seqS (ifS (notT (tstE (callM m__law_is_stamp (consA (bin ixP (varE 4) (litE (.int 1))) (consA (tupE (consA (bin addP (varE 2) (litE (.int 1))) (consA (bin ixP (bin ixP (varE 1) (litE (.int 0))) (litE (.int 1))) (nilA)))) (nilA)))))) (retS (litE (.bl false))) (nilS)) (seqS (forS (itE (varE 0)) (tgN 5) (ifS (notT (tstE (callB boolF (consA (ownM 2 m_Stamp___lt__ (varE 5) (bin ixP (varE 4) (litE (.int 1)))) (nilA))))) (retS (litE (.bl false))) (nilS))) (seqS (setS 6 (callM m__law_ticked (consA (bin ixP (varE 4) (litE (.int 1))) (consA (slE (varE 0) (noO) (someO (litE (.int 4)))) (nilA))))) (seqS (ifS (boolE (bin eqP (bin addP (varE 2) (litE (.int 1))) (bin powP (litE (.int 10)) (litE (.int 12))))) (retS (bin eqP (bin ixP (varE 6) (litE (.int 0))) (litE (.str "refused")))) (nilS)) (retS (andE (callM m__law_is_stamp (consA (bin ixP (varE 6) (litE (.int 1))) (consA (tupE (consA (bin addP (varE 2) (litE (.int 2))) (consA (bin ixP (bin ixP (varE 1) (litE (.int 0))) (litE (.int 1))) (nilA)))) (nilA)))) (callM m__law_is_stamp (consA (bin ixP (varE 4) (litE (.int 1))) (consA (tupE (consA (bin addP (varE 2) (litE (.int 1))) (consA (bin ixP (bin ixP (varE 1) (litE (.int 0))) (litE (.int 1))) (nilA)))) (nilA)))))))))))))
noncomputable def m__law_ticks_well : List D → M D := runD 7 2 b__law_ticks_well
theorem d__law_ticks_well (t : TT K mg A) : FnD P w K mg base (ceOf A) 8 A.a__law_ticks_well A.f__law_ticks_well ["stamps", "rows"] m__law_ticks_well :=
  fn_d t.F__law_ticks_well sc__law_ticks_well fun cdv A0 outer s H E hr tk po => have hu := huD hr; have hv := huE hr; sd_cons (sd_set 2 sc__law_ticks_well.nd rfl (by first | exact Or.inl rfl | exact Or.inr rfl) (pd_int)) (sd_cons (sd_for po rfl (pid_seq (pd_var 1 (pv 1))) (pgd_name (js := [3]) 3 sc__law_ticks_well.nd rfl (by first | exact Or.inl rfl | exact Or.inr rfl)) (sd_one (sd_if (pt_cmp (od_gt hu) (pd_ix (pd_var 3 (pv 3)) (pd_int)) (pd_var 2 (pv 2)) (by rfl)) (sd_one (sd_set 2 sc__law_ticks_well.nd rfl (by first | exact Or.inl rfl | exact Or.inr rfl) (pd_ix (pd_var 3 (pv 3)) (pd_int)))) (sd_nil)))) (sd_cons (sd_set 4 sc__law_ticks_well.nd rfl (by first | exact Or.inl rfl | exact Or.inr rfl) (pd_call (f__law_ticked t) (hr.mono (by decide)) (by rfl) t.g__law_ticked t.F__law_ticked.kp (passW tk) (pda_cons (pd_ix (pd_var 0 (pv 0)) (pd_int)) (pda_cons (pd_slice (pd_var 0 (pv 0)) (pdo_some (pd_int)) (pdo_none)) (pda_nil))))) (sd_cons (sd_if (pt_cmp (od_eq hu) (pd_var 2 (pv 2)) (pd_bin od_pow (pd_int) (pd_int)) (by rfl)) (sd_one (sd_ret (pd_cmp (od_eq hu) (pd_ix (pd_var 4 (pv 4)) (pd_int)) (pd_str) (by rfl)))) (sd_nil)) (sd_cons (sd_if (pdt_not (pt_tru (pd_call (f__law_is_stamp t) (hr.mono (by decide)) (by rfl) t.g__law_is_stamp t.F__law_is_stamp.kp (passW tk) (pda_cons (pd_ix (pd_var 4 (pv 4)) (pd_int)) (pda_cons (pd_tup (pda_cons (pd_bin od_add (pd_var 2 (pv 2)) (pd_int)) (pda_cons (pd_ix (pd_ix (pd_var 1 (pv 1)) (pd_int)) (pd_int)) (pda_nil)))) (pda_nil)))))) (sd_one (sd_ret (pd_bl))) (sd_nil)) (sd_cons (sd_for po rfl (pid_seq (pd_var 0 (pv 0))) (pgd_name (js := [5]) 5 sc__law_ticks_well.nd rfl (by first | exact Or.inl rfl | exact Or.inr rfl)) (sd_one (sd_if (pdt_not (pt_tru (pd_callTy cd_bool (by rfl) t.n_bool (by decide +kernel) (pda_cons (pd_cmpOwn (C := 2) rfl (fun _ _ => rfl) t.me_Stamp___lt__ (f_Stamp___lt__ t) (hr.mono (by decide)) (passW tk) (pd_var 5 (pv 5)) (pd_ix (pd_var 4 (pv 4)) (pd_int)) (by rfl)) (pda_nil))))) (sd_one (sd_ret (pd_bl))) (sd_nil)))) (sd_cons (sd_set 6 sc__law_ticks_well.nd rfl (by first | exact Or.inl rfl | exact Or.inr rfl) (pd_call (f__law_ticked t) (hr.mono (by decide)) (by rfl) t.g__law_ticked t.F__law_ticked.kp (passW tk) (pda_cons (pd_ix (pd_var 4 (pv 4)) (pd_int)) (pda_cons (pd_slice (pd_var 0 (pv 0)) (pdo_none) (pdo_some (pd_int))) (pda_nil))))) (sd_cons (sd_if (pt_cmp (od_eq hu) (pd_bin od_add (pd_var 2 (pv 2)) (pd_int)) (pd_bin od_pow (pd_int) (pd_int)) (by rfl)) (sd_one (sd_ret (pd_cmp (od_eq hu) (pd_ix (pd_var 6 (pv 6)) (pd_int)) (pd_str) (by rfl)))) (sd_nil)) (sd_one (sd_ret (pd_and (pd_call (f__law_is_stamp t) (hr.mono (by decide)) (by rfl) t.g__law_is_stamp t.F__law_is_stamp.kp (passW tk) (pda_cons (pd_ix (pd_var 6 (pv 6)) (pd_int)) (pda_cons (pd_tup (pda_cons (pd_bin od_add (pd_var 2 (pv 2)) (pd_int)) (pda_cons (pd_ix (pd_ix (pd_var 1 (pv 1)) (pd_int)) (pd_int)) (pda_nil)))) (pda_nil)))) (pd_one (pd_call (f__law_is_stamp t) (hr.mono (by decide)) (by rfl) t.g__law_is_stamp t.F__law_is_stamp.kp (passW tk) (pda_cons (pd_ix (pd_var 4 (pv 4)) (pd_int)) (pda_cons (pd_tup (pda_cons (pd_bin od_add (pd_var 2 (pv 2)) (pd_int)) (pda_cons (pd_ix (pd_ix (pd_var 1 (pv 1)) (pd_int)) (pd_int)) (pda_nil)))) (pda_nil)))))))))))))))
theorem f__law_ticks_well (t : TT K mg A) : FnP P w K mg base (ceOf A) 8 A.a__law_ticks_well m__law_ticks_well := (d__law_ticks_well t).pos0 (t.F__law_ticks_well.binds fun _ _ _ _ _ _ us hl => match us, hl with | [_, _], _ => rfl)
theorem sc_latest : FnScope ["stamps", "best", "stamp"] ["stamps"] (defScope s_latest) := ⟨rfl, rfl, rfl, by decide +kernel, rfl, by decide +kernel, by decide +kernel⟩
noncomputable def b_latest : SM := seqS (setS 1 (litE .non)) (seqS (forS (itE (varE 0)) (tgN 2) (ifS (orT (boolE (bin isNP (varE 1) (litE .non))) (boolE (ownM 2 m_Stamp___lt__ (varE 1) (varE 2)))) (setS 1 (varE 2)) (nilS))) (retS (varE 1)))
noncomputable def m_latest : List D → M D := starM 0 (runD 3 1 b_latest)
theorem f_latest (t : TT K mg A) : FnP P w K mg base (ceOf A) 2 A.a_latest m_latest := fn_pstar (ps := []) t.F_latest sc_latest (fun _ _ _ _ _ _ us rest h => match us, h with | [], _ => match rest with | [] => rfl | _ :: _ => rfl) fun cdv A0 outer s H E hr tk po => have hu := huD hr; have hv := huE hr; sd_cons (sd_set 1 sc_latest.nd rfl (by first | exact Or.inl rfl | exact Or.inr rfl) (pd_non)) (sd_cons (sd_for po rfl (pid_seq (pd_var 0 (pv 0))) (pgd_name (js := [2]) 2 sc_latest.nd rfl (by first | exact Or.inl rfl | exact Or.inr rfl)) (sd_one (sd_if (pdw_pt (pdw_or (pt_cmp od_isN (pd_var 1 (pv 1)) (pd_non) (by rfl)) (pdw_or1 (pt_cmpOwn (C := 2) rfl (fun _ _ => rfl) t.me_Stamp___lt__ (f_Stamp___lt__ t) (hr.mono (by decide)) (passW tk) (pd_var 1 (pv 1)) (pd_var 2 (pv 2)) (by rfl))))) (sd_one (sd_set 1 sc_latest.nd rfl (by first | exact Or.inl rfl | exact Or.inr rfl) (pd_var 2 (pv 2)))) (sd_nil)))) (sd_one (sd_ret (pd_var 1 (pv 1)))))
theorem sc__law_latest : FnScope ["stamps"] ["stamps"] (defScope s__law_latest) := ⟨rfl, rfl, rfl, by decide +kernel, rfl, by decide +kernel, by decide +kernel⟩
noncomputable def b__law_latest : SM := seqS (ifS (boolE (bin eqP (callB lenP (consA (varE 0) (nilA))) (litE (.int 0)))) (retS (callM m_latest nilA)) (nilS)) (seqS (ifS (boolE (bin eqP (callB lenP (consA (varE 0) (nilA))) (litE (.int 1)))) (retS (callM m_latest (consA (bin ixP (varE 0) (litE (.int 0))) (nilA)))) (nilS)) (seqS (ifS (boolE (bin eqP (callB lenP (consA (varE 0) (nilA))) (litE (.int 2)))) (retS (callM m_latest (consA (bin ixP (varE 0) (litE (.int 0))) (consA (bin ixP (varE 0) (litE (.int 1))) (nilA))))) (nilS)) (seqS (ifS (boolE (bin eqP (callB lenP (consA (varE 0) (nilA))) (litE (.int 3)))) (retS (callM m_latest (consA (bin ixP (varE 0) (litE (.int 0))) (consA (bin ixP (varE 0) (litE (.int 1))) (consA (bin ixP (varE 0) (litE (.int 2))) (nilA)))))) (nilS)) (seqS (ifS (boolE (bin eqP (callB lenP (consA (varE 0) (nilA))) (litE (.int 4)))) (retS (callM m_latest (consA (bin ixP (varE 0) (litE (.int 0))) (consA (bin ixP (varE 0) (litE (.int 1))) (consA (bin ixP (varE 0) (litE (.int 2))) (consA (bin ixP (varE 0) (litE (.int 3))) (nilA))))))) (nilS)) (retS (callM m_latest (consA (bin ixP (varE 0) (litE (.int 0))) (consA (bin ixP (varE 0) (litE (.int 1))) (consA (bin ixP (varE 0) (litE (.int 2))) (consA (bin ixP (varE 0) (litE (.int 3))) (consA (bin ixP (varE 0) (litE (.int 4))) (nilA))))))))))))
noncomputable def m__law_latest : List D → M D := runD 1 1 b__law_latest
theorem d__law_latest (t : TT K mg A) : FnD P w K mg base (ceOf A) 3 A.a__law_latest A.f__law_latest ["stamps"] m__law_latest :=
  fn_d t.F__law_latest sc__law_latest fun cdv A0 outer s H E hr tk po => have hu := huD hr; have hv := huE hr; sd_cons (sd_if (pt_cmp (od_eq hu) (pd_callB cd_len (by rfl) t.n_len (by decide +kernel) (pda_cons (pd_var 0 (pv 0)) (pda_nil))) (pd_int) (by rfl)) (sd_one (sd_ret (pd_call0 (f_latest t) (hr.mono (by decide)) (by rfl) t.g_latest t.F_latest.kp (passW tk)))) (sd_nil)) (sd_cons (sd_if (pt_cmp (od_eq hu) (pd_callB cd_len (by rfl) t.n_len (by decide +kernel) (pda_cons (pd_var 0 (pv 0)) (pda_nil))) (pd_int) (by rfl)) (sd_one (sd_ret (pd_call (f_latest t) (hr.mono (by decide)) (by rfl) t.g_latest t.F_latest.kp (passW tk) (pda_cons (pd_ix (pd_var 0 (pv 0)) (pd_int)) (pda_nil))))) (sd_nil)) (sd_cons (sd_if (pt_cmp (od_eq hu) (pd_callB cd_len (by rfl) t.n_len (by decide +kernel) (pda_cons (pd_var 0 (pv 0)) (pda_nil))) (pd_int) (by rfl)) (sd_one (sd_ret (pd_call (f_latest t) (hr.mono (by decide)) (by rfl) t.g_latest t.F_latest.kp (passW tk) (pda_cons (pd_ix (pd_var 0 (pv 0)) (pd_int)) (pda_cons (pd_ix (pd_var 0 (pv 0)) (pd_int)) (pda_nil)))))) (sd_nil)) (sd_cons (sd_if (pt_cmp (od_eq hu) (pd_callB cd_len (by rfl) t.n_len (by decide +kernel) (pda_cons (pd_var 0 (pv 0)) (pda_nil))) (pd_int) (by rfl)) (sd_one (sd_ret (pd_call (f_latest t) (hr.mono (by decide)) (by rfl) t.g_latest t.F_latest.kp (passW tk) (pda_cons (pd_ix (pd_var 0 (pv 0)) (pd_int)) (pda_cons (pd_ix (pd_var 0 (pv 0)) (pd_int)) (pda_cons (pd_ix (pd_var 0 (pv 0)) (pd_int)) (pda_nil))))))) (sd_nil)) (sd_cons (sd_if (pt_cmp (od_eq hu) (pd_callB cd_len (by rfl) t.n_len (by decide +kernel) (pda_cons (pd_var 0 (pv 0)) (pda_nil))) (pd_int) (by rfl)) (sd_one (sd_ret (pd_call (f_latest t) (hr.mono (by decide)) (by rfl) t.g_latest t.F_latest.kp (passW tk) (pda_cons (pd_ix (pd_var 0 (pv 0)) (pd_int)) (pda_cons (pd_ix (pd_var 0 (pv 0)) (pd_int)) (pda_cons (pd_ix (pd_var 0 (pv 0)) (pd_int)) (pda_cons (pd_ix (pd_var 0 (pv 0)) (pd_int)) (pda_nil)))))))) (sd_nil)) (sd_one (sd_ret (pd_call (f_latest t) (hr.mono (by decide)) (by rfl) t.g_latest t.F_latest.kp (passW tk) (pda_cons (pd_ix (pd_var 0 (pv 0)) (pd_int)) (pda_cons (pd_ix (pd_var 0 (pv 0)) (pd_int)) (pda_cons (pd_ix (pd_var 0 (pv 0)) (pd_int)) (pda_cons (pd_ix (pd_var 0 (pv 0)) (pd_int)) (pda_cons (pd_ix (pd_var 0 (pv 0)) (pd_int)) (pda_nil)))))))))))))
theorem f__law_latest (t : TT K mg A) : FnP P w K mg base (ceOf A) 3 A.a__law_latest m__law_latest := (d__law_latest t).pos0 (t.F__law_latest.binds fun _ _ _ _ _ _ us hl => match us, hl with | [_], _ => rfl)
theorem sc__law_tells_latest : FnScope ["stamps", "rows", "best", "row", "told"] ["stamps", "rows"] (defScope s__law_tells_latest) := ⟨rfl, rfl, rfl, by decide +kernel, rfl, by decide +kernel, by decide +kernel⟩
noncomputable def b__law_tells_latest : SM := seqS (setS 2 (litE .non)) (seqS (forS (itE (varE 1)) (tgN 3) (ifS (orT (boolE (bin isNP (varE 2) (litE .non))) (orT (boolE (bin ltP (bin ixP (varE 2) (litE (.int 0))) (bin ixP (varE 3) (litE (.int 0))))) (andT (boolE (bin eqP (bin ixP (varE 2) (litE (.int 0))) (bin ixP (varE 3) (litE (.int 0))))) (boolE (bin ltP (bin ixP (varE 2) (litE (.int 1))) (bin ixP (varE 3) (litE (.int 1)))))))) (setS 2 (varE 3)) (nilS))) (seqS (setS 4 (callM m__law_latest (consA (varE 0) (nilA)))) (seqS (ifS (boolE (bin isNP (varE 2) (litE .non))) (retS (bin isNP (varE 4) (litE .non))) (nilS)) (retS (callM m__law_is_stamp (consA (varE 4) (consA (varE 2) (nilA))))))))
noncomputable def m__law_tells_latest : List D → M D := runD 5 2 b__law_tells_latest
theorem d__law_tells_latest (t : TT K mg A) : FnD P w K mg base (ceOf A) 8 A.a__law_tells_latest A.f__law_tells_latest ["stamps", "rows"] m__law_tells_latest :=
  fn_d t.F__law_tells_latest sc__law_tells_latest fun cdv A0 outer s H E hr tk po => have hu := huD hr; have hv := huE hr; sd_cons (sd_set 2 sc__law_tells_latest.nd rfl (by first | exact Or.inl rfl | exact Or.inr rfl) (pd_non)) (sd_cons (sd_for po rfl (pid_seq (pd_var 1 (pv 1))) (pgd_name (js := [3]) 3 sc__law_tells_latest.nd rfl (by first | exact Or.inl rfl | exact Or.inr rfl)) (sd_one (sd_if (pdw_pt (pdw_or (pt_cmp od_isN (pd_var 2 (pv 2)) (pd_non) (by rfl)) (pdw_or (pt_cmp (od_lt hu) (pd_ix (pd_var 2 (pv 2)) (pd_int)) (pd_ix (pd_var 3 (pv 3)) (pd_int)) (by rfl)) (pdw_or1 (pdw_pt (pdw_and (pt_cmp (od_eq hu) (pd_ix (pd_var 2 (pv 2)) (pd_int)) (pd_ix (pd_var 3 (pv 3)) (pd_int)) (by rfl)) (pdw_and1 (pt_cmp (od_lt hu) (pd_ix (pd_var 2 (pv 2)) (pd_int)) (pd_ix (pd_var 3 (pv 3)) (pd_int)) (by rfl))))))))) (sd_one (sd_set 2 sc__law_tells_latest.nd rfl (by first | exact Or.inl rfl | exact Or.inr rfl) (pd_var 3 (pv 3)))) (sd_nil)))) (sd_cons (sd_set 4 sc__law_tells_latest.nd rfl (by first | exact Or.inl rfl | exact Or.inr rfl) (pd_call (f__law_latest t) (hr.mono (by decide)) (by rfl) t.g__law_latest t.F__law_latest.kp (passW tk) (pda_cons (pd_var 0 (pv 0)) (pda_nil)))) (sd_cons (sd_if (pt_cmp od_isN (pd_var 2 (pv 2)) (pd_non) (by rfl)) (sd_one (sd_ret (pd_cmp od_isN (pd_var 4 (pv 4)) (pd_non) (by rfl)))) (sd_nil)) (sd_one (sd_ret (pd_call (f__law_is_stamp t) (hr.mono (by decide)) (by rfl) t.g__law_is_stamp t.F__law_is_stamp.kp (passW tk) (pda_cons (pd_var 4 (pv 4)) (pda_cons (pd_var 2 (pv 2)) (pda_nil)))))))))
theorem f__law_tells_latest (t : TT K mg A) : FnP P w K mg base (ceOf A) 8 A.a__law_tells_latest m__law_tells_latest := (d__law_tells_latest t).pos0 (t.F__law_tells_latest.binds fun _ _ _ _ _ _ us hl => match us, hl with | [_, _], _ => rfl)
theorem sc_law : FnScope ["script", "draws", "rows", "stamps", "turn", "top", "k", "turned", "things", "many", "row"] ["script"] (defScope s_law) := ⟨rfl, rfl, rfl, by decide +kernel, rfl, by decide +kernel, by decide +kernel⟩
noncomputable def b_law : SM := seqS (setS 1 (callM m__law_start (consA (varE 0) (nilA)))) (seqS (setS 2 (callM m__law_rows_of_stamps (consA (varE 1) (nilA)))) (seqS (setS 3 (lcE (itE (varE 2)) [10] (tgN 10) (yesT) (makeM 2 m_Stamp___init__ (consA (bin ixP (varE 10) (litE (.int 0))) (consA (bin ixP (varE 10) (litE (.int 1))) (nilA)))))) (seqS (forS (itR rng1 (consA (litE (.int 5)) nilA)) (tgN 4) (seqS (setS 7 (bin addP (slE (varE 2) (someO (varE 4)) (noO)) (slE (varE 2) (noO) (someO (varE 4))))) (seqS (setS 8 (bin addP (slE (varE 3) (someO (varE 4)) (noO)) (slE (varE 3) (noO) (someO (varE 4))))) (forS (itR rng1 (consA (litE (.int 6)) nilA)) (tgN 9) (seqS (ifS (notT (tstE (callM m__law_tells_latest (consA (slE (varE 8) (noO) (someO (varE 9))) (consA (slE (varE 7) (noO) (someO (varE 9))) (nilA)))))) (retS (litE (.bl false))) (nilS)) (ifS (andT (boolE (bin gtP (varE 9) (litE (.int 0)))) (notT (tstE (callM m__law_ticks_well (consA (slE (varE 8) (noO) (someO (varE 9))) (consA (slE (varE 7) (noO) (someO (varE 9))) (nilA))))))) (retS (litE (.bl false))) (nilS))))))) (seqS (setS 5 (makeM 2 m_Stamp___init__ (consA (bin powP (litE (.int 10)) (litE (.int 12))) (consA (bin ixP (bin ixP (varE 2) (litE (.int 0))) (litE (.int 1))) (nilA))))) (seqS (ifS (notT (tstE (callM m__law_ticks_well (consA (lstE (consA (bin ixP (varE 3) (litE (.int 0))) (consA (varE 5) (nilA)))) (consA (lstE (consA (bin ixP (varE 2) (litE (.int 0))) (consA (tupE (consA (bin powP (litE (.int 10)) (litE (.int 12))) (consA (bin ixP (bin ixP (varE 2) (litE (.int 0))) (litE (.int 1))) (nilA)))) (nilA)))) (nilA)))))) (retS (litE (.bl false))) (nilS)) (seqS (ifS (notT (tstE (callM m__law_ticks_well (consA (lstE (consA (varE 5) (consA (bin ixP (varE 3) (litE (.int 0))) (nilA)))) (consA (lstE (consA (tupE (consA (bin powP (litE (.int 10)) (litE (.int 12))) (consA (bin ixP (bin ixP (varE 2) (litE (.int 0))) (litE (.int 1))) (nilA)))) (consA (bin ixP (varE 2) (litE (.int 0))) (nilA)))) (nilA)))))) (retS (litE (.bl false))) (nilS)) (seqS (ifS (notT (tstE (callM m__law_tells_latest (consA (lstE (consA (bin ixP (varE 3) (litE (.int 1))) (consA (bin ixP (varE 3) (litE (.int 0))) (nilA)))) (consA (lstE (consA (bin ixP (varE 2) (litE (.int 1))) (consA (bin ixP (varE 2) (litE (.int 0))) (nilA)))) (nilA)))))) (retS (litE (.bl false))) (nilS)) (seqS (forS (itR rng1 (consA (litE (.int 5)) nilA)) (tgN 6) (ifS (notT (tstE (callM m__law_is_stamp (consA (bin ixP (varE 3) (varE 6)) (consA (bin ixP (varE 2) (varE 6)) (nilA)))))) (retS (litE (.bl false))) (nilS))) (retS (litE (.bl true)))))))))))
noncomputable def m_law : List D → M D := runD 11 1 b_law
theorem d_law (t : TT K mg A) : FnD P w K mg base (ceOf A) 9 A.a_law A.f_law ["script"] m_law :=
  fn_d t.F_law sc_law fun cdv A0 outer s H E hr tk po => have hu := huD hr; have hv := huE hr; sd_cons (sd_set 1 sc_law.nd rfl (by first | exact Or.inl rfl | exact Or.inr rfl) (pd_call (f__law_start t) (hr.mono (by decide)) (by rfl) t.g__law_start t.F__law_start.kp (passW tk) (pda_cons (pd_var 0 (pv 0)) (pda_nil)))) (sd_cons (sd_set 2 sc_law.nd rfl (by first | exact Or.inl rfl | exact Or.inr rfl) (pd_call (f__law_rows_of_stamps t) (hr.mono (by decide)) (by rfl) t.g__law_rows_of_stamps t.F__law_rows_of_stamps.kp (passW tk) (pda_cons (pd_var 1 (pv 1)) (pda_nil)))) (sd_cons (sd_setLc (i := 3) (own := [("row", 10)]) rfl sc_law.nd rfl (by rfl) (by rfl) (pid_seq (pd_var 2 (pv 2))) (blkT (by rfl)) (fun _ _ _ _ _ => pgd_name (js := [10]) 10 sc_law.nd rfl (by first | exact Or.inl rfl | exact Or.inr rfl)) (fun _ _ _ _ _ => pdts_nil) (fun _ _ _ _ _ => pd_make (C := 2) t.mk_Stamp (f_Stamp___init__ t) (hr.mono (by decide)) (by rfl) t.g_Stamp passW0 (pda_cons (pd_ix (pd_var 10 (pv 10)) (pd_int)) (pda_cons (pd_ix (pd_var 10 (pv 10)) (pd_int)) (pda_nil))))) (sd_cons (sd_for po rfl (pid_range1 (by rfl) t.n_range (pda_cons (pd_int) pda_nil)) (pgd_name (js := [4]) 4 sc_law.nd rfl (by first | exact Or.inl rfl | exact Or.inr rfl)) (sd_cons (sd_set 7 sc_law.nd rfl (by first | exact Or.inl rfl | exact Or.inr rfl) (pd_bin od_add (pd_slice (pd_var 2 (pv 2)) (pdo_some (pd_var 4 (pv 4))) (pdo_none)) (pd_slice (pd_var 2 (pv 2)) (pdo_none) (pdo_some (pd_var 4 (pv 4)))))) (sd_cons (sd_set 8 sc_law.nd rfl (by first | exact Or.inl rfl | exact Or.inr rfl) (pd_bin od_add (pd_slice (pd_var 3 (pv 3)) (pdo_some (pd_var 4 (pv 4))) (pdo_none)) (pd_slice (pd_var 3 (pv 3)) (pdo_none) (pdo_some (pd_var 4 (pv 4)))))) (sd_one (sd_for po rfl (pid_range1 (by rfl) t.n_range (pda_cons (pd_int) pda_nil)) (pgd_name (js := [9]) 9 sc_law.nd rfl (by first | exact Or.inl rfl | exact Or.inr rfl)) (sd_cons (sd_if (pdt_not (pt_tru (pd_call (f__law_tells_latest t) (hr.mono (by decide)) (by rfl) t.g__law_tells_latest t.F__law_tells_latest.kp (passW tk) (pda_cons (pd_slice (pd_var 8 (pv 8)) (pdo_none) (pdo_some (pd_var 9 (pv 9)))) (pda_cons (pd_slice (pd_var 7 (pv 7)) (pdo_none) (pdo_some (pd_var 9 (pv 9)))) (pda_nil)))))) (sd_one (sd_ret (pd_bl))) (sd_nil)) (sd_one (sd_if (pdw_pt (pdw_and (pt_cmp (od_gt hu) (pd_var 9 (pv 9)) (pd_int) (by rfl)) (pdw_and1 (pdt_not (pt_tru (pd_call (f__law_ticks_well t) (hr.mono (by decide)) (by rfl) t.g__law_ticks_well t.F__law_ticks_well.kp (passW tk) (pda_cons (pd_slice (pd_var 8 (pv 8)) (pdo_none) (pdo_some (pd_var 9 (pv 9)))) (pda_cons (pd_slice (pd_var 7 (pv 7)) (pdo_none) (pdo_some (pd_var 9 (pv 9)))) (pda_nil))))))))) (sd_one (sd_ret (pd_bl))) (sd_nil))))))))) (sd_cons (sd_set 5 sc_law.nd rfl (by first | exact Or.inl rfl | exact Or.inr rfl) (pd_make (C := 2) t.mk_Stamp (f_Stamp___init__ t) (hr.mono (by decide)) (by rfl) t.g_Stamp (passW tk) (pda_cons (pd_bin od_pow (pd_int) (pd_int)) (pda_cons (pd_ix (pd_ix (pd_var 2 (pv 2)) (pd_int)) (pd_int)) (pda_nil))))) (sd_cons (sd_if (pdt_not (pt_tru (pd_call (f__law_ticks_well t) (hr.mono (by decide)) (by rfl) t.g__law_ticks_well t.F__law_ticks_well.kp (passW tk) (pda_cons (pd_lst (pda_cons (pd_ix (pd_var 3 (pv 3)) (pd_int)) (pda_cons (pd_var 5 (pv 5)) (pda_nil)))) (pda_cons (pd_lst (pda_cons (pd_ix (pd_var 2 (pv 2)) (pd_int)) (pda_cons (pd_tup (pda_cons (pd_bin od_pow (pd_int) (pd_int)) (pda_cons (pd_ix (pd_ix (pd_var 2 (pv 2)) (pd_int)) (pd_int)) (pda_nil)))) (pda_nil)))) (pda_nil)))))) (sd_one (sd_ret (pd_bl))) (sd_nil)) (sd_cons (sd_if (pdt_not (pt_tru (pd_call (f__law_ticks_well t) (hr.mono (by decide)) (by rfl) t.g__law_ticks_well t.F__law_ticks_well.kp (passW tk) (pda_cons (pd_lst (pda_cons (pd_var 5 (pv 5)) (pda_cons (pd_ix (pd_var 3 (pv 3)) (pd_int)) (pda_nil)))) (pda_cons (pd_lst (pda_cons (pd_tup (pda_cons (pd_bin od_pow (pd_int) (pd_int)) (pda_cons (pd_ix (pd_ix (pd_var 2 (pv 2)) (pd_int)) (pd_int)) (pda_nil)))) (pda_cons (pd_ix (pd_var 2 (pv 2)) (pd_int)) (pda_nil)))) (pda_nil)))))) (sd_one (sd_ret (pd_bl))) (sd_nil)) (sd_cons (sd_if (pdt_not (pt_tru (pd_call (f__law_tells_latest t) (hr.mono (by decide)) (by rfl) t.g__law_tells_latest t.F__law_tells_latest.kp (passW tk) (pda_cons (pd_lst (pda_cons (pd_ix (pd_var 3 (pv 3)) (pd_int)) (pda_cons (pd_ix (pd_var 3 (pv 3)) (pd_int)) (pda_nil)))) (pda_cons (pd_lst (pda_cons (pd_ix (pd_var 2 (pv 2)) (pd_int)) (pda_cons (pd_ix (pd_var 2 (pv 2)) (pd_int)) (pda_nil)))) (pda_nil)))))) (sd_one (sd_ret (pd_bl))) (sd_nil)) (sd_cons (sd_for po rfl (pid_range1 (by rfl) t.n_range (pda_cons (pd_int) pda_nil)) (pgd_name (js := [6]) 6 sc_law.nd rfl (by first | exact Or.inl rfl | exact Or.inr rfl)) (sd_one (sd_if (pdt_not (pt_tru (pd_call (f__law_is_stamp t) (hr.mono (by decide)) (by rfl) t.g__law_is_stamp t.F__law_is_stamp.kp (passW tk) (pda_cons (pd_ix (pd_var 3 (pv 3)) (pd_var 6 (pv 6))) (pda_cons (pd_ix (pd_var 2 (pv 2)) (pd_var 6 (pv 6))) (pda_nil)))))) (sd_one (sd_ret (pd_bl))) (sd_nil)))) (sd_one (sd_ret (pd_bl)))))))))))
theorem f_law (t : TT K mg A) : FnP P w K mg base (ceOf A) 9 A.a_law m_law := (d_law t).pos0 (t.F_law.binds fun _ _ _ _ _ _ us hl => match us, hl with | [_], _ => rfl)
end
abbrev Row := Int × Int
structure RowOk (r : Row) : Prop where
  c0 : 0 ≤ r.1
  c1 : r.1 ≤ 1000000000000
  p0 : 0 ≤ r.2
  p1 : r.2 ≤ 99
def rowD (r : Row) : D := .tup [.int r.1, .int r.2]
def stD (r : Row) : D := .ins 2 [.int r.1, .int r.2]
theorem init_ok {r : Row} (h : RowOk r) {c : Cells} : m_Stamp___init__ [.int r.1, .int r.2] c = .ok [.int r.1, .int r.2] c := by
  obtain ⟨h1, h2, h3, h4⟩ := h
  refine mI_eq fun a => ?_
  have e1 : ¬ r.1 < 0 := by omega
  have e2 : ¬ 1000000000000 < r.1 := by omega
  have e3 : ¬ r.2 < 0 := by omega
  have e4 : ¬ 99 < r.2 := by omega
  simp [runI, b_Stamp___init__, DL.seqS, DL.Res.seq, DL.setIxS, DL.setS, DL.exprS, DL.retS, DL.retN, DL.ifS, DL.nilS, DL.brkS, DL.cntS, DL.callB, DL.callM, DL.intF, DL.boolF, DL.consA, DL.nilA, DL.starA, DL.bin, DL.un1, DL.negP, DL.bnd, DL.Out.bnd, DL.Out.thenS, DL.opt, DL.varE, DL.litE, DL.ixP, DL.seqOf, DL.rlistOf, DL.listOf, DL.setItem, DL.ret, DL.addP, DL.subP, DL.mulP, DL.modP, DL.fdivP, DL.powP, DL.intP, DL.geP, DL.leP, DL.gtP, DL.ltP, DL.ltB, DL.eqP, DL.neP, DL.eqB, DL.eqS, DL.tstE, DL.truB, DL.boolE, DL.andT, DL.orT, DL.notT, DL.andE, DL.orE, DL.notE, DL.ifE, DL.chainE, DL.tupE, DL.lstE, DL.lstC, DL.isNP, DL.notNP, DL.isNon, DL.lenP, DL.runD, DL.Res.out, DL.startD, DL.itE, DL.itR, DL.seqF, DL.rng1, DL.rng2, DL.forS, DL.tgN, DL.tgT, DL.tgCons, DL.tgNil, DL.slE, DL.slL, DL.noO, DL.someO, L2.atI, L2.ixN, e1, e2, e3, e4, slfS, slfL, Res.outI]
theorem init_no {r : Row} (h0 : 0 ≤ r.1) (h : 1000000000000 < r.1) {c : Cells} : m_Stamp___init__ [.int r.1, .int r.2] c = .exc 1 [] c := by
  refine mI_eq fun a => ?_
  have e1 : ¬ r.1 < 0 := by omega
  simp [runI, b_Stamp___init__, DL.seqS, DL.Res.seq, DL.setIxS, DL.setS, DL.exprS, DL.retS, DL.retN, DL.ifS, DL.nilS, DL.brkS, DL.cntS, DL.callB, DL.callM, DL.intF, DL.boolF, DL.consA, DL.nilA, DL.starA, DL.bin, DL.un1, DL.negP, DL.bnd, DL.Out.bnd, DL.Out.thenS, DL.opt, DL.varE, DL.litE, DL.ixP, DL.seqOf, DL.rlistOf, DL.listOf, DL.setItem, DL.ret, DL.addP, DL.subP, DL.mulP, DL.modP, DL.fdivP, DL.powP, DL.intP, DL.geP, DL.leP, DL.gtP, DL.ltP, DL.ltB, DL.eqP, DL.neP, DL.eqB, DL.eqS, DL.tstE, DL.truB, DL.boolE, DL.andT, DL.orT, DL.notT, DL.andE, DL.orE, DL.notE, DL.ifE, DL.chainE, DL.tupE, DL.lstE, DL.lstC, DL.isNP, DL.notNP, DL.isNon, DL.lenP, DL.runD, DL.Res.out, DL.startD, DL.itE, DL.itR, DL.seqF, DL.rng1, DL.rng2, DL.forS, DL.tgN, DL.tgT, DL.tgCons, DL.tgNil, DL.slE, DL.slL, DL.noO, DL.someO, L2.atI, L2.ixN, e1, h, slfS, slfL, Res.outI, raiseS]
def mx (m : Int) (rs : List Row) : Int := rs.foldl (fun m r => if r.1 > m then r.1 else m) m
theorem mx_ge : ∀ (rs : List Row) (m : Int), m ≤ mx m rs
  | [], m => Int.le_refl _
  | r :: rs, m => by
    have := mx_ge rs (if r.1 > m then r.1 else m)
    show m ≤ mx (if r.1 > m then r.1 else m) rs
    split at this <;> split <;> omega
theorem mx_mem : ∀ (rs : List Row) (m : Int), ∀ r ∈ rs, r.1 ≤ mx m rs
  | [], m, r, h => by cases h
  | q :: rs, m, r, h => by
    show r.1 ≤ mx (if q.1 > m then q.1 else m) rs
    rcases List.mem_cons.mp h with rfl | h
    · have := mx_ge rs (if r.1 > m then r.1 else m)
      split at this <;> split <;> omega
    · exact mx_mem rs _ r h
theorem mx_le : ∀ (rs : List Row) (m M : Int), m ≤ M → (∀ r ∈ rs, r.1 ≤ M) → mx m rs ≤ M
  | [], m, M, h, _ => h
  | q :: rs, m, M, h, h' => by
    show mx (if q.1 > m then q.1 else m) rs ≤ M
    refine mx_le rs _ M ?_ fun r hr => h' r (by simp [hr])
    have := h' q (by simp)
    split <;> omega
theorem tick_loop {c : Cells} {x y : Slot} : ∀ (rs : List Row) (m : Int) (z : Slot), ∃ z', forL (tgN 3) (setS 2 (callB maxF (consA (varE 2) (consA (un1 (fldP [(2, 0)]) (varE 3)) (nilA))))) (rs.map stD) [x, y, .sh (.int m), z] c = .nx [x, y, .sh (.int (mx m rs)), z'] c
  | [], m, z => ⟨z, rfl⟩
  | r :: rs, m, z => by
    obtain ⟨z', e⟩ := tick_loop (c := c) (x := x) (y := y) rs (if r.1 > m then r.1 else m) (.sh (stD r))
    refine ⟨z', ?_⟩
    simp only [List.map_cons, forL, tgN, List.set]
    rw [set_ok (d := .int (if r.1 > m then r.1 else m)) (c' := c) (by simp [DL.seqS, DL.Res.seq, DL.setIxS, DL.setS, DL.exprS, DL.retS, DL.retN, DL.ifS, DL.nilS, DL.brkS, DL.cntS, DL.callB, DL.callM, DL.intF, DL.boolF, DL.consA, DL.nilA, DL.starA, DL.bin, DL.un1, DL.negP, DL.bnd, DL.Out.bnd, DL.Out.thenS, DL.opt, DL.varE, DL.litE, DL.ixP, DL.seqOf, DL.rlistOf, DL.listOf, DL.setItem, DL.ret, DL.addP, DL.subP, DL.mulP, DL.modP, DL.fdivP, DL.powP, DL.intP, DL.geP, DL.leP, DL.gtP, DL.ltP, DL.ltB, DL.eqP, DL.neP, DL.eqB, DL.eqS, DL.tstE, DL.truB, DL.boolE, DL.andT, DL.orT, DL.notT, DL.andE, DL.orE, DL.notE, DL.ifE, DL.chainE, DL.tupE, DL.lstE, DL.lstC, DL.isNP, DL.notNP, DL.isNon, DL.lenP, DL.runD, DL.Res.out, DL.startD, DL.itE, DL.itR, DL.seqF, DL.rng1, DL.rng2, DL.forS, DL.tgN, DL.tgT, DL.tgCons, DL.tgNil, DL.slE, DL.slL, DL.noO, DL.someO, L2.atI, L2.ixN, maxF, fldP, insOf, stD])]
    simp only [List.set]
    exact e
theorem tick_eq {r : Row} {rs : List Row} (h : RowOk r) (hs : ∀ q ∈ rs, RowOk q) (hl : rs.length ≤ 10) {c : Cells} :
    m_Stamp_tick (stD r :: rs.map stD) c = if mx r.1 rs = 1000000000000 then .exc 1 [] c else .ok (stD (mx r.1 rs + 1, r.2)) c := by
  have z : rs.length ≤ sizeLine := Nat.le_trans hl (by decide)
  obtain ⟨z', e⟩ := tick_loop (c := c) (x := .sh (stD r)) (y := .sh (.tup (rs.map stD))) rs r.1 .un
  have g1 := mx_ge rs r.1
  have g2 := mx_le rs r.1 1000000000000 h.c1 fun q hq => (hs q hq).c1
  have g3 := h.c0
  unfold m_Stamp_tick starM
  rw [if_pos ⟨by simp, by simpa using z⟩]
  simp only [List.take, List.drop, List.cons_append, List.nil_append, DL.runD, DL.startD, List.length_cons, List.length_nil, List.map_cons, List.map_nil, List.replicate, Nat.reduceAdd, Nat.reduceSub, if_true]
  unfold b_Stamp_tick
  rw [seq_nx (set_ok (d := .int r.1) (c' := c) (by simp [DL.seqS, DL.Res.seq, DL.setIxS, DL.setS, DL.exprS, DL.retS, DL.retN, DL.ifS, DL.nilS, DL.brkS, DL.cntS, DL.callB, DL.callM, DL.intF, DL.boolF, DL.consA, DL.nilA, DL.starA, DL.bin, DL.un1, DL.negP, DL.bnd, DL.Out.bnd, DL.Out.thenS, DL.opt, DL.varE, DL.litE, DL.ixP, DL.seqOf, DL.rlistOf, DL.listOf, DL.setItem, DL.ret, DL.addP, DL.subP, DL.mulP, DL.modP, DL.fdivP, DL.powP, DL.intP, DL.geP, DL.leP, DL.gtP, DL.ltP, DL.ltB, DL.eqP, DL.neP, DL.eqB, DL.eqS, DL.tstE, DL.truB, DL.boolE, DL.andT, DL.orT, DL.notT, DL.andE, DL.orE, DL.notE, DL.ifE, DL.chainE, DL.tupE, DL.lstE, DL.lstC, DL.isNP, DL.notNP, DL.isNon, DL.lenP, DL.runD, DL.Res.out, DL.startD, DL.itE, DL.itR, DL.seqF, DL.rng1, DL.rng2, DL.forS, DL.tgN, DL.tgT, DL.tgCons, DL.tgNil, DL.slE, DL.slL, DL.noO, DL.someO, L2.atI, L2.ixN, fldP, insOf, stD]))]
  simp only [List.set]
  rw [seq_nx (for_nx (xs := rs.map stD) (c' := c) (by simp [DL.seqS, DL.Res.seq, DL.setIxS, DL.setS, DL.exprS, DL.retS, DL.retN, DL.ifS, DL.nilS, DL.brkS, DL.cntS, DL.callB, DL.callM, DL.intF, DL.boolF, DL.consA, DL.nilA, DL.starA, DL.bin, DL.un1, DL.negP, DL.bnd, DL.Out.bnd, DL.Out.thenS, DL.opt, DL.varE, DL.litE, DL.ixP, DL.seqOf, DL.rlistOf, DL.listOf, DL.setItem, DL.ret, DL.addP, DL.subP, DL.mulP, DL.modP, DL.fdivP, DL.powP, DL.intP, DL.geP, DL.leP, DL.gtP, DL.ltP, DL.ltB, DL.eqP, DL.neP, DL.eqB, DL.eqS, DL.tstE, DL.truB, DL.boolE, DL.andT, DL.orT, DL.notT, DL.andE, DL.orE, DL.notE, DL.ifE, DL.chainE, DL.tupE, DL.lstE, DL.lstC, DL.isNP, DL.notNP, DL.isNon, DL.lenP, DL.runD, DL.Res.out, DL.startD, DL.itE, DL.itR, DL.seqF, DL.rng1, DL.rng2, DL.forS, DL.tgN, DL.tgT, DL.tgCons, DL.tgNil, DL.slE, DL.slL, DL.noO, DL.someO, L2.atI, L2.ixN]) e)]
  by_cases hm : mx r.1 rs = 1000000000000
  · have := init_no (r := (1000000000001, r.2)) (by dsimp only; omega) (by dsimp only; omega) (c := c)
    simp [DL.seqS, DL.Res.seq, DL.setIxS, DL.setS, DL.exprS, DL.retS, DL.retN, DL.ifS, DL.nilS, DL.brkS, DL.cntS, DL.callB, DL.callM, DL.intF, DL.boolF, DL.consA, DL.nilA, DL.starA, DL.bin, DL.un1, DL.negP, DL.bnd, DL.Out.bnd, DL.Out.thenS, DL.opt, DL.varE, DL.litE, DL.ixP, DL.seqOf, DL.rlistOf, DL.listOf, DL.setItem, DL.ret, DL.addP, DL.subP, DL.mulP, DL.modP, DL.fdivP, DL.powP, DL.intP, DL.geP, DL.leP, DL.gtP, DL.ltP, DL.ltB, DL.eqP, DL.neP, DL.eqB, DL.eqS, DL.tstE, DL.truB, DL.boolE, DL.andT, DL.orT, DL.notT, DL.andE, DL.orE, DL.notE, DL.ifE, DL.chainE, DL.tupE, DL.lstE, DL.lstC, DL.isNP, DL.notNP, DL.isNon, DL.lenP, DL.runD, DL.Res.out, DL.startD, DL.itE, DL.itR, DL.seqF, DL.rng1, DL.rng2, DL.forS, DL.tgN, DL.tgT, DL.tgCons, DL.tgNil, DL.slE, DL.slL, DL.noO, DL.someO, L2.atI, L2.ixN, makeM, fldP, insOf, stD, this, hm]
  · have := init_ok (r := (mx r.1 rs + 1, r.2)) ⟨by dsimp only; omega, by dsimp only; omega, h.p0, h.p1⟩ (c := c)
    dsimp only at this
    simp [DL.seqS, DL.Res.seq, DL.setIxS, DL.setS, DL.exprS, DL.retS, DL.retN, DL.ifS, DL.nilS, DL.brkS, DL.cntS, DL.callB, DL.callM, DL.intF, DL.boolF, DL.consA, DL.nilA, DL.starA, DL.bin, DL.un1, DL.negP, DL.bnd, DL.Out.bnd, DL.Out.thenS, DL.opt, DL.varE, DL.litE, DL.ixP, DL.seqOf, DL.rlistOf, DL.listOf, DL.setItem, DL.ret, DL.addP, DL.subP, DL.mulP, DL.modP, DL.fdivP, DL.powP, DL.intP, DL.geP, DL.leP, DL.gtP, DL.ltP, DL.ltB, DL.eqP, DL.neP, DL.eqB, DL.eqS, DL.tstE, DL.truB, DL.boolE, DL.andT, DL.orT, DL.notT, DL.andE, DL.orE, DL.notE, DL.ifE, DL.chainE, DL.tupE, DL.lstE, DL.lstC, DL.isNP, DL.notNP, DL.isNon, DL.lenP, DL.runD, DL.Res.out, DL.startD, DL.itE, DL.itR, DL.seqF, DL.rng1, DL.rng2, DL.forS, DL.tgN, DL.tgT, DL.tgCons, DL.tgNil, DL.slE, DL.slL, DL.noO, DL.someO, L2.atI, L2.ixN, makeM, fldP, insOf, stD, this, hm]
def ltR (a b : Row) : Bool := decide (a.1 < b.1 ∨ (a.1 = b.1 ∧ a.2 < b.2))
theorem lt_eq {a b : Row} {c : Cells} : m_Stamp___lt__ [stD a, stD b] c = .ok (.bl (ltR a b)) c := by
  obtain ⟨i, j⟩ := a
  obtain ⟨k, l⟩ := b
  have e := PySem.W.dataLt_ii i j k l
  have z1 : 2 ≤ sizeLine := by decide
  simp [m_Stamp___lt__, b_Stamp___lt__, DL.seqS, DL.Res.seq, DL.setIxS, DL.setS, DL.exprS, DL.retS, DL.retN, DL.ifS, DL.nilS, DL.brkS, DL.cntS, DL.callB, DL.callM, DL.intF, DL.boolF, DL.consA, DL.nilA, DL.starA, DL.bin, DL.un1, DL.negP, DL.bnd, DL.Out.bnd, DL.Out.thenS, DL.opt, DL.varE, DL.litE, DL.ixP, DL.seqOf, DL.rlistOf, DL.listOf, DL.setItem, DL.ret, DL.addP, DL.subP, DL.mulP, DL.modP, DL.fdivP, DL.powP, DL.intP, DL.geP, DL.leP, DL.gtP, DL.ltP, DL.ltB, DL.eqP, DL.neP, DL.eqB, DL.eqS, DL.tstE, DL.truB, DL.boolE, DL.andT, DL.orT, DL.notT, DL.andE, DL.orE, DL.notE, DL.ifE, DL.chainE, DL.tupE, DL.lstE, DL.lstC, DL.isNP, DL.notNP, DL.isNon, DL.lenP, DL.runD, DL.Res.out, DL.startD, DL.itE, DL.itR, DL.seqF, DL.rng1, DL.rng2, DL.forS, DL.tgN, DL.tgT, DL.tgCons, DL.tgNil, DL.slE, DL.slL, DL.noO, DL.someO, L2.atI, L2.ixN, isiP, isiB, tyN, insOf, stD, fldP, isis, toPs, toP, PySem.W.alikeAll, PySem.W.alike, PyData.depthAll, PyData.depth, e, ltR, z1]
theorem is_stamp {r : Row} {c : Cells} : m__law_is_stamp [stD r, rowD r] c = .ok (.bl true) c := by
  have h : m__law_same 6 [D.tup [.int r.1, .int r.2], D.tup [.int r.1, .int r.2]] c = .ok (.bl true) c := same_refl (n := 6) (e := rowD r) rfl
  have z1 : 2 ≤ sizeLine := by decide
  simp [m__law_is_stamp, b__law_is_stamp, DL.seqS, DL.Res.seq, DL.setIxS, DL.setS, DL.exprS, DL.retS, DL.retN, DL.ifS, DL.nilS, DL.brkS, DL.cntS, DL.callB, DL.callM, DL.intF, DL.boolF, DL.consA, DL.nilA, DL.starA, DL.bin, DL.un1, DL.negP, DL.bnd, DL.Out.bnd, DL.Out.thenS, DL.opt, DL.varE, DL.litE, DL.ixP, DL.seqOf, DL.rlistOf, DL.listOf, DL.setItem, DL.ret, DL.addP, DL.subP, DL.mulP, DL.modP, DL.fdivP, DL.powP, DL.intP, DL.geP, DL.leP, DL.gtP, DL.ltP, DL.ltB, DL.eqP, DL.neP, DL.eqB, DL.eqS, DL.tstE, DL.truB, DL.boolE, DL.andT, DL.orT, DL.notT, DL.andE, DL.orE, DL.notE, DL.ifE, DL.chainE, DL.tupE, DL.lstE, DL.lstC, DL.isNP, DL.notNP, DL.isNon, DL.lenP, DL.runD, DL.Res.out, DL.startD, DL.itE, DL.itR, DL.seqF, DL.rng1, DL.rng2, DL.forS, DL.tgN, DL.tgT, DL.tgCons, DL.tgNil, DL.slE, DL.slL, DL.noO, DL.someO, L2.atI, L2.ixN, isiP, isiB, tyN, insOf, stD, rowD, fldP, isis, h, z1]
/-- what a tick tells -/
def tkD (r : Row) (rs : List Row) : D := if mx r.1 rs = 1000000000000 then .tup [.str "refused", .non] else .tup [.str "stamp", stD (mx r.1 rs + 1, r.2)]
theorem ticked_eq {r : Row} {rs : List Row} (h : RowOk r) (hs : ∀ q ∈ rs, RowOk q) (hl : rs.length ≤ 4) {c : Cells} :
    m__law_ticked [stD r, .lst (rs.map stD)] c = .ok (tkD r rs) c := by
  have e := tick_eq h hs (by omega) (c := c)
  have z1 : 2 ≤ sizeLine := by decide
  have ii : insOf (stD r) c = some (2, [.int r.1, .int r.2]) := rfl
  match rs, hs, hl with
  | [], _, _ => by_cases hm : mx r.1 [] = 1000000000000 <;> simp [hm] at e <;> simp [m__law_ticked, b__law_ticked, tryS, Res.calm, DL.seqS, DL.Res.seq, DL.setIxS, DL.setS, DL.exprS, DL.retS, DL.retN, DL.ifS, DL.nilS, DL.brkS, DL.cntS, DL.callB, DL.callM, DL.intF, DL.boolF, DL.consA, DL.nilA, DL.starA, DL.bin, DL.un1, DL.negP, DL.bnd, DL.Out.bnd, DL.Out.thenS, DL.opt, DL.varE, DL.litE, DL.ixP, DL.seqOf, DL.rlistOf, DL.listOf, DL.setItem, DL.ret, DL.addP, DL.subP, DL.mulP, DL.modP, DL.fdivP, DL.powP, DL.intP, DL.geP, DL.leP, DL.gtP, DL.ltP, DL.ltB, DL.eqP, DL.neP, DL.eqB, DL.eqS, DL.tstE, DL.truB, DL.boolE, DL.andT, DL.orT, DL.notT, DL.andE, DL.orE, DL.notE, DL.ifE, DL.chainE, DL.tupE, DL.lstE, DL.lstC, DL.isNP, DL.notNP, DL.isNon, DL.lenP, DL.runD, DL.Res.out, DL.startD, DL.itE, DL.itR, DL.seqF, DL.rng1, DL.rng2, DL.forS, DL.tgN, DL.tgT, DL.tgCons, DL.tgNil, DL.slE, DL.slL, DL.noO, DL.someO, L2.atI, L2.ixN, methM, ii, e, hm, tkD, z1]
  | [a], _, _ => by_cases hm : mx r.1 [a] = 1000000000000 <;> simp [hm] at e <;> simp [m__law_ticked, b__law_ticked, tryS, Res.calm, DL.seqS, DL.Res.seq, DL.setIxS, DL.setS, DL.exprS, DL.retS, DL.retN, DL.ifS, DL.nilS, DL.brkS, DL.cntS, DL.callB, DL.callM, DL.intF, DL.boolF, DL.consA, DL.nilA, DL.starA, DL.bin, DL.un1, DL.negP, DL.bnd, DL.Out.bnd, DL.Out.thenS, DL.opt, DL.varE, DL.litE, DL.ixP, DL.seqOf, DL.rlistOf, DL.listOf, DL.setItem, DL.ret, DL.addP, DL.subP, DL.mulP, DL.modP, DL.fdivP, DL.powP, DL.intP, DL.geP, DL.leP, DL.gtP, DL.ltP, DL.ltB, DL.eqP, DL.neP, DL.eqB, DL.eqS, DL.tstE, DL.truB, DL.boolE, DL.andT, DL.orT, DL.notT, DL.andE, DL.orE, DL.notE, DL.ifE, DL.chainE, DL.tupE, DL.lstE, DL.lstC, DL.isNP, DL.notNP, DL.isNon, DL.lenP, DL.runD, DL.Res.out, DL.startD, DL.itE, DL.itR, DL.seqF, DL.rng1, DL.rng2, DL.forS, DL.tgN, DL.tgT, DL.tgCons, DL.tgNil, DL.slE, DL.slL, DL.noO, DL.someO, L2.atI, L2.ixN, methM, ii, e, hm, tkD, z1]
  | [a, b], _, _ => by_cases hm : mx r.1 [a, b] = 1000000000000 <;> simp [hm] at e <;> simp [m__law_ticked, b__law_ticked, tryS, Res.calm, DL.seqS, DL.Res.seq, DL.setIxS, DL.setS, DL.exprS, DL.retS, DL.retN, DL.ifS, DL.nilS, DL.brkS, DL.cntS, DL.callB, DL.callM, DL.intF, DL.boolF, DL.consA, DL.nilA, DL.starA, DL.bin, DL.un1, DL.negP, DL.bnd, DL.Out.bnd, DL.Out.thenS, DL.opt, DL.varE, DL.litE, DL.ixP, DL.seqOf, DL.rlistOf, DL.listOf, DL.setItem, DL.ret, DL.addP, DL.subP, DL.mulP, DL.modP, DL.fdivP, DL.powP, DL.intP, DL.geP, DL.leP, DL.gtP, DL.ltP, DL.ltB, DL.eqP, DL.neP, DL.eqB, DL.eqS, DL.tstE, DL.truB, DL.boolE, DL.andT, DL.orT, DL.notT, DL.andE, DL.orE, DL.notE, DL.ifE, DL.chainE, DL.tupE, DL.lstE, DL.lstC, DL.isNP, DL.notNP, DL.isNon, DL.lenP, DL.runD, DL.Res.out, DL.startD, DL.itE, DL.itR, DL.seqF, DL.rng1, DL.rng2, DL.forS, DL.tgN, DL.tgT, DL.tgCons, DL.tgNil, DL.slE, DL.slL, DL.noO, DL.someO, L2.atI, L2.ixN, methM, ii, e, hm, tkD, z1]
  | [a, b, d], _, _ => by_cases hm : mx r.1 [a, b, d] = 1000000000000 <;> simp [hm] at e <;> simp [m__law_ticked, b__law_ticked, tryS, Res.calm, DL.seqS, DL.Res.seq, DL.setIxS, DL.setS, DL.exprS, DL.retS, DL.retN, DL.ifS, DL.nilS, DL.brkS, DL.cntS, DL.callB, DL.callM, DL.intF, DL.boolF, DL.consA, DL.nilA, DL.starA, DL.bin, DL.un1, DL.negP, DL.bnd, DL.Out.bnd, DL.Out.thenS, DL.opt, DL.varE, DL.litE, DL.ixP, DL.seqOf, DL.rlistOf, DL.listOf, DL.setItem, DL.ret, DL.addP, DL.subP, DL.mulP, DL.modP, DL.fdivP, DL.powP, DL.intP, DL.geP, DL.leP, DL.gtP, DL.ltP, DL.ltB, DL.eqP, DL.neP, DL.eqB, DL.eqS, DL.tstE, DL.truB, DL.boolE, DL.andT, DL.orT, DL.notT, DL.andE, DL.orE, DL.notE, DL.ifE, DL.chainE, DL.tupE, DL.lstE, DL.lstC, DL.isNP, DL.notNP, DL.isNon, DL.lenP, DL.runD, DL.Res.out, DL.startD, DL.itE, DL.itR, DL.seqF, DL.rng1, DL.rng2, DL.forS, DL.tgN, DL.tgT, DL.tgCons, DL.tgNil, DL.slE, DL.slL, DL.noO, DL.someO, L2.atI, L2.ixN, methM, ii, e, hm, tkD, z1]
  | [a, b, d, f], _, _ => by_cases hm : mx r.1 [a, b, d, f] = 1000000000000 <;> simp [hm] at e <;> simp [m__law_ticked, b__law_ticked, tryS, Res.calm, DL.seqS, DL.Res.seq, DL.setIxS, DL.setS, DL.exprS, DL.retS, DL.retN, DL.ifS, DL.nilS, DL.brkS, DL.cntS, DL.callB, DL.callM, DL.intF, DL.boolF, DL.consA, DL.nilA, DL.starA, DL.bin, DL.un1, DL.negP, DL.bnd, DL.Out.bnd, DL.Out.thenS, DL.opt, DL.varE, DL.litE, DL.ixP, DL.seqOf, DL.rlistOf, DL.listOf, DL.setItem, DL.ret, DL.addP, DL.subP, DL.mulP, DL.modP, DL.fdivP, DL.powP, DL.intP, DL.geP, DL.leP, DL.gtP, DL.ltP, DL.ltB, DL.eqP, DL.neP, DL.eqB, DL.eqS, DL.tstE, DL.truB, DL.boolE, DL.andT, DL.orT, DL.notT, DL.andE, DL.orE, DL.notE, DL.ifE, DL.chainE, DL.tupE, DL.lstE, DL.lstC, DL.isNP, DL.notNP, DL.isNon, DL.lenP, DL.runD, DL.Res.out, DL.startD, DL.itE, DL.itR, DL.seqF, DL.rng1, DL.rng2, DL.forS, DL.tgN, DL.tgT, DL.tgCons, DL.tgNil, DL.slE, DL.slL, DL.noO, DL.someO, L2.atI, L2.ixN, methM, ii, e, hm, tkD, z1]
theorem ticks_well {r : Row} {rs : List Row} (h : RowOk r) (hs : ∀ q ∈ rs, RowOk q) (hl : rs.length ≤ 4) {c : Cells} :
    m__law_ticks_well [.lst ((r :: rs).map stD), .lst ((r :: rs).map rowD)] c = .ok (.bl true) c := by
  have z : (1000 : Nat) ≤ sizeLine := by decide
  have z2 : 2 ≤ sizeLine := by decide
  have eM : (r :: rs).foldl (fun m r => if r.1 > m then r.1 else m) 0 = mx r.1 rs := by
    show mx (if r.1 > 0 then r.1 else 0) rs = mx r.1 rs
    have := h.c0
    split
    · rfl
    · rw [show r.1 = 0 by omega]
  have g1 := mx_ge rs r.1
  have g2 := mx_le rs r.1 1000000000000 h.c1 fun q hq => (hs q hq).c1
  have g3 := h.c0
  have all : ∀ q ∈ r :: rs, RowOk q := fun q hq => by
    rcases List.mem_cons.mp hq with rfl | hq
    · exact h
    · exact hs q hq
  obtain ⟨z3, e1, _⟩ := forL_fold (tg := tgN 3) (b := ifS (boolE (bin gtP (bin ixP (varE 3) (litE (.int 0))) (varE 2))) (setS 2 (bin ixP (varE 3) (litE (.int 0)))) (nilS)) (c := c) (enc := rowD) (P := fun _ => True)
    (mk := fun m z => [.sh (.lst (stD r :: rs.map stD)), .sh (.lst (rowD r :: rs.map rowD)), .sh (.int m), z, .un, .un, .un]) (step := fun m r => if r.1 > m then r.1 else m) (xs := r :: rs) (s := 0) (z := .un) trivial fun m z q _ _ => by
      refine ⟨.sh (rowD q), _, rfl, .inl ?_, trivial⟩
      by_cases hq : m < q.1
      · rw [if_t (c' := c) (by simp [DL.seqS, DL.Res.seq, DL.setIxS, DL.setS, DL.exprS, DL.retS, DL.retN, DL.ifS, DL.nilS, DL.brkS, DL.cntS, DL.callB, DL.callM, DL.intF, DL.boolF, DL.consA, DL.nilA, DL.starA, DL.bin, DL.un1, DL.negP, DL.bnd, DL.Out.bnd, DL.Out.thenS, DL.opt, DL.varE, DL.litE, DL.ixP, DL.seqOf, DL.rlistOf, DL.listOf, DL.setItem, DL.ret, DL.addP, DL.subP, DL.mulP, DL.modP, DL.fdivP, DL.powP, DL.intP, DL.geP, DL.leP, DL.gtP, DL.ltP, DL.ltB, DL.eqP, DL.neP, DL.eqB, DL.eqS, DL.tstE, DL.truB, DL.boolE, DL.andT, DL.orT, DL.notT, DL.andE, DL.orE, DL.notE, DL.ifE, DL.chainE, DL.tupE, DL.lstE, DL.lstC, DL.isNP, DL.notNP, DL.isNon, DL.lenP, DL.runD, DL.Res.out, DL.startD, DL.itE, DL.itR, DL.seqF, DL.rng1, DL.rng2, DL.forS, DL.tgN, DL.tgT, DL.tgCons, DL.tgNil, DL.slE, DL.slL, DL.noO, DL.someO, L2.atI, L2.ixN, rowD, hq]), set_ok (d := .int q.1) (c' := c) (by simp [DL.seqS, DL.Res.seq, DL.setIxS, DL.setS, DL.exprS, DL.retS, DL.retN, DL.ifS, DL.nilS, DL.brkS, DL.cntS, DL.callB, DL.callM, DL.intF, DL.boolF, DL.consA, DL.nilA, DL.starA, DL.bin, DL.un1, DL.negP, DL.bnd, DL.Out.bnd, DL.Out.thenS, DL.opt, DL.varE, DL.litE, DL.ixP, DL.seqOf, DL.rlistOf, DL.listOf, DL.setItem, DL.ret, DL.addP, DL.subP, DL.mulP, DL.modP, DL.fdivP, DL.powP, DL.intP, DL.geP, DL.leP, DL.gtP, DL.ltP, DL.ltB, DL.eqP, DL.neP, DL.eqB, DL.eqS, DL.tstE, DL.truB, DL.boolE, DL.andT, DL.orT, DL.notT, DL.andE, DL.orE, DL.notE, DL.ifE, DL.chainE, DL.tupE, DL.lstE, DL.lstC, DL.isNP, DL.notNP, DL.isNon, DL.lenP, DL.runD, DL.Res.out, DL.startD, DL.itE, DL.itR, DL.seqF, DL.rng1, DL.rng2, DL.forS, DL.tgN, DL.tgT, DL.tgCons, DL.tgNil, DL.slE, DL.slL, DL.noO, DL.someO, L2.atI, L2.ixN, rowD])]
        simp [hq]
      · rw [if_f (c' := c) (by simp [DL.seqS, DL.Res.seq, DL.setIxS, DL.setS, DL.exprS, DL.retS, DL.retN, DL.ifS, DL.nilS, DL.brkS, DL.cntS, DL.callB, DL.callM, DL.intF, DL.boolF, DL.consA, DL.nilA, DL.starA, DL.bin, DL.un1, DL.negP, DL.bnd, DL.Out.bnd, DL.Out.thenS, DL.opt, DL.varE, DL.litE, DL.ixP, DL.seqOf, DL.rlistOf, DL.listOf, DL.setItem, DL.ret, DL.addP, DL.subP, DL.mulP, DL.modP, DL.fdivP, DL.powP, DL.intP, DL.geP, DL.leP, DL.gtP, DL.ltP, DL.ltB, DL.eqP, DL.neP, DL.eqB, DL.eqS, DL.tstE, DL.truB, DL.boolE, DL.andT, DL.orT, DL.notT, DL.andE, DL.orE, DL.notE, DL.ifE, DL.chainE, DL.tupE, DL.lstE, DL.lstC, DL.isNP, DL.notNP, DL.isNon, DL.lenP, DL.runD, DL.Res.out, DL.startD, DL.itE, DL.itR, DL.seqF, DL.rng1, DL.rng2, DL.forS, DL.tgN, DL.tgT, DL.tgCons, DL.tgNil, DL.slE, DL.slL, DL.noO, DL.someO, L2.atI, L2.ixN, rowD, hq])]
        simp [hq, nilS]
  rw [eM] at e1
  have e2 := ticked_eq h hs hl (c := c)
  have s4 : ((r :: rs).take 4).length ≤ 4 := by simp; omega
  refine run_rt rfl ?_
  unfold b__law_ticks_well
  simp only [DL.startD, List.length_cons, List.length_nil, List.map_cons, List.map_nil, List.replicate, List.cons_append, List.nil_append, Nat.reduceAdd, Nat.reduceSub]
  rw [seq_nx (set_ok (d := .int 0) (c' := c) rfl)]
  simp only [List.set]
  rw [seq_nx (for_nx (xs := rowD r :: rs.map rowD) (c' := c) (by simp [DL.seqS, DL.Res.seq, DL.setIxS, DL.setS, DL.exprS, DL.retS, DL.retN, DL.ifS, DL.nilS, DL.brkS, DL.cntS, DL.callB, DL.callM, DL.intF, DL.boolF, DL.consA, DL.nilA, DL.starA, DL.bin, DL.un1, DL.negP, DL.bnd, DL.Out.bnd, DL.Out.thenS, DL.opt, DL.varE, DL.litE, DL.ixP, DL.seqOf, DL.rlistOf, DL.listOf, DL.setItem, DL.ret, DL.addP, DL.subP, DL.mulP, DL.modP, DL.fdivP, DL.powP, DL.intP, DL.geP, DL.leP, DL.gtP, DL.ltP, DL.ltB, DL.eqP, DL.neP, DL.eqB, DL.eqS, DL.tstE, DL.truB, DL.boolE, DL.andT, DL.orT, DL.notT, DL.andE, DL.orE, DL.notE, DL.ifE, DL.chainE, DL.tupE, DL.lstE, DL.lstC, DL.isNP, DL.notNP, DL.isNon, DL.lenP, DL.runD, DL.Res.out, DL.startD, DL.itE, DL.itR, DL.seqF, DL.rng1, DL.rng2, DL.forS, DL.tgN, DL.tgT, DL.tgCons, DL.tgNil, DL.slE, DL.slL, DL.noO, DL.someO, L2.atI, L2.ixN]) e1)]
  rw [seq_nx (set_ok (d := tkD r rs) (c' := c) (by simp [DL.seqS, DL.Res.seq, DL.setIxS, DL.setS, DL.exprS, DL.retS, DL.retN, DL.ifS, DL.nilS, DL.brkS, DL.cntS, DL.callB, DL.callM, DL.intF, DL.boolF, DL.consA, DL.nilA, DL.starA, DL.bin, DL.un1, DL.negP, DL.bnd, DL.Out.bnd, DL.Out.thenS, DL.opt, DL.varE, DL.litE, DL.ixP, DL.seqOf, DL.rlistOf, DL.listOf, DL.setItem, DL.ret, DL.addP, DL.subP, DL.mulP, DL.modP, DL.fdivP, DL.powP, DL.intP, DL.geP, DL.leP, DL.gtP, DL.ltP, DL.ltB, DL.eqP, DL.neP, DL.eqB, DL.eqS, DL.tstE, DL.truB, DL.boolE, DL.andT, DL.orT, DL.notT, DL.andE, DL.orE, DL.notE, DL.ifE, DL.chainE, DL.tupE, DL.lstE, DL.lstC, DL.isNP, DL.notNP, DL.isNon, DL.lenP, DL.runD, DL.Res.out, DL.startD, DL.itE, DL.itR, DL.seqF, DL.rng1, DL.rng2, DL.forS, DL.tgN, DL.tgT, DL.tgCons, DL.tgNil, DL.slE, DL.slL, DL.noO, DL.someO, L2.atI, L2.ixN, cut_from (i := 1) 1 rfl, e2]))]
  simp only [List.set]
  by_cases hm : mx r.1 rs = 1000000000000
  · rw [seq_rt (d := .bl true) (c' := c)]
    rw [if_t (c' := c) (by simp [DL.seqS, DL.Res.seq, DL.setIxS, DL.setS, DL.exprS, DL.retS, DL.retN, DL.ifS, DL.nilS, DL.brkS, DL.cntS, DL.callB, DL.callM, DL.intF, DL.boolF, DL.consA, DL.nilA, DL.starA, DL.bin, DL.un1, DL.negP, DL.bnd, DL.Out.bnd, DL.Out.thenS, DL.opt, DL.varE, DL.litE, DL.ixP, DL.seqOf, DL.rlistOf, DL.listOf, DL.setItem, DL.ret, DL.addP, DL.subP, DL.mulP, DL.modP, DL.fdivP, DL.powP, DL.intP, DL.geP, DL.leP, DL.gtP, DL.ltP, DL.ltB, DL.eqP, DL.neP, DL.eqB, DL.eqS, DL.tstE, DL.truB, DL.boolE, DL.andT, DL.orT, DL.notT, DL.andE, DL.orE, DL.notE, DL.ifE, DL.chainE, DL.tupE, DL.lstE, DL.lstC, DL.isNP, DL.notNP, DL.isNon, DL.lenP, DL.runD, DL.Res.out, DL.startD, DL.itE, DL.itR, DL.seqF, DL.rng1, DL.rng2, DL.forS, DL.tgN, DL.tgT, DL.tgCons, DL.tgNil, DL.slE, DL.slL, DL.noO, DL.someO, L2.atI, L2.ixN, hm, smallI]), ret_ok (d := .bl true) (c' := c) (by simp [DL.seqS, DL.Res.seq, DL.setIxS, DL.setS, DL.exprS, DL.retS, DL.retN, DL.ifS, DL.nilS, DL.brkS, DL.cntS, DL.callB, DL.callM, DL.intF, DL.boolF, DL.consA, DL.nilA, DL.starA, DL.bin, DL.un1, DL.negP, DL.bnd, DL.Out.bnd, DL.Out.thenS, DL.opt, DL.varE, DL.litE, DL.ixP, DL.seqOf, DL.rlistOf, DL.listOf, DL.setItem, DL.ret, DL.addP, DL.subP, DL.mulP, DL.modP, DL.fdivP, DL.powP, DL.intP, DL.geP, DL.leP, DL.gtP, DL.ltP, DL.ltB, DL.eqP, DL.neP, DL.eqB, DL.eqS, DL.tstE, DL.truB, DL.boolE, DL.andT, DL.orT, DL.notT, DL.andE, DL.orE, DL.notE, DL.ifE, DL.chainE, DL.tupE, DL.lstE, DL.lstC, DL.isNP, DL.notNP, DL.isNon, DL.lenP, DL.runD, DL.Res.out, DL.startD, DL.itE, DL.itR, DL.seqF, DL.rng1, DL.rng2, DL.forS, DL.tgN, DL.tgT, DL.tgCons, DL.tgNil, DL.slE, DL.slL, DL.noO, DL.someO, L2.atI, L2.ixN, tkD, hm])]
  · have i1 := is_stamp (r := (mx r.1 rs + 1, r.2)) (c := c)
    simp only [rowD] at i1
    have ok1 : RowOk (mx r.1 rs + 1, r.2) := ⟨by dsimp only; omega, by dsimp only; omega, h.p0, h.p1⟩
    have et : tkD r rs = .tup [.str "stamp", stD (mx r.1 rs + 1, r.2)] := if_neg hm
    rw [et]
    rw [seq_if_f (c' := c) (by simp [DL.seqS, DL.Res.seq, DL.setIxS, DL.setS, DL.exprS, DL.retS, DL.retN, DL.ifS, DL.nilS, DL.brkS, DL.cntS, DL.callB, DL.callM, DL.intF, DL.boolF, DL.consA, DL.nilA, DL.starA, DL.bin, DL.un1, DL.negP, DL.bnd, DL.Out.bnd, DL.Out.thenS, DL.opt, DL.varE, DL.litE, DL.ixP, DL.seqOf, DL.rlistOf, DL.listOf, DL.setItem, DL.ret, DL.addP, DL.subP, DL.mulP, DL.modP, DL.fdivP, DL.powP, DL.intP, DL.geP, DL.leP, DL.gtP, DL.ltP, DL.ltB, DL.eqP, DL.neP, DL.eqB, DL.eqS, DL.tstE, DL.truB, DL.boolE, DL.andT, DL.orT, DL.notT, DL.andE, DL.orE, DL.notE, DL.ifE, DL.chainE, DL.tupE, DL.lstE, DL.lstC, DL.isNP, DL.notNP, DL.isNon, DL.lenP, DL.runD, DL.Res.out, DL.startD, DL.itE, DL.itR, DL.seqF, DL.rng1, DL.rng2, DL.forS, DL.tgN, DL.tgT, DL.tgCons, DL.tgNil, DL.slE, DL.slL, DL.noO, DL.someO, L2.atI, L2.ixN, hm])]
    rw [seq_if_f (c' := c) (by simp [DL.seqS, DL.Res.seq, DL.setIxS, DL.setS, DL.exprS, DL.retS, DL.retN, DL.ifS, DL.nilS, DL.brkS, DL.cntS, DL.callB, DL.callM, DL.intF, DL.boolF, DL.consA, DL.nilA, DL.starA, DL.bin, DL.un1, DL.negP, DL.bnd, DL.Out.bnd, DL.Out.thenS, DL.opt, DL.varE, DL.litE, DL.ixP, DL.seqOf, DL.rlistOf, DL.listOf, DL.setItem, DL.ret, DL.addP, DL.subP, DL.mulP, DL.modP, DL.fdivP, DL.powP, DL.intP, DL.geP, DL.leP, DL.gtP, DL.ltP, DL.ltB, DL.eqP, DL.neP, DL.eqB, DL.eqS, DL.tstE, DL.truB, DL.boolE, DL.andT, DL.orT, DL.notT, DL.andE, DL.orE, DL.notE, DL.ifE, DL.chainE, DL.tupE, DL.lstE, DL.lstC, DL.isNP, DL.notNP, DL.isNon, DL.lenP, DL.runD, DL.Res.out, DL.startD, DL.itE, DL.itR, DL.seqF, DL.rng1, DL.rng2, DL.forS, DL.tgN, DL.tgT, DL.tgCons, DL.tgNil, DL.slE, DL.slL, DL.noO, DL.someO, L2.atI, L2.ixN, rowD, i1, z2])]
    obtain ⟨z5, e5, _⟩ := forL_fold (tg := tgN 5) (b := ifS (notT (tstE (callB boolF (consA (ownM 2 m_Stamp___lt__ (varE 5) (bin ixP (varE 4) (litE (.int 1)))) (nilA))))) (retS (litE (.bl false))) (nilS)) (c := c) (enc := stD) (P := fun _ => True)
      (mk := fun (m : Unit) z => [.sh (.lst (stD r :: rs.map stD)), .sh (.lst (rowD r :: rs.map rowD)), .sh (.int (mx r.1 rs)), z3, .sh (.tup [.str "stamp", stD (mx r.1 rs + 1, r.2)]), z, .un]) (step := fun m _ => m) (xs := r :: rs) (s := ()) (z := .un) trivial fun m z q hq _ => by
        refine ⟨.sh (stD q), _, rfl, .inl ?_, trivial⟩
        have lq := lt_eq (a := q) (b := (mx r.1 rs + 1, r.2)) (c := c)
        have hlt : ltR q (mx r.1 rs + 1, r.2) = true := by
          have : q.1 ≤ mx r.1 rs := by
            rcases List.mem_cons.mp hq with rfl | hq
            · exact g1
            · exact mx_mem rs r.1 q hq
          simp only [ltR, decide_eq_true_eq]
          exact .inl (by omega)
        rw [hlt] at lq
        have i2 : ∀ q : Row, insOf (stD q) c = some (2, [.int q.1, .int q.2]) := fun _ => rfl
        rw [if_f (c' := c) (by simp [DL.seqS, DL.Res.seq, DL.setIxS, DL.setS, DL.exprS, DL.retS, DL.retN, DL.ifS, DL.nilS, DL.brkS, DL.cntS, DL.callB, DL.callM, DL.intF, DL.boolF, DL.consA, DL.nilA, DL.starA, DL.bin, DL.un1, DL.negP, DL.bnd, DL.Out.bnd, DL.Out.thenS, DL.opt, DL.varE, DL.litE, DL.ixP, DL.seqOf, DL.rlistOf, DL.listOf, DL.setItem, DL.ret, DL.addP, DL.subP, DL.mulP, DL.modP, DL.fdivP, DL.powP, DL.intP, DL.geP, DL.leP, DL.gtP, DL.ltP, DL.ltB, DL.eqP, DL.neP, DL.eqB, DL.eqS, DL.tstE, DL.truB, DL.boolE, DL.andT, DL.orT, DL.notT, DL.andE, DL.orE, DL.notE, DL.ifE, DL.chainE, DL.tupE, DL.lstE, DL.lstC, DL.isNP, DL.notNP, DL.isNon, DL.lenP, DL.runD, DL.Res.out, DL.startD, DL.itE, DL.itR, DL.seqF, DL.rng1, DL.rng2, DL.forS, DL.tgN, DL.tgT, DL.tgCons, DL.tgNil, DL.slE, DL.slL, DL.noO, DL.someO, L2.atI, L2.ixN, ownM, i2, lq])]
        simp [nilS]
    rw [seq_nx (for_nx (xs := stD r :: rs.map stD) (c' := c) (by simp [DL.seqS, DL.Res.seq, DL.setIxS, DL.setS, DL.exprS, DL.retS, DL.retN, DL.ifS, DL.nilS, DL.brkS, DL.cntS, DL.callB, DL.callM, DL.intF, DL.boolF, DL.consA, DL.nilA, DL.starA, DL.bin, DL.un1, DL.negP, DL.bnd, DL.Out.bnd, DL.Out.thenS, DL.opt, DL.varE, DL.litE, DL.ixP, DL.seqOf, DL.rlistOf, DL.listOf, DL.setItem, DL.ret, DL.addP, DL.subP, DL.mulP, DL.modP, DL.fdivP, DL.powP, DL.intP, DL.geP, DL.leP, DL.gtP, DL.ltP, DL.ltB, DL.eqP, DL.neP, DL.eqB, DL.eqS, DL.tstE, DL.truB, DL.boolE, DL.andT, DL.orT, DL.notT, DL.andE, DL.orE, DL.notE, DL.ifE, DL.chainE, DL.tupE, DL.lstE, DL.lstC, DL.isNP, DL.notNP, DL.isNon, DL.lenP, DL.runD, DL.Res.out, DL.startD, DL.itE, DL.itR, DL.seqF, DL.rng1, DL.rng2, DL.forS, DL.tgN, DL.tgT, DL.tgCons, DL.tgNil, DL.slE, DL.slL, DL.noO, DL.someO, L2.atI, L2.ixN]) e5)]
    have e6 := ticked_eq (rs := (r :: rs).take 4) ok1 (fun q hq => all q (List.mem_of_mem_take hq)) s4 (c := c)
    have hmx : mx (mx r.1 rs + 1) ((r :: rs).take 4) = mx r.1 rs + 1 := by
      have a := mx_ge ((r :: rs).take 4) (mx r.1 rs + 1)
      have b := mx_le ((r :: rs).take 4) (mx r.1 rs + 1) (mx r.1 rs + 1) (Int.le_refl _) fun q hq => by
        have hq := List.mem_of_mem_take hq
        rcases List.mem_cons.mp hq with rfl | hq
        · omega
        · have := mx_mem rs r.1 q hq
          omega
      omega
    have et4 : (stD r :: rs.map stD).take 4 = ((r :: rs).take 4).map stD := by
      show ((r :: rs).map stD).take 4 = _
      exact List.map_take.symm
    rw [seq_nx (set_ok (d := tkD (mx r.1 rs + 1, r.2) ((r :: rs).take 4)) (c' := c) (by
      have ex : ixP (.tup [.str "stamp", stD (mx r.1 rs + 1, r.2)]) (.int 1) c = some (stD (mx r.1 rs + 1, r.2)) := rfl
      simp only [DL.callM, DL.consA, DL.nilA, DL.bin, DL.bnd, DL.Out.bnd, DL.ret, DL.varE, DL.litE, DL.opt, DL.slE, DL.noO, DL.someO, DL.slL, DL.rlistOf, DL.listOf, List.getElem?_cons_succ, List.getElem?_cons_zero, Option.map_some, cut_to (i := 4) 4 rfl, et4, ex]
      exact e6))]
    simp only [List.set]
    by_cases hm2 : mx r.1 rs + 1 = 1000000000000
    · have et6 : tkD (mx r.1 rs + 1, r.2) ((r :: rs).take 4) = .tup [.str "refused", .non] := by
        unfold tkD
        dsimp only
        rw [hmx, if_pos hm2]
      rw [et6, seq_if_rt (d := .bl true) (c' := c) (c'' := c) (by simp [DL.seqS, DL.Res.seq, DL.setIxS, DL.setS, DL.exprS, DL.retS, DL.retN, DL.ifS, DL.nilS, DL.brkS, DL.cntS, DL.callB, DL.callM, DL.intF, DL.boolF, DL.consA, DL.nilA, DL.starA, DL.bin, DL.un1, DL.negP, DL.bnd, DL.Out.bnd, DL.Out.thenS, DL.opt, DL.varE, DL.litE, DL.ixP, DL.seqOf, DL.rlistOf, DL.listOf, DL.setItem, DL.ret, DL.addP, DL.subP, DL.mulP, DL.modP, DL.fdivP, DL.powP, DL.intP, DL.geP, DL.leP, DL.gtP, DL.ltP, DL.ltB, DL.eqP, DL.neP, DL.eqB, DL.eqS, DL.tstE, DL.truB, DL.boolE, DL.andT, DL.orT, DL.notT, DL.andE, DL.orE, DL.notE, DL.ifE, DL.chainE, DL.tupE, DL.lstE, DL.lstC, DL.isNP, DL.notNP, DL.isNon, DL.lenP, DL.runD, DL.Res.out, DL.startD, DL.itE, DL.itR, DL.seqF, DL.rng1, DL.rng2, DL.forS, DL.tgN, DL.tgT, DL.tgCons, DL.tgNil, DL.slE, DL.slL, DL.noO, DL.someO, L2.atI, L2.ixN, hm2, smallI]) (ret_ok (by simp [DL.seqS, DL.Res.seq, DL.setIxS, DL.setS, DL.exprS, DL.retS, DL.retN, DL.ifS, DL.nilS, DL.brkS, DL.cntS, DL.callB, DL.callM, DL.intF, DL.boolF, DL.consA, DL.nilA, DL.starA, DL.bin, DL.un1, DL.negP, DL.bnd, DL.Out.bnd, DL.Out.thenS, DL.opt, DL.varE, DL.litE, DL.ixP, DL.seqOf, DL.rlistOf, DL.listOf, DL.setItem, DL.ret, DL.addP, DL.subP, DL.mulP, DL.modP, DL.fdivP, DL.powP, DL.intP, DL.geP, DL.leP, DL.gtP, DL.ltP, DL.ltB, DL.eqP, DL.neP, DL.eqB, DL.eqS, DL.tstE, DL.truB, DL.boolE, DL.andT, DL.orT, DL.notT, DL.andE, DL.orE, DL.notE, DL.ifE, DL.chainE, DL.tupE, DL.lstE, DL.lstC, DL.isNP, DL.notNP, DL.isNon, DL.lenP, DL.runD, DL.Res.out, DL.startD, DL.itE, DL.itR, DL.seqF, DL.rng1, DL.rng2, DL.forS, DL.tgN, DL.tgT, DL.tgCons, DL.tgNil, DL.slE, DL.slL, DL.noO, DL.someO, L2.atI, L2.ixN]))]
    · have i3 := is_stamp (r := (mx r.1 rs + 1 + 1, r.2)) (c := c)
      simp only [rowD] at i3
      rw [show mx r.1 rs + 1 + 1 = mx r.1 rs + 2 by omega] at i3
      have et5 : tkD (mx r.1 rs + 1, r.2) ((r :: rs).take 4) = .tup [.str "stamp", stD (mx r.1 rs + 2, r.2)] := by
        unfold tkD
        dsimp only
        rw [hmx, if_neg hm2, show mx r.1 rs + 1 + 1 = mx r.1 rs + 2 by omega]
      rw [et5, seq_if_f (c' := c) (by simp [DL.seqS, DL.Res.seq, DL.setIxS, DL.setS, DL.exprS, DL.retS, DL.retN, DL.ifS, DL.nilS, DL.brkS, DL.cntS, DL.callB, DL.callM, DL.intF, DL.boolF, DL.consA, DL.nilA, DL.starA, DL.bin, DL.un1, DL.negP, DL.bnd, DL.Out.bnd, DL.Out.thenS, DL.opt, DL.varE, DL.litE, DL.ixP, DL.seqOf, DL.rlistOf, DL.listOf, DL.setItem, DL.ret, DL.addP, DL.subP, DL.mulP, DL.modP, DL.fdivP, DL.powP, DL.intP, DL.geP, DL.leP, DL.gtP, DL.ltP, DL.ltB, DL.eqP, DL.neP, DL.eqB, DL.eqS, DL.tstE, DL.truB, DL.boolE, DL.andT, DL.orT, DL.notT, DL.andE, DL.orE, DL.notE, DL.ifE, DL.chainE, DL.tupE, DL.lstE, DL.lstC, DL.isNP, DL.notNP, DL.isNon, DL.lenP, DL.runD, DL.Res.out, DL.startD, DL.itE, DL.itR, DL.seqF, DL.rng1, DL.rng2, DL.forS, DL.tgN, DL.tgT, DL.tgCons, DL.tgNil, DL.slE, DL.slL, DL.noO, DL.someO, L2.atI, L2.ixN, hm2]), ret_ok (d := .bl true) (c' := c) (by simp [DL.seqS, DL.Res.seq, DL.setIxS, DL.setS, DL.exprS, DL.retS, DL.retN, DL.ifS, DL.nilS, DL.brkS, DL.cntS, DL.callB, DL.callM, DL.intF, DL.boolF, DL.consA, DL.nilA, DL.starA, DL.bin, DL.un1, DL.negP, DL.bnd, DL.Out.bnd, DL.Out.thenS, DL.opt, DL.varE, DL.litE, DL.ixP, DL.seqOf, DL.rlistOf, DL.listOf, DL.setItem, DL.ret, DL.addP, DL.subP, DL.mulP, DL.modP, DL.fdivP, DL.powP, DL.intP, DL.geP, DL.leP, DL.gtP, DL.ltP, DL.ltB, DL.eqP, DL.neP, DL.eqB, DL.eqS, DL.tstE, DL.truB, DL.boolE, DL.andT, DL.orT, DL.notT, DL.andE, DL.orE, DL.notE, DL.ifE, DL.chainE, DL.tupE, DL.lstE, DL.lstC, DL.isNP, DL.notNP, DL.isNon, DL.lenP, DL.runD, DL.Res.out, DL.startD, DL.itE, DL.itR, DL.seqF, DL.rng1, DL.rng2, DL.forS, DL.tgN, DL.tgT, DL.tgCons, DL.tgNil, DL.slE, DL.slL, DL.noO, DL.someO, L2.atI, L2.ixN, rowD, i1, i3, z2])]
/-- the latest of them -/
def later (b : Option Row) (r : Row) : Option Row := match b with
  | none => some r
  | some q => if ltR q r then some r else some q
def latestR (rs : List Row) : Option Row := rs.foldl later none
def stO (b : Option Row) : D := match b with
  | none => .non
  | some q => stD q
def rowO (b : Option Row) : D := match b with
  | none => .non
  | some q => rowD q
theorem latest_eq {rs : List Row} (hl : rs.length ≤ 10) {c : Cells} : m_latest (rs.map stD) c = .ok (stO (latestR rs)) c := by
  have z : rs.length ≤ sizeLine := Nat.le_trans hl (by decide)
  obtain ⟨z3, e1, _⟩ := forL_fold (tg := tgN 2) (b := ifS (orT (boolE (bin isNP (varE 1) (litE .non))) (boolE (ownM 2 m_Stamp___lt__ (varE 1) (varE 2)))) (setS 1 (varE 2)) (nilS)) (c := c) (enc := stD) (P := fun _ => True)
    (mk := fun b z => [.sh (.tup (rs.map stD)), .sh (stO b), z]) (step := later) (xs := rs) (s := none) (z := .un) trivial fun b z q _ _ => by
      refine ⟨.sh (stD q), _, rfl, .inl ?_, trivial⟩
      have i2 : ∀ q : Row, insOf (stD q) c = some (2, [.int q.1, .int q.2]) := fun _ => rfl
      cases b with
      | none =>
        rw [if_t (c' := c) (by simp [DL.seqS, DL.Res.seq, DL.setIxS, DL.setS, DL.exprS, DL.retS, DL.retN, DL.ifS, DL.nilS, DL.brkS, DL.cntS, DL.callB, DL.callM, DL.intF, DL.boolF, DL.consA, DL.nilA, DL.starA, DL.bin, DL.un1, DL.negP, DL.bnd, DL.Out.bnd, DL.Out.thenS, DL.opt, DL.varE, DL.litE, DL.ixP, DL.seqOf, DL.rlistOf, DL.listOf, DL.setItem, DL.ret, DL.addP, DL.subP, DL.mulP, DL.modP, DL.fdivP, DL.powP, DL.intP, DL.geP, DL.leP, DL.gtP, DL.ltP, DL.ltB, DL.eqP, DL.neP, DL.eqB, DL.eqS, DL.tstE, DL.truB, DL.boolE, DL.andT, DL.orT, DL.notT, DL.andE, DL.orE, DL.notE, DL.ifE, DL.chainE, DL.tupE, DL.lstE, DL.lstC, DL.isNP, DL.notNP, DL.isNon, DL.lenP, DL.runD, DL.Res.out, DL.startD, DL.itE, DL.itR, DL.seqF, DL.rng1, DL.rng2, DL.forS, DL.tgN, DL.tgT, DL.tgCons, DL.tgNil, DL.slE, DL.slL, DL.noO, DL.someO, L2.atI, L2.ixN, stO]), set_ok (d := stD q) (c' := c) (by simp [DL.seqS, DL.Res.seq, DL.setIxS, DL.setS, DL.exprS, DL.retS, DL.retN, DL.ifS, DL.nilS, DL.brkS, DL.cntS, DL.callB, DL.callM, DL.intF, DL.boolF, DL.consA, DL.nilA, DL.starA, DL.bin, DL.un1, DL.negP, DL.bnd, DL.Out.bnd, DL.Out.thenS, DL.opt, DL.varE, DL.litE, DL.ixP, DL.seqOf, DL.rlistOf, DL.listOf, DL.setItem, DL.ret, DL.addP, DL.subP, DL.mulP, DL.modP, DL.fdivP, DL.powP, DL.intP, DL.geP, DL.leP, DL.gtP, DL.ltP, DL.ltB, DL.eqP, DL.neP, DL.eqB, DL.eqS, DL.tstE, DL.truB, DL.boolE, DL.andT, DL.orT, DL.notT, DL.andE, DL.orE, DL.notE, DL.ifE, DL.chainE, DL.tupE, DL.lstE, DL.lstC, DL.isNP, DL.notNP, DL.isNon, DL.lenP, DL.runD, DL.Res.out, DL.startD, DL.itE, DL.itR, DL.seqF, DL.rng1, DL.rng2, DL.forS, DL.tgN, DL.tgT, DL.tgCons, DL.tgNil, DL.slE, DL.slL, DL.noO, DL.someO, L2.atI, L2.ixN])]
        rfl
      | some p =>
        have lq := lt_eq (a := p) (b := q) (c := c)
        have ht : (orT (boolE (bin isNP (varE 1) (litE .non))) (boolE (ownM 2 m_Stamp___lt__ (varE 1) (varE 2)))) [.sh (.tup (rs.map stD)), .sh (stO (some p)), .sh (stD q)] c = .ok (ltR p q) c :=
          (or_f (c' := c) rfl).trans (bool_ok (own_ok rfl rfl (i2 p) (i2 q) lq))
        simp only [List.set]
        cases hb : ltR p q
        · rw [hb] at ht
          rw [if_f ht]
          simp [later, hb, nilS]
        · rw [hb] at ht
          rw [if_t ht, set_ok (d := stD q) (c' := c) (by simp [DL.seqS, DL.Res.seq, DL.setIxS, DL.setS, DL.exprS, DL.retS, DL.retN, DL.ifS, DL.nilS, DL.brkS, DL.cntS, DL.callB, DL.callM, DL.intF, DL.boolF, DL.consA, DL.nilA, DL.starA, DL.bin, DL.un1, DL.negP, DL.bnd, DL.Out.bnd, DL.Out.thenS, DL.opt, DL.varE, DL.litE, DL.ixP, DL.seqOf, DL.rlistOf, DL.listOf, DL.setItem, DL.ret, DL.addP, DL.subP, DL.mulP, DL.modP, DL.fdivP, DL.powP, DL.intP, DL.geP, DL.leP, DL.gtP, DL.ltP, DL.ltB, DL.eqP, DL.neP, DL.eqB, DL.eqS, DL.tstE, DL.truB, DL.boolE, DL.andT, DL.orT, DL.notT, DL.andE, DL.orE, DL.notE, DL.ifE, DL.chainE, DL.tupE, DL.lstE, DL.lstC, DL.isNP, DL.notNP, DL.isNon, DL.lenP, DL.runD, DL.Res.out, DL.startD, DL.itE, DL.itR, DL.seqF, DL.rng1, DL.rng2, DL.forS, DL.tgN, DL.tgT, DL.tgCons, DL.tgNil, DL.slE, DL.slL, DL.noO, DL.someO, L2.atI, L2.ixN])]
          simp [later, hb, stO]
  unfold m_latest starM
  rw [if_pos ⟨by simp, by simpa using z⟩]
  simp only [List.take, List.drop, List.nil_append]
  refine run_rt rfl ?_
  unfold b_latest
  simp only [DL.startD, List.length_cons, List.length_nil, List.map_cons, List.map_nil, List.replicate, List.cons_append, List.nil_append, Nat.reduceAdd, Nat.reduceSub]
  rw [seq_nx (set_ok (d := stO none) (c' := c) rfl)]
  simp only [List.set]
  rw [seq_nx (for_nx (xs := rs.map stD) (c' := c) (by simp [DL.seqS, DL.Res.seq, DL.setIxS, DL.setS, DL.exprS, DL.retS, DL.retN, DL.ifS, DL.nilS, DL.brkS, DL.cntS, DL.callB, DL.callM, DL.intF, DL.boolF, DL.consA, DL.nilA, DL.starA, DL.bin, DL.un1, DL.negP, DL.bnd, DL.Out.bnd, DL.Out.thenS, DL.opt, DL.varE, DL.litE, DL.ixP, DL.seqOf, DL.rlistOf, DL.listOf, DL.setItem, DL.ret, DL.addP, DL.subP, DL.mulP, DL.modP, DL.fdivP, DL.powP, DL.intP, DL.geP, DL.leP, DL.gtP, DL.ltP, DL.ltB, DL.eqP, DL.neP, DL.eqB, DL.eqS, DL.tstE, DL.truB, DL.boolE, DL.andT, DL.orT, DL.notT, DL.andE, DL.orE, DL.notE, DL.ifE, DL.chainE, DL.tupE, DL.lstE, DL.lstC, DL.isNP, DL.notNP, DL.isNon, DL.lenP, DL.runD, DL.Res.out, DL.startD, DL.itE, DL.itR, DL.seqF, DL.rng1, DL.rng2, DL.forS, DL.tgN, DL.tgT, DL.tgCons, DL.tgNil, DL.slE, DL.slL, DL.noO, DL.someO, L2.atI, L2.ixN]) e1), ret_ok (d := stO (latestR rs)) (c' := c) rfl]
theorem latest5 {rs : List Row} (hl : rs.length ≤ 5) {c : Cells} : m__law_latest [.lst (rs.map stD)] c = .ok (stO (latestR rs)) c := by
  have e := latest_eq (rs := rs) (by omega) (c := c)
  match rs, hl with
  | [], _ => simp at e; simp [m__law_latest, b__law_latest, DL.seqS, DL.Res.seq, DL.setIxS, DL.setS, DL.exprS, DL.retS, DL.retN, DL.ifS, DL.nilS, DL.brkS, DL.cntS, DL.callB, DL.callM, DL.intF, DL.boolF, DL.consA, DL.nilA, DL.starA, DL.bin, DL.un1, DL.negP, DL.bnd, DL.Out.bnd, DL.Out.thenS, DL.opt, DL.varE, DL.litE, DL.ixP, DL.seqOf, DL.rlistOf, DL.listOf, DL.setItem, DL.ret, DL.addP, DL.subP, DL.mulP, DL.modP, DL.fdivP, DL.powP, DL.intP, DL.geP, DL.leP, DL.gtP, DL.ltP, DL.ltB, DL.eqP, DL.neP, DL.eqB, DL.eqS, DL.tstE, DL.truB, DL.boolE, DL.andT, DL.orT, DL.notT, DL.andE, DL.orE, DL.notE, DL.ifE, DL.chainE, DL.tupE, DL.lstE, DL.lstC, DL.isNP, DL.notNP, DL.isNon, DL.lenP, DL.runD, DL.Res.out, DL.startD, DL.itE, DL.itR, DL.seqF, DL.rng1, DL.rng2, DL.forS, DL.tgN, DL.tgT, DL.tgCons, DL.tgNil, DL.slE, DL.slL, DL.noO, DL.someO, L2.atI, L2.ixN, e]
  | [a], _ => simp at e; simp [m__law_latest, b__law_latest, DL.seqS, DL.Res.seq, DL.setIxS, DL.setS, DL.exprS, DL.retS, DL.retN, DL.ifS, DL.nilS, DL.brkS, DL.cntS, DL.callB, DL.callM, DL.intF, DL.boolF, DL.consA, DL.nilA, DL.starA, DL.bin, DL.un1, DL.negP, DL.bnd, DL.Out.bnd, DL.Out.thenS, DL.opt, DL.varE, DL.litE, DL.ixP, DL.seqOf, DL.rlistOf, DL.listOf, DL.setItem, DL.ret, DL.addP, DL.subP, DL.mulP, DL.modP, DL.fdivP, DL.powP, DL.intP, DL.geP, DL.leP, DL.gtP, DL.ltP, DL.ltB, DL.eqP, DL.neP, DL.eqB, DL.eqS, DL.tstE, DL.truB, DL.boolE, DL.andT, DL.orT, DL.notT, DL.andE, DL.orE, DL.notE, DL.ifE, DL.chainE, DL.tupE, DL.lstE, DL.lstC, DL.isNP, DL.notNP, DL.isNon, DL.lenP, DL.runD, DL.Res.out, DL.startD, DL.itE, DL.itR, DL.seqF, DL.rng1, DL.rng2, DL.forS, DL.tgN, DL.tgT, DL.tgCons, DL.tgNil, DL.slE, DL.slL, DL.noO, DL.someO, L2.atI, L2.ixN, e]
  | [a, b], _ => simp at e; simp [m__law_latest, b__law_latest, DL.seqS, DL.Res.seq, DL.setIxS, DL.setS, DL.exprS, DL.retS, DL.retN, DL.ifS, DL.nilS, DL.brkS, DL.cntS, DL.callB, DL.callM, DL.intF, DL.boolF, DL.consA, DL.nilA, DL.starA, DL.bin, DL.un1, DL.negP, DL.bnd, DL.Out.bnd, DL.Out.thenS, DL.opt, DL.varE, DL.litE, DL.ixP, DL.seqOf, DL.rlistOf, DL.listOf, DL.setItem, DL.ret, DL.addP, DL.subP, DL.mulP, DL.modP, DL.fdivP, DL.powP, DL.intP, DL.geP, DL.leP, DL.gtP, DL.ltP, DL.ltB, DL.eqP, DL.neP, DL.eqB, DL.eqS, DL.tstE, DL.truB, DL.boolE, DL.andT, DL.orT, DL.notT, DL.andE, DL.orE, DL.notE, DL.ifE, DL.chainE, DL.tupE, DL.lstE, DL.lstC, DL.isNP, DL.notNP, DL.isNon, DL.lenP, DL.runD, DL.Res.out, DL.startD, DL.itE, DL.itR, DL.seqF, DL.rng1, DL.rng2, DL.forS, DL.tgN, DL.tgT, DL.tgCons, DL.tgNil, DL.slE, DL.slL, DL.noO, DL.someO, L2.atI, L2.ixN, e]
  | [a, b, d], _ => simp at e; simp [m__law_latest, b__law_latest, DL.seqS, DL.Res.seq, DL.setIxS, DL.setS, DL.exprS, DL.retS, DL.retN, DL.ifS, DL.nilS, DL.brkS, DL.cntS, DL.callB, DL.callM, DL.intF, DL.boolF, DL.consA, DL.nilA, DL.starA, DL.bin, DL.un1, DL.negP, DL.bnd, DL.Out.bnd, DL.Out.thenS, DL.opt, DL.varE, DL.litE, DL.ixP, DL.seqOf, DL.rlistOf, DL.listOf, DL.setItem, DL.ret, DL.addP, DL.subP, DL.mulP, DL.modP, DL.fdivP, DL.powP, DL.intP, DL.geP, DL.leP, DL.gtP, DL.ltP, DL.ltB, DL.eqP, DL.neP, DL.eqB, DL.eqS, DL.tstE, DL.truB, DL.boolE, DL.andT, DL.orT, DL.notT, DL.andE, DL.orE, DL.notE, DL.ifE, DL.chainE, DL.tupE, DL.lstE, DL.lstC, DL.isNP, DL.notNP, DL.isNon, DL.lenP, DL.runD, DL.Res.out, DL.startD, DL.itE, DL.itR, DL.seqF, DL.rng1, DL.rng2, DL.forS, DL.tgN, DL.tgT, DL.tgCons, DL.tgNil, DL.slE, DL.slL, DL.noO, DL.someO, L2.atI, L2.ixN, e]
  | [a, b, d, f], _ => simp at e; simp [m__law_latest, b__law_latest, DL.seqS, DL.Res.seq, DL.setIxS, DL.setS, DL.exprS, DL.retS, DL.retN, DL.ifS, DL.nilS, DL.brkS, DL.cntS, DL.callB, DL.callM, DL.intF, DL.boolF, DL.consA, DL.nilA, DL.starA, DL.bin, DL.un1, DL.negP, DL.bnd, DL.Out.bnd, DL.Out.thenS, DL.opt, DL.varE, DL.litE, DL.ixP, DL.seqOf, DL.rlistOf, DL.listOf, DL.setItem, DL.ret, DL.addP, DL.subP, DL.mulP, DL.modP, DL.fdivP, DL.powP, DL.intP, DL.geP, DL.leP, DL.gtP, DL.ltP, DL.ltB, DL.eqP, DL.neP, DL.eqB, DL.eqS, DL.tstE, DL.truB, DL.boolE, DL.andT, DL.orT, DL.notT, DL.andE, DL.orE, DL.notE, DL.ifE, DL.chainE, DL.tupE, DL.lstE, DL.lstC, DL.isNP, DL.notNP, DL.isNon, DL.lenP, DL.runD, DL.Res.out, DL.startD, DL.itE, DL.itR, DL.seqF, DL.rng1, DL.rng2, DL.forS, DL.tgN, DL.tgT, DL.tgCons, DL.tgNil, DL.slE, DL.slL, DL.noO, DL.someO, L2.atI, L2.ixN, e]
  | [a, b, d, f, g], _ => simp at e; simp [m__law_latest, b__law_latest, DL.seqS, DL.Res.seq, DL.setIxS, DL.setS, DL.exprS, DL.retS, DL.retN, DL.ifS, DL.nilS, DL.brkS, DL.cntS, DL.callB, DL.callM, DL.intF, DL.boolF, DL.consA, DL.nilA, DL.starA, DL.bin, DL.un1, DL.negP, DL.bnd, DL.Out.bnd, DL.Out.thenS, DL.opt, DL.varE, DL.litE, DL.ixP, DL.seqOf, DL.rlistOf, DL.listOf, DL.setItem, DL.ret, DL.addP, DL.subP, DL.mulP, DL.modP, DL.fdivP, DL.powP, DL.intP, DL.geP, DL.leP, DL.gtP, DL.ltP, DL.ltB, DL.eqP, DL.neP, DL.eqB, DL.eqS, DL.tstE, DL.truB, DL.boolE, DL.andT, DL.orT, DL.notT, DL.andE, DL.orE, DL.notE, DL.ifE, DL.chainE, DL.tupE, DL.lstE, DL.lstC, DL.isNP, DL.notNP, DL.isNon, DL.lenP, DL.runD, DL.Res.out, DL.startD, DL.itE, DL.itR, DL.seqF, DL.rng1, DL.rng2, DL.forS, DL.tgN, DL.tgT, DL.tgCons, DL.tgNil, DL.slE, DL.slL, DL.noO, DL.someO, L2.atI, L2.ixN, e]
theorem tells_latest {rs : List Row} (hl : rs.length ≤ 5) {c : Cells} : m__law_tells_latest [.lst (rs.map stD), .lst (rs.map rowD)] c = .ok (.bl true) c := by
  obtain ⟨z3, e1, _⟩ := forL_fold (tg := tgN 3) (b := ifS (orT (boolE (bin isNP (varE 2) (litE .non))) (orT (boolE (bin ltP (bin ixP (varE 2) (litE (.int 0))) (bin ixP (varE 3) (litE (.int 0))))) (andT (boolE (bin eqP (bin ixP (varE 2) (litE (.int 0))) (bin ixP (varE 3) (litE (.int 0))))) (boolE (bin ltP (bin ixP (varE 2) (litE (.int 1))) (bin ixP (varE 3) (litE (.int 1)))))))) (setS 2 (varE 3)) (nilS)) (c := c) (enc := rowD) (P := fun _ => True)
    (mk := fun b z => [.sh (.lst (rs.map stD)), .sh (.lst (rs.map rowD)), .sh (rowO b), z, .un]) (step := later) (xs := rs) (s := none) (z := .un) trivial fun b z q _ _ => by
      refine ⟨.sh (rowD q), _, rfl, .inl ?_, trivial⟩
      cases b with
      | none =>
        rw [if_t (c' := c) (by simp [DL.seqS, DL.Res.seq, DL.setIxS, DL.setS, DL.exprS, DL.retS, DL.retN, DL.ifS, DL.nilS, DL.brkS, DL.cntS, DL.callB, DL.callM, DL.intF, DL.boolF, DL.consA, DL.nilA, DL.starA, DL.bin, DL.un1, DL.negP, DL.bnd, DL.Out.bnd, DL.Out.thenS, DL.opt, DL.varE, DL.litE, DL.ixP, DL.seqOf, DL.rlistOf, DL.listOf, DL.setItem, DL.ret, DL.addP, DL.subP, DL.mulP, DL.modP, DL.fdivP, DL.powP, DL.intP, DL.geP, DL.leP, DL.gtP, DL.ltP, DL.ltB, DL.eqP, DL.neP, DL.eqB, DL.eqS, DL.tstE, DL.truB, DL.boolE, DL.andT, DL.orT, DL.notT, DL.andE, DL.orE, DL.notE, DL.ifE, DL.chainE, DL.tupE, DL.lstE, DL.lstC, DL.isNP, DL.notNP, DL.isNon, DL.lenP, DL.runD, DL.Res.out, DL.startD, DL.itE, DL.itR, DL.seqF, DL.rng1, DL.rng2, DL.forS, DL.tgN, DL.tgT, DL.tgCons, DL.tgNil, DL.slE, DL.slL, DL.noO, DL.someO, L2.atI, L2.ixN, rowO]), set_ok (d := rowD q) (c' := c) (by simp [DL.seqS, DL.Res.seq, DL.setIxS, DL.setS, DL.exprS, DL.retS, DL.retN, DL.ifS, DL.nilS, DL.brkS, DL.cntS, DL.callB, DL.callM, DL.intF, DL.boolF, DL.consA, DL.nilA, DL.starA, DL.bin, DL.un1, DL.negP, DL.bnd, DL.Out.bnd, DL.Out.thenS, DL.opt, DL.varE, DL.litE, DL.ixP, DL.seqOf, DL.rlistOf, DL.listOf, DL.setItem, DL.ret, DL.addP, DL.subP, DL.mulP, DL.modP, DL.fdivP, DL.powP, DL.intP, DL.geP, DL.leP, DL.gtP, DL.ltP, DL.ltB, DL.eqP, DL.neP, DL.eqB, DL.eqS, DL.tstE, DL.truB, DL.boolE, DL.andT, DL.orT, DL.notT, DL.andE, DL.orE, DL.notE, DL.ifE, DL.chainE, DL.tupE, DL.lstE, DL.lstC, DL.isNP, DL.notNP, DL.isNon, DL.lenP, DL.runD, DL.Res.out, DL.startD, DL.itE, DL.itR, DL.seqF, DL.rng1, DL.rng2, DL.forS, DL.tgN, DL.tgT, DL.tgCons, DL.tgNil, DL.slE, DL.slL, DL.noO, DL.someO, L2.atI, L2.ixN])]
        rfl
      | some p =>
        have ht : (orT (boolE (bin isNP (varE 2) (litE .non))) (orT (boolE (bin ltP (bin ixP (varE 2) (litE (.int 0))) (bin ixP (varE 3) (litE (.int 0))))) (andT (boolE (bin eqP (bin ixP (varE 2) (litE (.int 0))) (bin ixP (varE 3) (litE (.int 0))))) (boolE (bin ltP (bin ixP (varE 2) (litE (.int 1))) (bin ixP (varE 3) (litE (.int 1)))))))) [.sh (.lst (rs.map stD)), .sh (.lst (rs.map rowD)), .sh (rowO (some p)), .sh (rowD q), .un] c = .ok (ltR p q) c := by
          by_cases h1 : p.1 < q.1
          · simp [DL.seqS, DL.Res.seq, DL.setIxS, DL.setS, DL.exprS, DL.retS, DL.retN, DL.ifS, DL.nilS, DL.brkS, DL.cntS, DL.callB, DL.callM, DL.intF, DL.boolF, DL.consA, DL.nilA, DL.starA, DL.bin, DL.un1, DL.negP, DL.bnd, DL.Out.bnd, DL.Out.thenS, DL.opt, DL.varE, DL.litE, DL.ixP, DL.seqOf, DL.rlistOf, DL.listOf, DL.setItem, DL.ret, DL.addP, DL.subP, DL.mulP, DL.modP, DL.fdivP, DL.powP, DL.intP, DL.geP, DL.leP, DL.gtP, DL.ltP, DL.ltB, DL.eqP, DL.neP, DL.eqB, DL.eqS, DL.tstE, DL.truB, DL.boolE, DL.andT, DL.orT, DL.notT, DL.andE, DL.orE, DL.notE, DL.ifE, DL.chainE, DL.tupE, DL.lstE, DL.lstC, DL.isNP, DL.notNP, DL.isNon, DL.lenP, DL.runD, DL.Res.out, DL.startD, DL.itE, DL.itR, DL.seqF, DL.rng1, DL.rng2, DL.forS, DL.tgN, DL.tgT, DL.tgCons, DL.tgNil, DL.slE, DL.slL, DL.noO, DL.someO, L2.atI, L2.ixN, rowO, rowD, ltR, h1]
          · by_cases h2 : p.1 = q.1 <;> simp [DL.seqS, DL.Res.seq, DL.setIxS, DL.setS, DL.exprS, DL.retS, DL.retN, DL.ifS, DL.nilS, DL.brkS, DL.cntS, DL.callB, DL.callM, DL.intF, DL.boolF, DL.consA, DL.nilA, DL.starA, DL.bin, DL.un1, DL.negP, DL.bnd, DL.Out.bnd, DL.Out.thenS, DL.opt, DL.varE, DL.litE, DL.ixP, DL.seqOf, DL.rlistOf, DL.listOf, DL.setItem, DL.ret, DL.addP, DL.subP, DL.mulP, DL.modP, DL.fdivP, DL.powP, DL.intP, DL.geP, DL.leP, DL.gtP, DL.ltP, DL.ltB, DL.eqP, DL.neP, DL.eqB, DL.eqS, DL.tstE, DL.truB, DL.boolE, DL.andT, DL.orT, DL.notT, DL.andE, DL.orE, DL.notE, DL.ifE, DL.chainE, DL.tupE, DL.lstE, DL.lstC, DL.isNP, DL.notNP, DL.isNon, DL.lenP, DL.runD, DL.Res.out, DL.startD, DL.itE, DL.itR, DL.seqF, DL.rng1, DL.rng2, DL.forS, DL.tgN, DL.tgT, DL.tgCons, DL.tgNil, DL.slE, DL.slL, DL.noO, DL.someO, L2.atI, L2.ixN, rowO, rowD, ltR, h1, h2]
        cases hb : ltR p q
        · rw [hb] at ht
          simp only [List.set]
          rw [if_f ht]
          simp [later, hb, nilS]
        · rw [hb] at ht
          simp only [List.set]
          rw [if_t ht, set_ok (d := rowD q) (c' := c) (by simp [DL.seqS, DL.Res.seq, DL.setIxS, DL.setS, DL.exprS, DL.retS, DL.retN, DL.ifS, DL.nilS, DL.brkS, DL.cntS, DL.callB, DL.callM, DL.intF, DL.boolF, DL.consA, DL.nilA, DL.starA, DL.bin, DL.un1, DL.negP, DL.bnd, DL.Out.bnd, DL.Out.thenS, DL.opt, DL.varE, DL.litE, DL.ixP, DL.seqOf, DL.rlistOf, DL.listOf, DL.setItem, DL.ret, DL.addP, DL.subP, DL.mulP, DL.modP, DL.fdivP, DL.powP, DL.intP, DL.geP, DL.leP, DL.gtP, DL.ltP, DL.ltB, DL.eqP, DL.neP, DL.eqB, DL.eqS, DL.tstE, DL.truB, DL.boolE, DL.andT, DL.orT, DL.notT, DL.andE, DL.orE, DL.notE, DL.ifE, DL.chainE, DL.tupE, DL.lstE, DL.lstC, DL.isNP, DL.notNP, DL.isNon, DL.lenP, DL.runD, DL.Res.out, DL.startD, DL.itE, DL.itR, DL.seqF, DL.rng1, DL.rng2, DL.forS, DL.tgN, DL.tgT, DL.tgCons, DL.tgNil, DL.slE, DL.slL, DL.noO, DL.someO, L2.atI, L2.ixN])]
          simp [later, hb, rowO]
  have e2 := latest5 hl (c := c)
  refine run_rt rfl ?_
  unfold b__law_tells_latest
  simp only [DL.startD, List.length_cons, List.length_nil, List.map_cons, List.map_nil, List.replicate, List.cons_append, List.nil_append, Nat.reduceAdd, Nat.reduceSub]
  rw [seq_nx (set_ok (d := rowO none) (c' := c) rfl)]
  simp only [List.set]
  rw [seq_nx (for_nx (xs := rs.map rowD) (c' := c) (by simp [DL.seqS, DL.Res.seq, DL.setIxS, DL.setS, DL.exprS, DL.retS, DL.retN, DL.ifS, DL.nilS, DL.brkS, DL.cntS, DL.callB, DL.callM, DL.intF, DL.boolF, DL.consA, DL.nilA, DL.starA, DL.bin, DL.un1, DL.negP, DL.bnd, DL.Out.bnd, DL.Out.thenS, DL.opt, DL.varE, DL.litE, DL.ixP, DL.seqOf, DL.rlistOf, DL.listOf, DL.setItem, DL.ret, DL.addP, DL.subP, DL.mulP, DL.modP, DL.fdivP, DL.powP, DL.intP, DL.geP, DL.leP, DL.gtP, DL.ltP, DL.ltB, DL.eqP, DL.neP, DL.eqB, DL.eqS, DL.tstE, DL.truB, DL.boolE, DL.andT, DL.orT, DL.notT, DL.andE, DL.orE, DL.notE, DL.ifE, DL.chainE, DL.tupE, DL.lstE, DL.lstC, DL.isNP, DL.notNP, DL.isNon, DL.lenP, DL.runD, DL.Res.out, DL.startD, DL.itE, DL.itR, DL.seqF, DL.rng1, DL.rng2, DL.forS, DL.tgN, DL.tgT, DL.tgCons, DL.tgNil, DL.slE, DL.slL, DL.noO, DL.someO, L2.atI, L2.ixN]) e1)]
  rw [seq_nx (set_ok (d := stO (latestR rs)) (c' := c) (by simp [DL.seqS, DL.Res.seq, DL.setIxS, DL.setS, DL.exprS, DL.retS, DL.retN, DL.ifS, DL.nilS, DL.brkS, DL.cntS, DL.callB, DL.callM, DL.intF, DL.boolF, DL.consA, DL.nilA, DL.starA, DL.bin, DL.un1, DL.negP, DL.bnd, DL.Out.bnd, DL.Out.thenS, DL.opt, DL.varE, DL.litE, DL.ixP, DL.seqOf, DL.rlistOf, DL.listOf, DL.setItem, DL.ret, DL.addP, DL.subP, DL.mulP, DL.modP, DL.fdivP, DL.powP, DL.intP, DL.geP, DL.leP, DL.gtP, DL.ltP, DL.ltB, DL.eqP, DL.neP, DL.eqB, DL.eqS, DL.tstE, DL.truB, DL.boolE, DL.andT, DL.orT, DL.notT, DL.andE, DL.orE, DL.notE, DL.ifE, DL.chainE, DL.tupE, DL.lstE, DL.lstC, DL.isNP, DL.notNP, DL.isNon, DL.lenP, DL.runD, DL.Res.out, DL.startD, DL.itE, DL.itR, DL.seqF, DL.rng1, DL.rng2, DL.forS, DL.tgN, DL.tgT, DL.tgCons, DL.tgNil, DL.slE, DL.slL, DL.noO, DL.someO, L2.atI, L2.ixN, e2]))]
  simp only [List.set]
  show seqS _ _ [Slot.sh (.lst (rs.map stD)), .sh (.lst (rs.map rowD)), .sh (rowO (latestR rs)), z3, .sh (stO (latestR rs))] c = _
  cases latestR rs with
  | none => rw [seq_if_rt (d := .bl true) (c' := c) (c'' := c) (by simp [DL.seqS, DL.Res.seq, DL.setIxS, DL.setS, DL.exprS, DL.retS, DL.retN, DL.ifS, DL.nilS, DL.brkS, DL.cntS, DL.callB, DL.callM, DL.intF, DL.boolF, DL.consA, DL.nilA, DL.starA, DL.bin, DL.un1, DL.negP, DL.bnd, DL.Out.bnd, DL.Out.thenS, DL.opt, DL.varE, DL.litE, DL.ixP, DL.seqOf, DL.rlistOf, DL.listOf, DL.setItem, DL.ret, DL.addP, DL.subP, DL.mulP, DL.modP, DL.fdivP, DL.powP, DL.intP, DL.geP, DL.leP, DL.gtP, DL.ltP, DL.ltB, DL.eqP, DL.neP, DL.eqB, DL.eqS, DL.tstE, DL.truB, DL.boolE, DL.andT, DL.orT, DL.notT, DL.andE, DL.orE, DL.notE, DL.ifE, DL.chainE, DL.tupE, DL.lstE, DL.lstC, DL.isNP, DL.notNP, DL.isNon, DL.lenP, DL.runD, DL.Res.out, DL.startD, DL.itE, DL.itR, DL.seqF, DL.rng1, DL.rng2, DL.forS, DL.tgN, DL.tgT, DL.tgCons, DL.tgNil, DL.slE, DL.slL, DL.noO, DL.someO, L2.atI, L2.ixN, rowO]) (ret_ok (by simp [DL.seqS, DL.Res.seq, DL.setIxS, DL.setS, DL.exprS, DL.retS, DL.retN, DL.ifS, DL.nilS, DL.brkS, DL.cntS, DL.callB, DL.callM, DL.intF, DL.boolF, DL.consA, DL.nilA, DL.starA, DL.bin, DL.un1, DL.negP, DL.bnd, DL.Out.bnd, DL.Out.thenS, DL.opt, DL.varE, DL.litE, DL.ixP, DL.seqOf, DL.rlistOf, DL.listOf, DL.setItem, DL.ret, DL.addP, DL.subP, DL.mulP, DL.modP, DL.fdivP, DL.powP, DL.intP, DL.geP, DL.leP, DL.gtP, DL.ltP, DL.ltB, DL.eqP, DL.neP, DL.eqB, DL.eqS, DL.tstE, DL.truB, DL.boolE, DL.andT, DL.orT, DL.notT, DL.andE, DL.orE, DL.notE, DL.ifE, DL.chainE, DL.tupE, DL.lstE, DL.lstC, DL.isNP, DL.notNP, DL.isNon, DL.lenP, DL.runD, DL.Res.out, DL.startD, DL.itE, DL.itR, DL.seqF, DL.rng1, DL.rng2, DL.forS, DL.tgN, DL.tgT, DL.tgCons, DL.tgNil, DL.slE, DL.slL, DL.noO, DL.someO, L2.atI, L2.ixN, stO]))]
  | some q =>
    have i1 := is_stamp (r := q) (c := c)
    rw [seq_if_f (c' := c) (by simp [DL.seqS, DL.Res.seq, DL.setIxS, DL.setS, DL.exprS, DL.retS, DL.retN, DL.ifS, DL.nilS, DL.brkS, DL.cntS, DL.callB, DL.callM, DL.intF, DL.boolF, DL.consA, DL.nilA, DL.starA, DL.bin, DL.un1, DL.negP, DL.bnd, DL.Out.bnd, DL.Out.thenS, DL.opt, DL.varE, DL.litE, DL.ixP, DL.seqOf, DL.rlistOf, DL.listOf, DL.setItem, DL.ret, DL.addP, DL.subP, DL.mulP, DL.modP, DL.fdivP, DL.powP, DL.intP, DL.geP, DL.leP, DL.gtP, DL.ltP, DL.ltB, DL.eqP, DL.neP, DL.eqB, DL.eqS, DL.tstE, DL.truB, DL.boolE, DL.andT, DL.orT, DL.notT, DL.andE, DL.orE, DL.notE, DL.ifE, DL.chainE, DL.tupE, DL.lstE, DL.lstC, DL.isNP, DL.notNP, DL.isNon, DL.lenP, DL.runD, DL.Res.out, DL.startD, DL.itE, DL.itR, DL.seqF, DL.rng1, DL.rng2, DL.forS, DL.tgN, DL.tgT, DL.tgCons, DL.tgNil, DL.slE, DL.slL, DL.noO, DL.someO, L2.atI, L2.ixN, rowO, rowD]), ret_ok (d := .bl true) (c' := c) (by simp [DL.seqS, DL.Res.seq, DL.setIxS, DL.setS, DL.exprS, DL.retS, DL.retN, DL.ifS, DL.nilS, DL.brkS, DL.cntS, DL.callB, DL.callM, DL.intF, DL.boolF, DL.consA, DL.nilA, DL.starA, DL.bin, DL.un1, DL.negP, DL.bnd, DL.Out.bnd, DL.Out.thenS, DL.opt, DL.varE, DL.litE, DL.ixP, DL.seqOf, DL.rlistOf, DL.listOf, DL.setItem, DL.ret, DL.addP, DL.subP, DL.mulP, DL.modP, DL.fdivP, DL.powP, DL.intP, DL.geP, DL.leP, DL.gtP, DL.ltP, DL.ltB, DL.eqP, DL.neP, DL.eqB, DL.eqS, DL.tstE, DL.truB, DL.boolE, DL.andT, DL.orT, DL.notT, DL.andE, DL.orE, DL.notE, DL.ifE, DL.chainE, DL.tupE, DL.lstE, DL.lstC, DL.isNP, DL.notNP, DL.isNon, DL.lenP, DL.runD, DL.Res.out, DL.startD, DL.itE, DL.itR, DL.seqF, DL.rng1, DL.rng2, DL.forS, DL.tgN, DL.tgT, DL.tgCons, DL.tgNil, DL.slE, DL.slL, DL.noO, DL.someO, L2.atI, L2.ixN, rowO, stO, i1])]
abbrev e12 : EM := bin addP (bin powP (litE (.int 10)) (litE (.int 12))) (litE (.int 1))
theorem e12_ok {δ : Ev'} {c : Cells} : e12 δ c = .ok (.int 1000000000001) c := by simp [DL.seqS, DL.Res.seq, DL.setIxS, DL.setS, DL.exprS, DL.retS, DL.retN, DL.ifS, DL.nilS, DL.brkS, DL.cntS, DL.callB, DL.callM, DL.intF, DL.boolF, DL.consA, DL.nilA, DL.starA, DL.bin, DL.un1, DL.negP, DL.bnd, DL.Out.bnd, DL.Out.thenS, DL.opt, DL.varE, DL.litE, DL.ixP, DL.seqOf, DL.rlistOf, DL.listOf, DL.setItem, DL.ret, DL.addP, DL.subP, DL.mulP, DL.modP, DL.fdivP, DL.powP, DL.intP, DL.geP, DL.leP, DL.gtP, DL.ltP, DL.ltB, DL.eqP, DL.neP, DL.eqB, DL.eqS, DL.tstE, DL.truB, DL.boolE, DL.andT, DL.orT, DL.notT, DL.andE, DL.orE, DL.notE, DL.ifE, DL.chainE, DL.tupE, DL.lstE, DL.lstC, DL.isNP, DL.notNP, DL.isNon, DL.lenP, DL.runD, DL.Res.out, DL.startD, DL.itE, DL.itR, DL.seqF, DL.rng1, DL.rng2, DL.forS, DL.tgN, DL.tgT, DL.tgCons, DL.tgNil, DL.slE, DL.slL, DL.noO, DL.someO, L2.atI, L2.ixN]
theorem small12 : (1000000000001 : Int).natAbs.log2 < 9000 := by decide +kernel
def RowsAre (b : SM) (δ : Ev') (s : Dr) : Prop := ∃ rs s', b δ [s.cell] = .rt (.lst (List.map rowD rs)) [s'.cell] ∧ Dr.Ok s' ∧ rs.length = 5 ∧ ∀ r ∈ rs, RowOk r
theorem rowsAre_seq {a b : SM} {δ δ' : Ev'} {s s' : Dr} (h : a δ [s.cell] = .nx δ' [s'.cell]) (t : RowsAre b δ' s') : RowsAre (seqS a b) δ s := by
  obtain ⟨rs, s'', e, q⟩ := t
  exact ⟨rs, s'', (seq_nx h).trans e, q⟩
theorem rowsAre_if {t : TM} {a b : SM} {δ : Ev'} {s s' : Dr} (h : t δ [s.cell] = .ok false [s'.cell]) (hb : RowsAre b δ s') : RowsAre (seqS (ifS t a nilS) b) δ s := by
  obtain ⟨rs, s'', e, q⟩ := hb
  exact ⟨rs, s'', (seq_if_f h).trans e, q⟩
theorem pair_draw {δ : Ev'} {s : Dr} (o : s.Ok) (h : δ[0]? = some (.sh (.cell 0))) : ∃ r s', Dr.Ok s' ∧ RowOk r ∧ (tupE (consA (callM m__law_draw (consA (varE 0) (consA e12 (nilA)))) (consA (callM m__law_draw (consA (varE 0) (consA (litE (.int 100)) (nilA)))) (nilA)))) δ [s.cell] = .ok (rowD r) [s'.cell] := by
  obtain ⟨v1, d1, o1, p1, q1, e1⟩ := draw_ex o (n := 1000000000001) small12 (by decide)
  obtain ⟨v2, d2, o2, p2, q2, e2⟩ := draw_ex o1 (n := 100) (by decide) (by decide)
  have z2 : 2 ≤ sizeLine := by decide
  refine ⟨(v1, v2), d2, o2, ⟨p1, by dsimp only; omega, p2, by dsimp only; omega⟩, ?_⟩
  have a1 := draw_i (i := 0) h (me := e12) e12_ok (e1 [])
  have a2 := draw_i (i := 0) h (me := litE (.int 100)) (c := [d1.cell]) rfl (e2 [])
  simp [DL.tupE, DL.bnd, DL.Out.bnd, DL.consA, DL.nilA, DL.ret, rowD, z2] at a1 a2 ⊢
  simp [a1, a2, z2]
theorem rows_eq {s : Dr} (o : s.Ok) : ∃ rs s', m__law_rows_of_stamps [.cell 0] [s.cell] = .ok (.lst (List.map rowD rs)) [s'.cell] ∧ Dr.Ok s' ∧ rs.length = 5 ∧ ∀ r ∈ rs, RowOk r := by
  suffices h : RowsAre b__law_rows_of_stamps (startD 6 [.cell 0]) s by
    obtain ⟨rs, s', e, q⟩ := h
    exact ⟨rs, s', run_rt rfl e, q⟩
  obtain ⟨v1, d1, o1, p1, q1, e1⟩ := draw_ex o (n := 3) (by decide) (by decide)
  have t1 : (boolE (bin eqP (callM m__law_draw (consA (varE 0) (consA (litE (.int 3)) (nilA)))) (litE (.int 2)))) (startD 6 [.cell 0]) [s.cell] = .ok (decide (v1 = 2)) [d1.cell] := bool_ok (bin_ok (draw_i (i := 0) rfl rfl (e1 [])) rfl rfl)
  unfold b__law_rows_of_stamps
  by_cases hv : v1 = 2
  · rw [decide_eq_true hv] at t1
    obtain ⟨ys, d2, e2, o2, l2, a2⟩ := lcL_st (fun s : Dr => [s.cell]) (Pn := Dr.Ok) (Q := fun y => ∃ r, RowOk r ∧ y = rowD r) (tg := tgN 5) (tt := yesT) (te := tupE (consA (callM m__law_draw (consA (varE 0) (consA e12 (nilA)))) (consA (callM m__law_draw (consA (varE 0) (consA (litE (.int 100)) (nilA)))) (nilA)))) (δ := wipeD (startD 6 [.cell 0]) [5]) (fun x s os => by
      obtain ⟨r, s', os', hr, e⟩ := pair_draw (δ := (wipeD (startD 6 [.cell 0]) [5]).set 5 (.sh x)) os rfl
      exact ⟨_, _, s', rfl, rfl, e, os', r, hr, rfl⟩) (rangeD 0 5) d1 o1
    obtain ⟨rs, rfl, lr, ar⟩ := map_of a2
    refine ⟨rs, d2, seq_if_rt t1 (ret_ok ?_), o2, by rw [lr, l2]; rfl, ar⟩
    have e2' := e2
    simp only [e12] at e2'
    simp [DL.lcE, DL.itR, DL.rng1, DL.consA, DL.nilA, DL.bnd, DL.Out.bnd, DL.ret, DL.litE, DL.opt, DL.Out.quiet]
    rw [e2']
  · rw [decide_eq_false hv] at t1
    refine rowsAre_if t1 ?_
    obtain ⟨v2, d2, o2, p2, q2, e2⟩ := draw_ex o1 (n := 1000000000001) small12 (by decide)
    simp only [DL.startD, List.length_cons, List.length_nil, List.map_cons, List.map_nil, List.replicate, List.cons_append, List.nil_append, Nat.reduceAdd, Nat.reduceSub]
    refine rowsAre_seq (s' := d2) (set_ok (draw_i (i := 0) (me := e12) rfl e12_ok (e2 []))) ?_
    simp only [List.set]
    obtain ⟨cnt, d3, o3, p3, q3, e3⟩ : ∃ cnt d3, Dr.Ok d3 ∧ 0 ≤ cnt ∧ cnt ≤ 1000000000000 ∧ (ifS (boolE (bin eqP (callM m__law_draw (consA (varE 0) (consA (litE (.int 3)) (nilA)))) (litE (.int 1)))) (setS 1 (bin subP (bin powP (litE (.int 10)) (litE (.int 12))) (callM m__law_draw (consA (varE 0) (consA (litE (.int 3)) (nilA)))))) (nilS)) [.sh (.cell 0), .sh (.int v2), .un, .un, .un, .un] [d2.cell] = .nx [.sh (.cell 0), .sh (.int cnt), .un, .un, .un, .un] [d3.cell] := by
      obtain ⟨v3, d3, o3, p3, q3, e3⟩ := draw_ex o2 (n := 3) (by decide) (by decide)
      have t3 : (boolE (bin eqP (callM m__law_draw (consA (varE 0) (consA (litE (.int 3)) (nilA)))) (litE (.int 1)))) [.sh (.cell 0), .sh (.int v2), .un, .un, .un, .un] [d2.cell] = .ok (decide (v3 = 1)) [d3.cell] := bool_ok (bin_ok (draw_i (i := 0) rfl rfl (e3 [])) rfl rfl)
      by_cases h3 : v3 = 1
      · rw [decide_eq_true h3] at t3
        obtain ⟨v4, d4, o4, p4, q4, e4⟩ := draw_ex o3 (n := 3) (by decide) (by decide)
        refine ⟨1000000000000 - v4, d4, o4, by omega, by omega, (if_t t3).trans ((set_ok (bin_ok (x := .int 1000000000000) (y := .int v4) (by simp [DL.seqS, DL.Res.seq, DL.setIxS, DL.setS, DL.exprS, DL.retS, DL.retN, DL.ifS, DL.nilS, DL.brkS, DL.cntS, DL.callB, DL.callM, DL.intF, DL.boolF, DL.consA, DL.nilA, DL.starA, DL.bin, DL.un1, DL.negP, DL.bnd, DL.Out.bnd, DL.Out.thenS, DL.opt, DL.varE, DL.litE, DL.ixP, DL.seqOf, DL.rlistOf, DL.listOf, DL.setItem, DL.ret, DL.addP, DL.subP, DL.mulP, DL.modP, DL.fdivP, DL.powP, DL.intP, DL.geP, DL.leP, DL.gtP, DL.ltP, DL.ltB, DL.eqP, DL.neP, DL.eqB, DL.eqS, DL.tstE, DL.truB, DL.boolE, DL.andT, DL.orT, DL.notT, DL.andE, DL.orE, DL.notE, DL.ifE, DL.chainE, DL.tupE, DL.lstE, DL.lstC, DL.isNP, DL.notNP, DL.isNon, DL.lenP, DL.runD, DL.Res.out, DL.startD, DL.itE, DL.itR, DL.seqF, DL.rng1, DL.rng2, DL.forS, DL.tgN, DL.tgT, DL.tgCons, DL.tgNil, DL.slE, DL.slL, DL.noO, DL.someO, L2.atI, L2.ixN]) (draw_i (i := 0) rfl rfl (e4 [])) rfl)).trans rfl)⟩
      · rw [decide_eq_false h3] at t3
        exact ⟨v2, d3, o3, p2, by omega, (if_f t3).trans rfl⟩
    refine rowsAre_seq (s' := d3) e3 ?_
    obtain ⟨pl, d4, o4, p4, q4, e4⟩ := draw_ex o3 (n := 100) (by decide) (by decide)
    refine rowsAre_seq (s' := d4) (set_ok (draw_i (i := 0) (me := litE (.int 100)) rfl rfl (e4 []))) ?_
    simp only [List.set]
    obtain ⟨v5, d5, o5, p5, q5, e5⟩ := draw_ex o4 (n := 99) (by decide) (by decide)
    have z2 : 2 ≤ sizeLine := by decide
    have z5 : 5 ≤ sizeLine := by decide
    have k0 : RowOk (cnt, pl) := ⟨p3, q3, p4, by dsimp only; omega⟩
    have k1 : RowOk (cnt, (pl + 1 + v5) % 100) := ⟨p3, q3, Int.emod_nonneg _ (by decide), by have := Int.emod_lt_of_pos (pl + 1 + v5) (b := 100) (by decide); dsimp only; omega⟩
    have a5 : ∀ δ : Ev', δ[0]? = some (.sh (.cell 0)) → callM m__law_draw (consA (varE 0) (consA (litE (.int 99)) (nilA))) δ [d4.cell] = .ok (.int v5) [d5.cell] := fun δ hd => draw_i (i := 0) hd rfl (e5 [])
    refine rowsAre_seq (s' := d5) (δ' := [.sh (.cell 0), .sh (.int cnt), .sh (.int pl), .own (.lst [rowD (cnt, pl), rowD (cnt, (pl + 1 + v5) % 100)]), .un, .un]) ?_ ?_
    · have a := a5 [.sh (.cell 0), .sh (.int cnt), .sh (.int pl), .un, .un, .un] rfl
      simp [DL.ownS, DL.szA, DL.tupE, DL.consA, DL.nilA, DL.bnd, DL.Out.bnd, DL.ret, DL.varE, DL.bin, DL.callB, DL.litE, DL.opt, DL.addP, DL.intF, DL.modP, DL.intP, DL.Out.thenS, z2, rowD] at a ⊢
      simp [a, z2]
    obtain ⟨v6, d6, o6, p6, q6, e6⟩ := draw_ex o5 (n := 3) (by decide) (by decide)
    obtain ⟨v7, d7, o7, p7, q7, e7⟩ := draw_ex o6 (n := 100) (by decide) (by decide)
    have k2 : RowOk ((cnt + 1 + v6) % 1000000000001, v7) := ⟨Int.emod_nonneg _ (by decide), by have := Int.emod_lt_of_pos (cnt + 1 + v6) (b := 1000000000001) (by decide); dsimp only; omega, p7, by dsimp only; omega⟩
    have a6 : ∀ δ : Ev', δ[0]? = some (.sh (.cell 0)) → callM m__law_draw (consA (varE 0) (consA (litE (.int 3)) (nilA))) δ [d5.cell] = .ok (.int v6) [d6.cell] := fun δ hd => draw_i (i := 0) hd rfl (e6 [])
    have a7 : ∀ δ : Ev', δ[0]? = some (.sh (.cell 0)) → callM m__law_draw (consA (varE 0) (consA (litE (.int 100)) (nilA))) δ [d6.cell] = .ok (.int v7) [d7.cell] := fun δ hd => draw_i (i := 0) hd rfl (e7 [])
    refine rowsAre_seq (s' := d7) (δ' := [.sh (.cell 0), .sh (.int cnt), .sh (.int pl), .own (.lst [rowD (cnt, pl), rowD (cnt, (pl + 1 + v5) % 100), rowD ((cnt + 1 + v6) % 1000000000001, v7)]), .un, .un]) ?_ ?_
    · have a := a6 [.sh (.cell 0), .sh (.int cnt), .sh (.int pl), .own (.lst [rowD (cnt, pl), rowD (cnt, (pl + 1 + v5) % 100)]), .un, .un] rfl
      have b := a7 [.sh (.cell 0), .sh (.int cnt), .sh (.int pl), .own (.lst [rowD (cnt, pl), rowD (cnt, (pl + 1 + v5) % 100)]), .un, .un] rfl
      simp [DL.appO, DL.ownL, DL.tupE, DL.consA, DL.nilA, DL.bnd, DL.Out.bnd, DL.ret, DL.varE, DL.bin, DL.callB, DL.litE, DL.opt, DL.addP, DL.intF, DL.modP, DL.powP, DL.intP, DL.Out.thenS, z2, z5, rowD] at a b ⊢
      have z3 : 2 < sizeLine := by decide
      simp [a, b, z2, z3]
    obtain ⟨md, d8, o8, p8, q8, e8⟩ := draw_ex o7 (n := 4) (by decide) (by decide)
    refine rowsAre_seq (s' := d8) (set_ok (draw_i (i := 0) (me := litE (.int 4)) rfl rfl (e8 []))) ?_
    simp only [List.set]
    obtain ⟨r3, d9, o9, k3, e9⟩ : ∃ r3 d9, Dr.Ok d9 ∧ RowOk r3 ∧ (ifS (boolE (bin ltP (varE 4) (litE (.int 3)))) (appO 3 (ixO 3 (varE 4))) (appO 3 (tupE (consA (callM m__law_draw (consA (varE 0) (consA (bin addP (bin powP (litE (.int 10)) (litE (.int 12))) (litE (.int 1))) (nilA)))) (consA (callM m__law_draw (consA (varE 0) (consA (litE (.int 100)) (nilA)))) (nilA)))))) [.sh (.cell 0), .sh (.int cnt), .sh (.int pl), .own (.lst [rowD (cnt, pl), rowD (cnt, (pl + 1 + v5) % 100), rowD ((cnt + 1 + v6) % 1000000000001, v7)]), .sh (.int md), .un] [d8.cell]
        = .nx [.sh (.cell 0), .sh (.int cnt), .sh (.int pl), .own (.lst [rowD (cnt, pl), rowD (cnt, (pl + 1 + v5) % 100), rowD ((cnt + 1 + v6) % 1000000000001, v7), rowD r3]), .sh (.int md), .un] [d9.cell] := by
      have z3 : 3 < sizeLine := by decide
      by_cases hm : md < 3
      · have hk : ∃ r3, RowOk r3 ∧ L2.atI [rowD (cnt, pl), rowD (cnt, (pl + 1 + v5) % 100), rowD ((cnt + 1 + v6) % 1000000000001, v7)] md = some (rowD r3) := by
          obtain rfl | rfl | rfl : md = 0 ∨ md = 1 ∨ md = 2 := by omega
          · exact ⟨_, k0, rfl⟩
          · exact ⟨_, k1, rfl⟩
          · exact ⟨_, k2, rfl⟩
        obtain ⟨r3, k3, hk⟩ := hk
        refine ⟨r3, d8, o8, k3, (if_t (c' := [d8.cell]) (by simp [DL.seqS, DL.Res.seq, DL.setIxS, DL.setS, DL.exprS, DL.retS, DL.retN, DL.ifS, DL.nilS, DL.brkS, DL.cntS, DL.callB, DL.callM, DL.intF, DL.boolF, DL.consA, DL.nilA, DL.starA, DL.bin, DL.un1, DL.negP, DL.bnd, DL.Out.bnd, DL.Out.thenS, DL.opt, DL.varE, DL.litE, DL.ixP, DL.seqOf, DL.rlistOf, DL.listOf, DL.setItem, DL.ret, DL.addP, DL.subP, DL.mulP, DL.modP, DL.fdivP, DL.powP, DL.intP, DL.geP, DL.leP, DL.gtP, DL.ltP, DL.ltB, DL.eqP, DL.neP, DL.eqB, DL.eqS, DL.tstE, DL.truB, DL.boolE, DL.andT, DL.orT, DL.notT, DL.andE, DL.orE, DL.notE, DL.ifE, DL.chainE, DL.tupE, DL.lstE, DL.lstC, DL.isNP, DL.notNP, DL.isNon, DL.lenP, DL.runD, DL.Res.out, DL.startD, DL.itE, DL.itR, DL.seqF, DL.rng1, DL.rng2, DL.forS, DL.tgN, DL.tgT, DL.tgCons, DL.tgNil, DL.slE, DL.slL, DL.noO, DL.someO, L2.atI, L2.ixN, hm])).trans ?_⟩
        simp [DL.appO, DL.ixO, DL.ownL, DL.varE, DL.bnd, DL.Out.bnd, DL.opt, DL.Out.thenS, hk, z3]
      · obtain ⟨r3, d9, o9, k3, e⟩ := pair_draw (δ := [.sh (.cell 0), .sh (.int cnt), .sh (.int pl), .own (.lst [rowD (cnt, pl), rowD (cnt, (pl + 1 + v5) % 100), rowD ((cnt + 1 + v6) % 1000000000001, v7)]), .sh (.int md), .un]) o8 rfl
        refine ⟨r3, d9, o9, k3, (if_f (c' := [d8.cell]) (by simp [DL.seqS, DL.Res.seq, DL.setIxS, DL.setS, DL.exprS, DL.retS, DL.retN, DL.ifS, DL.nilS, DL.brkS, DL.cntS, DL.callB, DL.callM, DL.intF, DL.boolF, DL.consA, DL.nilA, DL.starA, DL.bin, DL.un1, DL.negP, DL.bnd, DL.Out.bnd, DL.Out.thenS, DL.opt, DL.varE, DL.litE, DL.ixP, DL.seqOf, DL.rlistOf, DL.listOf, DL.setItem, DL.ret, DL.addP, DL.subP, DL.mulP, DL.modP, DL.fdivP, DL.powP, DL.intP, DL.geP, DL.leP, DL.gtP, DL.ltP, DL.ltB, DL.eqP, DL.neP, DL.eqB, DL.eqS, DL.tstE, DL.truB, DL.boolE, DL.andT, DL.orT, DL.notT, DL.andE, DL.orE, DL.notE, DL.ifE, DL.chainE, DL.tupE, DL.lstE, DL.lstC, DL.isNP, DL.notNP, DL.isNon, DL.lenP, DL.runD, DL.Res.out, DL.startD, DL.itE, DL.itR, DL.seqF, DL.rng1, DL.rng2, DL.forS, DL.tgN, DL.tgT, DL.tgCons, DL.tgNil, DL.slE, DL.slL, DL.noO, DL.someO, L2.atI, L2.ixN, hm])).trans ?_⟩
        simp only [DL.appO, DL.ownL, List.getElem?_cons_succ, List.getElem?_cons_zero]
        rw [e]
        simp [DL.Out.thenS, z3]
    refine rowsAre_seq (s' := d9) e9 ?_
    obtain ⟨r4, d10, o10, k4, e⟩ := pair_draw (δ := [.sh (.cell 0), .sh (.int cnt), .sh (.int pl), .own (.lst [rowD (cnt, pl), rowD (cnt, (pl + 1 + v5) % 100), rowD ((cnt + 1 + v6) % 1000000000001, v7), rowD r3]), .sh (.int md), .un]) o9 rfl
    refine rowsAre_seq (s' := d10) (δ' := [.sh (.cell 0), .sh (.int cnt), .sh (.int pl), .own (.lst [rowD (cnt, pl), rowD (cnt, (pl + 1 + v5) % 100), rowD ((cnt + 1 + v6) % 1000000000001, v7), rowD r3, rowD r4]), .sh (.int md), .un]) ?_ ?_
    · have z3 : 4 < sizeLine := by decide
      simp only [DL.appO, DL.ownL, List.getElem?_cons_succ, List.getElem?_cons_zero]
      rw [e]
      simp [DL.Out.thenS, z3]
    refine ⟨[(cnt, pl), (cnt, (pl + 1 + v5) % 100), ((cnt + 1 + v6) % 1000000000001, v7), r3, r4], d10, rfl, o10, rfl, fun r hr => ?_⟩
    simp only [List.mem_cons, List.not_mem_nil, or_false] at hr
    rcases hr with rfl | rfl | rfl | rfl | rfl
    · exact k0
    · exact k1
    · exact k2
    · exact k3
    · exact k4
theorem ticks_at {rs : List Row} (hs : ∀ q ∈ rs, RowOk q) (h0 : rs ≠ []) (hl : rs.length ≤ 5) {c : Cells} : m__law_ticks_well [.lst (rs.map stD), .lst (rs.map rowD)] c = .ok (.bl true) c := by
  cases rs with
  | nil => exact absurd rfl h0
  | cons r rs => exact ticks_well (hs r (by simp)) (fun q hq => hs q (by simp [hq])) (by simpa using hl)
noncomputable abbrev inB : SM := seqS (ifS (notT (tstE (callM m__law_tells_latest (consA (slE (varE 8) (noO) (someO (varE 9))) (consA (slE (varE 7) (noO) (someO (varE 9))) (nilA)))))) (retS (litE (.bl false))) (nilS)) (ifS (andT (boolE (bin gtP (varE 9) (litE (.int 0)))) (notT (tstE (callM m__law_ticks_well (consA (slE (varE 8) (noO) (someO (varE 9))) (consA (slE (varE 7) (noO) (someO (varE 9))) (nilA))))))) (retS (litE (.bl false))) (nilS))
theorem in_eq {ts : List Row} (hs : ∀ q ∈ ts, RowOk q) (h5 : ts.length = 5) {i : Nat} (hi : i < 6) {δ : Ev'} {c : Cells} (g7 : δ[7]? = some (.sh (.lst (ts.map rowD)))) (g8 : δ[8]? = some (.sh (.lst (ts.map stD)))) (g9 : δ[9]? = some (.sh (.int i))) :
    inB δ c = .nx δ c := by
  have hl : (ts.take i).length ≤ 5 := by simp; omega
  have c1 : slE (varE 8) noO (someO (varE 9)) δ c = .ok (.lst ((ts.take i).map stD)) c := by
    simp [DL.slE, DL.varE, DL.noO, DL.someO, DL.bnd, DL.Out.bnd, g8, g9, DL.slL, DL.rlistOf, DL.listOf, DL.opt, cut_to i rfl, List.map_take]
  have c2 : slE (varE 7) noO (someO (varE 9)) δ c = .ok (.lst ((ts.take i).map rowD)) c := by
    simp [DL.slE, DL.varE, DL.noO, DL.someO, DL.bnd, DL.Out.bnd, g7, g9, DL.slL, DL.rlistOf, DL.listOf, DL.opt, cut_to i rfl, List.map_take]
  have a : (consA (slE (varE 8) (noO) (someO (varE 9))) (consA (slE (varE 7) (noO) (someO (varE 9))) (nilA))) δ c = .ok [.lst ((ts.take i).map stD), .lst ((ts.take i).map rowD)] c := by
    simp only [DL.consA, DL.nilA, DL.bnd, DL.Out.bnd, DL.ret, c1, c2]
  have t1 := tells_latest hl (c := c)
  refine (seq_if_f (not_ok (tst_bl (call_ok a t1)))).trans ?_
  by_cases h0 : i = 0
  · subst h0
    refine (if_f (c' := c) ((and_f (c' := c) (bool_ok (bin_ok (x := .int 0) (y := .int 0) (by simp [DL.varE, g9]) rfl rfl))).trans rfl)).trans rfl
  · have hne : ts.take i ≠ [] := by
      intro h
      have := congrArg List.length h
      rw [List.length_take, List.length_nil] at this
      omega
    have t2 := ticks_at (rs := ts.take i) (fun q hq => hs q (List.mem_of_mem_take hq)) hne hl (c := c)
    have g : (boolE (bin gtP (varE 9) (litE (.int 0)))) δ c = .ok true c := bool_ok (bin_ok (x := .int i) (y := .int 0) (by simp [DL.varE, g9]) rfl (by simp [gtP, ltB]; omega))
    exact (if_f ((and_t g).trans (not_ok (tst_bl (call_ok a t2))))).trans rfl
theorem lst2 {ms : Ev' → M (List D)} {δ : Ev'} {c c' : Cells} {x y : D} (h : ms δ c = .ok [x, y] c') : lstE ms δ c = .ok (.lst [x, y]) c' := lst_ok h (by show 2 ≤ sizeLine; decide)
theorem five_of {rs : List Row} (h : rs.length = 5) : ∃ r0 r1 r2 r3 r4, rs = [r0, r1, r2, r3, r4] := by
  match rs, h with
  | [r0, r1, r2, r3, r4], _ => exact ⟨_, _, _, _, _, rfl⟩
theorem law_holds : ∀ ns : List Int, ns.length ≤ 63 → ∃ c, m_law [.rol (ns.map D.int)] [] = .ok (.bl true) c := by
  intro ns hns
  have o0 : Dr.Ok ⟨ns, 0, 0, 0, 0, false⟩ := ⟨hns, Int.le_refl 0, Int.le_refl 0, by show (0 : Int) + 0 ≤ 60; decide⟩
  obtain ⟨rs, s', er, os', l5, ok⟩ := rows_eq o0
  have s0 := start_eq hns (c := [])
  suffices h : ∃ c, b_law (startD 11 [.rol (ns.map D.int)]) [] = .rt (.bl true) c by
    obtain ⟨c, h⟩ := h
    exact ⟨c, run_rt rfl h⟩
  have seq_ex : ∀ {a b : SM} {δ δ' : Ev'} {c c' : Cells} {d : D}, a δ c = .nx δ' c' → (∃ c'', b δ' c' = .rt d c'') → ∃ c'', seqS a b δ c = .rt d c'' := fun h ⟨c'', e⟩ => ⟨c'', (seq_nx h).trans e⟩
  have seq_if : ∀ {t : TM} {a b : SM} {δ : Ev'} {c c' : Cells} {d : D}, t δ c = .ok false c' → (∃ c'', b δ c' = .rt d c'') → ∃ c'', seqS (ifS t a nilS) b δ c = .rt d c'' := fun h ⟨c'', e⟩ => ⟨c'', (seq_if_f h).trans e⟩
  unfold b_law
  simp only [DL.startD, List.length_cons, List.length_nil, List.map_cons, List.map_nil, List.replicate, List.cons_append, List.nil_append, Nat.reduceAdd, Nat.reduceSub]
  refine seq_ex (set_ok (d := .cell 0) (c' := [Dr.cell ⟨ns, 0, 0, 0, 0, false⟩]) (by simp [DL.callM, DL.consA, DL.nilA, DL.bnd, DL.Out.bnd, DL.ret, DL.varE, s0])) ?_
  simp only [List.set]
  refine seq_ex (set_ok (d := .lst (rs.map rowD)) (c' := [s'.cell]) (by simp [DL.callM, DL.consA, DL.nilA, DL.bnd, DL.Out.bnd, DL.ret, DL.varE, er])) ?_
  simp only [List.set]
  refine seq_ex (set_ok (d := .lst (rs.map stD)) (c' := [s'.cell]) ?_) ?_
  · have lc : ∀ δ : Ev', 10 < δ.length → lcL (tgN 10) yesT (makeM 2 m_Stamp___init__ (consA (bin ixP (varE 10) (litE (.int 0))) (consA (bin ixP (varE 10) (litE (.int 1))) (nilA)))) δ (rs.map rowD) [s'.cell] = .ok ((rs.map rowD).map fun d => match d with | .tup xs => .ins 2 xs | d => d) [s'.cell] := by
      intro δ hδ
      refine lcL_map fun x hx => ?_
      obtain ⟨r, hr, rfl⟩ := List.mem_map.mp hx
      refine ⟨_, rfl, rfl, ?_⟩
      have i1 := init_ok (ok r hr) (c := [s'.cell])
      simp [DL.makeM, DL.bin, DL.consA, DL.nilA, DL.bnd, DL.Out.bnd, DL.ret, DL.litE, DL.opt, DL.varE, hδ, rowD, DL.ixP, DL.seqOf, L2.atI, L2.ixN, i1]
    have em : (rs.map rowD).map (fun d => match d with | .tup xs => D.ins 2 xs | d => d) = rs.map stD := by
      rw [List.map_map]
      rfl
    rw [em] at lc
    simp only [DL.lcE, DL.itE, DL.varE, List.getElem?_cons_succ, List.getElem?_cons_zero, DL.bnd, DL.Out.bnd, DL.seqF, DL.opt]
    rw [lc _ (by simp [DL.wipeD])]
    rfl
  simp only [List.set]
  obtain ⟨δ', ef, a4, a7, a8, a9, ed⟩ := forL_still (tg := tgN 4) (b := seqS (setS 7 (bin addP (slE (varE 2) (someO (varE 4)) (noO)) (slE (varE 2) (noO) (someO (varE 4))))) (seqS (setS 8 (bin addP (slE (varE 3) (someO (varE 4)) (noO)) (slE (varE 3) (noO) (someO (varE 4))))) (forS (itR rng1 (consA (litE (.int 6)) nilA)) (tgN 9) inB))) (c := [s'.cell])
    (fun δ => ∃ a4 a7 a8 a9, δ = [Slot.sh (.rol (ns.map D.int)), .sh (.cell 0), .sh (.lst (rs.map rowD)), .sh (.lst (rs.map stD)), a4, .un, .un, a7, a8, a9, .un])
    (xs := rangeD 0 5) (δ := _) ⟨_, _, _, _, rfl⟩ fun x δ hx ⟨a4, a7, a8, a9, hd⟩ => by
      subst hd
      obtain ⟨t, ht, rfl⟩ := mem_rangeD hx
      refine ⟨_, rfl, ?_⟩
      simp only [List.set, Int.zero_add]
      have hts : (rs.drop t ++ rs.take t).length = 5 := by simp; omega
      have z5 : rs.length - t + min t rs.length ≤ sizeLine := Nat.le_trans (by omega) (by decide : (5 : Nat) ≤ sizeLine)
      have w7 : ∀ (enc : Row → D) (i : Nat) (δ : Ev'), δ[i]? = some (.sh (.lst (rs.map enc))) → δ[4]? = some (.sh (.int t)) → bin addP (slE (varE i) (someO (varE 4)) (noO)) (slE (varE i) (noO) (someO (varE 4))) δ [s'.cell] = .ok (.lst ((rs.drop t ++ rs.take t).map enc)) [s'.cell] := by
        intro enc i δ h1 h2
        simp [DL.bin, DL.slE, DL.varE, DL.noO, DL.someO, DL.bnd, DL.Out.bnd, h1, h2, DL.slL, DL.rlistOf, DL.listOf, DL.opt, cut_to t rfl, cut_from t rfl, DL.addP, z5, List.map_take, List.map_drop]
      obtain ⟨δ', ef, a9', ed⟩ := forL_still (tg := tgN 9) (b := inB) (c := [s'.cell])
        (fun δ => ∃ a9, δ = [Slot.sh (.rol (ns.map D.int)), .sh (.cell 0), .sh (.lst (rs.map rowD)), .sh (.lst (rs.map stD)), .sh (.int t), .un, .un, .sh (.lst ((rs.drop t ++ rs.take t).map rowD)), .sh (.lst ((rs.drop t ++ rs.take t).map stD)), a9, .un])
        (xs := rangeD 0 6) (δ := _) ⟨a9, rfl⟩ fun y δ hy ⟨a9, hd⟩ => by
          subst hd
          obtain ⟨i, hi, rfl⟩ := mem_rangeD hy
          have inn := in_eq (ts := rs.drop t ++ rs.take t) (fun q hq => ok q (by
            rcases List.mem_append.mp hq with h | h
            · exact List.mem_of_mem_drop h
            · exact List.mem_of_mem_take h)) hts hi (δ := [Slot.sh (.rol (ns.map D.int)), .sh (.cell 0), .sh (.lst (rs.map rowD)), .sh (.lst (rs.map stD)), .sh (.int t), .un, .un, .sh (.lst ((rs.drop t ++ rs.take t).map rowD)), .sh (.lst ((rs.drop t ++ rs.take t).map stD)), .sh (.int (0 + i)), .un]) (c := [s'.cell]) rfl rfl (by simp)
          exact ⟨_, rfl, _, .inl inn, ⟨_, rfl⟩⟩
      subst ed
      refine ⟨_, .inl ((seq_nx (set_ok (w7 rowD 2 _ rfl rfl))).trans ((seq_nx (set_ok (w7 stD 3 _ rfl rfl))).trans (for_nx (xs := rangeD 0 6) (c' := [s'.cell]) (by simp [DL.itR, DL.rng1, DL.consA, DL.nilA, DL.bnd, DL.Out.bnd, DL.ret, DL.litE, DL.opt]) ef))), ⟨_, _, _, _, rfl⟩⟩
  subst ed
  refine seq_ex (for_nx (xs := rangeD 0 5) (c' := [s'.cell]) (by simp [DL.itR, DL.rng1, DL.consA, DL.nilA, DL.bnd, DL.Out.bnd, DL.ret, DL.litE, DL.opt]) ef) ?_
  clear ef er
  obtain ⟨r0, r1, r2, r3, r4, rfl⟩ := five_of l5
  have k0 := ok r0 (by simp)
  have kt : RowOk (1000000000000, r0.2) := ⟨by dsimp only; omega, by dsimp only; omega, k0.p0, k0.p1⟩
  have it := init_ok kt (c := [s'.cell])
  dsimp only at it
  have z2 : 2 ≤ sizeLine := by decide
  have x0 : ∀ i : Nat, ∀ q : Row, [r0, r1, r2, r3, r4][i]? = some q → ∀ enc : Row → D, ixP (.lst (List.map enc [r0, r1, r2, r3, r4])) (.int i) [s'.cell] = some (enc q) := by
    intro i q h enc
    have hi : i < 5 := by simpa using (List.getElem?_eq_some_iff.mp h).1
    have h' : (List.map enc [r0, r1, r2, r3, r4])[i]? = some (enc q) := by rw [List.getElem?_map, h]; rfl
    simp only [DL.ixP, DL.seqOf, DL.rlistOf, DL.listOf, L2.atI, L2.ixN, List.length_map, List.length_cons, List.length_nil]
    rw [if_pos (by omega), if_pos (by omega)]
    simpa using h'
  have y0 := x0 0 r0 rfl
  have y1 := x0 1 r1 rfl
  have yp : ixP (rowD r0) (.int 1) [s'.cell] = some (.int r0.2) := rfl
  have pw : ∀ δ, bin powP (litE (.int 10)) (litE (.int 12)) δ [s'.cell] = .ok (.int 1000000000000) [s'.cell] := fun δ => by simp [DL.seqS, DL.Res.seq, DL.setIxS, DL.setS, DL.exprS, DL.retS, DL.retN, DL.ifS, DL.nilS, DL.brkS, DL.cntS, DL.callB, DL.callM, DL.intF, DL.boolF, DL.consA, DL.nilA, DL.starA, DL.bin, DL.un1, DL.negP, DL.bnd, DL.Out.bnd, DL.Out.thenS, DL.opt, DL.varE, DL.litE, DL.ixP, DL.seqOf, DL.rlistOf, DL.listOf, DL.setItem, DL.ret, DL.addP, DL.subP, DL.mulP, DL.modP, DL.fdivP, DL.powP, DL.intP, DL.geP, DL.leP, DL.gtP, DL.ltP, DL.ltB, DL.eqP, DL.neP, DL.eqB, DL.eqS, DL.tstE, DL.truB, DL.boolE, DL.andT, DL.orT, DL.notT, DL.andE, DL.orE, DL.notE, DL.ifE, DL.chainE, DL.tupE, DL.lstE, DL.lstC, DL.isNP, DL.notNP, DL.isNon, DL.lenP, DL.runD, DL.Res.out, DL.startD, DL.itE, DL.itR, DL.seqF, DL.rng1, DL.rng2, DL.forS, DL.tgN, DL.tgT, DL.tgCons, DL.tgNil, DL.slE, DL.slL, DL.noO, DL.someO, L2.atI, L2.ixN]
  have gr : ∀ (δ : Ev') (i : Nat) (q : Row), [r0, r1, r2, r3, r4][i]? = some q → δ[2]? = some (.sh (.lst (List.map rowD [r0, r1, r2, r3, r4]))) → bin ixP (varE 2) (litE (.int i)) δ [s'.cell] = .ok (rowD q) [s'.cell] := fun δ i q h hd =>
    bin_ok (x := .lst (List.map rowD [r0, r1, r2, r3, r4])) (y := .int i) (by simp only [DL.varE, hd]) rfl (x0 i q h rowD)
  have gs : ∀ (δ : Ev') (i : Nat) (q : Row), [r0, r1, r2, r3, r4][i]? = some q → δ[3]? = some (.sh (.lst (List.map stD [r0, r1, r2, r3, r4]))) → bin ixP (varE 3) (litE (.int i)) δ [s'.cell] = .ok (stD q) [s'.cell] := fun δ i q h hd =>
    bin_ok (x := .lst (List.map stD [r0, r1, r2, r3, r4])) (y := .int i) (by simp only [DL.varE, hd]) rfl (x0 i q h stD)
  have tpl : ∀ δ : Ev', δ[2]? = some (.sh (.lst (List.map rowD [r0, r1, r2, r3, r4]))) → tupE (consA (bin powP (litE (.int 10)) (litE (.int 12))) (consA (bin ixP (bin ixP (varE 2) (litE (.int 0))) (litE (.int 1))) (nilA))) δ [s'.cell] = .ok (rowD (1000000000000, r0.2)) [s'.cell] := fun δ hd =>
    tup_ok (cons_ok (pw δ) (cons_ok (bin_ok (gr δ 0 r0 rfl hd) rfl yp) rfl)) z2
  refine seq_ex (set_ok (d := stD (1000000000000, r0.2)) (c' := [s'.cell]) (make_ok (cons_ok (pw _) (cons_ok (bin_ok (gr _ 0 r0 rfl rfl) rfl yp) rfl)) it)) ?_
  simp only [List.set]
  have w1 := ticks_at (rs := [r0, (1000000000000, r0.2)]) (fun q hq => by
    simp only [List.mem_cons, List.not_mem_nil, or_false] at hq
    rcases hq with rfl | rfl
    · exact k0
    · exact kt) (by simp) (by simp) (c := [s'.cell])
  have w2 := ticks_at (rs := [(1000000000000, r0.2), r0]) (fun q hq => by
    simp only [List.mem_cons, List.not_mem_nil, or_false] at hq
    rcases hq with rfl | rfl
    · exact kt
    · exact k0) (by simp) (by simp) (c := [s'.cell])
  have w3 := tells_latest (rs := [r1, r0]) (by simp) (c := [s'.cell])
  refine seq_if (not_ok (tst_bl (call_ok (cons_ok (lst2 (cons_ok (gs _ 0 r0 rfl rfl) (cons_ok rfl rfl))) (cons_ok (lst2 (cons_ok (gr _ 0 r0 rfl rfl) (cons_ok (tpl _ rfl) rfl))) rfl)) w1))) ?_
  refine seq_if (not_ok (tst_bl (call_ok (cons_ok (lst2 (cons_ok rfl (cons_ok (gs _ 0 r0 rfl rfl) rfl))) (cons_ok (lst2 (cons_ok (tpl _ rfl) (cons_ok (gr _ 0 r0 rfl rfl) rfl))) rfl)) w2))) ?_
  refine seq_if (not_ok (tst_bl (call_ok (cons_ok (lst2 (cons_ok (gs _ 1 r1 rfl rfl) (cons_ok (gs _ 0 r0 rfl rfl) rfl))) (cons_ok (lst2 (cons_ok (gr _ 1 r1 rfl rfl) (cons_ok (gr _ 0 r0 rfl rfl) rfl))) rfl)) w3))) ?_
  obtain ⟨δ', ef, a6, ed⟩ := forL_still (tg := tgN 6) (b := ifS (notT (tstE (callM m__law_is_stamp (consA (bin ixP (varE 3) (varE 6)) (consA (bin ixP (varE 2) (varE 6)) (nilA)))))) (retS (litE (.bl false))) (nilS)) (c := [s'.cell])
    (fun δ => ∃ a6, δ = [Slot.sh (.rol (ns.map D.int)), .sh (.cell 0), .sh (.lst (List.map rowD [r0, r1, r2, r3, r4])), .sh (.lst (List.map stD [r0, r1, r2, r3, r4])), a4, .sh (stD (1000000000000, r0.2)), a6, a7, a8, a9, .un])
    (xs := rangeD 0 5) (δ := _) ⟨_, rfl⟩ fun x δ hx ⟨a6, hd⟩ => by
      subst hd
      obtain ⟨t, ht, rfl⟩ := mem_rangeD hx
      rw [Int.zero_add]
      have hq : [r0, r1, r2, r3, r4][t]? = some [r0, r1, r2, r3, r4][t] := List.getElem?_eq_getElem ht
      exact ⟨_, rfl, _, .inl ((if_f (not_ok (tst_bl (call_ok (cons_ok (bin_ok rfl rfl (x0 t _ hq stD)) (cons_ok (bin_ok rfl rfl (x0 t _ hq rowD)) rfl)) is_stamp)))).trans rfl), ⟨.sh (.int t), rfl⟩⟩
  subst ed
  refine seq_ex (for_nx (xs := rangeD 0 5) (c' := [s'.cell]) (by simp [DL.itR, DL.rng1, DL.consA, DL.nilA, DL.bnd, DL.Out.bnd, DL.ret, DL.litE, DL.opt]) ef) ?_
  exact ⟨_, ret_ok rfl⟩

theorem all_mk {l : PySem.W.OpenLaw} {w : World} {K : PySem.W.Frag} {h : Heap} {mg : PySem.Str → Option Value} {fa : Addr} {y_InvalidStamp : Addr} {y_Stamp : Addr} {x0 : Addr} {od0 an0 : Option Addr} {sl0 : Array (Option Value)} {oc0 kV0 dc0 pm0 cd0 ct0 : Value} {x1 : Addr} {od1 an1 : Option Addr} {sl1 : Array (Option Value)} {oc1 kV1 dc1 pm1 cd1 ct1 : Value} {x2 : Addr} {od2 an2 : Option Addr} {sl2 : Array (Option Value)} {oc2 kV2 dc2 pm2 cd2 ct2 : Value} {x3 : Addr} {od3 an3 : Option Addr} {sl3 : Array (Option Value)} {oc3 kV3 dc3 pm3 cd3 ct3 : Value} {x4 : Addr} {od4 an4 : Option Addr} {sl4 : Array (Option Value)} {oc4 kV4 dc4 pm4 cd4 ct4 : Value} {x5 : Addr} {od5 an5 : Option Addr} {sl5 : Array (Option Value)} {oc5 kV5 dc5 pm5 cd5 ct5 : Value} {x6 : Addr} {od6 an6 : Option Addr} {sl6 : Array (Option Value)} {oc6 kV6 dc6 pm6 cd6 ct6 : Value} {x7 : Addr} {od7 an7 : Option Addr} {sl7 : Array (Option Value)} {oc7 kV7 dc7 pm7 cd7 ct7 : Value} {x8 : Addr} {od8 an8 : Option Addr} {sl8 : Array (Option Value)} {oc8 kV8 dc8 pm8 cd8 ct8 : Value} {x9 : Addr} {od9 an9 : Option Addr} {sl9 : Array (Option Value)} {oc9 kV9 dc9 pm9 cd9 ct9 : Value} {x10 : Addr} {od10 an10 : Option Addr} {sl10 : Array (Option Value)} {oc10 kV10 dc10 pm10 cd10 ct10 : Value} {x11 : Addr} {od11 an11 : Option Addr} {sl11 : Array (Option Value)} {oc11 kV11 dc11 pm11 cd11 ct11 : Value} {x12 : Addr} {od12 an12 : Option Addr} {sl12 : Array (Option Value)} {oc12 kV12 dc12 pm12 cd12 ct12 : Value} {x13 : Addr} {od13 an13 : Option Addr} {sl13 : Array (Option Value)} {oc13 kV13 dc13 pm13 cd13 ct13 : Value} {uc_MOST_COUNT : Value} {uc_MOST_PLACE : Value} (X : K.In h) (G : h.Ns mainGlobals mg) (hfa : mg "law" = some (.ref fa))
    (aC_InvalidStamp : PySem.W.nsIn K mainGlobals "InvalidStamp" = some (some (.ref y_InvalidStamp)))
    (aC_Stamp : PySem.W.nsIn K mainGlobals "Stamp" = some (some (.ref y_Stamp)))
    (pg_Stamp : PySem.W.plainGet K y_Stamp Str.empty = true)
    (hd_Stamp : PySem.W.hasDictIn K y_Stamp = true)
    (po_Stamp : PySem.W.plainOver K y_Stamp = true)
    (sa_Stamp : PySem.W.findIn K (.ref y_Stamp) "__setattr__" = some (some (.builtin "object.__setattr__")))
    (a0 : PySem.W.findIn K (.ref y_Stamp) "__init__" = some (some (.ref x0)))
    (i0 : PySem.W.isFn K (.ref x0) = true)
    (l0 : K.lookup x0 = some ⟨oc0, od0, .func (PySem.W.fnOf "__init__" "Stamp.__init__" (defArgs s_Stamp___init__) (defBody s_Stamp___init__) (defScope s_Stamp___init__) .none kV0 dc0 pm0 an0 cd0 ct0), sl0⟩)
    (c0 : PySem.W.codeIn K cd0 "Stamp.__init__" = true)
    (k0 : PySem.W.keepIn K (.ref x0) = true)
    (mi_Stamp : PySem.W.makesIn K y_Stamp = true)
    (kc_Stamp : PySem.W.keepIn K (.ref y_Stamp) = true)
    (a1 : PySem.W.nsIn K mainGlobals "_law_start" = some (some (.ref x1)))
    (l1 : K.lookup x1 = some ⟨oc1, od1, .func (PySem.W.fnOf "_law_start" "_law_start" (defArgs s__law_start) (defBody s__law_start) (defScope s__law_start) .none kV1 dc1 pm1 an1 cd1 ct1), sl1⟩)
    (c1 : PySem.W.codeIn K cd1 "_law_start" = true)
    (k1 : PySem.W.keepIn K (.ref x1) = true)
    (a2 : PySem.W.nsIn K mainGlobals "_law_draw" = some (some (.ref x2)))
    (l2 : K.lookup x2 = some ⟨oc2, od2, .func (PySem.W.fnOf "_law_draw" "_law_draw" (defArgs s__law_draw) (defBody s__law_draw) (defScope s__law_draw) .none kV2 dc2 pm2 an2 cd2 ct2), sl2⟩)
    (c2 : PySem.W.codeIn K cd2 "_law_draw" = true)
    (k2 : PySem.W.keepIn K (.ref x2) = true)
    (a3 : PySem.W.nsIn K mainGlobals "_law_rows_of_stamps" = some (some (.ref x3)))
    (l3 : K.lookup x3 = some ⟨oc3, od3, .func (PySem.W.fnOf "_law_rows_of_stamps" "_law_rows_of_stamps" (defArgs s__law_rows_of_stamps) (defBody s__law_rows_of_stamps) (defScope s__law_rows_of_stamps) .none kV3 dc3 pm3 an3 cd3 ct3), sl3⟩)
    (c3 : PySem.W.codeIn K cd3 "_law_rows_of_stamps" = true)
    (k3 : PySem.W.keepIn K (.ref x3) = true)
    (a4 : PySem.W.findIn K (.ref y_Stamp) "tick" = some (some (.ref x4)))
    (i4 : PySem.W.isFn K (.ref x4) = true)
    (l4 : K.lookup x4 = some ⟨oc4, od4, .func (PySem.W.fnOf "tick" "Stamp.tick" (defArgs s_Stamp_tick) (defBody s_Stamp_tick) (defScope s_Stamp_tick) .none kV4 dc4 pm4 an4 cd4 ct4), sl4⟩)
    (c4 : PySem.W.codeIn K cd4 "Stamp.tick" = true)
    (k4 : PySem.W.keepIn K (.ref x4) = true)
    (a5 : PySem.W.nsIn K mainGlobals "_law_ticked" = some (some (.ref x5)))
    (l5 : K.lookup x5 = some ⟨oc5, od5, .func (PySem.W.fnOf "_law_ticked" "_law_ticked" (defArgs s__law_ticked) (defBody s__law_ticked) (defScope s__law_ticked) .none kV5 dc5 pm5 an5 cd5 ct5), sl5⟩)
    (c5 : PySem.W.codeIn K cd5 "_law_ticked" = true)
    (k5 : PySem.W.keepIn K (.ref x5) = true)
    (a6 : PySem.W.nsIn K mainGlobals "_law_same" = some (some (.ref x6)))
    (l6 : K.lookup x6 = some ⟨oc6, od6, .func (PySem.W.fnOf "_law_same" "_law_same" (defArgs s__law_same) (defBody s__law_same) (defScope s__law_same) .none kV6 dc6 pm6 an6 cd6 ct6), sl6⟩)
    (c6 : PySem.W.codeIn K cd6 "_law_same" = true)
    (k6 : PySem.W.keepIn K (.ref x6) = true)
    (a7 : PySem.W.nsIn K mainGlobals "_law_is_stamp" = some (some (.ref x7)))
    (l7 : K.lookup x7 = some ⟨oc7, od7, .func (PySem.W.fnOf "_law_is_stamp" "_law_is_stamp" (defArgs s__law_is_stamp) (defBody s__law_is_stamp) (defScope s__law_is_stamp) .none kV7 dc7 pm7 an7 cd7 ct7), sl7⟩)
    (c7 : PySem.W.codeIn K cd7 "_law_is_stamp" = true)
    (k7 : PySem.W.keepIn K (.ref x7) = true)
    (a8 : PySem.W.findIn K (.ref y_Stamp) "__lt__" = some (some (.ref x8)))
    (i8 : PySem.W.isFn K (.ref x8) = true)
    (l8 : K.lookup x8 = some ⟨oc8, od8, .func (PySem.W.fnOf "__lt__" "Stamp.__lt__" (defArgs s_Stamp___lt__) (defBody s_Stamp___lt__) (defScope s_Stamp___lt__) .none kV8 dc8 pm8 an8 cd8 ct8), sl8⟩)
    (c8 : PySem.W.codeIn K cd8 "Stamp.__lt__" = true)
    (k8 : PySem.W.keepIn K (.ref x8) = true)
    (a9 : PySem.W.nsIn K mainGlobals "_law_ticks_well" = some (some (.ref x9)))
    (l9 : K.lookup x9 = some ⟨oc9, od9, .func (PySem.W.fnOf "_law_ticks_well" "_law_ticks_well" (defArgs s__law_ticks_well) (defBody s__law_ticks_well) (defScope s__law_ticks_well) .none kV9 dc9 pm9 an9 cd9 ct9), sl9⟩)
    (c9 : PySem.W.codeIn K cd9 "_law_ticks_well" = true)
    (k9 : PySem.W.keepIn K (.ref x9) = true)
    (a10 : PySem.W.nsIn K mainGlobals "latest" = some (some (.ref x10)))
    (l10 : K.lookup x10 = some ⟨oc10, od10, .func (PySem.W.fnOf "latest" "latest" (defArgs s_latest) (defBody s_latest) (defScope s_latest) .none kV10 dc10 pm10 an10 cd10 ct10), sl10⟩)
    (c10 : PySem.W.codeIn K cd10 "latest" = true)
    (k10 : PySem.W.keepIn K (.ref x10) = true)
    (a11 : PySem.W.nsIn K mainGlobals "_law_latest" = some (some (.ref x11)))
    (l11 : K.lookup x11 = some ⟨oc11, od11, .func (PySem.W.fnOf "_law_latest" "_law_latest" (defArgs s__law_latest) (defBody s__law_latest) (defScope s__law_latest) .none kV11 dc11 pm11 an11 cd11 ct11), sl11⟩)
    (c11 : PySem.W.codeIn K cd11 "_law_latest" = true)
    (k11 : PySem.W.keepIn K (.ref x11) = true)
    (a12 : PySem.W.nsIn K mainGlobals "_law_tells_latest" = some (some (.ref x12)))
    (l12 : K.lookup x12 = some ⟨oc12, od12, .func (PySem.W.fnOf "_law_tells_latest" "_law_tells_latest" (defArgs s__law_tells_latest) (defBody s__law_tells_latest) (defScope s__law_tells_latest) .none kV12 dc12 pm12 an12 cd12 ct12), sl12⟩)
    (c12 : PySem.W.codeIn K cd12 "_law_tells_latest" = true)
    (k12 : PySem.W.keepIn K (.ref x12) = true)
    (a13 : PySem.W.nsIn K mainGlobals "law" = some (some (.ref x13)))
    (l13 : K.lookup x13 = some ⟨oc13, od13, .func (PySem.W.fnOf "law" "law" (defArgs s_law) (defBody s_law) (defScope s_law) .none kV13 dc13 pm13 an13 cd13 ct13), sl13⟩)
    (c13 : PySem.W.codeIn K cd13 "law" = true)
    (k13 : PySem.W.keepIn K (.ref x13) = true)
    (ac_MOST_COUNT : PySem.W.nsIn K mainGlobals "MOST_COUNT" = some (some uc_MOST_COUNT))
    (tc_MOST_COUNT : KC K (.int 1000000000000) uc_MOST_COUNT)
    (ac_MOST_PLACE : PySem.W.nsIn K mainGlobals "MOST_PLACE" = some (some uc_MOST_PLACE))
    (tc_MOST_PLACE : KC K (.int 99) uc_MOST_PLACE)
    (x_InvalidStamp : PySem.W.excIn K y_InvalidStamp [.type "ValueError", .type "Exception", .type "BaseException", .type "object"] "ValueError.__new__" = true)
    (kp_InvalidStamp : PySem.W.keepIn K (.ref y_InvalidStamp) = true)
    (eb_InvalidStamp : PySem.W.subIn K (.ref y_InvalidStamp) (.type "BaseException") = some true)
    (et_InvalidStamp : PySem.W.typeIn K (.ref y_InvalidStamp) = some (.type "type"))
    (naat_Stamp_count : PySem.W.findIn K (.ref y_Stamp) "count" = some none)
    (naat_Stamp_place : PySem.W.findIn K (.ref y_Stamp) "place" = some none)
    (n_list : PySem.W.nsIn K mainGlobals "list" = some none)
    (n_len : PySem.W.nsIn K mainGlobals "len" = some none)
    (n_int : PySem.W.nsIn K mainGlobals "int" = some none)
    (n_range : PySem.W.nsIn K mainGlobals "range" = some none)
    (n_max : PySem.W.nsIn K mainGlobals "max" = some none)
    (zb_InvalidStamp : PySem.W.subIn K (.ref y_InvalidStamp) (.type "BaseException") = some true)
    (zh_InvalidStamp : PySem.W.hasDictIn K y_InvalidStamp = true)
    (zt_InvalidStamp : PySem.W.typeIn K (.ref y_InvalidStamp) = some (.type "type"))
    (zs_InvalidStamp_InvalidStamp : PySem.W.subIn K (.ref y_InvalidStamp) (.ref y_InvalidStamp) = some true)
    (n_bool : PySem.W.nsIn K mainGlobals "bool" = some none)
    (hn_ : PySem.W.specialIn K (.builtin "object.__class__") "__get__" = some (some (.builtin "getset_descriptor.__get__")))
    (htk_ : PySem.W.takesIn K (.builtin "object.__class__") = some true)
    (hc_Stamp : PySem.W.findIn K (.ref y_Stamp) "__class__" = some (some (.builtin "object.__class__")))
    (hm_Stamp : PySem.W.mroIn K y_Stamp (.type "object") = some true)
    (tt_Stamp : PySem.W.typeIn K (.ref y_Stamp) = some (.type "type"))
    (ty_Stamp_NoneType : PySem.W.subIn K (.ref y_Stamp) (.type "NoneType") = some false)
    (bi_Stamp_NoneType : PySem.W.subIn K (.type "NoneType") (.ref y_Stamp) = some false)
    (ty_Stamp_bool : PySem.W.subIn K (.ref y_Stamp) (.type "bool") = some false)
    (bi_Stamp_bool : PySem.W.subIn K (.type "bool") (.ref y_Stamp) = some false)
    (ty_Stamp_int : PySem.W.subIn K (.ref y_Stamp) (.type "int") = some false)
    (bi_Stamp_int : PySem.W.subIn K (.type "int") (.ref y_Stamp) = some false)
    (ty_Stamp_str : PySem.W.subIn K (.ref y_Stamp) (.type "str") = some false)
    (bi_Stamp_str : PySem.W.subIn K (.type "str") (.ref y_Stamp) = some false)
    (ty_Stamp_list : PySem.W.subIn K (.ref y_Stamp) (.type "list") = some false)
    (bi_Stamp_list : PySem.W.subIn K (.type "list") (.ref y_Stamp) = some false)
    (ty_Stamp_tuple : PySem.W.subIn K (.ref y_Stamp) (.type "tuple") = some false)
    (bi_Stamp_tuple : PySem.W.subIn K (.type "tuple") (.ref y_Stamp) = some false)
    (n_isinstance : PySem.W.nsIn K mainGlobals "isinstance" = some none)
    (n_str : PySem.W.nsIn K mainGlobals "str" = some none)
    (n_tuple : PySem.W.nsIn K mainGlobals "tuple" = some none) :
    ∃ fd : FuncData, (∀ (s : Shared) (v : Value), BindsTo s fd ⟨[v], []⟩ [("script", v)]) ∧ ∀ base : Heap, K.In base → base.Ns mainGlobals mg → FnOk l.prog w K mg base (L2.CX l.prog w) 9 fa fd ["script"] (spLaw K) := by
  have e : x13 = fa := by
    have e := (PySem.W.mg_of X G a13).symm.trans hfa
    injection e with e
    injection e
  subst e
  have T : TT K mg (Ad.mk x0 (PySem.W.fnOf "__init__" "Stamp.__init__" (defArgs s_Stamp___init__) (defBody s_Stamp___init__) (defScope s_Stamp___init__) .none kV0 dc0 pm0 an0 cd0 ct0) x1 (PySem.W.fnOf "_law_start" "_law_start" (defArgs s__law_start) (defBody s__law_start) (defScope s__law_start) .none kV1 dc1 pm1 an1 cd1 ct1) x2 (PySem.W.fnOf "_law_draw" "_law_draw" (defArgs s__law_draw) (defBody s__law_draw) (defScope s__law_draw) .none kV2 dc2 pm2 an2 cd2 ct2) x3 (PySem.W.fnOf "_law_rows_of_stamps" "_law_rows_of_stamps" (defArgs s__law_rows_of_stamps) (defBody s__law_rows_of_stamps) (defScope s__law_rows_of_stamps) .none kV3 dc3 pm3 an3 cd3 ct3) x4 (PySem.W.fnOf "tick" "Stamp.tick" (defArgs s_Stamp_tick) (defBody s_Stamp_tick) (defScope s_Stamp_tick) .none kV4 dc4 pm4 an4 cd4 ct4) x5 (PySem.W.fnOf "_law_ticked" "_law_ticked" (defArgs s__law_ticked) (defBody s__law_ticked) (defScope s__law_ticked) .none kV5 dc5 pm5 an5 cd5 ct5) x6 (PySem.W.fnOf "_law_same" "_law_same" (defArgs s__law_same) (defBody s__law_same) (defScope s__law_same) .none kV6 dc6 pm6 an6 cd6 ct6) x7 (PySem.W.fnOf "_law_is_stamp" "_law_is_stamp" (defArgs s__law_is_stamp) (defBody s__law_is_stamp) (defScope s__law_is_stamp) .none kV7 dc7 pm7 an7 cd7 ct7) x8 (PySem.W.fnOf "__lt__" "Stamp.__lt__" (defArgs s_Stamp___lt__) (defBody s_Stamp___lt__) (defScope s_Stamp___lt__) .none kV8 dc8 pm8 an8 cd8 ct8) x9 (PySem.W.fnOf "_law_ticks_well" "_law_ticks_well" (defArgs s__law_ticks_well) (defBody s__law_ticks_well) (defScope s__law_ticks_well) .none kV9 dc9 pm9 an9 cd9 ct9) x10 (PySem.W.fnOf "latest" "latest" (defArgs s_latest) (defBody s_latest) (defScope s_latest) .none kV10 dc10 pm10 an10 cd10 ct10) x11 (PySem.W.fnOf "_law_latest" "_law_latest" (defArgs s__law_latest) (defBody s__law_latest) (defScope s__law_latest) .none kV11 dc11 pm11 an11 cd11 ct11) x12 (PySem.W.fnOf "_law_tells_latest" "_law_tells_latest" (defArgs s__law_tells_latest) (defBody s__law_tells_latest) (defScope s__law_tells_latest) .none kV12 dc12 pm12 an12 cd12 ct12) x13 (PySem.W.fnOf "law" "law" (defArgs s_law) (defBody s_law) (defScope s_law) .none kV13 dc13 pm13 an13 cd13 ct13) y_InvalidStamp y_Stamp) := {c_MOST_COUNT := ⟨_, PySem.W.mg_of X G ac_MOST_COUNT, tc_MOST_COUNT⟩, c_MOST_PLACE := ⟨_, PySem.W.mg_of X G ac_MOST_PLACE, tc_MOST_PLACE⟩, x_InvalidStamp := x_InvalidStamp, kp_InvalidStamp := kp_InvalidStamp, eb_InvalidStamp := eb_InvalidStamp, et_InvalidStamp := et_InvalidStamp, g_InvalidStamp := PySem.W.mg_of X G aC_InvalidStamp, at_Stamp_count := ⟨⟨pg_Stamp, hd_Stamp, po_Stamp, sa_Stamp⟩, naat_Stamp_count, rfl, show (["count", "place"] : List PySem.Str).Nodup by decide +kernel, show (["count", "place"] : List PySem.Str).length < 900 by decide⟩, at_Stamp_place := ⟨⟨pg_Stamp, hd_Stamp, po_Stamp, sa_Stamp⟩, naat_Stamp_place, rfl, show (["count", "place"] : List PySem.Str).Nodup by decide +kernel, show (["count", "place"] : List PySem.Str).length < 900 by decide⟩, F_Stamp___init__ := fun_mk (st := s_Stamp___init__) l0 c0 k0, n_list := PySem.W.mg_none_of X G n_list, F__law_start := fun_mk (st := s__law_start) l1 c1 k1, n_len := PySem.W.mg_none_of X G n_len, n_int := PySem.W.mg_none_of X G n_int, F__law_draw := fun_mk (st := s__law_draw) l2 c2 k2, g__law_draw := PySem.W.mg_of X G a2, n_range := PySem.W.mg_none_of X G n_range, F__law_rows_of_stamps := fun_mk (st := s__law_rows_of_stamps) l3 c3 k3, n_max := PySem.W.mg_none_of X G n_max, mk_Stamp := ⟨mi_Stamp, a0, i0, kc_Stamp⟩, g_Stamp := PySem.W.mg_of X G aC_Stamp, F_Stamp_tick := fun_mk (st := s_Stamp_tick) l4 c4 k4, mt_Stamp_tick := ⟨⟨pg_Stamp, hd_Stamp, po_Stamp, sa_Stamp⟩, ⟨a4, i4, k4⟩, show ¬ (("tick" : PySem.Str) ∈ (["count", "place"] : List PySem.Str)) by decide +kernel⟩, ex_InvalidStamp_InvalidStamp := PySem.W.exm_ref zb_InvalidStamp zh_InvalidStamp zt_InvalidStamp zs_InvalidStamp_InvalidStamp, F__law_ticked := fun_mk (st := s__law_ticked) l5 c5 k5, n_bool := PySem.W.mg_none_of X G n_bool, isi := ⟨(DL.all_cons ⟨⟨pg_Stamp, hd_Stamp, po_Stamp, sa_Stamp⟩, hc_Stamp, hn_, htk_, hm_Stamp⟩ DL.all_nil), (DL.all_cons (DL.all_cons (DL.kit_rt ty_Stamp_NoneType (by decide +kernel)) (DL.all_cons (DL.kit_rt ty_Stamp_bool (by decide +kernel)) (DL.all_cons (DL.kit_rt ty_Stamp_int (by decide +kernel)) (DL.all_cons (DL.kit_rt ty_Stamp_str (by decide +kernel)) (DL.all_cons (DL.kit_rt ty_Stamp_list (by decide +kernel)) (DL.all_cons (DL.kit_rt ty_Stamp_tuple (by decide +kernel)) DL.all_nil)))))) DL.all_nil), (DL.all_cons (DL.all_cons (DL.kit_tr hd_Stamp tt_Stamp bi_Stamp_NoneType) (DL.all_cons (DL.kit_tr hd_Stamp tt_Stamp bi_Stamp_bool) (DL.all_cons (DL.kit_tr hd_Stamp tt_Stamp bi_Stamp_int) (DL.all_cons (DL.kit_tr hd_Stamp tt_Stamp bi_Stamp_str) (DL.all_cons (DL.kit_tr hd_Stamp tt_Stamp bi_Stamp_list) (DL.all_cons (DL.kit_tr hd_Stamp tt_Stamp bi_Stamp_tuple) DL.all_nil)))))) DL.all_nil), (DL.all_cons (DL.all_cons DL.kit_self DL.all_nil) DL.all_nil)⟩, n_isinstance := PySem.W.mg_none_of X G n_isinstance, n_str := PySem.W.mg_none_of X G n_str, n_tuple := PySem.W.mg_none_of X G n_tuple, g__law_same := PySem.W.mg_of X G a6, F__law_same := fun_mk (st := s__law_same) l6 c6 k6, F__law_is_stamp := fun_mk (st := s__law_is_stamp) l7 c7 k7, F_Stamp___lt__ := fun_mk (st := s_Stamp___lt__) l8 c8 k8, g__law_ticked := PySem.W.mg_of X G a5, g__law_is_stamp := PySem.W.mg_of X G a7, me_Stamp___lt__ := ⟨a8, i8, k8⟩, F__law_ticks_well := fun_mk (st := s__law_ticks_well) l9 c9 k9, F_latest := fun_mk (st := s_latest) l10 c10 k10, g_latest := PySem.W.mg_of X G a10, F__law_latest := fun_mk (st := s__law_latest) l11 c11 k11, g__law_latest := PySem.W.mg_of X G a11, F__law_tells_latest := fun_mk (st := s__law_tells_latest) l12 c12 k12, g__law_start := PySem.W.mg_of X G a1, g__law_rows_of_stamps := PySem.W.mg_of X G a3, g__law_tells_latest := PySem.W.mg_of X G a12, g__law_ticks_well := PySem.W.mg_of X G a9, F_law := fun_mk (st := s_law) l13 c13 k13}
  exact ⟨PySem.W.fnOf "law" "law" (defArgs s_law) (defBody s_law) (defScope s_law) .none kV13 dc13 pm13 an13 cd13 ct13, fun s v => .of_eq rfl, fun base _ _ => law_end (d_law T) rfl law_holds⟩
end L04
set_option maxRecDepth 100000 in
set_option maxHeartbeats 0 in
theorem PySem.Challenge.cw_promiseshapes_k04_whole_tick_and_latest_holds : PySem.Challenge.rw_promiseshapes_k04_whole_tick_and_latest.Holds := by
  w_on; o_law; k_head; (case hw => w_witness2)
  k_fill
  refine DL.law_walk (l := PySem.Challenge.rw_promiseshapes_k04_whole_tick_and_latest) 9 rfl rfl ⟨rfl, by decide, by decide⟩ (fun w h Y => PySem.W.kIn_of Y) ?F
  case F =>
    intro w mg fa h KX G hmg
    refine' L04.all_mk KX G hmg ?aC_InvalidStamp ?aC_Stamp ?pg_Stamp ?hd_Stamp ?po_Stamp ?sa_Stamp ?a0 ?i0 ?l0 ?c0 ?k0 ?mi_Stamp ?kc_Stamp ?a1 ?l1 ?c1 ?k1 ?a2 ?l2 ?c2 ?k2 ?a3 ?l3 ?c3 ?k3 ?a4 ?i4 ?l4 ?c4 ?k4 ?a5 ?l5 ?c5 ?k5 ?a6 ?l6 ?c6 ?k6 ?a7 ?l7 ?c7 ?k7 ?a8 ?i8 ?l8 ?c8 ?k8 ?a9 ?l9 ?c9 ?k9 ?a10 ?l10 ?c10 ?k10 ?a11 ?l11 ?c11 ?k11 ?a12 ?l12 ?c12 ?k12 ?a13 ?l13 ?c13 ?k13 ?ac_MOST_COUNT ?tc_MOST_COUNT ?ac_MOST_PLACE ?tc_MOST_PLACE ?x_InvalidStamp ?kp_InvalidStamp ?eb_InvalidStamp ?et_InvalidStamp ?naat_Stamp_count ?naat_Stamp_place ?n_list ?n_len ?n_int ?n_range ?n_max ?zb_InvalidStamp ?zh_InvalidStamp ?zt_InvalidStamp ?zs_InvalidStamp_InvalidStamp ?n_bool ?hn_ ?htk_ ?hc_Stamp ?hm_Stamp ?tt_Stamp ?ty_Stamp_NoneType ?bi_Stamp_NoneType ?ty_Stamp_bool ?bi_Stamp_bool ?ty_Stamp_int ?bi_Stamp_int ?ty_Stamp_str ?bi_Stamp_str ?ty_Stamp_list ?bi_Stamp_list ?ty_Stamp_tuple ?bi_Stamp_tuple ?n_isinstance ?n_str ?n_tuple
    (case aC_InvalidStamp => k_is)
    (case aC_Stamp => k_is)
    (case pg_Stamp => k_is)
    (case hd_Stamp => k_is)
    (case po_Stamp => k_is)
    (case sa_Stamp => k_is)
    (case a0 => k_is)
    (case i0 => k_is)
    (case l0 => k_is)
    (case c0 => k_is)
    (case k0 => k_is)
    (case mi_Stamp => k_is)
    (case kc_Stamp => k_is)
    (case a1 => k_is)
    (case l1 => k_is)
    (case c1 => k_is)
    (case k1 => k_is)
    (case a2 => k_is)
    (case l2 => k_is)
    (case c2 => k_is)
    (case k2 => k_is)
    (case a3 => k_is)
    (case l3 => k_is)
    (case c3 => k_is)
    (case k3 => k_is)
    (case a4 => k_is)
    (case i4 => k_is)
    (case l4 => k_is)
    (case c4 => k_is)
    (case k4 => k_is)
    (case a5 => k_is)
    (case l5 => k_is)
    (case c5 => k_is)
    (case k5 => k_is)
    (case a6 => k_is)
    (case l6 => k_is)
    (case c6 => k_is)
    (case k6 => k_is)
    (case a7 => k_is)
    (case l7 => k_is)
    (case c7 => k_is)
    (case k7 => k_is)
    (case a8 => k_is)
    (case i8 => k_is)
    (case l8 => k_is)
    (case c8 => k_is)
    (case k8 => k_is)
    (case a9 => k_is)
    (case l9 => k_is)
    (case c9 => k_is)
    (case k9 => k_is)
    (case a10 => k_is)
    (case l10 => k_is)
    (case c10 => k_is)
    (case k10 => k_is)
    (case a11 => k_is)
    (case l11 => k_is)
    (case c11 => k_is)
    (case k11 => k_is)
    (case a12 => k_is)
    (case l12 => k_is)
    (case c12 => k_is)
    (case k12 => k_is)
    (case a13 => k_is)
    (case l13 => k_is)
    (case c13 => k_is)
    (case k13 => k_is)
    (case ac_MOST_COUNT => k_is)
    (case tc_MOST_COUNT => exact DL.kc_int)
    (case ac_MOST_PLACE => k_is)
    (case tc_MOST_PLACE => exact DL.kc_int)
    (case x_InvalidStamp => k_exc)
    (case kp_InvalidStamp => k_is)
    (case eb_InvalidStamp => k_is)
    (case et_InvalidStamp => k_is)
    (case naat_Stamp_count => k_is)
    (case naat_Stamp_place => k_is)
    (case n_list => k_is)
    (case n_len => k_is)
    (case n_int => k_is)
    (case n_range => k_is)
    (case n_max => k_is)
    (case zb_InvalidStamp => k_is)
    (case zh_InvalidStamp => k_is)
    (case zt_InvalidStamp => k_is)
    (case zs_InvalidStamp_InvalidStamp => first | rfl | k_is)
    (case n_bool => k_is)
    (case hn_ => k_is)
    (case htk_ => k_is)
    (case hc_Stamp => k_is)
    (case hm_Stamp => k_is)
    (case tt_Stamp => k_is)
    (case ty_Stamp_NoneType => k_is)
    (case bi_Stamp_NoneType => k_is)
    (case ty_Stamp_bool => k_is)
    (case bi_Stamp_bool => k_is)
    (case ty_Stamp_int => k_is)
    (case bi_Stamp_int => k_is)
    (case ty_Stamp_str => k_is)
    (case bi_Stamp_str => k_is)
    (case ty_Stamp_list => k_is)
    (case bi_Stamp_list => k_is)
    (case ty_Stamp_tuple => k_is)
    (case bi_Stamp_tuple => k_is)
    (case n_isinstance => k_is)
    (case n_str => k_is)
    (case n_tuple => k_is)

