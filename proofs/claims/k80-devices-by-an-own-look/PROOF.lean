import PyProof.Rows.All
import Wide.All
import OpenK.AllK
import Wide.FinOn
import HandS.ForMost
import HandS.ForExc
import HandS.ForSpec
import HandS.TupAny
import HandS.TupMul
import HandS.IsInst
import HandS.SortInts
import HandS.Wide
import HandS.WideBits
import HandS.CallSlots
import HandS.ExcInit
import HandS.Star
import HandS.Codes
import KE.KTupSum
import HandS.Zip
import KE.GoesMore
import HandS.Flow
import HandS.Style
import HandS.EndBits
import PySem.Challenge.RW_halthouse_k80_devices_by_an_own_look
set_option Elab.async false
set_option linter.all false
set_option maxRecDepth 100000
set_option maxHeartbeats 4000000
/-! A small language of the program's own constructs with its meaning as a total function (Ev), and the proof that the
model of Python does what the meaning says.  Part A: values, stores, results; how they lie in the abstract heap. -/
namespace Ev
open PySem L2

abbrev Codes := List Nat
def sOf (l : Codes) : Str := ⟨l.toArray⟩
theorem sOf_inj {a b : Codes} (h : sOf a = sOf b) : a = b := by
  have := congrArg (fun s : Str => s.cps.toList) h
  simpa [sOf] using this
theorem sOf_len (a : Codes) : (sOf a).length = a.length := by simp [sOf, Str.length]

/-- a value: a tuple by its items, a list that nothing changes any more by its items (lv), a list or dict that may
change by the number of its cell (ref), a thing of the top by its number (obj), the script (fz) -/
inductive PV where
  | non | bl (b : Bool) | int (i : Int) | str (s : Codes) | tup (xs : List PV) | lv (xs : List PV) | ref (n : Nat) | obj (i : Nat) | fz (ns : List Int)
  deriving Inhabited

inductive Cell where
  | lst (xs : List PV)
  | dct (kvs : List (Sum Int Codes × PV))
  | ins (c : Nat) (fs : List (Str × PV))
  deriving Inhabited

abbrev Store := List Cell

/-- what an expression comes to -/
inductive R (α : Type) where
  | ok (a : α) (S : Store) | ex (c : Nat) (p : Option (Str × PV)) (S : Store) | bad
def R.bind {α β : Type} (r : R α) (g : α → Store → R β) : R β :=
  match r with
  | .ok a S => g a S
  | .ex c p S => .ex c p S
  | .bad => .bad
@[simp] theorem R.bind_ok {α β : Type} (a : α) (S : Store) (g : α → Store → R β) : (R.ok a S).bind g = g a S := rfl
@[simp] theorem R.bind_ex {α β : Type} (c : Nat) (p : Option (Str × PV)) (S : Store) (g : α → Store → R β) : (R.ex c p S : R α).bind g = .ex c p S := rfl
@[simp] theorem R.bind_bad {α β : Type} (g : α → Store → R β) : (R.bad : R α).bind g = .bad := rfl

/-- where the things of the top stand: objects by number, exception classes by number -/
structure Gm where
  oA : Nat → Addr
  cA : Nat → Addr

/-- a world: the addresses of the cells, the addresses of lists that nothing changes any more, the abstract heap -/
structure Wd where
  m : List Addr
  L : Addr → Prop
  /-- lists that are being made: no value leads there, nothing else writes them -/
  P : Addr → Prop
  H : Hp

/-- the script: the object that was handed in, or an object of the module -/
def FzL (K : PySem.W.Frag) (H : Hp) (a : Addr) (ns : List Int) : Prop :=
  (∃ o, H a = some (.frz o (.lst (ns.map V.int)))) ∨
    ∃ (o : Obj) (its : Array Value) (n : Nat), K.lookup a = some o ∧ o.cls = .type "list" ∧ o.dict = none ∧ o.data = .seq its n ∧ its.size ≤ sizeLine ∧ Vals (ns.map V.int) its.toList
theorem FzL.sq {K : PySem.W.Frag} {H : Hp} {a : Addr} {ns : List Int} (h : FzL K H a ns) : SqL K H a (ns.map V.int) := h.elim (fun h => .inl (.inr h)) .inr
theorem FzL.mono {K : PySem.W.Frag} {H H' : Hp} {a : Addr} {ns : List Int} (h : FzL K H a ns) (l : ∀ a o u, H a = some (.frz o u) → H' a = some (.frz o u)) : FzL K H' a ns := h.elim (fun ⟨o, h⟩ => .inl ⟨o, l _ _ _ h⟩) .inr
theorem FzL.of {K : PySem.W.Frag} {H : Hp} {a : Addr} {ns : List Int} (hO : Only H) (h : SqL K H a (ns.map V.int)) : FzL K H a ns := by
  rcases h with (h | h) | h
  · rcases hO a with z | ⟨o, xs, z⟩ <;> rw [h] at z <;> cases z
  · exact .inl h
  · exact .inr h
section
variable (K : PySem.W.Frag) (Γ : Gm)
mutual
inductive Den (W : Wd) : PV → V → Prop
  | non : Den W .non .non
  | bl (b : Bool) : Den W (.bl b) (.bl b)
  | int (i : Int) : Den W (.int i) (.int i)
  | str (s : Codes) : Den W (.str s) (.str (sOf s))
  | tup {a : Addr} {xs : List PV} {vs : List V} : SqT K W.H a vs → DenL W xs vs → Den W (.tup xs) (.ref a)
  | lv {a : Addr} {xs : List PV} {vs : List V} : W.L a → W.H a = some (.lst vs) → DenL W xs vs → Den W (.lv xs) (.ref a)
  | ref {n : Nat} {a : Addr} : W.m[n]? = some a → Den W (.ref n) (.ref a)
  | obj (i : Nat) : Den W (.obj i) (.ref (Γ.oA i))
  | fz {a : Addr} {ns : List Int} : FzL K W.H a ns → Den W (.fz ns) (.ref a)
inductive DenL (W : Wd) : List PV → List V → Prop
  | nil : DenL W [] []
  | cons {x : PV} {v : V} {xs : List PV} {vs : List V} : Den W x v → DenL W xs vs → DenL W (x :: xs) (v :: vs)
end

def keyS : Sum Int Codes → Key
  | .inl i => .inl i
  | .inr s => .inr (sOf s)
def keyPV : Sum Int Codes → PV
  | .inl i => .int i
  | .inr s => .str s

inductive DenK (W : Wd) : List (Sum Int Codes × PV) → List (Key × V) → Prop
  | nil : DenK W [] []
  | cons {k : Sum Int Codes} {x : PV} {v : V} {xs vs} : Den K Γ W x v → DenK W xs vs → DenK W ((k, x) :: xs) ((keyS k, v) :: vs)

inductive DenF (W : Wd) : List (Str × PV) → List (Str × V) → Prop
  | nil : DenF W [] []
  | cons {k : Str} {x : PV} {v : V} {xs vs} : Den K Γ W x v → DenF W xs vs → DenF W ((k, x) :: xs) ((k, v) :: vs)

def CellOk (W : Wd) (a : Addr) : Cell → Prop
  | .lst xs => ∃ vs, W.H a = some (.lst vs) ∧ DenL K Γ W xs vs
  | .dct kvs => ∃ vs, W.H a = some (.dK vs) ∧ DenK K Γ W kvs vs
  | .ins c fs => ∃ dx vs, W.H a = some (.ins (Γ.cA c) dx vs) ∧ DenF K Γ W fs vs

/-- the store lies in the world -/
structure Rl (W : Wd) (S : Store) : Prop where
  len : W.m.length = S.length
  nd : W.m.Nodup
  dis : ∀ a ∈ W.m, ¬ W.L a
  ll : ∀ a, W.L a → W.H a ≠ none
  pp : ∀ a, W.P a → W.H a ≠ none ∧ a ∉ W.m ∧ ¬ W.L a
  cell : ∀ (n : Nat) (a : Addr) (c : Cell), W.m[n]? = some a → S[n]? = some c → CellOk K Γ W a c

/-- a world in which values mean what they meant -/
structure Le0 (W W' : Wd) : Prop where
  mm : ∃ l, W'.m = W.m ++ l
  ll : ∀ a, W.L a → W'.L a
  tt : ∀ a vs, SqT K W.H a vs → SqT K W'.H a vs
  lv : ∀ a o, W.L a → W.H a = some o → W'.H a = some o
  fz : ∀ a o u, W.H a = some (.frz o u) → W'.H a = some (.frz o u)
/-- a later world -/
structure Le (W W' : Wd) : Prop extends Le0 K W W' where
  new : ∀ a, W.H a ≠ none → W'.H a ≠ none ∧ (a ∈ W'.m → a ∈ W.m) ∧ (W'.L a → W.L a)
  pv : ∀ a o, W.P a → W.H a = some o → W'.P a ∧ W'.H a = some o
end

section
variable {K : PySem.W.Frag} {Γ : Gm} {W W' W'' : Wd} {S : Store}
theorem Le.refl : Le K W W := ⟨⟨⟨[], by simp⟩, fun _ h => h, fun _ _ h => h, fun _ _ _ h => h, fun _ _ _ h => h⟩, fun _ h => ⟨h, fun z => z, fun z => z⟩, fun _ _ h e => ⟨h, e⟩⟩
theorem Le.trans (h1 : Le K W W') (h2 : Le K W' W'') : Le K W W'' := by
  obtain ⟨l1, e1⟩ := h1.mm
  obtain ⟨l2, e2⟩ := h2.mm
  refine ⟨⟨⟨l1 ++ l2, by rw [e2, e1, List.append_assoc]⟩, fun a h => h2.ll a (h1.ll a h), fun a vs h => h2.tt a vs (h1.tt a vs h), fun a o h e => h2.lv a o (h1.ll a h) (h1.lv a o h e), fun a o u h => h2.fz a o u (h1.fz a o u h)⟩, fun a h => ?_, fun a o h e => h2.pv a o (h1.pv a o h e).1 (h1.pv a o h e).2⟩
  obtain ⟨n1, m1, l1⟩ := h1.new a h
  obtain ⟨n2, m2, l2⟩ := h2.new a n1
  exact ⟨n2, fun z => m1 (m2 z), fun z => l1 (l2 z)⟩
theorem Le0.get (h : Le0 K W W') {n : Nat} {a : Addr} (e : W.m[n]? = some a) : W'.m[n]? = some a := by
  obtain ⟨l, q⟩ := h.mm
  rw [q]
  have hn : n < W.m.length := (List.getElem?_eq_some_iff.mp e).1
  rw [List.getElem?_append_left hn]
  exact e
mutual
theorem Den.mono0 (h : Le0 K W W') : ∀ {x : PV} {v : V}, Den K Γ W x v → Den K Γ W' x v
  | _, _, .non => .non
  | _, _, .bl b => .bl b
  | _, _, .int i => .int i
  | _, _, .str s => .str s
  | _, _, .tup a b => .tup (h.tt _ _ a) (DenL.mono0 h b)
  | _, _, .lv a b c => .lv (h.ll _ a) (h.lv _ _ a b) (DenL.mono0 h c)
  | _, _, .ref e => .ref (h.get e)
  | _, _, .obj i => .obj i
  | _, _, .fz e => .fz (e.mono h.fz)
theorem DenL.mono0 (h : Le0 K W W') : ∀ {xs : List PV} {vs : List V}, DenL K Γ W xs vs → DenL K Γ W' xs vs
  | _, _, .nil => .nil
  | _, _, .cons a b => .cons (Den.mono0 h a) (DenL.mono0 h b)
end
theorem DenK.mono0 (h : Le0 K W W') : ∀ {xs vs}, DenK K Γ W xs vs → DenK K Γ W' xs vs
  | _, _, .nil => .nil
  | _, _, .cons a b => .cons (a.mono0 h) (DenK.mono0 h b)
theorem DenF.mono0 (h : Le0 K W W') : ∀ {xs vs}, DenF K Γ W xs vs → DenF K Γ W' xs vs
  | _, _, .nil => .nil
  | _, _, .cons a b => .cons (a.mono0 h) (DenF.mono0 h b)
theorem Le.get (h : Le K W W') {n : Nat} {a : Addr} (e : W.m[n]? = some a) : W'.m[n]? = some a := h.toLe0.get e
theorem Den.mono (h : Le K W W') {x : PV} {v : V} (d : Den K Γ W x v) : Den K Γ W' x v := d.mono0 h.toLe0
theorem DenL.mono (h : Le K W W') {x : List PV} {v : List V} (d : DenL K Γ W x v) : DenL K Γ W' x v := d.mono0 h.toLe0
theorem DenK.mono (h : Le K W W') {x v} (d : DenK K Γ W x v) : DenK K Γ W' x v := d.mono0 h.toLe0
theorem DenF.mono (h : Le K W W') {x v} (d : DenF K Γ W x v) : DenF K Γ W' x v := d.mono0 h.toLe0
theorem DenL.length : ∀ {xs vs}, DenL K Γ W xs vs → xs.length = vs.length
  | _, _, .nil => rfl
  | _, _, .cons _ b => by simp [DenL.length b]
theorem DenL.get : ∀ {xs vs} {i : Nat} {x : PV}, DenL K Γ W xs vs → xs[i]? = some x → ∃ v, vs[i]? = some v ∧ Den K Γ W x v
  | _, _, _, _, .nil, e => by simp at e
  | _, _, 0, _, .cons a _, e => by simp at e; subst e; exact ⟨_, rfl, a⟩
  | _, _, i + 1, x, .cons _ b, e => by
    obtain ⟨v, h1, h2⟩ := DenL.get (i := i) b (by simpa using e)
    exact ⟨v, by simpa using h1, h2⟩
theorem DenL.get' : ∀ {xs vs} {i : Nat} {v : V}, DenL K Γ W xs vs → vs[i]? = some v → ∃ x, xs[i]? = some x ∧ Den K Γ W x v
  | _, _, _, _, .nil, e => by simp at e
  | _, _, 0, _, .cons a _, e => by simp at e; subst e; exact ⟨_, rfl, a⟩
  | _, _, i + 1, x, .cons _ b, e => by
    obtain ⟨v, h1, h2⟩ := DenL.get' (i := i) b (by simpa using e)
    exact ⟨v, by simpa using h1, h2⟩
theorem DenL.append : ∀ {xs vs ys us}, DenL K Γ W xs vs → DenL K Γ W ys us → DenL K Γ W (xs ++ ys) (vs ++ us)
  | _, _, _, _, .nil, h => h
  | _, _, _, _, .cons a b, h => .cons a (DenL.append b h)
theorem DenL.take : ∀ {xs vs} (n : Nat), DenL K Γ W xs vs → DenL K Γ W (xs.take n) (vs.take n)
  | _, _, 0, _ => by simp; exact .nil
  | _, _, n + 1, .nil => .nil
  | _, _, n + 1, .cons a b => .cons a (DenL.take n b)
theorem DenL.drop : ∀ {xs vs} (n : Nat), DenL K Γ W xs vs → DenL K Γ W (xs.drop n) (vs.drop n)
  | _, _, 0, h => h
  | _, _, n + 1, .nil => .nil
  | _, _, n + 1, .cons a b => DenL.drop n b
theorem DenL.set : ∀ {xs vs} (n : Nat) {x : PV} {v : V}, Den K Γ W x v → DenL K Γ W xs vs → DenL K Γ W (xs.set n x) (vs.set n v)
  | _, _, _, _, _, _, .nil => .nil
  | _, _, 0, _, _, h, .cons a b => .cons h b
  | _, _, n + 1, _, _, h, .cons a b => .cons a (DenL.set n h b)
theorem DenL.reverse {xs vs} (h : DenL K Γ W xs vs) : DenL K Γ W xs.reverse vs.reverse := by
  induction h using DenL.rec (motive_1 := fun _ _ _ => True) with
  | nil => exact .nil
  | cons a b ih1 ih2 => rw [List.reverse_cons, List.reverse_cons]; exact DenL.append ih2 (.cons a .nil)
  | _ => trivial
theorem DenL.isEmpty {xs vs} (h : DenL K Γ W xs vs) : xs.isEmpty = vs.isEmpty := by
  cases h <;> rfl
theorem DenL.ints : ∀ {ns : List Int} {vs}, DenL K Γ W (ns.map PV.int) vs → vs = ns.map V.int
  | [], _, h => by cases h; rfl
  | n :: ns, _, h => by
    cases h with
    | cons a b => cases a; rw [DenL.ints b]; rfl
theorem DenL.bls : ∀ {ns : List Bool} {vs}, DenL K Γ W (ns.map PV.bl) vs → vs = ns.map V.bl
  | [], _, h => by cases h; rfl
  | n :: ns, _, h => by
    cases h with
    | cons a b => cases a; rw [DenL.bls b]; rfl
theorem DenL.ofInts : ∀ (ns : List Int), DenL K Γ W (ns.map PV.int) (ns.map V.int)
  | [] => .nil
  | n :: ns => .cons (.int n) (DenL.ofInts ns)
theorem DenL.replicate {x v} (h : Den K Γ W x v) : ∀ n, DenL K Γ W (List.replicate n x) (List.replicate n v)
  | 0 => .nil
  | n + 1 => .cons h (DenL.replicate h n)
theorem DenL.repl {xs vs} (h : DenL K Γ W xs vs) : ∀ n, DenL K Γ W (List.replicate n xs).flatten (List.replicate n vs).flatten
  | 0 => .nil
  | n + 1 => by
    rw [List.replicate_succ, List.replicate_succ, List.flatten_cons, List.flatten_cons]
    exact DenL.append h (DenL.repl h n)

theorem CellOk.mono (h : Le0 K W W') {a : Addr} {c : Cell} (e : W'.H a = W.H a) (k : CellOk K Γ W a c) : CellOk K Γ W' a c := by
  cases c with
  | lst xs => obtain ⟨vs, h1, h2⟩ := k; exact ⟨vs, by rw [e]; exact h1, h2.mono0 h⟩
  | dct xs => obtain ⟨vs, h1, h2⟩ := k; exact ⟨vs, by rw [e]; exact h1, h2.mono0 h⟩
  | ins c fs => obtain ⟨dx, vs, h1, h2⟩ := k; exact ⟨dx, vs, by rw [e]; exact h1, h2.mono0 h⟩
theorem CellOk.ne {a : Addr} {c : Cell} (k : CellOk K Γ W a c) : W.H a ≠ none := by
  cases c with
  | lst xs => obtain ⟨vs, h1, h2⟩ := k; rw [h1]; simp
  | dct xs => obtain ⟨vs, h1, h2⟩ := k; rw [h1]; simp
  | ins c fs => obtain ⟨dx, vs, h1, h2⟩ := k; rw [h1]; simp
theorem Rl.mne (h : Rl K Γ W S) {a : Addr} (ha : a ∈ W.m) : W.H a ≠ none := by
  obtain ⟨n, hn, e⟩ := List.mem_iff_getElem.mp ha
  have h1 : W.m[n]? = some a := by rw [List.getElem?_eq_getElem hn, e]
  have hn' : n < S.length := by rw [← h.len]; exact hn
  exact (h.cell n a _ h1 (List.getElem?_eq_getElem hn')).ne

theorem SqT.upd_new {H : Hp} {p : Addr} {o : HO} (hp : H p = none) {a : Addr} {vs : List V} (h : SqT K H a vs) : SqT K (upd H p o) a vs := by
  rcases h with h | h
  · left
    rcases h with h | ⟨ob, h⟩
    · exact .inl (by rw [upd_ne (ne_of_none h hp)]; exact h)
    · exact .inr ⟨ob, by rw [upd_ne (ne_of_none h hp)]; exact h⟩
  · exact .inr h
theorem SqT.upd_mut {H : Hp} {p : Addr} {o : HO} (hm : Mut (H p)) {a : Addr} {vs : List V} (h : SqT K H a vs) : SqT K (upd H p o) a vs := by
  rcases h with h | h
  · left
    have hne : a ≠ p := by
      rintro rfl
      rcases h with h | ⟨ob, h⟩ <;> rw [h] at hm <;> exact hm
    rcases h with h | ⟨ob, h⟩
    · exact .inl (by rw [upd_ne hne]; exact h)
    · exact .inr ⟨ob, by rw [upd_ne hne]; exact h⟩
  · exact .inr h

/-- a new object that nobody tracks (a tuple) -/
theorem Le.new_any {p : Addr} {o : HO} (hr : Rl K Γ W S) (hp : W.H p = none) : Le K W { W with H := upd W.H p o } where
  mm := ⟨[], by simp⟩
  ll := fun _ h => h
  tt := fun a vs h => SqT.upd_new hp h
  lv := fun a o' h e => by show upd W.H p o a = _; rw [upd_ne (ne_of_none e hp)]; exact e
  fz := fun a o' u e => by show upd W.H p o a = _; rw [upd_ne (ne_of_none e hp)]; exact e
  new := fun a h => ⟨by
    show upd W.H p o a ≠ none
    by_cases e : a = p
    · subst e; exact absurd hp h
    · rw [upd_ne e]; exact h, fun z => z, fun z => z⟩
  pv := fun a o' h e => ⟨h, by show upd W.H p o a = _; rw [upd_ne (ne_of_none e hp)]; exact e⟩
theorem Rl.new_any {p : Addr} {o : HO} (hr : Rl K Γ W S) (hp : W.H p = none) : Rl K Γ { W with H := upd W.H p o } S where
  len := hr.len
  nd := hr.nd
  dis := hr.dis
  ll := fun a h => by
    show upd W.H p o a ≠ none
    by_cases e : a = p
    · subst e; exact absurd hp (hr.ll _ h)
    · rw [upd_ne e]; exact hr.ll a h
  pp := fun a h => ⟨by
    show upd W.H p o a ≠ none
    by_cases e : a = p
    · subst e; rw [upd_same]; simp
    · rw [upd_ne e]; exact (hr.pp a h).1, (hr.pp a h).2⟩
  cell := fun n a c h1 h2 => by
    refine (hr.cell n a c h1 h2).mono (Le.new_any hr hp).toLe0 ?_
    show upd W.H p o a = W.H a
    rw [upd_ne]
    rintro rfl
    exact (hr.cell n _ c h1 h2).ne hp

/-- a new list that nothing will change -/
def Wd.lay (W : Wd) (p : Addr) (o : HO) : Wd := ⟨W.m, fun a => W.L a ∨ a = p, W.P, upd W.H p o⟩
theorem Le.lay {p : Addr} {o : HO} (hr : Rl K Γ W S) (hp : W.H p = none) : Le K W (W.lay p o) where
  mm := ⟨[], by simp [Wd.lay]⟩
  ll := fun _ h => .inl h
  tt := fun a vs h => SqT.upd_new hp h
  lv := fun a o' h e => by show upd W.H p o a = _; rw [upd_ne (ne_of_none e hp)]; exact e
  fz := fun a o' u e => by show upd W.H p o a = _; rw [upd_ne (ne_of_none e hp)]; exact e
  new := fun a h => by
    have e : a ≠ p := fun e => by subst e; exact absurd hp h
    exact ⟨by show upd W.H p o a ≠ none; rw [upd_ne e]; exact h, fun z => z, fun z => z.elim id fun z => absurd z e⟩
  pv := fun a o' h e => ⟨h, by show upd W.H p o a = _; rw [upd_ne (ne_of_none e hp)]; exact e⟩
theorem Rl.lay {p : Addr} {o : HO} (hr : Rl K Γ W S) (hp : W.H p = none) : Rl K Γ (W.lay p o) S where
  len := hr.len
  nd := hr.nd
  dis := fun a ha z => z.elim (hr.dis a ha) fun e => by subst e; exact hr.mne ha hp
  ll := fun a h => by
    show upd W.H p o a ≠ none
    by_cases e : a = p
    · subst e; rw [upd_same]; simp
    · rw [upd_ne e]; exact hr.ll a (h.resolve_right e)
  pp := fun a h => by
    have e : a ≠ p := fun e => by subst e; exact (hr.pp _ h).1 hp
    exact ⟨by show upd W.H p o a ≠ none; rw [upd_ne e]; exact (hr.pp a h).1, (hr.pp a h).2.1, fun z => z.elim (hr.pp a h).2.2 e⟩
  cell := fun n a c h1 h2 => by
    refine (hr.cell n a c h1 h2).mono (Le.lay hr hp).toLe0 ?_
    show upd W.H p o a = W.H a
    rw [upd_ne]
    rintro rfl
    exact (hr.cell n _ c h1 h2).ne hp

/-- a new cell -/
def Wd.put (W : Wd) (p : Addr) (o : HO) : Wd := ⟨W.m ++ [p], W.L, W.P, upd W.H p o⟩
theorem Le.put {p : Addr} {o : HO} (hr : Rl K Γ W S) (hp : W.H p = none) : Le K W (W.put p o) where
  mm := ⟨[p], rfl⟩
  ll := fun _ h => h
  tt := fun a vs h => SqT.upd_new hp h
  lv := fun a o' h e => by show upd W.H p o a = _; rw [upd_ne (ne_of_none e hp)]; exact e
  fz := fun a o' u e => by show upd W.H p o a = _; rw [upd_ne (ne_of_none e hp)]; exact e
  new := fun a h => by
    have e : a ≠ p := fun e => by subst e; exact absurd hp h
    refine ⟨by show upd W.H p o a ≠ none; rw [upd_ne e]; exact h, fun z => ?_, fun z => z⟩
    rcases List.mem_append.mp z with z | z
    · exact z
    · exact absurd (by simpa using z) e
  pv := fun a o' h e => ⟨h, by show upd W.H p o a = _; rw [upd_ne (ne_of_none e hp)]; exact e⟩
theorem Rl.put {p : Addr} {o : HO} {c : Cell} (hr : Rl K Γ W S) (hp : W.H p = none) (hc : CellOk K Γ (W.put p o) p c) : Rl K Γ (W.put p o) (S ++ [c]) where
  len := by simp [Wd.put, hr.len]
  nd := by
    show (W.m ++ [p]).Nodup
    rw [List.nodup_append]
    refine ⟨hr.nd, by simp, fun a ha b hb => ?_⟩
    have : b = p := by simpa using hb
    subst this
    rintro rfl
    exact hr.mne ha hp
  dis := fun a ha z => by
    rcases List.mem_append.mp ha with ha | ha
    · exact hr.dis a ha z
    · have : a = p := by simpa using ha
      subst this
      exact hr.ll _ z hp
  ll := fun a h => by
    have e : a ≠ p := fun e => by subst e; exact hr.ll _ h hp
    show upd W.H p o a ≠ none
    rw [upd_ne e]; exact hr.ll a h
  pp := fun a h => by
    have e : a ≠ p := fun e => by subst e; exact (hr.pp _ h).1 hp
    exact ⟨by show upd W.H p o a ≠ none; rw [upd_ne e]; exact (hr.pp a h).1, fun z => (List.mem_append.mp z).elim (hr.pp a h).2.1 fun z => e (by simpa using z), (hr.pp a h).2.2⟩
  cell := fun n a c' h1 h2 => by
    have h1' : (W.m ++ [p])[n]? = some a := h1
    by_cases hn : n < W.m.length
    · rw [List.getElem?_append_left hn] at h1'
      rw [List.getElem?_append_left (by rw [← hr.len]; exact hn)] at h2
      refine (hr.cell n a c' h1' h2).mono (Le.put hr hp).toLe0 ?_
      show upd W.H p o a = W.H a
      rw [upd_ne]
      rintro rfl
      exact (hr.cell n _ c' h1' h2).ne hp
    · have hn' : n = W.m.length := by
        have := (List.getElem?_eq_some_iff.mp h1').1
        simp at this; omega
      subst hn'
      simp at h1'
      subst h1'
      rw [hr.len] at h2
      simp at h2
      subst h2
      exact hc

/-- a cell is changed -/
theorem Le.write {p : Addr} {o : HO} {n : Nat} (hr : Rl K Γ W S) (hn : W.m[n]? = some p) (hm : Mut (W.H p)) : Le K W { W with H := upd W.H p o } where
  mm := ⟨[], by simp⟩
  ll := fun _ h => h
  tt := fun a vs h => SqT.upd_mut hm h
  lv := fun a o' h e => by
    show upd W.H p o a = _
    rw [upd_ne]; exact e
    rintro rfl
    exact hr.dis _ (List.mem_of_getElem? hn) h
  fz := fun a o' u e => by
    show upd W.H p o a = _
    rw [upd_ne]; exact e
    rintro rfl
    rw [e] at hm; exact hm
  new := fun a h => ⟨by
    show upd W.H p o a ≠ none
    by_cases e : a = p
    · subst e; rw [upd_same]; simp
    · rw [upd_ne e]; exact h, fun z => z, fun z => z⟩
  pv := fun a o' h e => ⟨h, by
    show upd W.H p o a = _
    rw [upd_ne]; exact e
    rintro rfl
    exact (hr.pp _ h).2.1 (List.mem_of_getElem? hn)⟩
theorem CellOk.mut {a : Addr} {c : Cell} (k : CellOk K Γ W a c) : Mut (W.H a) := by
  cases c with
  | lst xs => obtain ⟨vs, h1, h2⟩ := k; rw [h1]; trivial
  | dct xs => obtain ⟨vs, h1, h2⟩ := k; rw [h1]; trivial
  | ins c fs => obtain ⟨dx, vs, h1, h2⟩ := k; rw [h1]; trivial
theorem Rl.write {p : Addr} {o : HO} {n : Nat} {c : Cell} (hr : Rl K Γ W S) (hn : W.m[n]? = some p) (hm : Mut (W.H p)) (hc : CellOk K Γ { W with H := upd W.H p o } p c) : Rl K Γ { W with H := upd W.H p o } (S.set n c) where
  len := by simp [hr.len]
  nd := hr.nd
  dis := hr.dis
  ll := fun a h => by
    show upd W.H p o a ≠ none
    by_cases e : a = p
    · subst e; rw [upd_same]; simp
    · rw [upd_ne e]; exact hr.ll a h
  pp := fun a h => ⟨by
    show upd W.H p o a ≠ none
    by_cases e : a = p
    · subst e; rw [upd_same]; simp
    · rw [upd_ne e]; exact (hr.pp a h).1, (hr.pp a h).2⟩
  cell := fun k a c' h1 h2 => by
    by_cases e : k = n
    · subst e
      have hk : k < S.length := by
        have := (List.getElem?_eq_some_iff.mp h2).1
        simpa using this
      rw [List.getElem?_set_self hk] at h2
      rw [show W.m[k]? = some a from h1] at hn
      cases hn
      cases h2
      exact hc
    · rw [List.getElem?_set_ne (Ne.symm e)] at h2
      refine (hr.cell k a c' h1 h2).mono (Le.write hr hn hm).toLe0 ?_
      show upd W.H p o a = W.H a
      rw [upd_ne]
      rintro rfl
      exact e (nodup_ix' hr.nd h1 hn)
where
  nodup_ix' {N : List Addr} (hN : N.Nodup) {i j : Nat} {x : Addr} (a : N[i]? = some x) (b : N[j]? = some x) : i = j := by
    obtain ⟨h1, e1⟩ := List.getElem?_eq_some_iff.mp a
    obtain ⟨h2, e2⟩ := List.getElem?_eq_some_iff.mp b
    exact (List.getElem_inj hN).mp (e1.trans e2.symm)
end
end Ev

/-! Part B: the small language and its meaning. -/
namespace Ev
open PySem L2

inductive BOp where | add | sub | mul | fdiv | mod | pow
  deriving DecidableEq, Inhabited
inductive COp where | eq | ne | lt | le | gt | ge | is | isn | isin | notin
  deriving DecidableEq, Inhabited
inductive TyN where | int | bool | str | tuple | list | dict
  deriving DecidableEq, Inhabited
/-- built-in functions that give a value -/
inductive Blt where | len | sum | all | any | max | min | abs | int | str | tuple | divmod
  deriving DecidableEq, Inhabited
/-- built-in functions that give a new list -/
inductive BltL where | list | sorted
  deriving DecidableEq, Inhabited
/-- methods -/
inductive Mt where | append | extend | pop
  deriving DecidableEq, Inhabited

mutual
inductive E where
  | var (i : Nat)
  | non
  | bl (b : Bool)
  | int (i : Int)
  | str (s : Codes)
  | glob (i : Nat)
  | bin (op : BOp) (c : Bool) (a b : E)
  | neg (a : E)
  | cmp (op : COp) (a b : E)
  | chain (op op' : COp) (a b c : E)
  | din (neg : Bool) (a d : E)
  | and (a b : E)
  | or (a b : E)
  | not (a : E)
  | ite (c a b : E)
  | tup (es : Es)
  | lst (c : Bool) (es : Es)
  | sub (a i : E)
  | dsub (a i : E)
  | slice (c : Bool) (a : E) (lo hi : Eo)
  | call (f : Nat) (es : Es) (j : Nat)
  | blt (b : Blt) (es : Es)
  | bltL (b : BltL) (c : Bool) (es : Es)
  | isi (a : E) (t : TyN)
  | mt (m : Mt) (a : E) (es : Es)
  | comp (c : Bool) (elt : E) (tg : Tg) (it : It) (cond : Eo) (own : List (Str × Nat))
inductive Es where
  | nil | cons (e : E) (r : Es) | star (e : E) (r : Es)
inductive Eo where
  | none | some (e : E)
inductive Tg where
  | name (i : Nat) | tup (ts : Tgs) | sub (o i : E)
inductive Tgs where
  | nil | cons (t : Tg) (r : Tgs)
inductive It where
  | seq (e : E) | rng1 (e : E) | rng2 (a b : E) | enum (e : E) | zip (a b : E)
end

mutual
inductive C where
  | asg (t : Tg) (e : E)
  | par (is : List Nat) (es : Es)
  | aug (op : BOp) (i : Nat) (e : E)
  | expr (e : E)
  | ret (e : E)
  | retN
  | ifs (c : E) (a b : B)
  | whl (c : E) (b : B)
  | for_ (t : Tg) (it : It) (b : B)
  | pass
  | brk
  | cont
  | never
inductive B where
  | nil | cons (c : C) (r : B)
end

abbrev Rho := List (Option PV)

/-- what a statement comes to -/
inductive X where
  | next (ρ : Rho) (S : Store) | ret (v : PV) (S : Store) | brk (ρ : Rho) (S : Store) | cont (ρ : Rho) (S : Store)
  | ex (c : Nat) (p : Option (Str × PV)) (ρ : Rho) (S : Store) | bad

structure FnD where
  np : Nat
  nl : Nat
  body : B

/-- the program: its functions, its constants, its written dicts -/
structure Pg where
  fn : Nat → Option FnD
  cs : Nat → PV
  /-- the last j parameters' defaults of the function f -/
  dv : Nat → Nat → List PV
  kd : Nat → Option (List (Codes × PV))

section ops

def lstOf (S : Store) : PV → Option (List PV)
  | .lv xs => some xs
  | .ref n => match S[n]? with
    | some (.lst xs) => some xs
    | _ => none
  | _ => none
def seqOf (S : Store) : PV → Option (List PV)
  | .tup xs => some xs
  | .lv xs => some xs
  | .fz ns => some (ns.map .int)
  | .ref n => match S[n]? with
    | some (.lst xs) => some xs
    | _ => none
  | _ => none
def dctOf (S : Store) : PV → Option (List (Sum Int Codes × PV))
  | .ref n => match S[n]? with
    | some (.dct kvs) => some kvs
    | _ => none
  | _ => none

/-- a new list: of value (nothing changes it) or as a cell -/
def fin (c : Bool) (xs : List PV) (S : Store) : R PV :=
  match c with
  | true => .ok (.ref S.length) (S ++ [.lst xs])
  | false => .ok (.lv xs) S

def opt {α : Type} (o : Option α) (S : Store) : R α :=
  match o with
  | some a => .ok a S
  | none => .bad
@[simp] theorem opt_some {α : Type} (a : α) (S : Store) : opt (some a) S = .ok a S := rfl
@[simp] theorem opt_none {α : Type} (S : Store) : opt (none : Option α) S = .bad := rfl

/-- the truth of a value -/
def tru (S : Store) : PV → Option Bool
  | .non => some false
  | .bl b => some b
  | .int i => some (i != 0)
  | .str s => if s.length ≤ sizeLine then some (!s.isEmpty) else none
  | .tup xs => some (!xs.isEmpty)
  | .lv xs => some (!xs.isEmpty)
  | .fz ns => some (!ns.isEmpty)
  | .ref n => match S[n]? with
    | some (.lst xs) => some (!xs.isEmpty)
    | some (.dct kvs) => some (!kvs.isEmpty)
    | _ => none
  | .obj _ => none

def mulOk (i j : Int) : Prop := (-(2 ^ 64) < i ∧ i < 2 ^ 64) ∨ (-(2 ^ 64) < j ∧ j < 2 ^ 64)
instance (i j : Int) : Decidable (mulOk i j) := inferInstanceAs (Decidable (_ ∨ _))

def binop (c : Bool) : BOp → PV → PV → Store → R PV
  | .add, .int i, .int j, S => .ok (.int (i + j)) S
  | .add, .str a, .str b, S => if a.length + b.length ≤ sizeLine then .ok (.str (a ++ b)) S else .bad
  | .add, .tup a, .tup b, S => if a.length + b.length ≤ sizeLine then .ok (.tup (a ++ b)) S else .bad
  | .add, x, y, S => match lstOf S x, lstOf S y with
    | some a, some b => if a.length + b.length ≤ sizeLine then fin c (a ++ b) S else .bad
    | _, _ => .bad
  | .sub, .int i, .int j, S => .ok (.int (i - j)) S
  | .mul, .int i, .int j, S => if mulOk i j then .ok (.int (i * j)) S else .bad
  | .mul, .tup a, .int k, S => if 0 ≤ k ∧ k < 2 ^ 63 ∧ a.length * k.toNat ≤ sizeLine then .ok (.tup (List.replicate k.toNat a).flatten) S else .bad
  | .mul, x, .int k, S => match lstOf S x with
    | some a => if -(2 ^ 63) ≤ k ∧ k < 2 ^ 63 ∧ a.length * k.toNat ≤ sizeLine then fin c (List.replicate k.toNat a).flatten S else .bad
    | _ => .bad
  | .fdiv, .int i, .int j, S => if 0 < j ∧ j < 2 ^ 64 then .ok (.int (i / j)) S else .bad
  | .mod, .int i, .int j, S => if 0 < j then .ok (.int (i % j)) S else .bad
  | .pow, .int i, .int j, S => if 0 ≤ j ∧ j ≤ 1000000 ∧ i.natAbs < 2 ^ 64 then .ok (.int (i ^ j.toNat)) S else .bad
  | _, _, _, _ => .bad

/-- flat values and their equality -/
def flat : PV → Bool
  | .non => true
  | .bl _ => true
  | .int _ => true
  | .str _ => true
  | _ => false
def feq : PV → PV → Bool
  | .non, .non => true
  | .bl a, .bl b => a == b
  | .bl a, .int b => (if a then 1 else 0) == b
  | .int a, .bl b => a == (if b then 1 else 0)
  | .int a, .int b => a == b
  | .str a, .str b => a == b
  | _, _ => false

mutual
def dOf (S : Store) : PV → Option PyData
  | .non => some .none
  | .bl b => some (.bool b)
  | .int i => some (.int i)
  | .str s => some (.str (sOf s))
  | .tup xs => (dOfL S xs).map .tuple
  | .lv xs => (dOfL S xs).map .list
  | _ => none
def dOfL (S : Store) : List PV → Option (List PyData)
  | [] => some []
  | x :: xs => match dOf S x, dOfL S xs with
    | some d, some ds => some (d :: ds)
    | _, _ => none
end
def dOf1 (S : Store) : PV → Option PyData
  | .ref n => match S[n]? with
    | some (.lst xs) => (dOfL S xs).map .list
    | _ => none
  | .fz ns => some (.list (ns.map .int))
  | x => dOf S x

def eqOp (S : Store) : PV → PV → Option Bool
  | .int i, .int j => some (decide (i = j))
  | .str a, .str b => some (decide (a = b))
  | .bl a, .bl b => some (decide (a = b))
  | .non, .non => some true
  | .non, .int _ => some false
  | .int _, .non => some false
  | .non, .str _ => some false
  | .str _, .non => some false
  | .non, .bl _ => some false
  | .bl _, .non => some false
  | .int _, .str _ => some false
  | .str _, .int _ => some false
  | .bl _, .str _ => some false
  | .str _, .bl _ => some false
  | x, y => match dOf1 S x, dOf1 S y with
    | some d, some e => if (SeqAt.shaped d && SeqAt.shaped e) = true then some (PyData.eqv d e) else none
    | _, _ => none

/-- is a value in a tuple, a list, a text (one sign) -/
def inOp (P : Pg) (S : Store) (x : PV) : PV → Option Bool
  | .str t => match x with
    | .str [c] => some (decide (c ∈ t))
    | _ => none
  | .obj i => match P.kd i, x with
    | some kvs, .str s => some (kvs.any fun p => decide (p.1 = s))
    | _, _ => none
  | y => match seqOf S y with
    | some xs => if (flat x && xs.all flat) = true then some (xs.any fun z => feq z x) else none
    | none => none

def cmpOp (P : Pg) (S : Store) : COp → PV → PV → Option Bool
  | .eq, x, y => eqOp S x y
  | .ne, x, y => (eqOp S x y).map (!·)
  | .lt, .int i, .int j => some (decide (i < j))
  | .le, .int i, .int j => some (decide (i ≤ j))
  | .gt, .int i, .int j => some (decide (j < i))
  | .ge, .int i, .int j => some (decide (j ≤ i))
  | .is, x, .non => some (match x with | .non => true | _ => false)
  | .isn, x, .non => some (match x with | .non => false | _ => true)
  | .isin, x, y => inOp P S x y
  | .notin, x, y => (inOp P S x y).map (!·)
  | _, _, _ => none

def dget (kvs : List (Sum Int Codes × PV)) (k : Sum Int Codes) : Option PV := (kvs.find? fun kv => decide (kv.1 = k)).map (·.2)
def dput (kvs : List (Sum Int Codes × PV)) (k : Sum Int Codes) (v : PV) : List (Sum Int Codes × PV) :=
  if (kvs.any fun kv => decide (kv.1 = k)) = true then kvs.map (fun kv => if kv.1 = k then (kv.1, v) else kv) else kvs ++ [(k, v)]
def keyOf : PV → Option (Sum Int Codes)
  | .int i => some (.inl i)
  | .str s => some (.inr s)
  | _ => none

/-- x[i] of a tuple, a list, a text, a written dict -/
def ixOp (P : Pg) (S : Store) : PV → PV → Option PV
  | .str s, .int i => if s.length ≤ sizeLine then (atI s i).map fun c => .str [c] else none
  | .obj n, .str s => match P.kd n with
    | some kvs => (kvs.find? fun p => decide (p.1 = s)).map (·.2)
    | none => none
  | x, .int i => match seqOf S x with
    | some xs => atI xs i
    | none => none
  | _, _ => none
/-- d[k] of a dict -/
def dixOp (S : Store) (d k : PV) : Option PV :=
  match dctOf S d, keyOf k with
  | some kvs, some k => dget kvs k
  | _, _ => none
def dinOp (S : Store) (k d : PV) : Option Bool :=
  match dctOf S d, keyOf k with
  | some kvs, some k => some (dget kvs k).isSome
  | _, _ => none

def cut {α : Type} (xs : List α) (lo hi : Option Int) : List α := (xs.drop (HT.sIx xs.length 0 lo)).take (HT.sIx xs.length xs.length hi - HT.sIx xs.length 0 lo)
def slOp (c : Bool) (x : PV) (lo hi : Option Int) (S : Store) : R PV :=
  match x with
  | .tup xs => .ok (.tup (cut xs lo hi)) S
  | .str s => if s.length ≤ sizeLine then .ok (.str (cut s lo hi)) S else .bad
  | x => match seqOf S x with
    | some xs => fin c (cut xs lo hi) S
    | none => .bad

def isiOp : TyN → PV → Store → Option Bool
  | t, .non, _ => some false
  | t, .bl _, _ => some (match t with | .bool => true | .int => true | _ => false)
  | t, .int _, _ => some (match t with | .int => true | _ => false)
  | t, .str _, _ => some (match t with | .str => true | _ => false)
  | t, .tup _, _ => some (match t with | .tuple => true | _ => false)
  | t, .lv _, _ => some (match t with | .list => true | _ => false)
  | t, .fz _, _ => some (match t with | .list => true | _ => false)
  | t, .ref n, S => match S[n]? with
    | some (.lst _) => some (match t with | .list => true | _ => false)
    | some (.dct _) => some (match t with | .dict => true | _ => false)
    | _ => none
  | _, .obj _, _ => none

def intsOf : List PV → Option (List Int)
  | [] => some []
  | .int i :: r => (intsOf r).map (i :: ·)
  | _ :: _ => none
def blsOf : List PV → Option (List Bool)
  | [] => some []
  | .bl i :: r => (blsOf r).map (i :: ·)
  | _ :: _ => none

def maxL : List Int → Int
  | [] => 0
  | [a] => a
  | a :: r => max a (maxL r)
def minL : List Int → Int
  | [] => 0
  | [a] => a
  | a :: r => min a (minL r)

def lenOf (S : Store) : PV → Option Int
  | .str s => if s.length ≤ sizeLine then some s.length else none
  | .ref n => match S[n]? with
    | some (.lst xs) => some xs.length
    | some (.dct kvs) => some kvs.length
    | _ => none
  | x => (seqOf S x).map fun xs => (xs.length : Int)

def bltOp : Blt → List PV → Store → R PV
  | .len, [x], S => opt ((lenOf S x).map .int) S
  | .sum, [x], S => opt (((seqOf S x).bind intsOf).map fun ns => .int ns.sum) S
  | .all, [x], S => opt (((lstOf S x).bind blsOf).map fun bs => .bl (bs.all id)) S
  | .any, [x], S => opt (((lstOf S x).bind blsOf).map fun bs => .bl (bs.any id)) S
  | .max, [.int i, .int j], S => .ok (.int (if j > i then j else i)) S
  | .max, [x], S => match (lstOf S x).bind intsOf with
    | some (n :: ns) => .ok (.int (maxL (n :: ns))) S
    | _ => .bad
  | .min, [.int i, .int j], S => .ok (.int (if j < i then j else i)) S
  | .min, [x], S => match (lstOf S x).bind intsOf with
    | some (n :: ns) => .ok (.int (minL (n :: ns))) S
    | _ => .bad
  | .abs, [.int i], S => .ok (.int (if i < 0 then -i else i)) S
  | .int, [.int i], S => .ok (.int i) S
  | .int, [.bl b], S => .ok (.int (if b then 1 else 0)) S
  | .tuple, [x], S => opt ((seqOf S x).map .tup) S
  | .divmod, [.int i, .int j], S => if 0 < j ∧ j < 2 ^ 64 then .ok (.tup [.int (i / j), .int (i % j)]) S else .bad
  | _, _, _ => .bad

/-- sorted(xs), ints -/
def insI (x : Int) : List Int → List Int
  | [] => [x]
  | y :: r => if x ≤ y then x :: y :: r else y :: insI x r
def sortI : List Int → List Int
  | [] => []
  | x :: r => insI x (sortI r)

def bltLOp : BltL → List PV → Store → Option (List PV)
  | .list, [x], S => seqOf S x
  | .sorted, [x], S => ((lstOf S x).bind intsOf).map fun ns => (sortI ns).map .int
  | _, _, _ => none

/-- x[i] = v -/
def setOp (x i v : PV) (S : Store) : R Unit :=
  match x with
  | .ref n => match S[n]? with
    | some (.lst xs) => match i with
      | .int i => match ixN xs.length i with
        | some j => .ok () (S.set n (.lst (xs.set j v)))
        | none => .bad
      | _ => .bad
    | some (.dct kvs) => match keyOf i with
      | some k => if kvs.length < sizeLine then .ok () (S.set n (.dct (dput kvs k v))) else .bad
      | none => .bad
    | _ => .bad
  | _ => .bad

def mtOp : Mt → PV → List PV → Store → R PV
  | .append, .ref n, [y], S => match S[n]? with
    | some (.lst xs) => if xs.length < sizeLine then .ok .non (S.set n (.lst (xs ++ [y]))) else .bad
    | _ => .bad
  | .extend, .ref n, [y], S => match S[n]?, lstOf S y with
    | some (.lst xs), some ys => if xs.length + ys.length ≤ sizeLine then .ok .non (S.set n (.lst (xs ++ ys))) else .bad
    | _, _ => .bad
  | .pop, .ref n, [], S => match S[n]? with
    | some (.lst xs) => match xs.getLast? with
      | some v => .ok v (S.set n (.lst xs.dropLast))
      | none => .bad
    | _ => .bad
  | .pop, .ref n, [.int i], S => match S[n]? with
    | some (.lst xs) => match ixN xs.length i with
      | some j => match xs[j]? with
        | some v => .ok v (S.set n (.lst (xs.eraseIdx j)))
        | none => .bad
      | none => .bad
    | _ => .bad
  | _, _, _, _ => .bad
/-- x op= y of a name -/
def augOp : BOp → PV → PV → Option PV
  | .add, .int i, .int j => some (.int (i + j))
  | .add, .str a, .str b => if a.length + b.length ≤ sizeLine then some (.str (a ++ b)) else none
  | .sub, .int i, .int j => some (.int (i - j))
  | _, _, _ => none
end ops

/-! ### the meaning -/
/-- what is walked: the items; a cell that must stay as it is meanwhile -/
structure Its where
  xs : List PV
  g : List (Nat × List PV)
def Its.ok (J : Its) (S : Store) : Prop := ∀ p ∈ J.g, S[p.1]? = some (.lst p.2)
@[simp] theorem Its.ok_nil (xs : List PV) (S : Store) : Its.ok ⟨xs, []⟩ S = True := by simp [Its.ok]
def tupK : PV → Bool
  | .tup _ => true
  | _ => false
def itsSq (S : Store) : PV → Option Its
  | .ref n => match S[n]? with
    | some (.lst xs) => some ⟨xs, [(n, xs)]⟩
    | _ => none
  | x => (seqOf S x).map fun xs => ⟨xs, []⟩
def itsOf (S : Store) : PV → Option Its
  | .str s => some ⟨s.map fun c => .str [c], []⟩
  | x => itsSq S x

open Classical in
/-- a for's turns -/
noncomputable def forL (J : Its) (f : PV → Rho → Store → X) : List PV → Rho → Store → X
  | [], ρ, S => if J.ok S then .next ρ S else .bad
  | x :: xs, ρ, S => if J.ok S then match f x ρ S with
      | .next ρ' S' => forL J f xs ρ' S'
      | .cont ρ' S' => forL J f xs ρ' S'
      | .brk ρ' S' => .next ρ' S'
      | r => r
    else .bad
open Classical in
/-- a comprehension's turns: the items made -/
noncomputable def cmpL (J : Its) (f : PV → Store → R (Option PV)) : List PV → Store → R (List PV)
  | [], S => if J.ok S then .ok [] S else .bad
  | x :: xs, S => if J.ok S then (f x S).bind fun o S1 => (cmpL J f xs S1).bind fun ys S2 => .ok (o.toList ++ ys) S2 else .bad
/-- a while's turns -/
def whlL (c : Rho → Store → R Bool) (f : Rho → Store → X) : Nat → Rho → Store → X
  | 0, _, _ => .bad
  | n + 1, ρ, S => match c ρ S with
    | .ok false S1 => .next ρ S1
    | .ok true S1 => match f ρ S1 with
      | .next ρ' S' => whlL c f n ρ' S'
      | .cont ρ' S' => whlL c f n ρ' S'
      | .brk ρ' S' => .next ρ' S'
      | r => r
    | .ex cl p S1 => .ex cl p ρ S1
    | .bad => .bad

def noex {α : Type} : R α → R α
  | .ok a S => .ok a S
  | _ => .bad
def R.toX (ρ : Rho) (r : R PV) (k : PV → Store → X) : X :=
  match r with
  | .ok v S => k v S
  | .ex c p S => .ex c p ρ S
  | .bad => .bad
def wipeR (ρ : Rho) : List Nat → Rho
  | [] => ρ
  | v :: vs => (wipeR ρ vs).set v none
def setAll (ρ : Rho) : List Nat → List PV → Option Rho
  | [], [] => some ρ
  | i :: is, v :: vs => if i < ρ.length then setAll (ρ.set i (some v)) is vs else none
  | _, _ => none

section
variable (Cl : Nat → List PV → Store → R PV) (P : Pg)
mutual
noncomputable def evE : E → Rho → Store → R PV
  | .var i, ρ, S => match ρ[i]? with
    | some (some v) => .ok v S
    | _ => .bad
  | .non, _, S => .ok .non S
  | .bl b, _, S => .ok (.bl b) S
  | .int i, _, S => .ok (.int i) S
  | .str s, _, S => .ok (.str s) S
  | .glob i, _, S => .ok (P.cs i) S
  | .bin op c a b, ρ, S => (evE a ρ S).bind fun x S1 => (evE b ρ S1).bind fun y S2 => binop c op x y S2
  | .neg a, ρ, S => (evE a ρ S).bind fun x S1 => match x with
    | .int i => .ok (.int (-i)) S1
    | _ => .bad
  | .cmp op a b, ρ, S => (evE a ρ S).bind fun x S1 => (evE b ρ S1).bind fun y S2 => opt ((cmpOp P S2 op x y).map .bl) S2
  | .chain op op' a b c, ρ, S => (evE a ρ S).bind fun x S1 => (evE b ρ S1).bind fun y S2 => (opt (cmpOp P S2 op x y) S2).bind fun k S3 =>
    match k with
    | true => (evE c ρ S3).bind fun z S4 => opt ((cmpOp P S4 op' y z).map .bl) S4
    | false => .ok (.bl false) S3
  | .din neg a d, ρ, S => (evE a ρ S).bind fun x S1 => (evE d ρ S1).bind fun y S2 => opt ((dinOp S2 x y).map fun b => .bl (if neg then !b else b)) S2
  | .and a b, ρ, S => (evE a ρ S).bind fun x S1 => (opt (tru S1 x) S1).bind fun k S2 => match k with
    | true => evE b ρ S2
    | false => .ok x S2
  | .or a b, ρ, S => (evE a ρ S).bind fun x S1 => (opt (tru S1 x) S1).bind fun k S2 => match k with
    | true => .ok x S2
    | false => evE b ρ S2
  | .not a, ρ, S => (evE a ρ S).bind fun x S1 => (opt (tru S1 x) S1).bind fun k S2 => .ok (.bl (!k)) S2
  | .ite c a b, ρ, S => (evE c ρ S).bind fun x S1 => (opt (tru S1 x) S1).bind fun k S2 => match k with
    | true => evE a ρ S2
    | false => evE b ρ S2
  | .tup es, ρ, S => (evEs es ρ S).bind fun xs S1 => if xs.length ≤ sizeLine then .ok (.tup xs) S1 else .bad
  | .lst c es, ρ, S => (evEs es ρ S).bind fun xs S1 => if xs.length ≤ sizeLine then fin c xs S1 else .bad
  | .sub a i, ρ, S => (evE a ρ S).bind fun x S1 => (evE i ρ S1).bind fun y S2 => opt (ixOp P S2 x y) S2
  | .dsub a i, ρ, S => (evE a ρ S).bind fun x S1 => (evE i ρ S1).bind fun y S2 => opt (dixOp S2 x y) S2
  | .slice c a lo hi, ρ, S => (evE a ρ S).bind fun x S1 => (evEo lo ρ S1).bind fun l S2 => (evEo hi ρ S2).bind fun h S3 => slOp c x l h S3
  | .call f es j, ρ, S => (evEs es ρ S).bind fun xs S1 => Cl f (xs ++ P.dv f j) S1
  | .blt b es, ρ, S => (evEs es ρ S).bind fun xs S1 => bltOp b xs S1
  | .bltL b c es, ρ, S => (evEs es ρ S).bind fun xs S1 => (opt (bltLOp b xs S1) S1).bind fun ys S2 => fin c ys S2
  | .isi a t, ρ, S => (evE a ρ S).bind fun x S1 => opt ((isiOp t x S1).map .bl) S1
  | .mt m a es, ρ, S => (evE a ρ S).bind fun x S1 => (opt (lstOf S1 x) S1).bind fun _ S1' => (evEs es ρ S1').bind fun xs S2 => mtOp m x xs S2
  | .comp c elt tg it cond own, ρ, S => (evIt it ρ S).bind fun J S1 =>
    (noex (cmpL J (fun x S2 => (asgT tg x (wipeR ρ (own.map (·.2))) S2).bind fun ρ2 S3 => (evCond cond ρ2 S3).bind fun k S4 => match k with
      | true => (evE elt ρ2 S4).bind fun y S5 => .ok (some y) S5
      | false => .ok none S4) J.xs S1)).bind fun ys S6 => if ys.length ≤ sizeLine then fin c ys S6 else .bad
noncomputable def evEs : Es → Rho → Store → R (List PV)
  | .nil, _, S => .ok [] S
  | .cons e r, ρ, S => (evE e ρ S).bind fun x S1 => (evEs r ρ S1).bind fun xs S2 => .ok (x :: xs) S2
  | .star e r, ρ, S => (evE e ρ S).bind fun x S1 => (opt (seqOf S1 x) S1).bind fun ys S2 => (evEs r ρ S2).bind fun xs S3 => .ok (ys ++ xs) S3
noncomputable def evEo : Eo → Rho → Store → R (Option Int)
  | .none, _, S => .ok none S
  | .some e, ρ, S => (evE e ρ S).bind fun x S1 => match x with
    | .int i => .ok (some i) S1
    | _ => .bad
noncomputable def evCond : Eo → Rho → Store → R Bool
  | .none, _, S => .ok true S
  | .some e, ρ, S => (evE e ρ S).bind fun x S1 => opt (tru S1 x) S1
noncomputable def asgT : Tg → PV → Rho → Store → R Rho
  | .name i, v, ρ, S => if i < ρ.length then .ok (ρ.set i (some v)) S else .bad
  | .tup ts, v, ρ, S => match v with
    | .tup xs => asgTs ts xs ρ S
    | _ => .bad
  | .sub o i, v, ρ, S => (noex (evE o ρ S)).bind fun x S1 => (noex (evE i ρ S1)).bind fun y S2 => (setOp x y v S2).bind fun _ S3 => .ok ρ S3
noncomputable def asgTs : Tgs → List PV → Rho → Store → R Rho
  | .nil, vs, ρ, S => match vs with
    | [] => .ok ρ S
    | _ => .bad
  | .cons t r, vs, ρ, S => match vs with
    | v :: vs => (asgT t v ρ S).bind fun ρ1 S1 => asgTs r vs ρ1 S1
    | [] => .bad
noncomputable def evIt : It → Rho → Store → R Its
  | .seq e, ρ, S => (evE e ρ S).bind fun x S1 => opt (itsOf S1 x) S1
  | .rng1 e, ρ, S => (evE e ρ S).bind fun x S1 => match x with
    | .int j => if -(2 ^ 62) ≤ j ∧ j < 2 ^ 62 then .ok ⟨(List.range j.toNat).map fun k => .int ((k : Nat) : Int), []⟩ S1 else .bad
    | _ => .bad
  | .rng2 a b, ρ, S => (evE a ρ S).bind fun x S1 => (evE b ρ S1).bind fun y S2 => match x, y with
    | .int i, .int j => if (-(2 ^ 62) ≤ i ∧ i < 2 ^ 62) ∧ -(2 ^ 62) ≤ j ∧ j < 2 ^ 62 then .ok ⟨(List.range (j - i).toNat).map fun k => .int (i + (k : Nat)), []⟩ S2 else .bad
    | _, _ => .bad
  | .enum e, ρ, S => (evE e ρ S).bind fun x S1 => (opt (itsSq S1 x) S1).bind fun J S2 => .ok ⟨(List.range J.xs.length).zipWith (fun k v => .tup [.int ((k : Nat) : Int), v]) J.xs, J.g⟩ S2
  | .zip a b, ρ, S => (evE a ρ S).bind fun x S1 => (evE b ρ S1).bind fun y S2 => match itsSq S2 x, itsSq S2 y with
    | some J, some J' => if tupK x = tupK y then .ok ⟨J.xs.zipWith (fun u v => .tup [u, v]) J'.xs, J.g ++ J'.g⟩ S2 else .bad
    | _, _ => .bad
end

noncomputable def evT (e : E) (ρ : Rho) (S : Store) : R Bool := (evE Cl P e ρ S).bind fun x S1 => opt (tru S1 x) S1

variable (fw : Nat)
mutual
noncomputable def exC : C → Rho → Store → X
  | .asg t e, ρ, S => (evE Cl P e ρ S).toX ρ fun v S1 => match asgT Cl P t v ρ S1 with
    | .ok ρ' S2 => .next ρ' S2
    | _ => .bad
  | .par is es, ρ, S => match evEs Cl P es ρ S with
    | .ok vs S1 => match setAll ρ is vs with
      | some ρ' => .next ρ' S1
      | none => .bad
    | .ex c p S1 => .ex c p ρ S1
    | .bad => .bad
  | .aug op i e, ρ, S => match ρ[i]? with
    | some (some x) => (evE Cl P e ρ S).toX ρ fun y S1 => match augOp op x y with
      | some z => .next (ρ.set i (some z)) S1
      | none => .bad
    | _ => .bad
  | .expr e, ρ, S => (evE Cl P e ρ S).toX ρ fun _ S1 => .next ρ S1
  | .ret e, ρ, S => (evE Cl P e ρ S).toX ρ fun v S1 => .ret v S1
  | .retN, _, S => .ret .non S
  | .ifs c a b, ρ, S => match evT Cl P c ρ S with
    | .ok true S1 => exB a ρ S1
    | .ok false S1 => exB b ρ S1
    | .ex cl p S1 => .ex cl p ρ S1
    | .bad => .bad
  | .whl c b, ρ, S => whlL (fun ρ S => evT Cl P c ρ S) (fun ρ S => exB b ρ S) fw ρ S
  | .for_ t it b, ρ, S => match evIt Cl P it ρ S with
    | .ok J S1 => forL J (fun x ρ S => match asgT Cl P t x ρ S with
      | .ok ρ' S2 => exB b ρ' S2
      | _ => .bad) J.xs ρ S1
    | .ex c p S1 => .ex c p ρ S1
    | .bad => .bad
  | .pass, ρ, S => .next ρ S
  | .brk, ρ, S => .brk ρ S
  | .cont, ρ, S => .cont ρ S
  | .never, _, _ => .bad
noncomputable def exB : B → Rho → Store → X
  | .nil, ρ, S => .next ρ S
  | .cons c r, ρ, S => match exC c ρ S with
    | .next ρ' S' => exB r ρ' S'
    | x => x
end
end

def X.toR : X → R PV
  | .next _ S => .ok .non S
  | .ret v S => .ok v S
  | .ex c p _ S => .ex c p S
  | _ => .bad
/-- a call of the function f with at most n calls within one another -/
noncomputable def cal (P : Pg) (fw : Nat) : Nat → Nat → List PV → Store → R PV
  | 0, _, _, _ => .bad
  | n + 1, f, args, S => match P.fn f with
    | some d => if args.length = d.np then (exB (cal P fw n) P fw d.body (args.map some ++ List.replicate (d.nl - d.np) none) S).toR else .bad
    | none => .bad
end Ev

set_option exponentiation.threshold 10000
/-! Part C: what the model does for an operation is what the meaning says. -/
namespace Ev
open PySem PySem.Spec PyProof.Rows L2

section
variable (K : PySem.W.Frag) (Γ : Gm)
def XDen (W : Wd) : Option (Str × PV) → Option Addr → Prop
  | none, none => True
  | some (f, v), some d => ∃ v', W.H d = some (.xd [(f, v')]) ∧ Den K Γ W v v'
  | _, _ => False
/-- what is to be shown of a result -/
def Post {α β : Type} (Wx : WX) (σ : L2.St) (D : Wd → α → β → Prop) (r : R α) (W : Wd) (Q : β → Hp → Prop) : Prop :=
  match r with
  | .ok a S' => ∀ W' b, Le K W W' → Rl K Γ W' S' → D W' a b → Q b W'.H
  | .ex c p S' => ∀ W' d, Le K W W' → Rl K Γ W' S' → XDen K Γ W' p d → Wx (.ref (Γ.cA c)) d σ W'.H
  | .bad => False
/-- slots -/
structure SlotR (W : Wd) (ρ : Rho) (σ : L2.St) : Prop where
  len : ρ.length = σ.length
  get : ∀ (i : Nat) (v : PV), ρ[i]? = some (some v) → ∃ v', σ[i]? = some (some v') ∧ Den K Γ W v v'
def tE (Wx : WX) (f : Rho → Store → R PV) : TE := fun σ H Q => ∃ W ρ S, W.H = H ∧ Rl K Γ W S ∧ SlotR K Γ W ρ σ ∧ Post K Γ Wx σ (Den K Γ) (f ρ S) W Q
def tT (Wx : WX) (f : Rho → Store → R Bool) : TT := fun σ H Q => ∃ W ρ S, W.H = H ∧ Rl K Γ W S ∧ SlotR K Γ W ρ σ ∧ Post K Γ Wx σ (fun _ a b => a = b) (f ρ S) W Q
def tA (Wx : WX) (f : Rho → Store → R (List PV)) : TA := fun σ H Q => ∃ W ρ S, W.H = H ∧ Rl K Γ W S ∧ SlotR K Γ W ρ σ ∧ Post K Γ Wx σ (DenL K Γ) (f ρ S) W Q
/-- a two-place operation, one-place, a call -/
def rB (f : PV → PV → Store → R PV) : R2 := fun x y H Q => ∃ W a b S Wx σ, W.H = H ∧ Rl K Γ W S ∧ Den K Γ W a x ∧ Den K Γ W b y ∧ Post K Γ Wx σ (Den K Γ) (f a b S) W Q
def rCl (f : List PV → Store → R PV) : List V → Hp → VK → Prop := fun xs H Q => ∃ W as S Wx σ, W.H = H ∧ Rl K Γ W S ∧ DenL K Γ W as xs ∧ Post K Γ Wx σ (Den K Γ) (f as S) W Q
end

section
variable {K : PySem.W.Frag} {Γ : Gm} {W W' : Wd} {S : Store} {Wx : WX} {σ : L2.St}
theorem SlotR.mono {ρ : Rho} (h : Le K W W') (s : SlotR K Γ W ρ σ) : SlotR K Γ W' ρ σ := ⟨s.len, fun i v e => let ⟨v', a, b⟩ := s.get i v e; ⟨v', a, b.mono h⟩⟩
theorem Post.le {α β : Type} {D : Wd → α → β → Prop} {r : R α} {Q : β → Hp → Prop} (h : Le K W W') (p : Post K Γ Wx σ D r W Q) : Post K Γ Wx σ D r W' Q := by
  cases r with
  | ok a S => exact fun W'' b l r d => p W'' b (h.trans l) r d
  | ex c q S => exact fun W'' b l r d => p W'' b (h.trans l) r d
  | bad => exact p
theorem Post.bind {α β γ δ : Type} {D1 : Wd → α → γ → Prop} {D2 : Wd → β → δ → Prop} {r : R α} {g : α → Store → R β} {Q : δ → Hp → Prop} (h : Post K Γ Wx σ D2 (r.bind g) W Q) :
    Post K Γ Wx σ D1 r W (fun b H => ∃ W1 a S1, W1.H = H ∧ Le K W W1 ∧ Rl K Γ W1 S1 ∧ D1 W1 a b ∧ Post K Γ Wx σ D2 (g a S1) W1 Q) := by
  cases r with
  | ok a S => exact fun W' b l r d => ⟨W', a, S, rfl, l, r, d, Post.le l h⟩
  | ex c q S => exact h
  | bad => exact h
theorem Post.ok {α β : Type} {D : Wd → α → β → Prop} {a : α} {b : β} {Q : β → Hp → Prop} (p : Post K Γ Wx σ D (.ok a S) W Q) (hr : Rl K Γ W S) (d : D W a b) : Q b W.H := p W b .refl hr d
theorem Post.imp {α β : Type} {D : Wd → α → β → Prop} {r : R α} {Q Q' : β → Hp → Prop} (p : Post K Γ Wx σ D r W Q) (h : ∀ b H, Q b H → Q' b H) : Post K Γ Wx σ D r W Q' := by
  cases r with
  | ok a S => exact fun W' b l r d => h _ _ (p W' b l r d)
  | ex c q S => exact p
  | bad => exact p
theorem Post.opt {α β : Type} {D : Wd → α → β → Prop} {o : Option α} {Q : β → Hp → Prop} (p : Post K Γ Wx σ D (opt o S) W Q) : ∃ a, o = some a ∧ Post K Γ Wx σ D (.ok a S) W Q := by
  cases o with
  | none => exact p.elim
  | some a => exact ⟨a, rfl, p⟩
/-- a new list -/
theorem Post.fin {c : Bool} {xs : List PV} {vs : List V} {Q : VK} {p : Addr} (h : Post K Γ Wx σ (Den K Γ) (fin c xs S) W Q) (hr : Rl K Γ W S) (hp : W.H p = none) (d : DenL K Γ W xs vs) : Q (.ref p) (upd W.H p (.lst vs)) := by
  cases c with
  | false => exact h (W.lay p (.lst vs)) (.ref p) (Le.lay hr hp) (Rl.lay hr hp) (.lv (.inr rfl) upd_same (d.mono (Le.lay hr hp)))
  | true =>
    refine h (W.put p (.lst vs)) (.ref p) (Le.put hr hp) (Rl.put hr hp ⟨vs, upd_same, d.mono (Le.put hr hp)⟩) (.ref ?_)
    show (W.m ++ [p])[S.length]? = some p
    rw [← hr.len]
    simp
theorem Post.tup {xs : List PV} {vs : List V} {Q : VK} {p : Addr} (h : Post K Γ Wx σ (Den K Γ) (.ok (.tup xs) S) W Q) (hr : Rl K Γ W S) (hp : W.H p = none) (d : DenL K Γ W xs vs) : Q (.ref p) (upd W.H p (.tup vs)) :=
  h { W with H := upd W.H p (.tup vs) } (.ref p) (Le.new_any hr hp) (Rl.new_any hr hp) (.tup (.inl (.inl upd_same)) (d.mono (Le.new_any hr hp)))
theorem lstOf_den {x : PV} {xs : List PV} {v : V} (hr : Rl K Γ W S) (d : Den K Γ W x v) (e : lstOf S x = some xs) : ∃ a vs, v = .ref a ∧ W.H a = some (.lst vs) ∧ DenL K Γ W xs vs := by
  cases d with
  | lv a b c => cases e; exact ⟨_, _, rfl, b, c⟩
  | @ref n a q =>
    simp only [lstOf] at e
    split at e
    · rename_i zs h
      cases e
      obtain ⟨vs, h1, h2⟩ := hr.cell n a _ q h
      exact ⟨a, vs, rfl, h1, h2⟩
    · cases e
  | _ => cases e
theorem seqOf_den {x : PV} {xs : List PV} {v : V} (hr : Rl K Γ W S) (d : Den K Γ W x v) (e : seqOf S x = some xs) : ∃ a vs, v = .ref a ∧ (SqL K W.H a vs ∨ SqT K W.H a vs) ∧ DenL K Γ W xs vs := by
  cases d with
  | lv a b c => cases e; exact ⟨_, _, rfl, .inl (.inl (.inl b)), c⟩
  | tup a b => cases e; exact ⟨_, _, rfl, .inr a, b⟩
  | fz a => cases e; exact ⟨_, _, rfl, .inl a.sq, DenL.ofInts _⟩
  | @ref n a q =>
    simp only [seqOf] at e
    split at e
    · rename_i zs h
      cases e
      obtain ⟨vs, h1, h2⟩ := hr.cell n a _ q h
      exact ⟨a, vs, rfl, .inl (.inl (.inl h1)), h2⟩
    · cases e
  | _ => cases e
theorem dctOf_den {x : PV} {kvs} {v : V} (hr : Rl K Γ W S) (d : Den K Γ W x v) (e : dctOf S x = some kvs) : ∃ n a vs, x = .ref n ∧ W.m[n]? = some a ∧ S[n]? = some (.dct kvs) ∧ v = .ref a ∧ W.H a = some (.dK vs) ∧ DenK K Γ W kvs vs := by
  cases d with
  | @ref n a q =>
    simp only [dctOf] at e
    split at e
    · rename_i zs h
      cases e
      obtain ⟨vs, h1, h2⟩ := hr.cell n a _ q h
      exact ⟨n, a, vs, rfl, q, h, rfl, h1, h2⟩
    · cases e
  | _ => cases e
theorem Den.intv {i : Int} {v : V} (d : Den K Γ W (.int i) v) : v = .int i := by cases d; rfl
theorem Den.strv {i : Codes} {v : V} (d : Den K Γ W (.str i) v) : v = .str (sOf i) := by cases d; rfl
theorem Den.blv {i : Bool} {v : V} (d : Den K Γ W (.bl i) v) : v = .bl i := by cases d; rfl
theorem Den.nonv {v : V} (d : Den K Γ W .non v) : v = .non := by cases d; rfl
theorem intsOf_eq : ∀ {xs : List PV} {ns : List Int}, intsOf xs = some ns → xs = ns.map .int
  | [], _, e => by cases e; rfl
  | .int i :: r, ns, e => by
    simp only [intsOf, Option.map_eq_some_iff] at e
    obtain ⟨ms, h, rfl⟩ := e
    rw [intsOf_eq h]; rfl
  | .non :: _, _, e => by cases e
  | .bl _ :: _, _, e => by cases e
  | .str _ :: _, _, e => by cases e
  | .tup _ :: _, _, e => by cases e
  | .lv _ :: _, _, e => by cases e
  | .ref _ :: _, _, e => by cases e
  | .obj _ :: _, _, e => by cases e
  | .fz _ :: _, _, e => by cases e
theorem blsOf_eq : ∀ {xs : List PV} {ns : List Bool}, blsOf xs = some ns → xs = ns.map .bl
  | [], _, e => by cases e; rfl
  | .bl i :: r, ns, e => by
    simp only [blsOf, Option.map_eq_some_iff] at e
    obtain ⟨ms, h, rfl⟩ := e
    rw [blsOf_eq h]; rfl
  | .non :: _, _, e => by cases e
  | .int _ :: _, _, e => by cases e
  | .str _ :: _, _, e => by cases e
  | .tup _ :: _, _, e => by cases e
  | .lv _ :: _, _, e => by cases e
  | .ref _ :: _, _, e => by cases e
  | .obj _ :: _, _, e => by cases e
  | .fz _ :: _, _, e => by cases e
theorem bindI {o : Option (List PV)} {ns : List Int} (h : o.bind intsOf = some ns) : o = some (ns.map .int) := by
  cases o with
  | none => cases h
  | some xs => rw [intsOf_eq (show intsOf xs = some ns from h)]
theorem bindB {o : Option (List PV)} {ns : List Bool} (h : o.bind blsOf = some ns) : o = some (ns.map .bl) := by
  cases o with
  | none => cases h
  | some xs => rw [blsOf_eq (show blsOf xs = some ns from h)]

theorem sOf_app (a b : Codes) : sOf a ++ sOf b = sOf (a ++ b) := by
  show Str.append (sOf a) (sOf b) = _
  simp [sOf, Str.append]
end

section
variable {X : Cx} {Γ : Gm} {pins : List (Addr × Obj)} {σ : L2.St} {H : Hp} {s : Shared}

/-! ### arithmetic -/
theorem ob_addL {c : Bool} {W : Wd} {S : Store} {Wx : WX} {σ' : L2.St} {a b : PV} {x y : V} {v u : Value} {Q : VK} (I : Inv X pins σ W.H s) (rx : RelV x v) (ry : RelV y u) (hr : Rl X.K Γ W S) (da : Den X.K Γ W a x) (db : Den X.K Γ W b y)
    (h : Post X.K Γ Wx σ' (Den X.K Γ) (match lstOf S a, lstOf S b with
      | some a, some b => if a.length + b.length ≤ sizeLine then fin c (a ++ b) S else .bad
      | _, _ => .bad) W Q) : wpAny (model X.prog X.w) X.A (binaryOp .Add v u) (EP X pins σ Q) X.xe s := by
  cases ea : lstOf S a with
  | none => rw [ea] at h; exact h.elim
  | some xs =>
    cases eb : lstOf S b with
    | none => rw [ea, eb] at h; exact h.elim
    | some ys =>
      rw [ea, eb] at h
      dsimp only at h
      split at h
      · rename_i hl
        obtain ⟨p, vs, rfl, hp, dl⟩ := lstOf_den hr da ea
        obtain ⟨q, us, rfl, hq, dm⟩ := lstOf_den hr db eb
        exact op_cat pins s σ W.H _ _ v u Q I rx ry ⟨p, q, vs, us, rfl, rfl, hp, hq, by rw [← dl.length, ← dm.length]; exact hl, fun r hn => h.fin hr hn (dl.append dm)⟩
      · exact h.elim
theorem ob_add (c : Bool) : OpR X (binaryOp .Add) (rB X.K Γ (binop c .add)) := by
  rintro pins s σ H x y v u Q I rx ry ⟨W, a, b, S, Wx, σ', rfl, hr, da, db, h⟩
  cases da with
  | int i =>
    cases db with
    | int j => exact op_add pins s σ W.H _ _ v u Q I rx ry ⟨i, j, rfl, rfl, h.ok hr (.int _)⟩
    | _ => exact h.elim
  | str i =>
    cases db with
    | str j =>
      simp only [binop] at h
      split at h
      · rename_i hl
        exact op_add_str pins s σ W.H _ _ v u Q I rx ry ⟨sOf i, sOf j, rfl, rfl, by rw [sOf_len, sOf_len]; exact hl, by rw [sOf_app]; exact h.ok hr (.str _)⟩
      · exact h.elim
    | _ => exact h.elim
  | @tup p xs vs ht dl =>
    cases db with
    | @tup q ys us hu dm =>
      simp only [binop] at h
      split at h
      · rename_i hl
        refine op_catA pins s σ W.H _ _ v u Q I rx ry ⟨p, q, vs, us, rfl, rfl, ht, hu, by rw [← dl.length, ← dm.length]; exact hl, fun e => ?_, fun _ e => ?_, fun _ _ r hn => h.tup hr hn (dl.append dm)⟩
        · have : xs = [] := List.eq_nil_of_length_eq_zero (by rw [dl.length, e]; rfl)
          subst this
          exact h.ok hr (.tup hu dm)
        · have : ys = [] := List.eq_nil_of_length_eq_zero (by rw [dm.length, e]; rfl)
          subst this
          rw [List.append_nil] at h
          exact h.ok hr (.tup ht dl)
      · exact h.elim
    | _ => exact h.elim
  | non => exact h.elim
  | bl _ => exact h.elim
  | obj _ => exact h.elim
  | fz _ => exact h.elim
  | lv h1 h2 h3 => exact ob_addL I rx ry hr (.lv h1 h2 h3) db h
  | ref e => exact ob_addL I rx ry hr (.ref e) db h
theorem ob_sub (c : Bool) : OpR X (binaryOp .Sub) (rB X.K Γ (binop c .sub)) := by
  rintro pins s σ H x y v u Q I rx ry ⟨W, a, b, S, Wx, σ', rfl, hr, da, db, h⟩
  cases da with
  | int i =>
    cases db with
    | int j => exact op_sub pins s σ W.H _ _ v u Q I rx ry ⟨i, j, rfl, rfl, h.ok hr (.int _)⟩
    | _ => exact h.elim
  | _ => exact h.elim
theorem ob_fdiv (c : Bool) : OpR X (binaryOp .FloorDiv) (rB X.K Γ (binop c .fdiv)) := by
  rintro pins s σ H x y v u Q I rx ry ⟨W, a, b, S, Wx, σ', rfl, hr, da, db, h⟩
  cases da with
  | int i =>
    cases db with
    | int j =>
      simp only [binop] at h
      split at h
      · rename_i hl
        refine op_fdivW pins s σ W.H _ _ v u Q I rx ry ⟨i, j, rfl, rfl, ⟨hl.1, ?_⟩, h.ok hr (.int _)⟩
        have : j.natAbs < 2 ^ 9000 := Nat.lt_of_lt_of_le (show j.natAbs < 2 ^ 64 by omega) (Nat.pow_le_pow_right (by decide) (by decide))
        by_cases z : j.natAbs = 0
        · omega
        · exact (Nat.log2_lt z).mpr this
      · exact h.elim
    | _ => exact h.elim
  | _ => exact h.elim
theorem ob_mod (c : Bool) : OpR X (binaryOp .Mod) (rB X.K Γ (binop c .mod)) := by
  rintro pins s σ H x y v u Q I rx ry ⟨W, a, b, S, Wx, σ', rfl, hr, da, db, h⟩
  cases da with
  | int i =>
    cases db with
    | int j =>
      simp only [binop] at h
      split at h
      · rename_i hl
        exact op_mod pins s σ W.H _ _ v u Q I rx ry ⟨i, j, rfl, rfl, hl, h.ok hr (.int _)⟩
      · exact h.elim
    | _ => exact h.elim
  | _ => exact h.elim
theorem ob_pow (c : Bool) : OpR X (binaryOp .Pow) (rB X.K Γ (binop c .pow)) := by
  rintro pins s σ H x y v u Q I rx ry ⟨W, a, b, S, Wx, σ', rfl, hr, da, db, h⟩
  cases da with
  | int i =>
    cases db with
    | int j =>
      simp only [binop] at h
      split at h
      · rename_i hl
        exact op_pow pins s σ W.H _ _ v u Q I rx ry ⟨i, j, rfl, rfl, hl, h.ok hr (.int _)⟩
      · exact h.elim
    | _ => exact h.elim
  | _ => exact h.elim

/-- t * k, the tuple itself -/
theorem tuple_mulSame (l : Addr) (items : Array Value) (n : Nat) (dd : Option Addr) (sl : Array (Option Value)) (x : Int) (u : Tok) (c0 : (decide (x < -(2 ^ 63)) || decide (x ≥ 2 ^ 63)) = false) (c1 : (items.isEmpty || x == 1) = true) :
    Meets (Builtin.«tuple.__mul__» ⟨[.ref l, .int x u], []⟩) (fun _ R s => s.heap.get? l = some { cls := .type "tuple", dict := dd, data := .seq items n, slots := sl } ∧
      R (.ok (.ret (Value.ref l))) s) :=
  .of_wp fun prog w A R s h => by
    obtain ⟨hp, g, d, tk, os⟩ := s
    obtain ⟨hl, h⟩ := h
    have f1 := AutoSeq1.idx_int
    wp_walk using wpAny_loadPart' hl
    repeat (first
      | (refine wpAny_ite_false (decide_eq_false (by rw [c0]; exact Bool.false_ne_true)) ?_; wp_walk using wpAny_loadPart' hl)
      | (refine wpAny_ite_true (decide_eq_true c1) ?_; wp_walk using wpAny_loadPart' hl))
    exact ⟨_, rfl, h⟩
/-- t * k for k ≤ 0 -/
theorem tuple_mulNone (l : Addr) (items : Array Value) (n : Nat) (dd : Option Addr) (sl : Array (Option Value)) (x : Int) (u : Tok) (c0 : (decide (x < -(2 ^ 63)) || decide (x ≥ 2 ^ 63)) = false) (c1 : (items.isEmpty || x == 1) = false) (c2 : (decide (x ≤ 0) || items.isEmpty) = true) :
    Meets (Builtin.«tuple.__mul__» ⟨[.ref l, .int x u], []⟩) (fun _ R s => s.heap.get? l = some { cls := .type "tuple", dict := dd, data := .seq items n, slots := sl } ∧
      R (.ok (.ret (Value.ref s.heap.objs.size))) { s with heap := s.heap.push { cls := Value.type "tuple", data := Data.seq #[] }, toks := s.toks }) :=
  .of_wp fun prog w A R s h => by
    obtain ⟨hp, g, d, tk, os⟩ := s
    obtain ⟨hl, h⟩ := h
    have f1 := AutoSeq1.idx_int
    wp_walk using wpAny_loadPart' hl
    repeat (first
      | (refine wpAny_ite_false (decide_eq_false (by rw [c0]; exact Bool.false_ne_true)) ?_; wp_walk using wpAny_loadPart' hl)
      | (refine wpAny_ite_false (decide_eq_false (by rw [c1]; exact Bool.false_ne_true)) ?_; wp_walk using wpAny_loadPart' hl)
      | (refine wpAny_ite_true (decide_eq_true c2) ?_; wp_walk using wpAny_loadPart' hl))
    exact ⟨_, rfl, h⟩
end
end Ev

set_option exponentiation.threshold 10000
/-! Part C2: products, comparisons, membership, items, slices. -/
namespace Ev
open PySem PySem.Spec PyProof.Rows L2

section
variable {X : Cx} {Γ : Gm}
def rRepA (K : PySem.W.Frag) : R2 := fun x y H Q => ∃ l k xs, x = .ref l ∧ y = .int k ∧ SqT K H l xs ∧ 0 ≤ k ∧ k < 2 ^ 63 ∧ xs.length * k.toNat ≤ sizeLine ∧
  ((xs = [] ∨ k = 1) → Q (.ref l) H) ∧ (¬ (xs = [] ∨ k = 1) → ∀ p, H p = none → Q (.ref p) (upd H p (.tup (List.replicate k.toNat xs).flatten)))
theorem op_repA : OpR X (binaryOp .Mult) (rRepA X.K) := by
  intro pins s σ H x y v u Q I rx ry h
  obtain ⟨l, k, xs, rfl, rfl, hT, h1, h2, hz, q1, q2⟩ := h
  cases rx
  obtain ⟨t, rfl⟩ := ry
  obtain ⟨its, r, ⟨⟨cls, dd, data, sl⟩, ho, hc, n, hd⟩, hs⟩ := I.tuple hT
  simp only at hc hd
  subst hc hd
  have hle : its.length = xs.length := r.length.symm
  have hsz0 : its.toArray.size = xs.length := by rw [List.size_toArray, hle]
  have hie : its.toArray.isEmpty = xs.isEmpty := by
    cases its with
    | nil => cases xs with
      | nil => rfl
      | cons => simp at hle
    | cons => cases xs with
      | nil => simp at hle
      | cons => rfl
  have c0 : (decide (k < -(2 ^ 63)) || decide (k ≥ 2 ^ 63)) = false := by
    rw [decide_eq_false (by omega), decide_eq_false (by omega)] <;> rfl
  by_cases hs1 : xs = [] ∨ k = 1
  · have c1 : (its.toArray.isEmpty || k == 1) = true := by
      rw [hie]
      rcases hs1 with e | e
      · subst e; rfl
      · subst e; simp
    exact wpAny_binaryOp_repeat_ref (T := "tuple") (U := "int") (by decide) ⟨_, ho, rfl⟩ (fun s' => typeIs_int s' k t) noFill_tuple_mul F.fills_int_mul F.slot_int_rmul repeat_tuple F.slot_int_index.lookup
      (call_meets F.slot_int_rmul (typeIs_int s k t) F.entry_int_rmul (F.args_int_rmul_2 _ _) (int_rmul_tuple k t l its.toArray n dd sl)
        ⟨ho, rfl, ⟨_, ho, rfl⟩, call_meets F.slot_tuple_mul ⟨_, ho, rfl⟩ F.entry_tuple_mul (F.args_tuple_mul_2 _ _) (tuple_mulSame l its.toArray n dd sl k t c0 c1) ⟨ho, ⟨.ref l, H, I, rfl, q1 hs1⟩⟩⟩)
  · have hne : xs ≠ [] := fun e => hs1 (.inl e)
    have hi : its.toArray.isEmpty = false := by
      rw [hie]
      cases xs with
      | nil => exact absurd rfl hne
      | cons a b => rfl
    have c1 : (its.toArray.isEmpty || k == 1) = false := by
      rw [hi, Bool.false_or]
      exact beq_eq_false_iff_ne.mpr fun e => hs1 (.inr e)
    by_cases hk : k ≤ 0
    · have hk0 : k = 0 := by omega
      have c2 : (decide (k ≤ 0) || its.toArray.isEmpty) = true := by rw [decide_eq_true hk]; rfl
      refine wpAny_binaryOp_repeat_ref (T := "tuple") (U := "int") (by decide) ⟨_, ho, rfl⟩ (fun s' => typeIs_int s' k t) noFill_tuple_mul F.fills_int_mul F.slot_int_rmul repeat_tuple F.slot_int_index.lookup
        (call_meets F.slot_int_rmul (typeIs_int s k t) F.entry_int_rmul (F.args_int_rmul_2 _ _) (int_rmul_tuple k t l its.toArray n dd sl)
          ⟨ho, rfl, ⟨_, ho, rfl⟩, call_meets F.slot_tuple_mul ⟨_, ho, rfl⟩ F.entry_tuple_mul (F.args_tuple_mul_2 _ _) (tuple_mulNone l its.toArray n dd sl k t c0 c1 c2) ⟨ho, ?_⟩⟩)
      have q := q2 hs1 _ (I.hok.fresh (Nat.le_refl _))
      subst hk0
      refine ⟨.ref s.heap.objs.size, _, I.laid (t' := s.toks) (o := .tup (List.replicate (0 : Int).toNat xs).flatten) (fun b ob q => Heap.get?_push_of_some _ q) (Nat.le_refl _) ?_, rfl, q⟩
      exact ⟨by simp, [], .nil, IsTup.new _ _⟩
    · have c2 : (decide (k ≤ 0) || its.toArray.isEmpty) = false := by
        rw [hi, Bool.or_false]
        exact decide_eq_false hk
      have hm : ((its.toArray.size : Nat) : Int) * k ≤ (sizeLine : Int) := by
        rw [hsz0]
        have e : ((xs.length * k.toNat : Nat) : Int) = (xs.length : Int) * k := by
          rw [Int.natCast_mul, Int.toNat_of_nonneg h1]
        rw [← e]
        exact Int.ofNat_le.mpr hz
      have hm' : ((its.toArray.size : Nat) : Int) * k ≤ 16777216 := by rw [sizeLine_eq] at hm; exact hm
      have flen : (List.replicate k.toNat its).flatten.length ≤ sizeLine := by
        rw [PyProof.Rows.lm_len_rep_flat, hle, Nat.mul_comm]
        exact hz
      have c4 : Builtin.Tuple.tupleTooMany (((its.toArray.size : Nat) : Int) * k) = false := by
        unfold Builtin.Tuple.tupleTooMany
        exact decide_eq_false (by omega)
      refine wpAny_binaryOp_repeat_ref (T := "tuple") (U := "int") (by decide) ⟨_, ho, rfl⟩ (fun s' => typeIs_int s' k t) noFill_tuple_mul F.fills_int_mul F.slot_int_rmul repeat_tuple F.slot_int_index.lookup
        (call_meets F.slot_int_rmul (typeIs_int s k t) F.entry_int_rmul (F.args_int_rmul_2 _ _) (int_rmul_tuple k t l its.toArray n dd sl)
          ⟨ho, rfl, ⟨_, ho, rfl⟩, call_meets F.slot_tuple_mul ⟨_, ho, rfl⟩ F.entry_tuple_mul (F.args_tuple_mul_2 _ _) (tuple_mulW l its.toArray n dd sl k t c0 c1 c2 (by omega) c4 (by rw [size_rep, List.size_toArray]; exact flen)) ⟨ho, ?_⟩⟩)
      rw [size_rep]
      refine ⟨.ref s.heap.objs.size, _, I.laid (t' := s.toks) (o := .tup (List.replicate k.toNat xs).flatten) (fun b ob q => Heap.get?_push_of_some _ q) (Nat.le_refl _) ?_, rfl, q2 hs1 _ (I.hok.fresh (Nat.le_refl _))⟩
      exact ⟨by rw [PyProof.Rows.lm_len_rep_flat, Nat.mul_comm]; exact hz, _, r.rep k.toNat, IsTup.new _ _⟩

theorem ob_mulL {c : Bool} {W : Wd} {S : Store} {Wx : WX} {σ σ' : L2.St} {pins : List (Addr × Obj)} {s : Shared} {a : PV} {k : Int} {x y : V} {v u : Value} {Q : VK} (I : Inv X pins σ W.H s) (rx : RelV x v) (ry : RelV y u) (hr : Rl X.K Γ W S) (da : Den X.K Γ W a x) (db : Den X.K Γ W (.int k) y)
    (h : Post X.K Γ Wx σ' (Den X.K Γ) (match lstOf S a with
    | some a => if -(2 ^ 63) ≤ k ∧ k < 2 ^ 63 ∧ a.length * k.toNat ≤ sizeLine then fin c (List.replicate k.toNat a).flatten S else .bad
    | _ => .bad) W Q) : wpAny (model X.prog X.w) X.A (binaryOp .Mult v u) (EP X pins σ Q) X.xe s := by
  cases ea : lstOf S a with
  | none => rw [ea] at h; exact h.elim
  | some xs =>
    rw [ea] at h
    dsimp only at h
    split at h
    · rename_i hl
      obtain ⟨p, vs, rfl, hp, dl⟩ := lstOf_den hr da ea
      cases db.intv
      exact op_rep pins s σ W.H _ _ v u Q I rx ry ⟨p, k, vs, rfl, rfl, hp, hl.1, hl.2.1, by rw [← dl.length]; exact hl.2.2, fun r hn => h.fin hr hn (dl.repl _)⟩
    · exact h.elim
theorem ob_mul (c : Bool) : OpR X (binaryOp .Mult) (rB X.K Γ (binop c .mul)) := by
  rintro pins s σ H x y v u Q I rx ry ⟨W, a, b, S, Wx, σ', rfl, hr, da, db, h⟩
  cases da with
  | int i =>
    cases db with
    | int j =>
      simp only [binop] at h
      split at h
      · rename_i hl
        exact op_mul pins s σ W.H _ _ v u Q I rx ry ⟨i, j, rfl, rfl, hl, h.ok hr (.int _)⟩
      · exact h.elim
    | _ => exact h.elim
  | @tup p xs vs ht dl =>
    cases db with
    | int k =>
      simp only [binop] at h
      split at h
      · rename_i hl
        refine op_repA pins s σ W.H _ _ v u Q I rx ry ⟨p, k, vs, rfl, rfl, ht, hl.1, hl.2.1, by rw [← dl.length]; exact hl.2.2, fun e => ?_, fun _ r hn => h.tup hr hn (dl.repl _)⟩
        have e2 : (List.replicate k.toNat xs).flatten = xs := by
          rcases e with e | e
          · have : xs = [] := List.eq_nil_of_length_eq_zero (by rw [dl.length, e]; rfl)
            subst this
            simp
          · subst e; simp
        rw [e2] at h
        exact h.ok hr (.tup ht dl)
      · exact h.elim
    | _ => exact h.elim
  | non => cases db <;> exact h.elim
  | bl _ => cases db <;> exact h.elim
  | obj _ => cases db <;> exact h.elim
  | fz _ => cases db <;> exact h.elim
  | str _ => cases db <;> exact h.elim
  | lv h1 h2 h3 =>
    cases db with
    | int k => exact ob_mulL I rx ry hr (.lv h1 h2 h3) (.int k) h
    | _ => exact h.elim
  | ref e =>
    cases db with
    | int k => exact ob_mulL I rx ry hr (.ref e) (.int k) h
    | _ => exact h.elim

/-! ### == -/
mutual
theorem dOf_dp {K : PySem.W.Frag} {W : Wd} {S : Store} : ∀ {x : PV} {v : V} {d : PyData}, Den K Γ W x v → dOf S x = some d → Dp K W.H v d
  | _, _, _, .non, e => by cases e; exact .non
  | _, _, _, .bl b, e => by cases e; exact .bl b
  | _, _, _, .int i, e => by cases e; exact .int i
  | _, _, _, .str s, e => by cases e; exact .str _
  | _, _, _, .tup a b, e => by
    simp only [dOf, Option.map_eq_some_iff] at e
    obtain ⟨ds, h, rfl⟩ := e
    exact .tup a (dOfL_dp b h)
  | _, _, _, .lv a b c, e => by
    simp only [dOf, Option.map_eq_some_iff] at e
    obtain ⟨ds, h, rfl⟩ := e
    exact .lst (.inl (.inl b)) (dOfL_dp c h)
  | _, _, _, .ref _, e => by cases e
  | _, _, _, .obj _, e => by cases e
  | _, _, _, .fz _, e => by cases e
theorem dOfL_dp {K : PySem.W.Frag} {W : Wd} {S : Store} : ∀ {xs : List PV} {vs : List V} {ds : List PyData}, DenL K Γ W xs vs → dOfL S xs = some ds → DpAll K W.H vs ds
  | _, _, _, .nil, e => by cases e; exact .nil
  | _, _, _, .cons a b, e => by
    simp only [dOfL] at e
    split at e
    · rename_i d ds h1 h2
      cases e
      exact .cons (dOf_dp a h1) (dOfL_dp b h2)
    · cases e
end
theorem dpInts {K : PySem.W.Frag} {H : Hp} : ∀ ns : List Int, DpAll K H (ns.map V.int) (ns.map PyData.int)
  | [] => .nil
  | n :: ns => .cons (.int n) (dpInts ns)
theorem dOf1_dp {K : PySem.W.Frag} {W : Wd} {S : Store} (hr : Rl K Γ W S) {x : PV} {v : V} {d : PyData} (h : Den K Γ W x v) (e : dOf1 S x = some d) : Dp K W.H v d := by
  cases h with
  | @ref n a q =>
    simp only [dOf1] at e
    split at e
    · rename_i zs h
      simp only [Option.map_eq_some_iff] at e
      obtain ⟨ds, h', rfl⟩ := e
      obtain ⟨vs, h1, h2⟩ := hr.cell n a _ q h
      exact .lst (.inl (.inl h1)) (dOfL_dp h2 h')
    · cases e
  | fz a => cases e; exact .lst a.sq (dpInts _)
  | non => exact dOf_dp (Γ := Γ) (W := W) (S := S) (.non) e
  | bl b => exact dOf_dp (Γ := Γ) (W := W) (S := S) (.bl b) e
  | int b => exact dOf_dp (Γ := Γ) (W := W) (S := S) (.int b) e
  | str b => exact dOf_dp (Γ := Γ) (W := W) (S := S) (.str b) e
  | tup a b => exact dOf_dp (.tup a b) e
  | lv a b c => exact dOf_dp (.lv a b c) e
  | obj i => cases e
theorem sOf_dec (a b : Codes) : decide (V.str (sOf a) = V.str (sOf b)) = decide (a = b) := by
  by_cases h : a = b
  · subst h; simp
  · rw [decide_eq_false h]
    exact decide_eq_false fun e => h (sOf_inj (V.str.inj e))
/-- the answer of a comparison -/
def rCm (K : PySem.W.Frag) (Γ : Gm) (f : PV → PV → Store → Option Bool) : R2 := fun x y H Q => ∃ W a b S k, W.H = H ∧ Rl K Γ W S ∧ Den K Γ W a x ∧ Den K Γ W b y ∧ f a b S = some k ∧ Q (.bl k) H
theorem oc_eqD {pins : List (Addr × Obj)} {s : Shared} {σ : L2.St} {W : Wd} {S : Store} {a b : PV} {x y : V} {v u : Value} {k : Bool} {Q : VK} (hu : X.A.units + 64 < cLine) (I : Inv X pins σ W.H s) (rx : RelV x v) (ry : RelV y u) (hr : Rl X.K Γ W S) (da : Den X.K Γ W a x) (db : Den X.K Γ W b y)
    (e : (match dOf1 S a, dOf1 S b with
    | some d, some e => if (SeqAt.shaped d && SeqAt.shaped e) = true then some (PyData.eqv d e) else none
    | _, _ => none) = some k) : (Q (.bl k) W.H → wpAny (model X.prog X.w) X.A (compareOp .Eq v u) (EP X pins σ Q) X.xe s) ∧ (Q (.bl (!k)) W.H → wpAny (model X.prog X.w) X.A (compareOp .NotEq v u) (EP X pins σ Q) X.xe s) := by
  cases ea : dOf1 S a with
  | none => rw [ea] at e; cases e
  | some d =>
    cases eb : dOf1 S b with
    | none => rw [ea, eb] at e; cases e
    | some d' =>
      rw [ea, eb] at e
      dsimp only at e
      split at e
      · rename_i hs
        rw [Bool.and_eq_true] at hs
        cases e
        exact ⟨fun q => op_eqD hu pins s σ W.H x y v u Q I rx ry ⟨d, d', dOf1_dp hr da ea, dOf1_dp hr db eb, hs.1, hs.2, q⟩,
          fun q => op_neD hu pins s σ W.H x y v u Q I rx ry ⟨d, d', dOf1_dp hr da ea, dOf1_dp hr db eb, hs.1, hs.2, q⟩⟩
      · cases e
theorem oc_both (hu : X.A.units + 64 < cLine) {pins : List (Addr × Obj)} {s : Shared} {σ : L2.St} {W : Wd} {S : Store} {a b : PV} {x y : V} {v u : Value} {k : Bool} {Q : VK} (I : Inv X pins σ W.H s) (rx : RelV x v) (ry : RelV y u) (hr : Rl X.K Γ W S) (da : Den X.K Γ W a x) (db : Den X.K Γ W b y)
    (e : eqOp S a b = some k) : (Q (.bl k) W.H → wpAny (model X.prog X.w) X.A (compareOp .Eq v u) (EP X pins σ Q) X.xe s) ∧ (Q (.bl (!k)) W.H → wpAny (model X.prog X.w) X.A (compareOp .NotEq v u) (EP X pins σ Q) X.xe s) := by
  have sc : ∀ k', scal x y = true → decide (x = y) = k' → k' = k → (Q (.bl k) W.H → wpAny (model X.prog X.w) X.A (compareOp .Eq v u) (EP X pins σ Q) X.xe s) ∧ (Q (.bl (!k)) W.H → wpAny (model X.prog X.w) X.A (compareOp .NotEq v u) (EP X pins σ Q) X.xe s) := by
    intro k' h1 h2 h3
    subst h3
    exact ⟨fun q => op_eq pins s σ W.H x y v u Q I rx ry ⟨h1, by rw [h2]; exact q⟩, fun q => op_ne pins s σ W.H x y v u Q I rx ry ⟨h1, by rw [h2]; exact q⟩⟩
  cases da with
  | non => cases db with
    | tup h1 h2 => exact oc_eqD hu I rx ry hr .non (.tup h1 h2) e
    | lv h1 h2 h3 => exact oc_eqD hu I rx ry hr .non (.lv h1 h2 h3) e
    | ref h1 => exact oc_eqD hu I rx ry hr .non (.ref h1) e
    | obj h1 => exact oc_eqD hu I rx ry hr .non (.obj h1) e
    | fz h1 => exact oc_eqD hu I rx ry hr .non (.fz h1) e
    | _ => exact sc _ rfl rfl (by cases e; simp)
  | bl i => cases db with
    | int j => exact oc_eqD hu I rx ry hr (.bl i) (.int j) e
    | tup h1 h2 => exact oc_eqD hu I rx ry hr (.bl i) (.tup h1 h2) e
    | lv h1 h2 h3 => exact oc_eqD hu I rx ry hr (.bl i) (.lv h1 h2 h3) e
    | ref h1 => exact oc_eqD hu I rx ry hr (.bl i) (.ref h1) e
    | obj h1 => exact oc_eqD hu I rx ry hr (.bl i) (.obj h1) e
    | fz h1 => exact oc_eqD hu I rx ry hr (.bl i) (.fz h1) e
    | _ => exact sc _ rfl rfl (by cases e; simp)
  | int i => cases db with
    | bl j => exact oc_eqD hu I rx ry hr (.int i) (.bl j) e
    | tup h1 h2 => exact oc_eqD hu I rx ry hr (.int i) (.tup h1 h2) e
    | lv h1 h2 h3 => exact oc_eqD hu I rx ry hr (.int i) (.lv h1 h2 h3) e
    | ref h1 => exact oc_eqD hu I rx ry hr (.int i) (.ref h1) e
    | obj h1 => exact oc_eqD hu I rx ry hr (.int i) (.obj h1) e
    | fz h1 => exact oc_eqD hu I rx ry hr (.int i) (.fz h1) e
    | _ => exact sc _ rfl rfl (by cases e; simp)
  | str i => cases db with
    | tup h1 h2 => exact oc_eqD hu I rx ry hr (.str i) (.tup h1 h2) e
    | lv h1 h2 h3 => exact oc_eqD hu I rx ry hr (.str i) (.lv h1 h2 h3) e
    | ref h1 => exact oc_eqD hu I rx ry hr (.str i) (.ref h1) e
    | obj h1 => exact oc_eqD hu I rx ry hr (.str i) (.obj h1) e
    | fz h1 => exact oc_eqD hu I rx ry hr (.str i) (.fz h1) e
    | str j => exact sc _ rfl (sOf_dec i j) (by cases e; rfl)
    | _ => exact sc _ rfl rfl (by cases e; simp)
  | tup h1 h2 => exact oc_eqD hu I rx ry hr (.tup h1 h2) db (by cases db <;> exact e)
  | lv h1 h2 h3 => exact oc_eqD hu I rx ry hr (.lv h1 h2 h3) db (by cases db <;> exact e)
  | ref h1 => exact oc_eqD hu I rx ry hr (.ref h1) db (by cases db <;> exact e)
  | obj h1 => exact oc_eqD hu I rx ry hr (.obj h1) db (by cases db <;> exact e)
  | fz h1 => exact oc_eqD hu I rx ry hr (.fz h1) db (by cases db <;> exact e)

/-! ### in -/
/-- a written dict with text keys -/
structure KdOk (K : PySem.W.Frag) (w : World) (Γ : Gm) (W : Wd) (d : Addr) (kvs : List (Codes × PV)) : Prop where
  ex : ∃ es n, KDict K w d es n
  get : ∀ s : Codes, ∃ r, PySem.W.nsIn K d (sOf s) = some r ∧ match (kvs.find? fun p => decide (p.1 = s)).map (·.2) with
    | some x => ∃ u v, r = some u ∧ RelV v u ∧ Den K Γ W x v
    | none => r = none
theorem den_flat {K : PySem.W.Frag} {W : Wd} {x : PV} {v : V} (d : Den K Γ W x v) (h : flat x = true) : flatV v = true := by
  cases d <;> first | rfl | cases h
theorem feq_ok {K : PySem.W.Frag} {W : Wd} {x y : PV} {v u : V} (d : Den K Γ W x v) (d' : Den K Γ W y u) (hx : flat x = true) (hy : flat y = true) : eqV v u = feq x y := by
  cases d <;> cases d' <;> first | rfl | (cases hx; done) | (cases hy; done) | skip
  show ((sOf _) == (sOf _)) = _
  rename_i a b
  show decide (sOf a = sOf b) = (a == b)
  by_cases h : a = b
  · subst h; simp
  · rw [decide_eq_false fun e => h (sOf_inj e)]
    simp [h]
theorem any_feq {K : PySem.W.Frag} {W : Wd} {x : PV} {v : V} (d : Den K Γ W x v) (hx : flat x = true) : ∀ {xs : List PV} {vs : List V}, DenL K Γ W xs vs → xs.all flat = true → vs.all flatV = true ∧ inV v vs = xs.any fun z => feq z x
  | _, _, .nil, _ => ⟨rfl, rfl⟩
  | _, _, .cons a b, h => by
    rw [List.all_cons, Bool.and_eq_true] at h
    obtain ⟨h1, h2⟩ := any_feq d hx b h.2
    refine ⟨by rw [List.all_cons, den_flat a h.1, h1]; rfl, ?_⟩
    unfold inV at h2 ⊢
    rw [List.any_cons, List.any_cons, h2, feq_ok a d h.1 hx]
theorem oc_in {P : Pg} {pins : List (Addr × Obj)} {s : Shared} {σ : L2.St} {W : Wd} {S : Store} {a b : PV} {x y : V} {v u : Value} {k : Bool} {Q : VK} (hk : ∀ i kvs, P.kd i = some kvs → KdOk X.K X.w Γ W (Γ.oA i) kvs) (I : Inv X pins σ W.H s) (rx : RelV x v) (ry : RelV y u) (hr : Rl X.K Γ W S) (da : Den X.K Γ W a x) (db : Den X.K Γ W b y)
    (e : inOp P S a b = some k) : (Q (.bl k) W.H → wpAny (model X.prog X.w) X.A (compareOp .In v u) (EP X pins σ Q) X.xe s) ∧ (Q (.bl (!k)) W.H → wpAny (model X.prog X.w) X.A (compareOp .NotIn v u) (EP X pins σ Q) X.xe s) := by
  have sq : ∀ (_ : (match seqOf S b with
    | some xs => if (flat a && xs.all flat) = true then some (xs.any fun z => feq z a) else none
    | none => none) = some k), (Q (.bl k) W.H → wpAny (model X.prog X.w) X.A (compareOp .In v u) (EP X pins σ Q) X.xe s) ∧ (Q (.bl (!k)) W.H → wpAny (model X.prog X.w) X.A (compareOp .NotIn v u) (EP X pins σ Q) X.xe s) := by
    intro e
    cases eb : seqOf S b with
    | none => rw [eb] at e; cases e
    | some xs =>
      rw [eb] at e
      dsimp only at e
      split at e
      · rename_i hs
        rw [Bool.and_eq_true] at hs
        cases e
        obtain ⟨p, vs, rfl, hp, dl⟩ := seqOf_den hr db eb
        obtain ⟨h1, h2⟩ := any_feq da hs.1 dl hs.2
        exact ⟨fun q => op_in_seq pins s σ W.H x _ v u Q I rx ry ⟨p, vs, rfl, hp, den_flat da hs.1, h1, by rw [h2]; exact q⟩,
          fun q => op_notIn_seq pins s σ W.H x _ v u Q I rx ry ⟨p, vs, rfl, hp, den_flat da hs.1, h1, by rw [h2]; exact q⟩⟩
      · cases e
  cases db with
  | str t =>
    simp only [inOp] at e
    split at e
    · rename_i c
      cases e
      cases da.strv
      exact ⟨fun q => op_in_sign pins s σ W.H _ _ v u Q I rx ry ⟨c, sOf t, rfl, rfl, q⟩, fun q => op_notIn_sign pins s σ W.H _ _ v u Q I rx ry ⟨c, sOf t, rfl, rfl, q⟩⟩
    · cases e
  | obj i =>
    simp only [inOp] at e
    split at e
    · rename_i kvs t h1
      cases e
      obtain ⟨⟨es, n, D⟩, g⟩ := hk i kvs h1
      cases da.strv
      obtain ⟨r, hr1, hr2⟩ := g t
      have hk' : r.isSome = kvs.any fun p => decide (p.1 = t) := by
        have hf : (kvs.find? fun p => decide (p.1 = t)).isSome = kvs.any fun p => decide (p.1 = t) := by
          rw [Bool.eq_iff_iff]
          simp [List.any_eq_true]
        rw [← hf]
        cases e2 : kvs.find? fun p => decide (p.1 = t) with
        | none => rw [e2] at hr2; simp only [Option.map_none] at hr2; rw [hr2]; rfl
        | some q =>
          rw [e2] at hr2
          obtain ⟨u', v', h, _⟩ := hr2
          rw [h]; rfl
      exact ⟨fun q => op_in_kd D pins s σ W.H _ _ v u Q I rx ry ⟨sOf t, r, rfl, rfl, hr1, by rw [hk']; exact q⟩,
        fun q => op_notIn_kd D pins s σ W.H _ _ v u Q I rx ry ⟨sOf t, r, rfl, rfl, hr1, by rw [hk']; exact q⟩⟩
    · cases e
  | tup h1 h2 => exact sq e
  | lv h1 h2 h3 => exact sq e
  | ref h1 => exact sq e
  | fz h1 => exact sq e
  | non => exact sq e
  | bl _ => exact sq e
  | int _ => exact sq e

def copOf : COp → CmpOp
  | .eq => .Eq | .ne => .NotEq | .lt => .Lt | .le => .LtE | .gt => .Gt | .ge => .GtE | .is => .Is | .isn => .IsNot | .isin => .In | .notin => .NotIn
/-- a comparison -/
theorem oc_cmp {P : Pg} (op : COp) (hu : X.A.units + 64 < cLine) (hk : ∀ W i kvs, P.kd i = some kvs → KdOk X.K X.w Γ W (Γ.oA i) kvs) : OpR X (compareOp (copOf op)) (rCm X.K Γ fun a b S => cmpOp P S op a b) := by
  rintro pins s σ H x y v u Q I rx ry ⟨W, a, b, S, k, rfl, hr, da, db, e, q⟩
  cases op with
  | eq => exact (oc_both hu I rx ry hr da db e).1 q
  | ne =>
    simp only [cmpOp, Option.map_eq_some_iff] at e
    obtain ⟨k', e, rfl⟩ := e
    exact (oc_both hu I rx ry hr da db e).2 q
  | isin => exact (oc_in (hk W) I rx ry hr da db e).1 q
  | notin =>
    simp only [cmpOp, Option.map_eq_some_iff] at e
    obtain ⟨k', e, rfl⟩ := e
    exact (oc_in (hk W) I rx ry hr da db e).2 q
  | lt =>
    cases da with
    | int i => cases db with
      | int j => cases e; exact op_lt pins s σ W.H _ _ v u Q I rx ry ⟨i, j, rfl, rfl, q⟩
      | _ => cases e
    | _ => cases e
  | le =>
    cases da with
    | int i => cases db with
      | int j => cases e; exact op_le pins s σ W.H _ _ v u Q I rx ry ⟨i, j, rfl, rfl, q⟩
      | _ => cases e
    | _ => cases e
  | gt =>
    cases da with
    | int i => cases db with
      | int j => cases e; exact op_gt pins s σ W.H _ _ v u Q I rx ry ⟨i, j, rfl, rfl, q⟩
      | _ => cases e
    | _ => cases e
  | ge =>
    cases da with
    | int i => cases db with
      | int j => cases e; exact op_ge pins s σ W.H _ _ v u Q I rx ry ⟨i, j, rfl, rfl, q⟩
      | _ => cases e
    | _ => cases e
  | is =>
    cases db with
    | non =>
      refine op_isN pins s σ W.H _ _ v u Q I rx ry ⟨rfl, ?_⟩
      cases da <;> (cases e; exact q)
    | _ => cases da <;> cases e
  | isn =>
    cases db with
    | non =>
      refine op_notN pins s σ W.H _ _ v u Q I rx ry ⟨rfl, ?_⟩
      cases da <;> (cases e; exact q)
    | _ => cases da <;> cases e

/-! ### truth -/
theorem truV {K : PySem.W.Frag} {W : Wd} {S : Store} {a : PV} {x : V} {k : Bool} (hr : Rl K Γ W S) (da : Den K Γ W a x) (e : tru S a = some k) : TruV K x W.H k := by
  cases da with
  | non => cases e; rfl
  | bl b => cases e; rfl
  | int i => cases e; rfl
  | str t =>
    simp only [tru] at e
    split at e
    · rename_i hl
      cases e
      refine ⟨by rw [sOf_len]; exact hl, ?_⟩
      rw [sOf_len]
      cases t with
      | nil => rfl
      | cons a b =>
        show true = (((b.length + 1 : Nat) : Int) != 0)
        rw [Bool.eq_iff_iff]
        simp
        omega
    · cases e
  | @tup p xs vs h1 h2 => cases e; exact .inr (.inl ⟨vs, h1, by rw [h2.isEmpty]⟩)
  | @lv p xs vs h1 h2 h3 => cases e; exact .inl ⟨vs, .inl (.inl h2), by rw [h3.isEmpty]⟩
  | @fz p ns h1 => cases e; exact .inl ⟨_, h1.sq, by simp⟩
  | @ref n p h1 =>
    simp only [tru] at e
    split at e
    · rename_i xs h
      cases e
      obtain ⟨vs, g1, g2⟩ := hr.cell n p _ h1 h
      exact .inl ⟨vs, .inl (.inl g1), by rw [g2.isEmpty]⟩
    · rename_i xs h
      cases e
      obtain ⟨vs, g1, g2⟩ := hr.cell n p _ h1 h
      exact .inr (.inr ⟨vs, g1, by cases g2 <;> rfl⟩)
    · cases e
  | obj i => cases e

/-! ### items -/
theorem ix_ok {P : Pg} (hk : ∀ W i kvs, P.kd i = some kvs → KdOk X.K X.w Γ W (Γ.oA i) kvs) : IxR X (fun x y H Q => ∃ W a b S Wx σ', W.H = H ∧ Rl X.K Γ W S ∧ Den X.K Γ W a x ∧ Den X.K Γ W b y ∧ Post X.K Γ Wx σ' (Den X.K Γ) (opt (ixOp P S a b) S) W Q) := by
  rintro value slice pins s σ H x y v u Q I rx ry ⟨W, a, b, S, Wx, σ', rfl, hr, da, db, h⟩ hs
  obtain ⟨c, e, h'⟩ := h.opt
  clear h
  have sq : (match b with | .int i => (match seqOf S a with | some xs => atI xs i | none => none) | _ => none) = some c → wpAny (model X.prog X.w) X.A (subscriptTail value slice v u) (EP X pins σ Q) X.xe s := by
    intro e
    cases db with
    | int i =>
      dsimp only at e
      cases ea : seqOf S a with
      | none => rw [ea] at e; cases e
      | some xs =>
        rw [ea] at e
        dsimp only at e
        obtain ⟨p, vs, rfl, hp, dl⟩ := seqOf_den hr da ea
        unfold atI at e
        rw [Option.bind_eq_some_iff] at e
        obtain ⟨j, e1, e2⟩ := e
        obtain ⟨z, hz, dz⟩ := dl.get e2
        have at' : atI vs i = some z := by unfold atI; rw [← dl.length, e1]; exact hz
        rcases hp with hp | hp
        · exact ix_list value slice pins s σ W.H _ _ v u Q I rx ry ⟨p, vs, i, z, rfl, rfl, hp, at', h'.ok hr dz⟩ hs
        · exact ix_tup value slice pins s σ W.H _ _ v u Q I rx ry ⟨p, vs, i, z, rfl, rfl, hp, at', h'.ok hr dz⟩ hs
    | _ => cases e
  cases da with
  | str t =>
    cases db with
    | int i =>
      simp only [ixOp] at e
      split at e
      · rename_i hl
        rw [Option.map_eq_some_iff] at e
        obtain ⟨z, e2, rfl⟩ := e
        exact ix_str value slice pins s σ W.H _ _ v u Q I rx ry ⟨sOf t, i, z, rfl, rfl, by rw [sOf_len]; exact hl, e2, h'.ok hr (.str [z])⟩ hs
      · cases e
    | _ => cases e
  | obj n =>
    cases db with
    | str t =>
      simp only [ixOp] at e
      split at e
      · rename_i kvs h1
        obtain ⟨⟨es, m, D⟩, g⟩ := hk W n kvs h1
        obtain ⟨r, hr1, hr2⟩ := g t
        rw [e] at hr2
        obtain ⟨u', v', rfl, rv, dv⟩ := hr2
        exact ix_kdict value slice pins s σ W.H _ _ v u Q I rx ry ⟨Γ.oA n, sOf t, v', rfl, rfl, ⟨es, m, u', D.at_, D.lit, hr1, rv⟩, h'.ok hr dv⟩ hs
      · cases e
    | int i => exact sq e
    | _ => cases e
  | tup h1 h2 => exact sq (by cases db <;> exact e)
  | lv h1 h2 h3 => exact sq (by cases db <;> exact e)
  | ref h1 => exact sq (by cases db <;> exact e)
  | fz h1 => exact sq (by cases db <;> exact e)
  | non => exact sq (by cases db <;> exact e)
  | bl _ => exact sq (by cases db <;> exact e)
  | int _ => exact sq (by cases db <;> exact e)

/-! ### slices -/
theorem DenL.cut {K : PySem.W.Frag} {W : Wd} {xs : List PV} {vs : List V} (d : DenL K Γ W xs vs) (lo hi : Option Int) : DenL K Γ W (cut xs lo hi) (cutV vs lo hi) := by
  unfold Ev.cut cutV
  rw [← d.length]
  exact (d.drop _).take _
theorem cut_all {α : Type} {xs : List α} {lo hi : Option Int} (h : HT.sIx xs.length 0 lo = 0 ∧ HT.sIx xs.length xs.length hi = xs.length) : cut xs lo hi = xs := by
  unfold cut
  rw [h.1, h.2]
  simp
theorem sl_ok (c : Bool) : SlR X (fun x lo hi H Q => ∃ W a S Wx σ', W.H = H ∧ Rl X.K Γ W S ∧ Den X.K Γ W a x ∧ Post X.K Γ Wx σ' (Den X.K Γ) (slOp c a lo hi S) W Q) := by
  rintro pins s σ H x v vl vu lo hi sl Q I rx hs pl pu ⟨W, a, S, Wx, σ', rfl, hr, da, h⟩
  have sq : (∀ xs, a ≠ .tup xs) → Post X.K Γ Wx σ' (Den X.K Γ) (match seqOf S a with
    | some xs => fin c (cut xs lo hi) S
    | none => .bad) W Q → ∃ T id, typeLookup (.type T) "__getitem__" = pure (some (.builtin id)) ∧ s.TypeIs v T ∧ wpAny (model X.prog X.w) X.A (getItem v (.ref sl)) (EP X pins σ Q) X.xe s := by
    intro hn h
    cases ea : seqOf S a with
    | none => rw [ea] at h; exact h.elim
    | some xs =>
      rw [ea] at h
      dsimp only at h
      have lst : ∃ p vs, x = .ref p ∧ SqL X.K W.H p vs ∧ DenL X.K Γ W xs vs := by
        cases da with
        | tup h1 h2 => exact absurd rfl (hn _)
        | lv a b d => cases ea; exact ⟨_, _, rfl, .inl (.inl b), d⟩
        | fz a => cases ea; exact ⟨_, _, rfl, a.sq, DenL.ofInts _⟩
        | @ref n p q =>
          simp only [seqOf] at ea
          split at ea
          · rename_i zs hz
            cases ea
            obtain ⟨vs, h1, h2⟩ := hr.cell n p _ q hz
            exact ⟨p, vs, rfl, .inl (.inl h1), h2⟩
          · cases ea
        | _ => cases ea
      obtain ⟨p, vs, rfl, hp, dl⟩ := lst
      exact sl_list pins s σ W.H _ v vl vu lo hi sl Q I rx hs pl pu ⟨p, vs, rfl, hp, fun q hq => h.fin hr hq (dl.cut lo hi)⟩
  cases da with
  | @tup p xs vs h1 h2 =>
    refine sl_tupA pins s σ W.H _ v vl vu lo hi sl Q I rx hs pl pu ⟨p, vs, rfl, h1, fun e => ?_, fun _ q hq => h.tup hr hq (h2.cut lo hi)⟩
    rw [← h2.length] at e
    simp only [slOp] at h
    rw [cut_all e] at h
    exact h.ok hr (.tup h1 h2)
  | str t =>
    simp only [slOp] at h
    split at h
    · rename_i hl
      refine sl_str pins s σ W.H _ v vl vu lo hi sl Q I rx hs pl pu ⟨sOf t, rfl, by rw [sOf_len]; exact hl, ?_⟩
      have e : cutS (sOf t) lo hi = sOf (cut t lo hi) := by
        unfold cutS cut
        rw [sOf_len]
        simp [sOf]
      rw [e]
      exact h.ok hr (.str _)
    · exact h.elim
  | lv h1 h2 h3 => exact sq (fun _ z => nomatch z) h
  | ref h1 => exact sq (fun _ z => nomatch z) h
  | fz h1 => exact sq (fun _ z => nomatch z) h
  | non => exact sq (fun _ z => nomatch z) h
  | bl _ => exact sq (fun _ z => nomatch z) h
  | int _ => exact sq (fun _ z => nomatch z) h
  | obj _ => exact sq (fun _ z => nomatch z) h
end
end Ev

/-! Part I: what is walked. -/
namespace Ev
open PySem PySem.Spec PyProof.Rows L2
open AutoSeq1 (wpAny_loadPart')

/-! ### enumerate of a tuple -/
set_option maxHeartbeats 1000000 in
theorem meets_enumerate_newT (l : Addr) (items : Array Value) (n : Nat) (dct : Option Addr) (sl : Array (Option Value)) :
    Meets (Builtin.«enumerate.__new__» ⟨[.type "enumerate", .ref l], []⟩) (fun _ R s => s.heap.get? l = some { cls := .type "tuple", dict := dct, data := .seq items n, slots := sl } ∧
      R (.ok (.ret (.ref (s.heap.push { cls := .type "tuple_iterator", data := .fields #[.ref l, .int 0 0] }).objs.size)))
        { s with heap := (s.heap.push { cls := .type "tuple_iterator", data := .fields #[.ref l, .int 0 0] }).push { cls := .type "enumerate", data := .fields #[.none, .bool false, .ref s.heap.objs.size, rawInt 0, .none, .none] } }) :=
  .of_wp fun prog w A R s h => by
    obtain ⟨hp, g, d, tk, os⟩ := s; obtain ⟨hl, h⟩ := h
    have hsub := sub_enumerate
    have hL : Heap.IsTuple (Shared.heap ⟨hp, g, d, tk, os⟩) l items := ⟨_, hl, rfl, n, rfl⟩
    wp_walk using wpAny_loadPart' hl
    refine wpAny_stack_any fun st => wpAny_pure ?_
    split
    · rename_i c _ _ _ _ _
      cases (c == Value.type "enumerate")
      · wp_walk using wpAny_loadPart' hl, wpAny_pyIter_tuple hL
        exact ⟨_, rfl, h⟩
      · wp_walk using wpAny_loadPart' hl, wpAny_pyIter_tuple hL
        exact ⟨_, rfl, h⟩
    · wp_walk using wpAny_loadPart' hl, wpAny_pyIter_tuple hL
      exact ⟨_, rfl, h⟩
theorem call_enumerate_tuple {prog : Program} {w : World} {A : Around} {E : Value → Shared → Prop} {s : Shared} {l : Addr} {items : Array Value} {Q : Value → Shared → Prop} (hL : s.heap.IsTuple l items)
    (h : ∀ h', IsEnum h' (s.heap.objs.size + 1) s.heap.objs.size 0 .none → h'.IsTupleIter s.heap.objs.size l 0 → h'.objs.size = s.heap.objs.size + 2 →
      (∀ b o, s.heap.get? b = some o → h'.get? b = some o) → Q (.ref (s.heap.objs.size + 1)) { s with heap := h' }) :
    wpAny (model prog w) A (call (.type "enumerate") [.ref l]) Q E s := by
  obtain ⟨⟨c, dct, dt, sl⟩, hl, hc, n, hd⟩ := hL
  replace hc : c = .type "tuple" := hc
  replace hd : dt = .seq items n := hd
  subst hc hd
  refine callType_new F.called_enumerate (by decide) (F.typeCall_enumerate_1 _) (F.newCall_enumerate_1 _) (fun obj => F.args_object_init_2 obj _) F.entry_enumerate_new
    (meets_enumerate_newT l items n dct sl) ⟨hl, ?_⟩
  have hz : (s.heap.push { cls := .type "tuple_iterator", data := .fields #[.ref l, .int 0 0] }).objs.size = s.heap.objs.size + 1 := Heap.size_push ..
  show _ ∧ _
  rw [hz]
  have he : IsEnum ((s.heap.push { cls := .type "tuple_iterator", data := .fields #[.ref l, .int 0 0] }).push
      { cls := .type "enumerate", data := .fields #[.none, .bool false, .ref s.heap.objs.size, rawInt 0, .none, .none] }) (s.heap.objs.size + 1) s.heap.objs.size 0 .none := by
    have := Heap.get?_push_size (s.heap.push { cls := .type "tuple_iterator", data := .fields #[.ref l, .int 0 0] })
      (o := { cls := .type "enumerate", data := .fields #[.none, .bool false, .ref s.heap.objs.size, rawInt 0, .none, .none] }) rfl
    rw [hz] at this; exact this
  refine ⟨⟨_, he, rfl⟩, h _ he ⟨_, Heap.get?_push_of_some _ (Heap.get?_push_size _ rfl), rfl, rfl⟩ (by rw [Heap.size_push, hz]) fun b o x => Heap.get?_push_of_some _ (Heap.get?_push_of_some _ x)⟩

def IteT (K : PySem.W.Frag) (a : Addr) : L2.It :=
  ⟨fun i H => ∃ (xs : List V) (x : V), SqT K H a xs ∧ xs[i]? = some x, fun i H v H' => ∃ T x, v = .ref T ∧ H T = none ∧ H' = upd H T (.tup [.int (i : Nat), x]) ∧ ∀ xs, SqT K H a xs → xs[i]? = some x, fun i H => ∃ xs : List V, SqT K H a xs ∧ xs.length ≤ i⟩
theorem turn_enumT {P : Program} {w : World} {K : PySem.W.Frag} {elts : List Expr} {kk : Nat} {tpos : Pos} (a e it : Addr) :
    Turn P w K (.Tuple elts kk tpos) (IteT K a) [e, it] e (fun i h => (∃ old, IsEnum h e it ((i : Nat) : Int) old) ∧ h.IsTupleIter it a i ∧ e ≠ it) where
  mem := by simp
  obj := fun i h st b hb => by
    obtain ⟨⟨old, he⟩, ⟨o, ho, hc, hd⟩, _⟩ := st
    have e' : b = e ∨ b = it := by simpa using hb
    rcases e' with z | z
    · rw [z]; exact ⟨_, he, fun v q => nomatch q⟩
    · rw [z]; exact ⟨o, ho, fun v q => by rw [hd] at q; cases q⟩
  keep := fun i h h' st k => let ⟨⟨old, he⟩, hi, hne⟩ := st; ⟨⟨old, k e (by simp) _ he⟩, hi.at fun o q => k it (by simp) o q, hne⟩
  item := by
    intro X hP hw hK hc i pins s σ H E I hf st hg
    subst hP hw hK
    obtain ⟨⟨old, he⟩, hit, hne⟩ := st
    obtain ⟨xs, x, hq, hx⟩ := hg
    obtain ⟨its, rv, p, hz⟩ := I.tuple hq
    have ht : s.heap.IsTuple a its.toArray := p
    obtain ⟨u, hu, ru⟩ := rv.get hx
    have hel : e < s.heap.objs.size := Heap.lt_size he
    have hil : it < s.heap.objs.size := by obtain ⟨_, q, _⟩ := hit; exact Heap.lt_size q
    have hea : e ≠ a := by
      rintro rfl
      obtain ⟨o, ho, hcc, n, hd⟩ := id ht
      rw [show s.heap.get? e = _ from he] at ho
      cases ho
      exact absurd hcc (by simp)
    have hita : a ≠ it := by
      rintro rfl
      obtain ⟨o, ho, hcc, n, hd⟩ := id ht
      obtain ⟨o', ho', hc', hd'⟩ := id hit
      rw [ho] at ho'
      cases ho'
      rw [hcc] at hc'
      exact absurd hc' (by simp)
    have hiu : its.toArray[i]? = some u := by simpa using hu
    have hlt : i < its.toArray.size := by
      have := (List.getElem?_eq_some_iff.mp hu).1
      simpa using this
    refine wpAny_pyNext_enum_itemD (Draws.tuple (A := X.A.in1) (I.ok.hd hc) it a hita its.toArray) he ⟨hit, ht⟩ hlt hne (by simp [hne, hea]) fun x' h' tk hP ho hst' hT hsz hk => ?_
    rw [hiu] at hP
    cases hP
    obtain ⟨hit', _⟩ := hst'
    refine ⟨_, rfl, wpAny_letOwnedTupleGo_enum (s := { s with heap := h', toks := tk + 1 }) ho fun h'' he' sb => ?_⟩
    have hT2 : h''.get? s.heap.objs.size = some { cls := .type "tuple", data := .seq #[.int i tk, u] } := (sb.2 _ (Nat.ne_of_gt hel)).trans hT
    have new : ObjOk X.prog X.w (upd H s.heap.objs.size (.tup [.int (i : Nat), x])) h'' s.heap.objs.size (.tup [.int (i : Nat), x]) :=
      ⟨by show 2 ≤ sizeLine; decide, [.int i tk, u], .cons ⟨_, rfl⟩ (.cons ru .nil), ⟨_, hT2, rfl, _, rfl⟩⟩
    have I1 : Inv X pins σ (upd H s.heap.objs.size (.tup [.int (i : Nat), x])) { s with heap := h'', toks := tk + 1 } :=
      I.turnedNew (ch := [e, it]) (fun b ob hb q => (sb.2 b (fun z => hb (by simp [z]))).trans (hk b ob (fun z => hb (by simp [z])) (fun z => hb (by simp [z])) q)) hf (Nat.le_refl _) new
    refine ⟨.ref s.heap.objs.size, _, I1, rfl, ⟨_, x, rfl, I.hok.fresh (Nat.le_refl _), rfl, fun ys hy => by rw [I.tuple_inj hy hq]; exact hx⟩, ⟨⟨u, ?_⟩, hit'.at fun o q => (sb.2 it (Ne.symm hne)).trans q, hne⟩, fun b hb => ?_⟩
    · have e1 : ((i + 1 : Nat) : Int) = (i : Int) + 1 := by omega
      rw [e1]; exact he'
    · have hb' : b < s.heap.objs.size := by
        have e' : b = e ∨ b = it := by simpa using hb
        rcases e' with z | z
        · rw [z]; exact hel
        · rw [z]; exact hil
      rw [upd_ne (Nat.ne_of_lt hb')]
      exact (hf b hb).1
  done := by
    intro X hP hw hK hc i pins s σ H E I hf st hg
    subst hP hw hK
    obtain ⟨⟨old, he⟩, hit, hne⟩ := st
    obtain ⟨xs, hq, hx⟩ := hg
    obtain ⟨its, rv, p, hz⟩ := I.tuple hq
    have ht : s.heap.IsTuple a its.toArray := p
    obtain ⟨f0, f1, f2, f3, f4, f5⟩ := hf it (by simp)
    have hl := rv.length
    have hita : a ≠ it := by
      rintro rfl
      obtain ⟨o, ho, hcc, n, hd⟩ := id ht
      obtain ⟨o', ho', hc', hd'⟩ := id hit
      rw [ho] at ho'
      cases ho'
      rw [hcc] at hc'
      exact absurd hc' (by simp)
    exact wpAny_pyNext_enum_endT (I.ok.hd hc) he hit ht (by simp; omega) fun h' eb => ⟨rfl, I.turned (t' := s.toks) (fun b o hb q => eb b o hb q) f0 f1 f3 f4 f5⟩
  self := fun A i s Q E st h => let ⟨⟨_, he⟩, _⟩ := st; wpAny_pyIter_enum he h
where
  wpAny_pyNext_enum_endT {prog : Program} {w : World} {A : Around} {E : Value → Shared → Prop} {s : Shared} {e it t : Addr} {i : Nat} {c : Int} {items : Array Value} {old : Value} {Q : Option Value → Shared → Prop} (hh : A.handled = none)
      (he : IsEnum s.heap e it c old) (hit : s.heap.IsTupleIter it t i) (ht : s.heap.IsTuple t items) (hi : items[i]? = none) (hQ : ∀ h', Heap.ExtBut it s.heap h' → Q none { s with heap := h' }) : wpAny (model prog w) A (pyNext (.ref e)) Q E s := by
    have hT : s.TypeIs (.ref e) "enumerate" := ⟨_, he, rfl⟩
    unfold pyNext
    refine wpAny_bind (wpAny_attempt (wpAny_callSpecial?_slot (name := Str.ofString "__next__") hT F.slot_enumerate_next
      (wpAny_call_entry F.slot_enumerate_next hT F.entry_enumerate_next ?_ (F.args_enumerate_next_1 _))))
    show wpAny _ _ (field (.ref e) 2 >>= _) _ _ _
    refine wpAny_bind (wpAny_field he rfl (x := .ref it) rfl ?_)
    refine wpAny_bind (wpAny_nextOf_tuple_end hh hit ht hi fun h' x he' hx' => ?_)
    obtain ⟨o, ho, hc⟩ := hx'
    refine wpAny_bind (wpAny_isInstance (T := "StopIteration") (b := true) ⟨o, ho, hc⟩ isSubtype_stop ?_)
    exact wpAny_pure (hQ _ he')

def iEnumA (K : PySem.W.Frag) (ta : TA) : TI := fun σ H R => ta σ H fun vs H1 => ∃ a xs, vs = [.ref a] ∧ ((SqL K H1 a xs ∧ R (Ite K a) H1) ∨ (SqT K H1 a xs ∧ R (IteT K a) H1))
theorem pi_enumA {X : Cx} {e : Expr} {ta : TA} {p pos tpos : Pos} {elts : List Expr} {kk : Nat} (hg : Gl X "enumerate") (hm : X.mg "enumerate" = none) (ha : PA X [e] ta) (hs : starEach [e] X.env = [(false, eval e X.env)]) :
    PI X (.Tuple elts kk tpos) (.Call (.Name "enumerate" p) [e] [] pos) (iEnumA X.K ta) := by
  refine ⟨fun pins s σ H R I h => ?_⟩
  refine Call_ (ld_blt I hg hm boot_enumerate (PyProof.Rows.callWith_type1 (thn (ha.run pos pins s σ H _ I h) fun us s1 ⟨vs, H1, I1, r1, q1⟩ => ?_) hs rfl))
  obtain ⟨a, xs, ex, hq⟩ := q1
  subst ex
  cases r1 with
  | cons r rr =>
    cases rr
    cases r
    rcases hq with ⟨hq, q⟩ | ⟨hq, q⟩
    · obtain ⟨its, rv, p', hz⟩ := I1.list hq
      refine call_enumerate_list p'.isList fun h' he hit hsz hk => wpAny_pyIter_enum he ?_
      have I2 : Inv X pins σ H1 { s1 with heap := h' } := I1.kept (t' := s1.toks) hk
      refine ⟨s1.heap.objs.size + 1, [s1.heap.objs.size + 1, s1.heap.objs.size], _, _, H1, rfl, I2, turn_enum a (s1.heap.objs.size + 1) s1.heap.objs.size, ⟨⟨.none, he⟩, hit, Nat.succ_ne_self _⟩, fun b hb => ?_, q⟩
      have e' : b = s1.heap.objs.size + 1 ∨ b = s1.heap.objs.size := by simpa using hb
      have hle : s1.heap.objs.size ≤ b := by
        rcases e' with z | z
        · rw [z]; exact Nat.le_add_right _ _
        · rw [z]; exact Nat.le_refl _
      exact I1.fpOk hle (I1.hok.fresh hle)
    · obtain ⟨its, rv, p', hz⟩ := I1.tuple hq
      refine call_enumerate_tuple (show s1.heap.IsTuple a its.toArray from p') fun h' he hit hsz hk => wpAny_pyIter_enum he ?_
      have I2 : Inv X pins σ H1 { s1 with heap := h' } := I1.kept (t' := s1.toks) hk
      refine ⟨s1.heap.objs.size + 1, [s1.heap.objs.size + 1, s1.heap.objs.size], _, _, H1, rfl, I2, turn_enumT a (s1.heap.objs.size + 1) s1.heap.objs.size, ⟨⟨.none, he⟩, hit, Nat.succ_ne_self _⟩, fun b hb => ?_, q⟩
      have e' : b = s1.heap.objs.size + 1 ∨ b = s1.heap.objs.size := by simpa using hb
      have hle : s1.heap.objs.size ≤ b := by
        rcases e' with z | z
        · rw [z]; exact Nat.le_add_right _ _
        · rw [z]; exact Nat.le_refl _
      exact I1.fpOk hle (I1.hok.fresh hle)

/-! ### an iterator and its items -/
section
variable (K : PySem.W.Frag) (Γ : Gm)
/-- from the world W on, J yields the items of J' -/
def ItR (W : Wd) (J' : Ev.Its) (J : L2.It) : Prop := ∀ (i : Nat) (W' : Wd) (S' : Store), Le K W W' → Rl K Γ W' S' → J'.ok S' →
  (∀ x, J'.xs[i]? = some x → J.go i W'.H ∧ ∀ v H', J.yld i W'.H v H' → ∃ W'', W''.H = H' ∧ Le K W' W'' ∧ Rl K Γ W'' S' ∧ Den K Γ W'' x v) ∧ (J'.xs.length ≤ i → J.stop i W'.H)
def tI (Wx : WX) (f : Rho → Store → R Ev.Its) : TI := fun σ H R => ∃ W ρ S, W.H = H ∧ Rl K Γ W S ∧ SlotR K Γ W ρ σ ∧ Post K Γ Wx σ (ItR K Γ) (f ρ S) W R
end
section
variable {K : PySem.W.Frag} {Γ : Gm} {W W' : Wd} {S : Store}
theorem itsSq_den {x : PV} {v : V} {J : Ev.Its} (hr : Rl K Γ W S) (d : Den K Γ W x v) (e : itsSq S x = some J) :
    ∃ a, v = .ref a ∧ ((tupK x = false ∧ ∃ vs, SqL K W.H a vs ∧ ∀ W' S', Le K W W' → Rl K Γ W' S' → J.ok S' → ∃ vs, SqL K W'.H a vs ∧ DenL K Γ W' J.xs vs) ∨
      (tupK x = true ∧ ∃ vs, SqT K W.H a vs ∧ ∀ W' S', Le K W W' → Rl K Γ W' S' → J.ok S' → ∃ vs, SqT K W'.H a vs ∧ DenL K Γ W' J.xs vs)) := by
  cases d with
  | @tup a xs vs h1 h2 =>
    cases e
    exact ⟨a, rfl, .inr ⟨rfl, vs, h1, fun W' S' l _ _ => ⟨vs, l.tt _ _ h1, h2.mono l⟩⟩⟩
  | @lv a xs vs h1 h2 h3 =>
    cases e
    exact ⟨a, rfl, .inl ⟨rfl, vs, .inl (.inl h2), fun W' S' l _ _ => ⟨vs, .inl (.inl (l.lv _ _ h1 h2)), h3.mono l⟩⟩⟩
  | @fz a ns h1 =>
    cases e
    exact ⟨a, rfl, .inl ⟨rfl, _, h1.sq, fun W' S' l _ _ => ⟨_, (h1.mono l.fz).sq, DenL.ofInts ns⟩⟩⟩
  | @ref n a h1 =>
    simp only [itsSq] at e
    split at e
    · rename_i xs h
      cases e
      obtain ⟨vs, g1, g2⟩ := hr.cell n a _ h1 h
      refine ⟨a, rfl, .inl ⟨rfl, vs, .inl (.inl g1), fun W' S' l r ok => ?_⟩⟩
      obtain ⟨us, k1, k2⟩ := r.cell n a _ (l.get h1) (ok (n, xs) (List.mem_singleton.mpr rfl))
      exact ⟨us, .inl (.inl k1), k2⟩
    · cases e
  | non => cases e
  | bl _ => cases e
  | int _ => cases e
  | str _ => cases e
  | obj _ => cases e
theorem ItR.lst {a : Addr} {J : Ev.Its} (h : ∀ W' S', Le K W W' → Rl K Γ W' S' → J.ok S' → ∃ vs, SqL K W'.H a vs ∧ DenL K Γ W' J.xs vs) : ItR K Γ W J (Itl K a) := fun i W' S' l r ok => by
  obtain ⟨vs, h1, h2⟩ := h W' S' l r ok
  refine ⟨fun x hx => ?_, fun hi => ⟨vs, h1, by rw [← h2.length]; exact hi⟩⟩
  obtain ⟨v, hv, dv⟩ := h2.get hx
  refine ⟨⟨vs, v, h1, hv⟩, fun u H' y => ?_⟩
  obtain ⟨rfl, y⟩ := y
  have e := y vs h1
  rw [hv] at e
  cases e
  exact ⟨W', rfl, .refl, r, dv⟩
theorem ItR.tup {a : Addr} {J : Ev.Its} (h : ∀ W' S', Le K W W' → Rl K Γ W' S' → J.ok S' → ∃ vs, SqT K W'.H a vs ∧ DenL K Γ W' J.xs vs) : ItR K Γ W J (Itt K a) := fun i W' S' l r ok => by
  obtain ⟨vs, h1, h2⟩ := h W' S' l r ok
  refine ⟨fun x hx => ?_, fun hi => ⟨vs, h1, by rw [← h2.length]; exact hi⟩⟩
  obtain ⟨v, hv, dv⟩ := h2.get hx
  refine ⟨⟨vs, v, h1, hv⟩, fun u H' y => ?_⟩
  obtain ⟨rfl, y⟩ := y
  have e := y vs h1
  rw [hv] at e
  cases e
  exact ⟨W', rfl, .refl, r, dv⟩
theorem ItR.str {s : Codes} : ItR K Γ W ⟨s.map fun c => .str [c], []⟩ (L2.Its (sOf s)) := fun i W' S' l r ok => by
  refine ⟨fun x hx => ?_, fun hi => ?_⟩
  · have hx' : (s.map fun c => PV.str [c])[i]? = some x := hx
    rw [List.getElem?_map, Option.map_eq_some_iff] at hx'
    obtain ⟨c, hc, rfl⟩ := hx'
    refine ⟨?_, fun u H' y => ?_⟩
    · show i < (sOf s).cps.size
      have := (List.getElem?_eq_some_iff.mp hc).1
      simpa [sOf] using this
    · obtain ⟨rfl, c', hc', rfl⟩ := y
      have : (sOf s).cps[i]? = s[i]? := by simp [sOf]
      rw [this, hc] at hc'
      cases hc'
      exact ⟨W', rfl, .refl, r, .str [c]⟩
  · show (sOf s).cps.size ≤ i
    simpa [sOf] using hi
theorem ItR.rng {lo : Int} {n : Nat} : ItR K Γ W ⟨(List.range n).map fun k => .int (lo + (k : Nat)), []⟩ (Itr lo n) := fun i W' S' l r ok => by
  refine ⟨fun x hx => ?_, fun hi => ?_⟩
  · have hx' : ((List.range n).map fun k => PV.int (lo + (k : Nat)))[i]? = some x := hx
    rw [List.getElem?_map, Option.map_eq_some_iff] at hx'
    obtain ⟨c, hc, rfl⟩ := hx'
    obtain ⟨hlt, e⟩ := List.getElem?_eq_some_iff.mp hc
    rw [List.getElem_range] at e
    subst e
    refine ⟨(show i < n by simpa using hlt), fun u H' y => ?_⟩
    obtain ⟨rfl, rfl⟩ := y
    exact ⟨W', rfl, .refl, r, .int _⟩
  · show n ≤ i
    simpa using hi
theorem zipWith_get {α β γ : Type} {f : α → β → γ} {l : List α} {m : List β} {i : Nat} {z : γ} (h : (l.zipWith f m)[i]? = some z) : ∃ x y, l[i]? = some x ∧ m[i]? = some y ∧ z = f x y := by
  rw [List.getElem?_zipWith] at h
  cases e1 : l[i]? with
  | none => rw [e1] at h; cases h
  | some x =>
    cases e2 : m[i]? with
    | none => rw [e1, e2] at h; cases h
    | some y => rw [e1, e2] at h; cases h; exact ⟨x, y, rfl, rfl, rfl⟩
theorem enum_get {xs : List PV} {i : Nat} {z : PV} (h : ((List.range xs.length).zipWith (fun k v => PV.tup [.int ((k : Nat) : Int), v]) xs)[i]? = some z) : ∃ x, xs[i]? = some x ∧ z = .tup [.int (i : Nat), x] := by
  obtain ⟨k, x, h1, h2, rfl⟩ := zipWith_get h
  obtain ⟨hlt, e⟩ := List.getElem?_eq_some_iff.mp h1
  rw [List.getElem_range] at e
  subst e
  exact ⟨x, h2, rfl⟩
/-- a new tuple of two -/
theorem pair_new {T : Addr} {x y : PV} {u v : V} (r : Rl K Γ W S) (hT : W.H T = none) (dx : Den K Γ W x u) (dy : Den K Γ W y v) :
    ∃ W'', W''.H = upd W.H T (.tup [u, v]) ∧ Le K W W'' ∧ Rl K Γ W'' S ∧ Den K Γ W'' (.tup [x, y]) (.ref T) :=
  ⟨{ W with H := upd W.H T (.tup [u, v]) }, rfl, Le.new_any r hT, Rl.new_any r hT, .tup (.inl (.inl upd_same)) (.cons (dx.mono (Le.new_any r hT)) (.cons (dy.mono (Le.new_any r hT)) .nil))⟩
theorem ItR.enumL {a : Addr} {J : Ev.Its} (h : ∀ W' S', Le K W W' → Rl K Γ W' S' → J.ok S' → ∃ vs, SqL K W'.H a vs ∧ DenL K Γ W' J.xs vs) :
    ItR K Γ W ⟨(List.range J.xs.length).zipWith (fun k v => .tup [.int ((k : Nat) : Int), v]) J.xs, J.g⟩ (Ite K a) := fun i W' S' l r ok => by
  obtain ⟨vs, h1, h2⟩ := h W' S' l r ok
  refine ⟨fun x hx => ?_, fun hi => ⟨vs, h1, by rw [← h2.length]; simpa using hi⟩⟩
  obtain ⟨z, hz, rfl⟩ := enum_get hx
  obtain ⟨v, hv, dv⟩ := h2.get hz
  refine ⟨⟨vs, v, h1, hv⟩, fun u H' y => ?_⟩
  obtain ⟨T, x', rfl, hT, rfl, y⟩ := y
  have e := y vs h1
  rw [hv] at e
  cases e
  exact pair_new r hT (.int _) dv
theorem ItR.enumT {a : Addr} {J : Ev.Its} (h : ∀ W' S', Le K W W' → Rl K Γ W' S' → J.ok S' → ∃ vs, SqT K W'.H a vs ∧ DenL K Γ W' J.xs vs) :
    ItR K Γ W ⟨(List.range J.xs.length).zipWith (fun k v => .tup [.int ((k : Nat) : Int), v]) J.xs, J.g⟩ (IteT K a) := fun i W' S' l r ok => by
  obtain ⟨vs, h1, h2⟩ := h W' S' l r ok
  refine ⟨fun x hx => ?_, fun hi => ⟨vs, h1, by rw [← h2.length]; simpa using hi⟩⟩
  obtain ⟨z, hz, rfl⟩ := enum_get hx
  obtain ⟨v, hv, dv⟩ := h2.get hz
  refine ⟨⟨vs, v, h1, hv⟩, fun u H' y => ?_⟩
  obtain ⟨T, x', rfl, hT, rfl, y⟩ := y
  have e := y vs h1
  rw [hv] at e
  cases e
  exact pair_new r hT (.int _) dv
theorem ItR.zipL {a b : Addr} {J J' : Ev.Its} (h : ∀ W' S', Le K W W' → Rl K Γ W' S' → J.ok S' → ∃ vs, SqL K W'.H a vs ∧ DenL K Γ W' J.xs vs) (h' : ∀ W' S', Le K W W' → Rl K Γ W' S' → J'.ok S' → ∃ vs, SqL K W'.H b vs ∧ DenL K Γ W' J'.xs vs) :
    ItR K Γ W ⟨J.xs.zipWith (fun u v => .tup [u, v]) J'.xs, J.g ++ J'.g⟩ (Itz K a b) := fun i W' S' l r ok => by
  obtain ⟨vs, h1, h2⟩ := h W' S' l r (fun p hp => ok p (List.mem_append_left _ hp))
  obtain ⟨us, k1, k2⟩ := h' W' S' l r (fun p hp => ok p (List.mem_append_right _ hp))
  refine ⟨fun x hx => ?_, fun hi => ⟨vs, us, h1, k1, ?_⟩⟩
  · obtain ⟨z1, z2, hz1, hz2, rfl⟩ := zipWith_get hx
    obtain ⟨v, hv, dv⟩ := h2.get hz1
    obtain ⟨u, hu, du⟩ := k2.get hz2
    refine ⟨⟨vs, us, v, u, h1, k1, hv, hu⟩, fun w H' y => ?_⟩
    obtain ⟨T, x', y', rfl, hT, rfl, y1, y2⟩ := y
    have e := y1 vs h1
    rw [hv] at e
    cases e
    have e := y2 us k1
    rw [hu] at e
    cases e
    exact pair_new r hT dv du
  · rw [← h2.length, ← k2.length]
    simp at hi
    omega
theorem ItR.zipT {a b : Addr} {J J' : Ev.Its} (h : ∀ W' S', Le K W W' → Rl K Γ W' S' → J.ok S' → ∃ vs, SqT K W'.H a vs ∧ DenL K Γ W' J.xs vs) (h' : ∀ W' S', Le K W W' → Rl K Γ W' S' → J'.ok S' → ∃ vs, SqT K W'.H b vs ∧ DenL K Γ W' J'.xs vs) :
    ItR K Γ W ⟨J.xs.zipWith (fun u v => .tup [u, v]) J'.xs, J.g ++ J'.g⟩ (RZ.ItzT K a b) := fun i W' S' l r ok => by
  obtain ⟨vs, h1, h2⟩ := h W' S' l r (fun p hp => ok p (List.mem_append_left _ hp))
  obtain ⟨us, k1, k2⟩ := h' W' S' l r (fun p hp => ok p (List.mem_append_right _ hp))
  refine ⟨fun x hx => ?_, fun hi => ⟨vs, us, h1, k1, ?_⟩⟩
  · obtain ⟨z1, z2, hz1, hz2, rfl⟩ := zipWith_get hx
    obtain ⟨v, hv, dv⟩ := h2.get hz1
    obtain ⟨u, hu, du⟩ := k2.get hz2
    refine ⟨⟨vs, us, v, u, h1, k1, hv, hu⟩, fun w H' y => ?_⟩
    obtain ⟨T, x', y', rfl, hT, rfl, y1, y2⟩ := y
    have e := y1 vs h1
    rw [hv] at e
    cases e
    have e := y2 us k1
    rw [hu] at e
    cases e
    exact pair_new r hT dv du
  · rw [← h2.length, ← k2.length]
    simp at hi
    omega
end
end Ev

/-! Part C3: calls of built-in functions, methods, stores. -/
namespace Ev
open PySem PySem.Spec PyProof.Rows L2

theorem maxL_spec : ∀ (n : Int) (ns : List Int) (m : Int), m ∈ n :: ns → (∀ y, y ∈ n :: ns → y ≤ m) → m = maxL (n :: ns)
  | n, [], m, h, _ => by simpa [maxL] using h
  | n, a :: r, m, h, hl => by
    have h1 : maxL (n :: a :: r) = max n (maxL (a :: r)) := rfl
    have hmem : ∀ (n : Int) (ns : List Int), maxL (n :: ns) ∈ n :: ns := by
      intro n ns
      induction ns generalizing n with
      | nil => simp [maxL]
      | cons b s ih =>
        have e : maxL (n :: b :: s) = max n (maxL (b :: s)) := rfl
        rw [e]
        have := ih b
        by_cases q : n ≤ maxL (b :: s)
        · rw [Int.max_eq_right q]; exact List.mem_cons_of_mem _ this
        · rw [Int.max_eq_left (by omega)]; exact List.mem_cons_self
    have hge : ∀ (n : Int) (ns : List Int) (y : Int), y ∈ n :: ns → y ≤ maxL (n :: ns) := by
      intro n ns
      induction ns generalizing n with
      | nil => intro y hy; simp at hy; subst hy; exact Int.le_refl _
      | cons b s ih =>
        intro y hy
        have e : maxL (n :: b :: s) = max n (maxL (b :: s)) := rfl
        rw [e]
        rcases List.mem_cons.mp hy with rfl | hy
        · omega
        · have := ih b y hy; omega
    have a1 := hl _ (hmem n (a :: r))
    have a2 := hge n (a :: r) m h
    omega
theorem minL_spec : ∀ (n : Int) (ns : List Int) (m : Int), m ∈ n :: ns → (∀ y, y ∈ n :: ns → m ≤ y) → m = minL (n :: ns)
  | n, [], m, h, _ => by simpa [minL] using h
  | n, a :: r, m, h, hl => by
    have hmem : ∀ (n : Int) (ns : List Int), minL (n :: ns) ∈ n :: ns := by
      intro n ns
      induction ns generalizing n with
      | nil => simp [minL]
      | cons b s ih =>
        have e : minL (n :: b :: s) = min n (minL (b :: s)) := rfl
        rw [e]
        have := ih b
        by_cases q : n ≤ minL (b :: s)
        · rw [Int.min_eq_left q]; exact List.mem_cons_self
        · rw [Int.min_eq_right (by omega)]; exact List.mem_cons_of_mem _ this
    have hge : ∀ (n : Int) (ns : List Int) (y : Int), y ∈ n :: ns → minL (n :: ns) ≤ y := by
      intro n ns
      induction ns generalizing n with
      | nil => intro y hy; simp at hy; subst hy; exact Int.le_refl _
      | cons b s ih =>
        intro y hy
        have e : minL (n :: b :: s) = min n (minL (b :: s)) := rfl
        rw [e]
        rcases List.mem_cons.mp hy with rfl | hy
        · omega
        · have := ih b y hy; omega
    have a1 := hl _ (hmem n (a :: r))
    have a2 := hge n (a :: r) m h
    omega
theorem insI_perm (x : Int) : ∀ l : List Int, (insI x l).Perm (x :: l)
  | [] => .refl _
  | y :: r => by
    unfold insI
    split
    · exact .refl _
    · exact ((insI_perm x r).cons y).trans (.swap x y r)
theorem sortI_perm : ∀ l : List Int, (sortI l).Perm l
  | [] => .refl _
  | x :: r => (insI_perm x _).trans ((sortI_perm r).cons x)
theorem insI_sorted (x : Int) : ∀ l : List Int, l.Pairwise (· ≤ ·) → (insI x l).Pairwise (· ≤ ·)
  | [], _ => by simp [insI]
  | y :: r, h => by
    unfold insI
    split
    · rename_i hx
      refine List.Pairwise.cons (fun z hz => ?_) h
      rcases List.mem_cons.mp hz with rfl | hz
      · exact hx
      · exact Int.le_trans hx (List.rel_of_pairwise_cons h hz)
    · rename_i hx
      refine List.Pairwise.cons (fun z hz => ?_) (insI_sorted x r h.of_cons)
      rcases List.mem_cons.mp ((insI_perm x r).mem_iff.mp hz) with rfl | hz
      · omega
      · exact List.rel_of_pairwise_cons h hz
theorem sortI_sorted : ∀ l : List Int, (sortI l).Pairwise (· ≤ ·)
  | [] => .nil
  | x :: r => insI_sorted x _ (sortI_sorted r)

def bltV : Blt → Value
  | .len => .builtin "len" | .sum => .builtin "sum" | .all => .builtin "all" | .any => .builtin "any" | .max => .builtin "max" | .min => .builtin "min" | .abs => .builtin "abs"
  | .int => .type "int" | .str => .type "str" | .tuple => .type "tuple" | .divmod => .builtin "divmod"
def bltLV : BltL → Value
  | .list => .type "list" | .sorted => .builtin "sorted"

section
variable {X : Cx} {Γ : Gm}
theorem cr_sumT (hc : X.calm = true) : CallR X (.builtin "sum") (fun vs H Q => ∃ (a : Addr) (ns : List Int), vs = [V.ref a] ∧ SqT X.K H a (ns.map V.int) ∧ Q (.int ns.sum) H) := by
  intro pins s σ H vs us Q I r h
  obtain ⟨a, ns, rfl, hs, q⟩ := h
  obtain ⟨its, rv, hl, _⟩ := I.tuple hs
  rw [Vals.ref1 r]
  have hi := rv.ints
  obtain ⟨xs, e⟩ := hi.allInts.items
  have hn : numsOf (intItems xs).toList = ns := by rw [← e]; exact hi.numsOf
  rw [nums_intItems] at hn
  have ht : s.heap.IsTuple a its.toArray := hl
  rw [e] at ht
  refine PySem.W.ktm_sumG (I.ok.hd hc) ht fun h' tk t' hk => ⟨.int _, H, I.kept hk, ⟨_, rfl⟩, ?_⟩
  rw [preSum_eq, List.take_of_length_le (by simp), hn]
  exact q

theorem divp_small {i j : Int} (h1 : 0 < j) (h2 : j < 2 ^ 64) : CDivP i j := by
  refine ⟨h1, ?_⟩
  show (decide ((if j == 0 then 0 else j.natAbs.log2 / 30 + 1) > 300) && decide ((if i == 0 then 0 else i.natAbs.log2 / 30 + 1) > (if j == 0 then 0 else j.natAbs.log2 / 30 + 1) + 150)) = false
  have hj : ¬ (j == 0) = true := by simpa using (show j ≠ 0 by omega)
  rw [if_neg hj]
  have : j.natAbs.log2 < 64 := (Nat.log2_lt (by omega)).mpr (by omega)
  rw [decide_eq_false (by omega)]
  rfl

theorem cb_len : CallR X (.builtin "len") (rCl X.K Γ (bltOp .len)) := by
  rintro pins s σ H xs us Q I r ⟨W, as, S, Wx, σ', rfl, hr, d, h⟩
  cases d with
  | nil => exact h.elim
  | cons dx dr =>
    cases dr with
    | cons _ _ => exact h.elim
    | nil =>
      replace h := h.opt
      obtain ⟨c, e, h⟩ := h
      rw [Option.map_eq_some_iff] at e
      obtain ⟨n, e, rfl⟩ := e
      cases dx with
      | str t =>
        simp only [lenOf] at e
        split at e
        · rename_i hl
          cases e
          exact call_len_str pins s σ W.H _ us Q I r ⟨sOf t, rfl, by rw [sOf_len]; exact hl, by rw [sOf_len]; exact h.ok hr (.int _)⟩
        · cases e
      | @ref k p q =>
        simp only [lenOf] at e
        split at e
        · rename_i xs hx
          cases e
          obtain ⟨vs, h1, h2⟩ := hr.cell k p _ q hx
          refine call_len_seq pins s σ W.H _ us Q I r ⟨p, vs, rfl, .inl (.inl (.inl h1)), ?_⟩
          rw [← h2.length]
          exact h.ok hr (.int _)
        · rename_i kvs hx
          cases e
          obtain ⟨vs, h1, h2⟩ := hr.cell k p _ q hx
          refine call_lenD pins s σ W.H _ us Q I r ⟨p, vs, rfl, h1, ?_⟩
          have : kvs.length = vs.length := by
            clear h h1 hx q
            induction h2 with
            | nil => rfl
            | cons _ _ ih => simp [ih]
          rw [← this]
          exact h.ok hr (.int _)
        · cases e
      | @tup p ys vs h1 h2 =>
        cases e
        refine call_len_seq pins s σ W.H _ us Q I r ⟨p, vs, rfl, .inr h1, ?_⟩
        rw [← h2.length]
        exact h.ok hr (.int _)
      | @lv p ys vs h1 h2 h3 =>
        cases e
        refine call_len_seq pins s σ W.H _ us Q I r ⟨p, vs, rfl, .inl (.inl (.inl h2)), ?_⟩
        rw [← h3.length]
        exact h.ok hr (.int _)
      | @fz p ns h1 =>
        cases e
        refine call_len_seq pins s σ W.H _ us Q I r ⟨p, ns.map V.int, rfl, .inl h1.sq, ?_⟩
        have h' := h.ok hr (.int _)
        simpa using h'
      | non => cases e
      | bl _ => cases e
      | int _ => cases e
      | obj _ => cases e
theorem cb_sum (hc : X.calm = true) : CallR X (.builtin "sum") (rCl X.K Γ (bltOp .sum)) := by
  rintro pins s σ H xs us Q I r ⟨W, as, S, Wx, σ', rfl, hr, d, h⟩
  cases d with
  | nil => exact h.elim
  | cons dx dr =>
    cases dr with
    | cons _ _ => exact h.elim
    | nil =>
      replace h := h.opt
      obtain ⟨c, e, h⟩ := h
      rw [Option.map_eq_some_iff] at e
      obtain ⟨ns, e, rfl⟩ := e
      obtain ⟨p, vs, rfl, hp, dl⟩ := seqOf_den hr dx (bindI e)
      rw [DenL.ints dl] at hp
      rcases hp with hp | hp
      · exact cr_sum hc pins s σ W.H _ us Q I r ⟨p, ns, rfl, hp, h.ok hr (.int _)⟩
      · exact cr_sumT hc pins s σ W.H _ us Q I r ⟨p, ns, rfl, hp, h.ok hr (.int _)⟩
theorem cb_all (hc : X.calm = true) : CallR X (.builtin "all") (rCl X.K Γ (bltOp .all)) := by
  rintro pins s σ H xs us Q I r ⟨W, as, S, Wx, σ', rfl, hr, d, h⟩
  cases d with
  | nil => exact h.elim
  | cons dx dr =>
    cases dr with
    | cons _ _ => exact h.elim
    | nil =>
      replace h := h.opt
      obtain ⟨c, e, h⟩ := h
      rw [Option.map_eq_some_iff] at e
      obtain ⟨ns, e, rfl⟩ := e
      obtain ⟨p, vs, rfl, hp, dl⟩ := lstOf_den hr dx (bindB e)
      rw [DenL.bls dl] at hp
      exact cr_all hc pins s σ W.H _ us Q I r ⟨p, ns, rfl, .inl (.inl hp), h.ok hr (.bl _)⟩
theorem cb_any (hc : X.calm = true) : CallR X (.builtin "any") (rCl X.K Γ (bltOp .any)) := by
  rintro pins s σ H xs us Q I r ⟨W, as, S, Wx, σ', rfl, hr, d, h⟩
  cases d with
  | nil => exact h.elim
  | cons dx dr =>
    cases dr with
    | cons _ _ => exact h.elim
    | nil =>
      replace h := h.opt
      obtain ⟨c, e, h⟩ := h
      rw [Option.map_eq_some_iff] at e
      obtain ⟨ns, e, rfl⟩ := e
      obtain ⟨p, vs, rfl, hp, dl⟩ := lstOf_den hr dx (bindB e)
      rw [DenL.bls dl] at hp
      exact cr_any hc pins s σ W.H _ us Q I r ⟨p, ns, rfl, .inl (.inl hp), h.ok hr (.bl _)⟩
theorem cb_maxL (hc : X.calm = true) {pins : List (Addr × Obj)} {s : Shared} {σ σ' : L2.St} {W : Wd} {S : Store} {Wx : WX} {x : PV} {v : V} {us : List Value} {Q : VK} (I : Inv X pins σ W.H s) (r : Vals [v] us) (hr : Rl X.K Γ W S) (dx : Den X.K Γ W x v)
    (h : Post X.K Γ Wx σ' (Den X.K Γ) (match (lstOf S x).bind intsOf with
    | some (n :: ns) => .ok (.int (maxL (n :: ns))) S
    | _ => .bad) W Q) : wpAny (model X.prog X.w) X.A (call (.builtin "max") us) (EP X pins σ Q) X.xe s := by
  split at h
  · rename_i n ns e
    obtain ⟨p, vs, rfl, hp, dl⟩ := lstOf_den hr dx (bindI e)
    rw [DenL.ints dl] at hp
    refine cr_max hc pins s σ W.H _ us Q I r ⟨p, n :: ns, rfl, .inl (.inl hp), by simp, fun m hm hl => ?_⟩
    rw [maxL_spec n ns m hm hl]
    exact h.ok hr (.int _)
  · exact h.elim
theorem cb_minL (hc : X.calm = true) {pins : List (Addr × Obj)} {s : Shared} {σ σ' : L2.St} {W : Wd} {S : Store} {Wx : WX} {x : PV} {v : V} {us : List Value} {Q : VK} (I : Inv X pins σ W.H s) (r : Vals [v] us) (hr : Rl X.K Γ W S) (dx : Den X.K Γ W x v)
    (h : Post X.K Γ Wx σ' (Den X.K Γ) (match (lstOf S x).bind intsOf with
    | some (n :: ns) => .ok (.int (minL (n :: ns))) S
    | _ => .bad) W Q) : wpAny (model X.prog X.w) X.A (call (.builtin "min") us) (EP X pins σ Q) X.xe s := by
  split at h
  · rename_i n ns e
    obtain ⟨p, vs, rfl, hp, dl⟩ := lstOf_den hr dx (bindI e)
    rw [DenL.ints dl] at hp
    refine cr_min hc pins s σ W.H _ us Q I r ⟨p, n :: ns, rfl, .inl (.inl hp), by simp, fun m hm hl => ?_⟩
    rw [minL_spec n ns m hm hl]
    exact h.ok hr (.int _)
  · exact h.elim
theorem cb_max (hc : X.calm = true) : CallR X (.builtin "max") (rCl X.K Γ (bltOp .max)) := by
  rintro pins s σ H xs us Q I r ⟨W, as, S, Wx, σ', rfl, hr, d, h⟩
  cases d with
  | nil => exact h.elim
  | cons dx dr =>
    cases dr with
    | nil => exact cb_maxL hc I r hr dx (by cases dx <;> exact h)
    | cons dy ds =>
      cases ds with
      | nil =>
        cases dx with
        | int i => cases dy with
          | int j => exact call_max2 hc pins s σ W.H _ us Q I r ⟨i, j, rfl, h.ok hr (.int _)⟩
          | _ => exact h.elim
        | _ => exact h.elim
      | cons _ _ => cases dx <;> first | exact h.elim | (cases dy <;> exact h.elim)
theorem cb_min (hc : X.calm = true) : CallR X (.builtin "min") (rCl X.K Γ (bltOp .min)) := by
  rintro pins s σ H xs us Q I r ⟨W, as, S, Wx, σ', rfl, hr, d, h⟩
  cases d with
  | nil => exact h.elim
  | cons dx dr =>
    cases dr with
    | nil => exact cb_minL hc I r hr dx (by cases dx <;> exact h)
    | cons dy ds =>
      cases ds with
      | nil =>
        cases dx with
        | int i => cases dy with
          | int j => exact call_min2 hc pins s σ W.H _ us Q I r ⟨i, j, rfl, h.ok hr (.int _)⟩
          | _ => exact h.elim
        | _ => exact h.elim
      | cons _ _ => cases dx <;> first | exact h.elim | (cases dy <;> exact h.elim)
theorem cb_abs : CallR X (.builtin "abs") (rCl X.K Γ (bltOp .abs)) := by
  rintro pins s σ H xs us Q I r ⟨W, as, S, Wx, σ', rfl, hr, d, h⟩
  cases d with
  | nil => exact h.elim
  | cons dx dr =>
    cases dr with
    | cons _ _ => cases dx <;> exact h.elim
    | nil =>
      cases dx with
      | int i => exact call_abs pins s σ W.H _ us Q I r ⟨i, rfl, h.ok hr (.int _)⟩
      | _ => exact h.elim
theorem cb_int : CallR X (.type "int") (rCl X.K Γ (bltOp .int)) := by
  rintro pins s σ H xs us Q I r ⟨W, as, S, Wx, σ', rfl, hr, d, h⟩
  cases d with
  | nil => exact h.elim
  | cons dx dr =>
    cases dr with
    | cons _ _ => cases dx <;> exact h.elim
    | nil =>
      cases dx with
      | int i => exact call_int1 pins s σ W.H _ us Q I r (.inl ⟨i, rfl, h.ok hr (.int _)⟩)
      | bl b => exact call_int1 pins s σ W.H _ us Q I r (.inr ⟨b, rfl, h.ok hr (.int _)⟩)
      | _ => exact h.elim
theorem cb_str : CallR X (.type "str") (rCl X.K Γ (bltOp .str)) := by
  rintro pins s σ H xs us Q I r ⟨W, as, S, Wx, σ', rfl, hr, d, h⟩
  cases d with
  | nil => exact h.elim
  | cons dx dr => cases dx <;> exact h.elim
theorem cb_divmod : CallR X (.builtin "divmod") (rCl X.K Γ (bltOp .divmod)) := by
  rintro pins s σ H xs us Q I r ⟨W, as, S, Wx, σ', rfl, hr, d, h⟩
  cases d with
  | nil => exact h.elim
  | cons dx dr =>
    cases dr with
    | nil => cases dx <;> exact h.elim
    | cons dy ds =>
      cases ds with
      | cons _ _ => cases dx <;> first | exact h.elim | (cases dy <;> exact h.elim)
      | nil =>
        cases dx with
        | int i => cases dy with
          | int j =>
            simp only [bltOp] at h
            split at h
            · rename_i hl
              exact call_divmodW pins s σ W.H _ us Q I r ⟨i, j, rfl, divp_small hl.1 hl.2, fun p hp => h.tup hr hp (.cons (.int _) (.cons (.int _) .nil))⟩
            · exact h.elim
          | _ => exact h.elim
        | _ => exact h.elim
theorem cb_tuple : CallR X (.type "tuple") (rCl X.K Γ (bltOp .tuple)) := by
  rintro pins s σ H xs us Q I r ⟨W, as, S, Wx, σ', rfl, hr, d, h⟩
  cases d with
  | nil => exact h.elim
  | cons dx dr =>
    cases dr with
    | cons _ _ => exact h.elim
    | nil =>
      replace h := h.opt
      obtain ⟨c, e, h⟩ := h
      rw [Option.map_eq_some_iff] at e
      obtain ⟨ys, e, rfl⟩ := e
      cases dx with
      | @tup p xs vs h1 h2 =>
        cases e
        exact call_tuple_of pins s σ W.H _ us Q I r ⟨p, vs, rfl, .inr ⟨h1, h.ok hr (.tup h1 h2)⟩⟩
      | @lv p xs vs h1 h2 h3 =>
        cases e
        exact call_tuple_of pins s σ W.H _ us Q I r ⟨p, vs, rfl, .inl ⟨.inl (.inl h2), fun l hl => h.tup hr hl h3⟩⟩
      | @fz p ns h1 =>
        cases e
        exact call_tuple_of pins s σ W.H _ us Q I r ⟨p, ns.map V.int, rfl, .inl ⟨h1.sq, fun l hl => h.tup hr hl (DenL.ofInts ns)⟩⟩
      | @ref n p q =>
        simp only [seqOf] at e
        split at e
        · rename_i zs hz
          cases e
          obtain ⟨vs, h1, h2⟩ := hr.cell n p _ q hz
          exact call_tuple_of pins s σ W.H _ us Q I r ⟨p, vs, rfl, .inl ⟨.inl (.inl h1), fun l hl => h.tup hr hl h2⟩⟩
        · cases e
      | non => cases e
      | bl _ => cases e
      | int _ => cases e
      | str _ => cases e
      | obj _ => cases e
theorem cb_blt (b : Blt) (hc : X.calm = true) : CallR X (bltV b) (rCl X.K Γ (bltOp b)) := by
  cases b with
  | len => exact cb_len
  | sum => exact cb_sum hc
  | all => exact cb_all hc
  | any => exact cb_any hc
  | max => exact cb_max hc
  | min => exact cb_min hc
  | abs => exact cb_abs
  | int => exact cb_int
  | str => exact cb_str
  | tuple => exact cb_tuple
  | divmod => exact cb_divmod
/-- those that give a new list -/
theorem cb_bltL (b : BltL) (c : Bool) (hc : X.calm = true) : CallR X (bltLV b) (rCl X.K Γ fun xs S => (opt (bltLOp b xs S) S).bind fun ys S2 => fin c ys S2) := by
  rintro pins s σ H xs us Q I r ⟨W, as, S, Wx, σ', rfl, hr, d, h⟩
  dsimp only at h
  cases e : bltLOp b as S with
  | none => rw [e] at h; exact h.elim
  | some ys =>
    rw [e] at h
    have h : Post X.K Γ Wx σ' (Den X.K Γ) (fin c ys S) W Q := h
    cases d with
    | nil => cases b <;> cases e
    | cons dx dr =>
      cases dr with
      | cons _ _ => cases b <;> cases e
      | nil =>
        cases b with
        | list =>
          obtain ⟨p, vs, rfl, hp, dl⟩ := seqOf_den hr dx e
          exact call_list_of pins s σ W.H _ us Q I r ⟨p, vs, rfl, hp, fun l hl => h.fin hr hl dl⟩
        | sorted =>
          replace e : ((lstOf S _).bind intsOf).map (fun ns => (sortI ns).map PV.int) = some ys := e
          rw [Option.map_eq_some_iff] at e
          obtain ⟨ns, e, rfl⟩ := e
          obtain ⟨p, vs, rfl, hp, dl⟩ := lstOf_den hr dx (bindI e)
          rw [DenL.ints dl] at hp
          refine cr_sortedI pins s σ W.H _ us Q I r ⟨p, ns, rfl, .inl (.inl hp), fun ns' l h1 h2 hl => ?_⟩
          rw [PySem.W.ksm_same (h1.trans (sortI_perm ns).symm) h2 (sortI_sorted ns)]
          exact h.fin hr hl (DenL.ofInts _)

/-! ### isinstance -/
def tyS : TyN → String
  | .int => "int" | .bool => "bool" | .str => "str" | .tuple => "tuple" | .list => "list" | .dict => "dict"
theorem kb_non (t : TyN) : kitB "NoneType" (tyS t) = some false := by cases t <;> decide +kernel
theorem kb_bl (t : TyN) : kitB "bool" (tyS t) = some (match t with | .bool => true | .int => true | _ => false) := by cases t <;> decide +kernel
theorem kb_int (t : TyN) : kitB "int" (tyS t) = some (match t with | .int => true | _ => false) := by cases t <;> decide +kernel
theorem kb_str (t : TyN) : kitB "str" (tyS t) = some (match t with | .str => true | _ => false) := by cases t <;> decide +kernel
theorem kb_tup (t : TyN) : kitB "tuple" (tyS t) = some (match t with | .tuple => true | _ => false) := by cases t <;> decide +kernel
theorem kb_lst (t : TyN) : kitB "list" (tyS t) = some (match t with | .list => true | _ => false) := by cases t <;> decide +kernel
theorem kb_dct (t : TyN) : kitB "dict" (tyS t) = some (match t with | .dict => true | _ => false) := by cases t <;> decide +kernel
theorem tyX_tup {K : PySem.W.Frag} {H : Hp} {a : Addr} {vs : List V} (h : SqT K H a vs) : TyX K H (.ref a) (.type "tuple") := by
  rcases h with (h | ⟨o, h⟩) | ⟨o, its, n, h, hc, _⟩
  · exact .base (.tup h)
  · exact .fTuple h
  · exact .kTuple h hc
theorem cb_isi {pins : List (Addr × Obj)} {s : Shared} {σ : L2.St} {W : Wd} {S : Store} {t : TyN} {x : PV} {v : V} {us : List Value} {Q : VK} {k : Bool} (I : Inv X pins σ W.H s) (r : Vals [v, .ty (tyS t)] us) (hr : Rl X.K Γ W S) (dx : Den X.K Γ W x v)
    (e : isiOp t x S = some k) (q : Q (.bl k) W.H) : wpAny (model X.prog X.w) X.A (call (.builtin "isinstance") us) (EP X pins σ Q) X.xe s := by
  have fin : ∀ T, TyX X.K W.H v (.type T) → kitB T (tyS t) = some k → wpAny (model X.prog X.w) X.A (call (.builtin "isinstance") us) (EP X pins σ Q) X.xe s :=
    fun T h1 h2 => call_isi pins s σ W.H _ us Q I r ⟨v, _, .type T, _, k, rfl, .ty _, h1, kit_ty h2, q⟩
  cases dx with
  | non => cases e; exact fin _ (.base .non) (kb_non t)
  | bl b => cases e; exact fin _ (.base (.bl b)) (kb_bl t)
  | int b => cases e; exact fin _ (.base (.int b)) (kb_int t)
  | str b => cases e; exact fin _ (.base (.str _)) (kb_str t)
  | tup h1 h2 => cases e; exact fin _ (tyX_tup h1) (kb_tup t)
  | lv h1 h2 h3 => cases e; exact fin _ (.base (.lst h2)) (kb_lst t)
  | fz h1 =>
    cases e
    rcases h1 with ⟨o, h1⟩ | ⟨o, its, n, h1, hc, _⟩
    · exact fin _ (.base (.frz h1)) (kb_lst t)
    · exact fin _ (.kList h1 hc) (kb_lst t)
  | obj i => cases e
  | @ref n p h1 =>
    simp only [isiOp] at e
    split at e
    · rename_i xs hx
      cases e
      obtain ⟨vs, g1, g2⟩ := hr.cell n p _ h1 hx
      exact fin _ (.base (.lst g1)) (kb_lst t)
    · rename_i xs hx
      cases e
      obtain ⟨vs, g1, g2⟩ := hr.cell n p _ h1 hx
      exact fin _ (.base (.dK g1)) (kb_dct t)
    · cases e

/-! ### methods -/
def mtS : Mt → String
  | .append => "append" | .extend => "extend" | .pop => "pop"
theorem Post.write {Wx : WX} {σ' : L2.St} {W : Wd} {S : Store} {n : Nat} {p : Addr} {c : Cell} {r : PV} {v : V} {o : HO} {Q : VK} (h : Post X.K Γ Wx σ' (Den X.K Γ) (.ok r (S.set n c)) W Q) (hr : Rl X.K Γ W S) (hn : W.m[n]? = some p) (hm : Mut (W.H p))
    (hc : CellOk X.K Γ { W with H := upd W.H p o } p c) (d : Den X.K Γ W r v) : Q v (upd W.H p o) :=
  h _ _ (Le.write hr hn hm) (Rl.write hr hn hm hc) (d.mono (Le.write hr hn hm))
/-- what a method of a list does: receiver, arguments -/
def rMt (K : PySem.W.Frag) (Γ : Gm) (m : Mt) : V → List V → Hp → VK → Prop := fun x xs H Q => ∃ W a as S Wx σ, W.H = H ∧ Rl K Γ W S ∧ Den K Γ W a x ∧ DenL K Γ W as xs ∧ Post K Γ Wx σ (Den K Γ) (mtOp m a as S) W Q
theorem mb_append : MtR X "list.append" (rMt X.K Γ .append) := by
  rintro pins s σ H x xs v us Q I rx r ⟨W, a, as, S, Wx, σ', rfl, hr, da, d, h⟩
  cases da with
  | @ref n p hn =>
    cases d with
    | nil => exact h.elim
    | cons dy dr =>
      cases dr with
      | cons _ _ => exact h.elim
      | nil =>
        simp only [mtOp] at h
        split at h
        · rename_i ys hy
          split at h
          · rename_i hl
            obtain ⟨vs, h1, h2⟩ := hr.cell n p _ hn hy
            refine mt_append pins s σ W.H _ _ v us Q I rx r ⟨p, vs, _, rfl, rfl, h1, by rw [← h2.length]; exact hl, ?_⟩
            have hm : Mut (W.H p) := by rw [h1]; trivial
            exact h.write hr hn hm ⟨_, upd_same, (h2.mono (Le.write hr hn hm)).append (.cons (dy.mono (Le.write hr hn hm)) .nil)⟩ .non
          · exact h.elim
        · exact h.elim
  | _ => exact h.elim
theorem mb_extend : MtR X "list.extend" (rMt X.K Γ .extend) := by
  rintro pins s σ H x xs v us Q I rx r ⟨W, a, as, S, Wx, σ', rfl, hr, da, d, h⟩
  cases da with
  | @ref n p hn =>
    cases d with
    | nil => exact h.elim
    | cons dy dr =>
      cases dr with
      | cons _ _ => exact h.elim
      | nil =>
        simp only [mtOp] at h
        split at h
        · rename_i ys zs hy hz
          split at h
          · rename_i hl
            obtain ⟨vs, h1, h2⟩ := hr.cell n p _ hn hy
            obtain ⟨q, ws, rfl, k1, k2⟩ := lstOf_den hr dy hz
            refine mt_extend pins s σ W.H _ _ v us Q I rx r ⟨p, q, vs, ws, rfl, rfl, h1, k1, by rw [← h2.length, ← k2.length]; exact hl, ?_⟩
            have hm : Mut (W.H p) := by rw [h1]; trivial
            exact h.write hr hn hm ⟨_, upd_same, (h2.mono (Le.write hr hn hm)).append (k2.mono (Le.write hr hn hm))⟩ .non
          · exact h.elim
        · exact h.elim
  | _ => exact h.elim
theorem DenL.dropLast {K : PySem.W.Frag} {W : Wd} {xs : List PV} {vs : List V} (d : DenL K Γ W xs vs) : DenL K Γ W xs.dropLast vs.dropLast := by
  rw [List.dropLast_eq_take, List.dropLast_eq_take, d.length]
  exact d.take _
theorem DenL.eraseIdx {K : PySem.W.Frag} {W : Wd} : ∀ {xs : List PV} {vs : List V} (i : Nat), DenL K Γ W xs vs → DenL K Γ W (xs.eraseIdx i) (vs.eraseIdx i)
  | _, _, _, .nil => .nil
  | _, _, 0, .cons a b => b
  | _, _, i + 1, .cons a b => .cons a (DenL.eraseIdx i b)
theorem mb_pop : MtR X "list.pop" (rMt X.K Γ .pop) := by
  rintro pins s σ H x xs v us Q I rx r ⟨W, a, as, S, Wx, σ', rfl, hr, da, d, h⟩
  cases da with
  | @ref n p hn =>
    cases d with
    | nil =>
      simp only [mtOp] at h
      split at h
      · rename_i ys hy
        split at h
        · rename_i z hz
          obtain ⟨vs, h1, h2⟩ := hr.cell n p _ hn hy
          rw [List.getLast?_eq_getElem?] at hz
          obtain ⟨w, hw, dw⟩ := h2.get hz
          refine mt_pop pins s σ W.H _ _ v us Q I rx r ⟨p, vs, w, rfl, rfl, h1, by rw [← h2.length]; exact hw, ?_⟩
          have hm : Mut (W.H p) := by rw [h1]; trivial
          exact h.write hr hn hm ⟨_, upd_same, (h2.mono (Le.write hr hn hm)).dropLast⟩ dw
        · exact h.elim
      · exact h.elim
    | cons dy dr =>
      cases dr with
      | cons _ _ => cases dy <;> exact h.elim
      | nil =>
        cases dy with
        | int i =>
          simp only [mtOp] at h
          split at h
          · rename_i ys hy
            split at h
            · rename_i j hj
              split at h
              · rename_i z hz
                obtain ⟨vs, h1, h2⟩ := hr.cell n p _ hn hy
                obtain ⟨w, hw, dw⟩ := h2.get hz
                obtain ⟨its, _, _, _, hsz⟩ := I.lst h1
                obtain ⟨k1, k2, k3, k4⟩ := ixN_seq hj
                have hll : ys.length ≤ sizeLine := by rw [h2.length]; exact hsz
                rw [sizeLine_eq] at hll
                refine mt_popAt pins s σ W.H _ _ v us Q I rx r ⟨p, vs, i, j, w, rfl, rfl, h1, by omega, by omega, by rw [← h2.length]; exact k1, hw, ?_⟩
                have hm : Mut (W.H p) := by rw [h1]; trivial
                exact h.write hr hn hm ⟨_, upd_same, (h2.mono (Le.write hr hn hm)).eraseIdx j⟩ dw
              · exact h.elim
            · exact h.elim
          · exact h.elim
        | _ => exact h.elim
  | _ => exact h.elim
theorem mt_den {W : Wd} {S : Store} {Wx : WX} {σ' : L2.St} {m : Mt} {a : PV} {x : V} {as : List PV} {Q : VK} (hr : Rl X.K Γ W S) (d : Den X.K Γ W a x) (h : Post X.K Γ Wx σ' (Den X.K Γ) (mtOp m a as S) W Q) : tyV X.K "list" x W.H := by
  cases d with
  | @ref n p hn =>
    refine .inl ⟨rfl, ?_⟩
    have : ∃ xs, S[n]? = some (.lst xs) := by
      cases m <;> (
        cases as with
        | nil => (first | exact h.elim | (simp only [mtOp] at h; split at h <;> first | exact h.elim | exact ⟨_, by assumption⟩))
        | cons b bs =>
          cases bs with
          | nil => (cases b <;> first | exact h.elim | (simp only [mtOp] at h; split at h <;> first | exact h.elim | exact ⟨_, by assumption⟩))
          | cons _ _ => (cases b <;> exact h.elim))
    obtain ⟨xs, e⟩ := this
    obtain ⟨vs, h1, h2⟩ := hr.cell n p _ hn e
    exact ⟨vs, .inl (.inl h1)⟩
  | non => cases m <;> exact h.elim
  | bl _ => cases m <;> exact h.elim
  | int _ => cases m <;> exact h.elim
  | str _ => cases m <;> exact h.elim
  | tup _ _ => cases m <;> exact h.elim
  | lv _ _ _ => cases m <;> exact h.elim
  | obj _ => cases m <;> exact h.elim
  | fz _ => cases m <;> exact h.elim
end
end Ev

/-! Part D: when a term of the small language is that of a piece of the text; expressions. -/
namespace Ev
open PySem PySem.Spec PyProof.Rows L2

/-! ### the same piece of text -/
structure Nm where
  fn : Nat → Option Str
  cn : Nat → Option Str
  dj : Nat → Nat → Bool

def visB (sc : Scope) (x : Str) : Bool := sc.names.lookup x == some .local || sc.names.lookup x == some .cell || sc.names.lookup x == some .free
/-- a comprehension's scope, as it stands in the scope sc -/
def relab (sc scope : Scope) : Scope := { scope with names := scope.names.map fun (n, k) => if (k == NameKind.free && sc.kind == .function && sc.names.lookup n == some .cell) then (n, NameKind.cell) else (n, k) }
def stB (sc ss : Scope) (x : Str) : Bool := sc.names.lookup x == some .local || (sc.names.lookup x == some .cell && ss.names.lookup x == some .cell)
def glB (sc : Scope) (x : Str) : Bool := sc.names.lookup x == some .globalImplicit
def okN (x : Str) : Bool := !(x == ("__debug__" : Str)) && !(x == ("__classdict__" : Str)) && !(x == ("__name__" : Str))
def bltN : Blt → Str
  | .len => "len" | .sum => "sum" | .all => "all" | .any => "any" | .max => "max" | .min => "min" | .abs => "abs" | .int => "int" | .str => "str" | .tuple => "tuple" | .divmod => "divmod"
def bltLN : BltL → Str
  | .list => "list" | .sorted => "sorted"
def tyNm (t : TyN) : Str := Str.ofString (tyS t)
def ns : Expr → Bool
  | .Starred .. => false
  | _ => true
def noSet : Expr → Bool
  | .Set .. => false
  | _ => true
def plIx : Expr → Bool
  | .Slice .. => false
  | .Tuple .. => false
  | _ => true
def noCall0 : Expr → Bool
  | .Call (.Name _ _) [] [] _ => false
  | _ => true
def isTupX : Expr → Bool
  | .Tuple .. => true
  | _ => false
def opOf : BOp → Operator
  | .add => .Add | .sub => .Sub | .mul => .Mult | .fdiv => .FloorDiv | .mod => .Mod | .pow => .Pow

mutual
/-- the slots of a target's names -/
def tgs : Tg → List Nat
  | .name i => [i]
  | .tup ts => tgss ts
  | .sub _ _ => [1000000]
def tgss : Tgs → List Nat
  | .nil => []
  | .cons t r => tgs t ++ tgss r
end
/-- may it be asked for its truth by itself -/
def tsE : E → Bool
  | .and a b => tsE a && tsE b
  | .or a b => tsE a && tsE b
  | .not a => tsE a
  | .ite _ _ _ => false
  | _ => true
section
variable (M : Nm) (N : List Str)
mutual
def corE (sc : Scope) : E → Expr → Bool
  | .var i, .Name x _ => decide (N[i]? = some x) && visB sc x && okN x
  | .non, .Constant .none _ _ => true
  | .bl b, .Constant (.bool c) _ _ => b == c
  | .int i, .Constant (.int j) _ _ => decide (i = j)
  | .str s, .Constant (.str x) _ _ => decide (sOf s = x)
  | .glob i, .Name x _ => decide (M.cn i = some x) && glB sc x && okN x
  | .bin op _ a b, .BinOp x o y _ => decide (opOf op = o) && corE sc a x && corE sc b y
  | .neg a, .UnaryOp .USub x _ => corE sc a x
  | .cmp op a b, .Compare x [o] [y] _ => decide (copOf op = o) && noSet y && corE sc a x && corE sc b y
  | .chain op op' a b c, .Compare x [o, o'] [y, z] _ => decide (copOf op = o) && decide (copOf op' = o') && noSet z && corE sc a x && corE sc b y && corE sc c z
  | .din ng a d, .Compare x [o] [y] _ => decide ((if ng then CmpOp.NotIn else CmpOp.In) = o) && noSet y && corE sc a x && corE sc d y
  | .and a b, .BoolOp .And (x :: y :: r) p => corE sc a x && (match r with
    | [] => corE sc b y
    | z :: r' => corE sc b (.BoolOp .And (y :: z :: r') p))
  | .or a b, .BoolOp .Or (x :: y :: r) p => corE sc a x && (match r with
    | [] => corE sc b y
    | z :: r' => corE sc b (.BoolOp .Or (y :: z :: r') p))
  | .not a, .UnaryOp .Not x _ => corE sc a x
  | .ite c a b, .IfExp z x y _ => tsE c && corE sc c z && corE sc a x && corE sc b y
  | .tup es, .Tuple xs _ _ => corEs sc es xs
  | .lst _ es, .List xs _ => corEs sc es xs
  | .sub a i, .Subscript x y _ => plIx y && corE sc a x && corE sc i y
  | .dsub a i, .Subscript x y _ => plIx y && corE sc a x && corE sc i y
  | .slice _ a lo hi, .Subscript x (.Slice l h none _) _ => corE sc a x && corEo sc lo l && corEo sc hi h
  | .call f es j, .Call (.Name x _) xs [] _ => decide (M.fn f = some x) && glB sc x && okN x && xs.all ns && !xs.isEmpty && corEs sc es xs && (j == 0 || M.dj f j)
  | .blt b es, .Call (.Name x _) xs [] _ => decide (bltN b = x) && glB sc x && xs.all ns && !xs.isEmpty && corEs sc es xs
  | .bltL b _ es, .Call (.Name x _) xs [] _ => decide (bltLN b = x) && glB sc x && xs.all ns && !xs.isEmpty && corEs sc es xs
  | .isi a t, .Call (.Name x _) [e, .Name T _] [] _ => decide (x = ("isinstance" : Str)) && glB sc "isinstance" && decide (tyNm t = T) && glB sc T && ns e && corE sc a e
  | .mt m a es, .Call (.Attribute o x ap) xs [] cp => decide (Str.ofString (mtS m) = x) && corE sc a o && noCall0 o && xs.all ns && corEs sc es xs && (ap.endLine == cp.line) && decide (xs.length < 30)
  | .comp _ elt tg it cond own, .ListComp x [⟨t, i, ifs, 0⟩] scope _ => blkC N sc scope own && noSet i && (tgs tg).all (fun j => (own.map (·.2)).contains j) && corIt sc it i t && corTg (relab sc scope) scope tg t && corCd (relab sc scope) cond ifs && corE (relab sc scope) elt x
  | _, _ => false
def corEs (sc : Scope) : Es → List Expr → Bool
  | .nil, [] => true
  | .cons e r, x :: xs => ns x && corE sc e x && corEs sc r xs
  | .star e r, .Starred x _ :: xs => corE sc e x && corEs sc r xs
  | _, _ => false
def corEo (sc : Scope) : Eo → Option Expr → Bool
  | .none, none => true
  | .some e, some x => corE sc e x
  | _, _ => false
def corCd (sc : Scope) : Eo → List Expr → Bool
  | .none, [] => true
  | .some e, [x] => tsE e && corE sc e x
  | _, _ => false
def corTg (sc ss : Scope) : Tg → Expr → Bool
  | .name i, .Name x _ => decide (N[i]? = some x) && stB sc ss x
  | .tup ts, .Tuple xs _ _ => corTgs sc ss ts xs
  | .sub o i, .Subscript x y _ => plIx y && corE sc o x && corE sc i y
  | _, _ => false
def corTgs (sc ss : Scope) : Tgs → List Expr → Bool
  | .nil, [] => true
  | .cons t r, x :: xs => ns x && corTg sc ss t x && corTgs sc ss r xs
  | _, _ => false
def corIt (sc : Scope) : It → Expr → Expr → Bool
  | .seq e, x, _ => corE sc e x
  | .rng1 e, .Call (.Name f _) [x] [] _, _ => decide (f = ("range" : Str)) && glB sc "range" && ns x && corE sc e x
  | .rng2 a b, .Call (.Name f _) [x, y] [] _, _ => decide (f = ("range" : Str)) && glB sc "range" && ns x && ns y && corE sc a x && corE sc b y
  | .enum e, .Call (.Name f _) [x] [] _, t => decide (f = ("enumerate" : Str)) && glB sc "enumerate" && ns x && corE sc e x && isTupX t
  | .zip a b, .Call (.Name f _) [x, y] [] _, t => decide (f = ("zip" : Str)) && glB sc "zip" && ns x && ns y && corE sc a x && corE sc b y && isTupX t
  | _, _, _ => false
end
end
end Ev

/-! Part E: expressions do what their meaning says. -/
namespace Ev
open PySem PySem.Spec PyProof.Rows L2

theorem _root_.L2.PE.imp {X : Cx} {e : Expr} {t t' : TE} (h : PE X e t) (i : ∀ σ H Q, t' σ H Q → t σ H Q) : PE X e t' := ⟨fun pins s σ H Q I q => h.run pins s σ H Q I (i _ _ _ q)⟩
theorem _root_.L2.PT.imp {X : Cx} {e : Expr} {t t' : TT} (h : PT X e t) (i : ∀ σ H Q, t' σ H Q → t σ H Q) : PT X e t' := ⟨fun pins s σ H Q I q => h.run pins s σ H Q I (i _ _ _ q)⟩
theorem _root_.L2.PW.imp {X : Cx} {e : Expr} {t t' : TT} (h : PW X e t) (i : ∀ σ H Q, t' σ H Q → t σ H Q) : PW X e t' := ⟨fun wh pins s σ H Q I q => h.run wh pins s σ H Q I (i _ _ _ q)⟩
theorem _root_.L2.PA.imp {X : Cx} {e : List Expr} {t t' : TA} (h : PA X e t) (i : ∀ σ H Q, t' σ H Q → t σ H Q) : PA X e t' := ⟨fun pos pins s σ H Q I q => h.run pos pins s σ H Q I (i _ _ _ q)⟩
theorem _root_.L2.PO.imp {X : Cx} {e : Option Expr} {t t' : TO} (h : PO X e t) (i : ∀ σ H Q, t' σ H Q → t σ H Q) : PO X e t' := ⟨fun pins s σ H Q I q => h.run pins s σ H Q I (i _ _ _ q)⟩
theorem _root_.L2.PI.imp {X : Cx} {tg e : Expr} {t t' : TI} (h : PI X tg e t) (i : ∀ σ H Q, t' σ H Q → t σ H Q) : PI X tg e t' := ⟨fun pins s σ H Q I q => h.run pins s σ H Q I (i _ _ _ q)⟩
theorem _root_.L2.PG.imp {X : Cx} {e : Expr} {t t' : TG} (h : PG X e t) (i : ∀ v σ H Q, t' v σ H Q → t v σ H Q) : PG X e t' := ⟨fun pins s σ H v u Q I r q => h.run pins s σ H v u Q I r (i _ _ _ _ q)⟩
theorem _root_.L2.PGs.imp {X : Cx} {e : List Expr} {t t' : TGs} (h : PGs X e t) (i : ∀ v σ H Q, t' v σ H Q → t v σ H Q) : PGs X e t' := ⟨fun pins s σ H v u Q I r q => h.run pins s σ H v u Q I r (i _ _ _ _ q)⟩

/-! ### what the text's pieces are not -/
theorem nobeh {op : CmpOp} {y : Expr} (h : noSet y = true) : behindInMarks op y = false := by
  cases y <;> first | rfl | (cases h; done)
theorem nolast {op op' : CmpOp} {y z : Expr} (h : noSet z = true) : lastMarks [op, op'] [y, z] = false := by
  show lastMarks [op'] [z] = false
  exact nobeh h
theorem nofold {y : Expr} {env : Env} (h : noSet y = true) : ∀ x, foldedSetIterable y env x = pure x := by
  intro x
  cases y <;> first | rfl | (cases h; done)
theorem star_ns {e : Expr} {es : List Expr} {env : Env} (h : ns e = true) : starEach (e :: es) env = (false, eval e env) :: starEach es env := by
  cases e <;> first | rfl | (cases h; done)
theorem any_ns {env : Env} {pos : Pos} : ∀ {es : List Expr}, es.all ns = true → (backTo pos (starEach es env)).any (·.1) = false
  | [], _ => rfl
  | e :: es, h => by
    rw [List.all_cons, Bool.and_eq_true] at h
    rw [star_ns h.1]
    unfold backTo
    rw [List.map_cons, List.any_cons]
    have := any_ns (env := env) (pos := pos) h.2
    unfold backTo at this
    rw [this]
    rfl
theorem all_ns {env : Env} {pos : Pos} : ∀ {es : List Expr}, es.all ns = true → (backTo pos (starEach es env)).all (fun x => !x.1) = true
  | [], _ => rfl
  | e :: es, h => by
    rw [List.all_cons, Bool.and_eq_true] at h
    rw [star_ns h.1]
    unfold backTo
    rw [List.map_cons, List.all_cons]
    have := all_ns (env := env) (pos := pos) h.2
    unfold backTo at this
    rw [this]
    rfl
theorem plIx_sub {b : Expr} (h : plIx b = true) : ∀ o i, subscripted b false o i = operate [o, i] (getItem o i) := by
  intro o i
  cases b <;> first | rfl | (cases h; done)
theorem noCall0_base {o : Expr} {name : Str} {env : Env} (h : noCall0 o = true) : attributeBase o name env (eval o env) = eval o env := by
  cases o with
  | Call f args kws pos =>
    cases f with
    | Name id p =>
      cases args with
      | nil =>
        cases kws with
        | nil => cases h
        | cons _ _ => rfl
      | cons _ _ => rfl
    | _ => rfl
  | _ => rfl

/-! ### where a piece of text stands -/
def spOf (K : PySem.W.Frag) (Γ : Gm) (P : Pg) (fw k f : Nat) : Sp := fun vs H Q E => ∃ W args S, W.H = H ∧ Rl K Γ W S ∧ DenL K Γ W args vs ∧ (∃ d, P.fn f = some d ∧ vs.length = d.np) ∧ Post K Γ (fun cls d _ H => E cls d H) [] (Den K Γ) (cal P fw k f args S) W Q

def bltNames : List Str := ["len", "sum", "all", "any", "max", "min", "abs", "int", "str", "tuple", "divmod", "list", "sorted", "isinstance", "range", "enumerate", "zip", "bool", "dict"]

structure Cxt (Γ : Gm) (P : Pg) (fw : Nat) (M : Nm) (N : List Str) (k : Nat) (sc : Scope) (X : Cx) (Wx : WX) : Prop where
  hN : X.N = N
  nd : N.Nodup
  hsc : X.env.scope = sc
  calm : X.calm = true
  room : Room k X.A
  tk : Takes X Wx
  fn : ∀ f x, M.fn f = some x → ∃ fa fd ps, X.mg x = some (.ref fa) ∧ PySem.W.keepIn X.K (.ref fa) = true ∧ FnOk X.prog X.w X.K X.mg X.base (L2.CX X.prog X.w) k fa fd ps (spOf X.K Γ P fw k f) ∧ Binds X.K fd ps [] ∧
    (∃ d, P.fn f = some d ∧ d.np = ps.length) ∧ ∀ j, M.dj f j = true → ∃ dvs ds, Binds X.K fd ps ds ∧ Vals dvs ds ∧ ∀ W, DenL X.K Γ W (P.dv f j) dvs
  dv0 : ∀ f, P.dv f 0 = []
  cn : ∀ i x, M.cn i = some x → ∃ u v, X.mg x = some u ∧ RelV v u ∧ ∀ W, Den X.K Γ W (P.cs i) v
  kd : ∀ W i kvs, P.kd i = some kvs → KdOk X.K X.w Γ W (Γ.oA i) kvs
  bt : ∀ x, x ∈ bltNames → X.mg x = none

theorem Cxt.units {Γ : Gm} {P : Pg} {fw : Nat} {M : Nm} {N : List Str} {k : Nat} {sc : Scope} {X : Cx} {Wx : WX} (c : Cxt Γ P fw M N k sc X Wx) : X.A.units + 64 < cLine := c.room.units
theorem Cxt.blk {Γ : Gm} {P : Pg} {fw : Nat} {M : Nm} {N : List Str} {k : Nat} {sc : Scope} {X : Cx} {Wx : WX} (c : Cxt Γ P fw M N k sc X Wx) (s : Shared) (H : Hp) (scope : Scope) (C : Addr) (cl : List (Str × Addr)) (fp : List Addr) :
    Cxt Γ P fw M N k (relab sc scope) (X.blk s H scope (compEnvC scope cl C X.env) fp) (fun _ _ _ _ => False) where
  hN := c.hN
  nd := c.nd
  hsc := by
    have e := c.hsc
    subst e
    rfl
  calm := c.calm
  room := c.room
  tk := takes0
  fn := c.fn
  dv0 := c.dv0
  cn := c.cn
  kd := c.kd
  bt := c.bt

section
variable {Γ : Gm} {P : Pg} {fw : Nat} {M : Nm} {N : List Str} {k : Nat} {sc : Scope} {X : Cx} {Wx : WX}

theorem visB_ok {x : Str} (h : visB sc x = true) (e : X.env.scope = sc) : Vis X.env.scope x := by
  rw [e]
  unfold visB at h
  simp only [Bool.or_eq_true, beq_iff_eq] at h
  rcases h with (h | h) | h
  · exact .inl h
  · exact .inr (.inl h)
  · exact .inr (.inr h)
theorem glB_ok {x : Str} (h : glB sc x = true) (e : X.env.scope = sc) : Gl X x := by
  unfold glB at h
  rw [beq_iff_eq] at h
  show X.env.scope.names.lookup x = _
  rw [e]
  exact h
theorem stB_ok {ss : Scope} {x : Str} (c : Cxt Γ P fw M N k sc X Wx) (hf : ∀ x, ss.names.lookup x = some .cell → X.fn x = true) (h : stB sc ss x = true) : Loc X.env.scope x ∧ (X.fn x = true ∨ X.env.scope.names.lookup x = some .local) := by
  rw [c.hsc]
  unfold stB at h
  simp only [Bool.or_eq_true, Bool.and_eq_true, beq_iff_eq] at h
  rcases h with h | h
  · exact ⟨.inl h, .inr h⟩
  · exact ⟨.inr h.1, .inl (hf x h.2)⟩
theorem okN_ok {x : Str} (h : okN x = true) : (x == ("__debug__" : Str)) = false ∧ (x == ("__classdict__" : Str)) = false ∧ x ≠ "__name__" := by
  unfold okN at h
  simp only [Bool.and_eq_true, Bool.not_eq_true'] at h
  exact ⟨h.1.1, h.1.2, by simpa using h.2⟩

/-- the reading of an expression, at the program's own meaning -/
abbrev rE (X : Cx) (Γ : Gm) (P : Pg) (fw k : Nat) (Wx : WX) (e : E) : TE := tE X.K Γ Wx (evE (cal P fw k) P e)
abbrev rEs (X : Cx) (Γ : Gm) (P : Pg) (fw k : Nat) (Wx : WX) (e : Es) : TA := tA X.K Γ Wx (evEs (cal P fw k) P e)
def tO (K : PySem.W.Frag) (Γ : Gm) (Wx : WX) (f : Rho → Store → R (Option Int)) : TO := fun σ H Q => ∃ W ρ S, W.H = H ∧ Rl K Γ W S ∧ SlotR K Γ W ρ σ ∧ Post K Γ Wx σ (fun _ a b => a = b) (f ρ S) W Q
abbrev rEo (X : Cx) (Γ : Gm) (P : Pg) (fw k : Nat) (Wx : WX) (e : Eo) : TO := tO X.K Γ Wx (evEo (cal P fw k) P e)
abbrev rT (X : Cx) (Γ : Gm) (P : Pg) (fw k : Nat) (Wx : WX) (e : E) : TT := tT X.K Γ Wx (evT (cal P fw k) P e)

/-! two in a row -/
theorem two {K : PySem.W.Frag} {f g : Rho → Store → R PV} {op : PV → PV → Store → R PV} {σ : L2.St} {H : Hp} {Q : VK} (h : tE K Γ Wx (fun ρ S => (f ρ S).bind fun x S1 => (g ρ S1).bind fun y S2 => op x y S2) σ H Q) :
    tE K Γ Wx f σ H fun x H1 => tE K Γ Wx g σ H1 fun y H2 => ∃ W a b S, W.H = H2 ∧ Rl K Γ W S ∧ Den K Γ W a x ∧ Den K Γ W b y ∧ Post K Γ Wx σ (Den K Γ) (op a b S) W Q := by
  obtain ⟨W, ρ, S, rfl, hr, hs, h⟩ := h
  refine ⟨W, ρ, S, rfl, hr, hs, (h.bind (D1 := Den K Γ)).imp ?_⟩
  rintro x H1 ⟨W1, a, S1, rfl, l1, r1, d1, h1⟩
  refine ⟨W1, ρ, S1, rfl, r1, hs.mono l1, (h1.bind (D1 := Den K Γ)).imp ?_⟩
  rintro y H2 ⟨W2, b, S2, rfl, l2, r2, d2, h2⟩
  exact ⟨W2, a, b, S2, rfl, r2, d1.mono l2, d2, h2⟩

theorem s_var (c : Cxt Γ P fw M N k sc X Wx) {i : Nat} {x : Str} {p : Pos} (h1 : N[i]? = some x) (h2 : visB sc x = true) (h3 : okN x = true) : PE X (.Name x p) (rE X Γ P fw k Wx (.var i)) := by
  obtain ⟨o1, o2, _⟩ := okN_ok h3
  refine (pe_var (by rw [c.hN]; exact h1) (visB_ok h2 c.hsc) o1 o2).imp ?_
  rintro σ H Q ⟨W, ρ, S, rfl, hr, hs, h⟩
  simp only [evE] at h
  split at h
  · rename_i v e
    obtain ⟨v', h1, h2⟩ := hs.get i v e
    exact ⟨v', h1, h.ok hr h2⟩
  · exact h.elim
theorem s_non {j p} : PE X (.Constant .none j p) (rE X Γ P fw k Wx .non) := pe_non.imp fun _ _ _ ⟨W, ρ, S, e, hr, hs, h⟩ => e ▸ h.ok hr .non
theorem s_bl {b j p} : PE X (.Constant (.bool b) j p) (rE X Γ P fw k Wx (.bl b)) := pe_bl.imp fun _ _ _ ⟨W, ρ, S, e, hr, hs, h⟩ => e ▸ h.ok hr (.bl b)
theorem s_int {b j p} : PE X (.Constant (.int b) j p) (rE X Γ P fw k Wx (.int b)) := pe_int.imp fun _ _ _ ⟨W, ρ, S, e, hr, hs, h⟩ => e ▸ h.ok hr (.int b)
theorem s_str {b j p} : PE X (.Constant (.str (sOf b)) j p) (rE X Γ P fw k Wx (.str b)) := pe_str.imp fun _ _ _ ⟨W, ρ, S, e, hr, hs, h⟩ => e ▸ h.ok hr (.str b)
theorem s_glob (c : Cxt Γ P fw M N k sc X Wx) {i : Nat} {x : Str} {p : Pos} (h1 : M.cn i = some x) (h2 : glB sc x = true) (h3 : okN x = true) : PE X (.Name x p) (rE X Γ P fw k Wx (.glob i)) := by
  obtain ⟨u, v, m, r, d⟩ := c.cn i x h1
  refine (pe_glob (glB_ok h2 c.hsc) m r (okN_ok h3).1).imp ?_
  rintro σ H Q ⟨W, ρ, S, rfl, hr, hs, h⟩
  exact h.ok hr (d W)
theorem ob_all (op : BOp) (cc : Bool) : OpR X (binaryOp (opOf op)) (rB X.K Γ (binop cc op)) := by
  cases op with
  | add => exact ob_add cc
  | sub => exact ob_sub cc
  | mul => exact ob_mul cc
  | fdiv => exact ob_fdiv cc
  | mod => exact ob_mod cc
  | pow => exact ob_pow cc
theorem s_bin {a b : E} {x y : Expr} {op : BOp} {cc : Bool} {p : Pos} (ha : PE X x (rE X Γ P fw k Wx a)) (hb : PE X y (rE X Γ P fw k Wx b)) : PE X (.BinOp x (opOf op) y p) (rE X Γ P fw k Wx (.bin op cc a b)) := by
  refine (pe_op (ob_all (Γ := Γ) op cc) ha hb).imp fun σ H Q h => ?_
  obtain ⟨W, ρ, S, e, hr, hs, h⟩ := two (f := evE (cal P fw k) P a) (g := evE (cal P fw k) P b) (op := binop cc op) h
  refine ⟨W, ρ, S, e, hr, hs, h.imp ?_⟩
  rintro x H1 ⟨W1, ρ1, S1, e1, hr1, hs1, h1⟩
  refine ⟨W1, ρ1, S1, e1, hr1, hs1, h1.imp ?_⟩
  rintro y H2 ⟨W2, a', b', S2, e2, r2, d1, d2, h2⟩
  exact ⟨W2, a', b', S2, Wx, σ, e2, r2, d1, d2, h2⟩
theorem un_negP : UnR X (unaryOp .USub) (fun x H Q => ∃ W a S Wx σ, W.H = H ∧ Rl X.K Γ W S ∧ Den X.K Γ W a x ∧ Post X.K Γ Wx σ (Den X.K Γ) (match a with
    | .int i => .ok (.int (-i)) S
    | _ => .bad) W Q) := by
  rintro pins s σ H x v Q I rx ⟨W, a, S, Wx, σ', rfl, hr, da, h⟩
  cases da with
  | int i => exact un_neg pins s σ W.H _ v Q I rx ⟨i, rfl, h.ok hr (.int _)⟩
  | _ => exact h.elim
theorem s_neg {a : E} {x : Expr} {p : Pos} (ha : PE X x (rE X Γ P fw k Wx a)) : PE X (.UnaryOp .USub x p) (rE X Γ P fw k Wx (.neg a)) := by
  refine (pe_un (un_negP (Γ := Γ)) ha).imp ?_
  rintro σ H Q ⟨W, ρ, S, rfl, hr, hs, h⟩
  refine ⟨W, ρ, S, rfl, hr, hs, (Post.bind (D1 := Den X.K Γ) h).imp ?_⟩
  rintro x H1 ⟨W1, a', S1, rfl, l1, r1, d1, h1⟩
  exact ⟨W1, a', S1, Wx, σ, rfl, r1, d1, h1⟩
theorem s_cmp (c : Cxt Γ P fw M N k sc X Wx) {a b : E} {x y : Expr} {op : COp} {p : Pos} (hm : noSet y = true) (ha : PE X x (rE X Γ P fw k Wx a)) (hb : PE X y (rE X Γ P fw k Wx b)) : PE X (.Compare x [copOf op] [y] p) (rE X Γ P fw k Wx (.cmp op a b)) := by
  refine (pe_cmpR (oc_cmp op c.units (fun W => c.kd W)) ha hb (nobeh hm)).imp fun σ H Q h => ?_
  obtain ⟨W, ρ, S, e, hr, hs, h⟩ := two (f := evE (cal P fw k) P a) (g := evE (cal P fw k) P b) (op := fun x y S2 => opt ((cmpOp P S2 op x y).map .bl) S2) h
  refine ⟨W, ρ, S, e, hr, hs, h.imp ?_⟩
  rintro x H1 ⟨W1, ρ1, S1, e1, hr1, hs1, h1⟩
  refine ⟨W1, ρ1, S1, e1, hr1, hs1, h1.imp ?_⟩
  rintro y H2 ⟨W2, a', b', S2, e2, r2, d1, d2, h2⟩
  replace h2 := h2.opt
  obtain ⟨z, ez, h2⟩ := h2
  rw [Option.map_eq_some_iff] at ez
  obtain ⟨kk, ek, rfl⟩ := ez
  exact ⟨W2, a', b', S2, kk, e2, r2, d1, d2, ek, e2 ▸ h2.ok r2 (.bl kk)⟩
theorem t_cmp (c : Cxt Γ P fw M N k sc X Wx) {a b : E} {x y : Expr} {op : COp} {p : Pos} (hm : noSet y = true) (ha : PE X x (rE X Γ P fw k Wx a)) (hb : PE X y (rE X Γ P fw k Wx b)) : PT X (.Compare x [copOf op] [y] p) (rT X Γ P fw k Wx (.cmp op a b)) := by
  refine (pt_cmpR (oc_cmp op c.units (fun W => c.kd W)) ha hb (nobeh hm)).imp fun σ H Q h => ?_
  obtain ⟨W, ρ, S, rfl, hr, hs, h⟩ := h
  simp only [evT, evE] at h
  refine ⟨W, ρ, S, rfl, hr, hs, ?_⟩
  have h' : Post X.K Γ Wx σ (fun _ a b => a = b) ((evE (cal P fw k) P a ρ S).bind fun x S1 => (evE (cal P fw k) P b ρ S1).bind fun y S2 => opt (cmpOp P S2 op x y) S2) W Q := by
    have e : ((evE (cal P fw k) P a ρ S).bind fun x S1 => (evE (cal P fw k) P b ρ S1).bind fun y S2 => opt (cmpOp P S2 op x y) S2) = (((evE (cal P fw k) P a ρ S).bind fun x S1 => (evE (cal P fw k) P b ρ S1).bind fun y S2 => opt ((cmpOp P S2 op x y).map .bl) S2).bind fun x S1 => opt (tru S1 x) S1) := by
      cases evE (cal P fw k) P a ρ S with
      | ok x S1 =>
        simp only [R.bind_ok]
        cases evE (cal P fw k) P b ρ S1 with
        | ok y S2 =>
          simp only [R.bind_ok]
          cases cmpOp P S2 op x y <;> rfl
        | _ => rfl
      | _ => rfl
    rw [e]
    exact h
  refine (h'.bind (D1 := Den X.K Γ)).imp ?_
  rintro x H1 ⟨W1, a', S1, rfl, l1, r1, d1, h1⟩
  refine ⟨W1, ρ, S1, rfl, r1, hs.mono l1, (h1.bind (D1 := Den X.K Γ)).imp ?_⟩
  rintro y H2 ⟨W2, b', S2, rfl, l2, r2, d2, h2⟩
  obtain ⟨kk, ek, h2⟩ := h2.opt
  exact ⟨W2, a', b', S2, kk, rfl, r2, d1.mono l2, d2, ek, kk, rfl, h2.ok r2 rfl⟩
theorem s_chain (c : Cxt Γ P fw M N k sc X Wx) {a b d : E} {x y z : Expr} {op op' : COp} {p : Pos} (hm : noSet z = true) (ha : PE X x (rE X Γ P fw k Wx a)) (hb : PE X y (rE X Γ P fw k Wx b)) (hd : PE X z (rE X Γ P fw k Wx d)) :
    PE X (.Compare x [copOf op, copOf op'] [y, z] p) (rE X Γ P fw k Wx (.chain op op' a b d)) := by
  refine (pe_chain (oc_cmp op c.units (fun W => c.kd W)) (oc_cmp op' c.units (fun W => c.kd W)) ha hb hd (nolast hm)).imp fun σ H Q h => ?_
  obtain ⟨W, ρ, S, rfl, hr, hs, h⟩ := h
  refine ⟨W, ρ, S, rfl, hr, hs, (Post.bind (D1 := Den X.K Γ) h).imp ?_⟩
  rintro x H1 ⟨W1, a', S1, rfl, l1, r1, d1, h1⟩
  refine ⟨W1, ρ, S1, rfl, r1, hs.mono l1, (h1.bind (D1 := Den X.K Γ)).imp ?_⟩
  rintro y H2 ⟨W2, b', S2, rfl, l2, r2, d2, h2⟩
  cases ek : cmpOp P S2 op a' b' with
  | none => rw [ek] at h2; exact h2.elim
  | some kk =>
    rw [ek] at h2
    simp only [opt_some, R.bind_ok] at h2
    refine ⟨W2, a', b', S2, kk, rfl, r2, d1.mono l2, d2, ek, kk, rfl, ?_⟩
    cases kk with
    | false => exact h2.ok r2 (.bl false)
    | true =>
      rw [if_pos rfl]
      refine ⟨W2, ρ, S2, rfl, r2, (hs.mono l1).mono l2, (Post.bind (D1 := Den X.K Γ) h2).imp ?_⟩
      rintro z H3 ⟨W3, c', S3, rfl, l3, r3, d3, h3⟩
      obtain ⟨zz, ez, h3⟩ := h3.opt
      rw [Option.map_eq_some_iff] at ez
      obtain ⟨kk, ek, rfl⟩ := ez
      exact ⟨W3, b', c', S3, kk, rfl, r3, d2.mono l3, d3, ek, h3.ok r3 (.bl kk)⟩
theorem t_chain (c : Cxt Γ P fw M N k sc X Wx) {a b d : E} {x y z : Expr} {op op' : COp} {p : Pos} (hm : noSet z = true) (ha : PE X x (rE X Γ P fw k Wx a)) (hb : PE X y (rE X Γ P fw k Wx b)) (hd : PE X z (rE X Γ P fw k Wx d)) :
    PT X (.Compare x [copOf op, copOf op'] [y, z] p) (rT X Γ P fw k Wx (.chain op op' a b d)) := by
  refine (pt_chain (oc_cmp op c.units (fun W => c.kd W)) (oc_cmp op' c.units (fun W => c.kd W)) ha hb hd (nolast hm)).imp fun σ H Q h => ?_
  obtain ⟨W, ρ, S, rfl, hr, hs, h⟩ := h
  have h' : Post X.K Γ Wx σ (fun _ a b => a = b) ((evE (cal P fw k) P a ρ S).bind fun x S1 => (evE (cal P fw k) P b ρ S1).bind fun y S2 => (opt (cmpOp P S2 op x y) S2).bind fun k' S3 => match k' with
      | true => (evE (cal P fw k) P d ρ S3).bind fun z S4 => opt (cmpOp P S4 op' y z) S4
      | false => .ok false S3) W Q := by
    have e : ((evE (cal P fw k) P a ρ S).bind fun x S1 => (evE (cal P fw k) P b ρ S1).bind fun y S2 => (opt (cmpOp P S2 op x y) S2).bind fun k' S3 => match k' with
      | true => (evE (cal P fw k) P d ρ S3).bind fun z S4 => opt (cmpOp P S4 op' y z) S4
      | false => .ok false S3) = evT (cal P fw k) P (.chain op op' a b d) ρ S := by
      simp only [evT, evE]
      cases evE (cal P fw k) P a ρ S with
      | ok x S1 =>
        simp only [R.bind_ok]
        cases evE (cal P fw k) P b ρ S1 with
        | ok y S2 =>
          simp only [R.bind_ok]
          cases cmpOp P S2 op x y with
          | none => rfl
          | some kk =>
            cases kk with
            | false => rfl
            | true =>
              simp only [opt_some, R.bind_ok]
              cases evE (cal P fw k) P d ρ S2 with
              | ok z S4 => simp only [R.bind_ok]; cases cmpOp P S4 op' y z <;> rfl
              | _ => rfl
        | _ => rfl
      | _ => rfl
    rw [e]
    exact h
  refine ⟨W, ρ, S, rfl, hr, hs, (h'.bind (D1 := Den X.K Γ)).imp ?_⟩
  rintro x H1 ⟨W1, a', S1, rfl, l1, r1, d1, h1⟩
  refine ⟨W1, ρ, S1, rfl, r1, hs.mono l1, (h1.bind (D1 := Den X.K Γ)).imp ?_⟩
  rintro y H2 ⟨W2, b', S2, rfl, l2, r2, d2, h2⟩
  cases ek : cmpOp P S2 op a' b' with
  | none => rw [ek] at h2; exact h2.elim
  | some kk =>
    rw [ek] at h2
    simp only [opt_some, R.bind_ok] at h2
    refine ⟨W2, a', b', S2, kk, rfl, r2, d1.mono l2, d2, ek, kk, rfl, ?_⟩
    cases kk with
    | false => exact ⟨false, rfl, h2.ok r2 rfl⟩
    | true =>
      rw [if_pos rfl]
      refine ⟨W2, ρ, S2, rfl, r2, (hs.mono l1).mono l2, (Post.bind (D1 := Den X.K Γ) h2).imp ?_⟩
      rintro z H3 ⟨W3, c', S3, rfl, l3, r3, d3, h3⟩
      obtain ⟨kk, ek, h3⟩ := h3.opt
      exact ⟨W3, b', c', S3, kk, rfl, r3, d2.mono l3, d3, ek, kk, rfl, h3.ok r3 rfl⟩

/-! and, or, not -/
theorem s_and {a b : E} {x y : Expr} {r : List Expr} {p : Pos} (ha : PE X x (rE X Γ P fw k Wx a)) (hb : PE X (.BoolOp .And (y :: r) p) (rE X Γ P fw k Wx b)) : PE X (.BoolOp .And (x :: y :: r) p) (rE X Γ P fw k Wx (.and a b)) := by
  refine (pe_andT ha hb).imp fun σ H Q h => ?_
  obtain ⟨W, ρ, S, rfl, hr, hs, h⟩ := h
  refine ⟨W, ρ, S, rfl, hr, hs, (Post.bind (D1 := Den X.K Γ) h).imp ?_⟩
  rintro x H1 ⟨W1, a', S1, rfl, l1, r1, d1, h1⟩
  cases ek : tru S1 a' with
  | none => rw [ek] at h1; exact h1.elim
  | some kk =>
    rw [ek] at h1
    simp only [opt_some, R.bind_ok] at h1
    refine ⟨kk, truV r1 d1 ek, ?_⟩
    cases kk with
    | false => exact h1.ok r1 d1
    | true => exact ⟨W1, ρ, S1, rfl, r1, hs.mono l1, h1⟩
theorem s_or {a b : E} {x y : Expr} {r : List Expr} {p : Pos} (ha : PE X x (rE X Γ P fw k Wx a)) (hb : PE X (.BoolOp .Or (y :: r) p) (rE X Γ P fw k Wx b)) : PE X (.BoolOp .Or (x :: y :: r) p) (rE X Γ P fw k Wx (.or a b)) := by
  refine (pe_orT ha hb).imp fun σ H Q h => ?_
  obtain ⟨W, ρ, S, rfl, hr, hs, h⟩ := h
  refine ⟨W, ρ, S, rfl, hr, hs, (Post.bind (D1 := Den X.K Γ) h).imp ?_⟩
  rintro x H1 ⟨W1, a', S1, rfl, l1, r1, d1, h1⟩
  cases ek : tru S1 a' with
  | none => rw [ek] at h1; exact h1.elim
  | some kk =>
    rw [ek] at h1
    simp only [opt_some, R.bind_ok] at h1
    refine ⟨kk, truV r1 d1 ek, ?_⟩
    cases kk with
    | true => exact h1.ok r1 d1
    | false => exact ⟨W1, ρ, S1, rfl, r1, hs.mono l1, h1⟩
theorem s_not {a : E} {x : Expr} {p : Pos} (ha : PE X x (rE X Γ P fw k Wx a)) : PE X (.UnaryOp .Not x p) (rE X Γ P fw k Wx (.not a)) := by
  refine (pe_notT ha).imp fun σ H Q h => ?_
  obtain ⟨W, ρ, S, rfl, hr, hs, h⟩ := h
  refine ⟨W, ρ, S, rfl, hr, hs, (Post.bind (D1 := Den X.K Γ) h).imp ?_⟩
  rintro x H1 ⟨W1, a', S1, rfl, l1, r1, d1, h1⟩
  cases ek : tru S1 a' with
  | none => rw [ek] at h1; exact h1.elim
  | some kk =>
    rw [ek] at h1
    simp only [opt_some, R.bind_ok] at h1
    exact ⟨kk, truV r1 d1 ek, h1.ok r1 (.bl _)⟩
/-- a value by its truth -/
theorem t_plain {a : E} {x : Expr} (ha : PE X x (rE X Γ P fw k Wx a)) (he : ∀ whole, isTrue x X.env whole = (do let v ← whole; standAt x.pos; holding [v] (truthy v))) : PT X x (rT X Γ P fw k Wx a) := by
  refine (pt_truth ha he).imp fun σ H Q h => ?_
  obtain ⟨W, ρ, S, rfl, hr, hs, h⟩ := h
  refine ⟨W, ρ, S, rfl, hr, hs, (Post.bind (D1 := Den X.K Γ) h).imp ?_⟩
  rintro x H1 ⟨W1, a', S1, rfl, l1, r1, d1, h1⟩
  obtain ⟨kk, ek, h1⟩ := h1.opt
  exact ⟨kk, truV r1 d1 ek, h1.ok r1 rfl⟩
theorem evT_and {Cl : Nat → List PV → Store → R PV} {a b : E} {ρ : Rho} {S : Store} : evT Cl P (.and a b) ρ S = (evT Cl P a ρ S).bind fun kk S2 => match kk with
    | true => evT Cl P b ρ S2
    | false => .ok false S2 := by
  simp only [evT, evE]
  cases evE Cl P a ρ S with
  | ok x S1 =>
    simp only [R.bind_ok]
    cases h : tru S1 x with
    | none => rfl
    | some kk =>
      cases kk with
      | false => simp [h]
      | true => rfl
  | _ => rfl
theorem evT_or {Cl : Nat → List PV → Store → R PV} {a b : E} {ρ : Rho} {S : Store} : evT Cl P (.or a b) ρ S = (evT Cl P a ρ S).bind fun kk S2 => match kk with
    | false => evT Cl P b ρ S2
    | true => .ok true S2 := by
  simp only [evT, evE]
  cases evE Cl P a ρ S with
  | ok x S1 =>
    simp only [R.bind_ok]
    cases h : tru S1 x with
    | none => rfl
    | some kk =>
      cases kk with
      | false => rfl
      | true => simp [h]
  | _ => rfl
theorem evT_not {Cl : Nat → List PV → Store → R PV} {a : E} {ρ : Rho} {S : Store} : evT Cl P (.not a) ρ S = (evT Cl P a ρ S).bind fun kk S2 => .ok (!kk) S2 := by
  simp only [evT, evE]
  cases evE Cl P a ρ S with
  | ok x S1 =>
    simp only [R.bind_ok]
    cases h : tru S1 x with
    | none => rfl
    | some kk => cases kk <;> rfl
  | _ => rfl
theorem t_and {a b : E} {x y : Expr} {r : List Expr} {p : Pos} (ha : PT X x (rT X Γ P fw k Wx a)) (hb : PW X (.BoolOp .And (y :: r) p) (rT X Γ P fw k Wx b)) : PW X (.BoolOp .And (x :: y :: r) p) (rT X Γ P fw k Wx (.and a b)) := by
  refine (pw_and ha hb).imp fun σ H Q h => ?_
  obtain ⟨W, ρ, S, rfl, hr, hs, h⟩ := h
  rw [evT_and] at h
  refine ⟨W, ρ, S, rfl, hr, hs, (Post.bind (D1 := fun _ a b => a = b) h).imp ?_⟩
  rintro x H1 ⟨W1, a', S1, rfl, l1, r1, rfl, h1⟩
  cases a' with
  | true => exact ⟨W1, ρ, S1, rfl, r1, hs.mono l1, h1⟩
  | false => exact h1.ok r1 rfl
theorem t_or {a b : E} {x y : Expr} {r : List Expr} {p : Pos} (ha : PT X x (rT X Γ P fw k Wx a)) (hb : PW X (.BoolOp .Or (y :: r) p) (rT X Γ P fw k Wx b)) : PW X (.BoolOp .Or (x :: y :: r) p) (rT X Γ P fw k Wx (.or a b)) := by
  refine (pw_or ha hb).imp fun σ H Q h => ?_
  obtain ⟨W, ρ, S, rfl, hr, hs, h⟩ := h
  rw [evT_or] at h
  refine ⟨W, ρ, S, rfl, hr, hs, (Post.bind (D1 := fun _ a b => a = b) h).imp ?_⟩
  rintro x H1 ⟨W1, a', S1, rfl, l1, r1, rfl, h1⟩
  cases a' with
  | false => exact ⟨W1, ρ, S1, rfl, r1, hs.mono l1, h1⟩
  | true => exact h1.ok r1 rfl
theorem t_not {a : E} {x : Expr} {p : Pos} (ha : PT X x (rT X Γ P fw k Wx a)) : PT X (.UnaryOp .Not x p) (rT X Γ P fw k Wx (.not a)) := by
  refine (pt_not ha).imp fun σ H Q h => ?_
  obtain ⟨W, ρ, S, rfl, hr, hs, h⟩ := h
  rw [evT_not] at h
  refine ⟨W, ρ, S, rfl, hr, hs, (Post.bind (D1 := fun _ a b => a = b) h).imp ?_⟩
  rintro x H1 ⟨W1, a', S1, rfl, l1, r1, rfl, h1⟩
  exact h1.ok r1 rfl
theorem s_ite {c a b : E} {z x y : Expr} {p : Pos} (hc : PT X z (rT X Γ P fw k Wx c)) (ha : PE X x (rE X Γ P fw k Wx a)) (hb : PE X y (rE X Γ P fw k Wx b)) : PE X (.IfExp z x y p) (rE X Γ P fw k Wx (.ite c a b)) := by
  refine (pe_ifExp hc ha hb).imp fun σ H Q h => ?_
  obtain ⟨W, ρ, S, rfl, hr, hs, h⟩ := h
  have e : evE (cal P fw k) P (.ite c a b) ρ S = (evT (cal P fw k) P c ρ S).bind fun kk S2 => match kk with
    | true => evE (cal P fw k) P a ρ S2
    | false => evE (cal P fw k) P b ρ S2 := by
    simp only [evT, evE]
    cases evE (cal P fw k) P c ρ S <;> rfl
  rw [e] at h
  refine ⟨W, ρ, S, rfl, hr, hs, (Post.bind (D1 := fun _ a b => a = b) h).imp ?_⟩
  rintro x H1 ⟨W1, a', S1, rfl, l1, r1, rfl, h1⟩
  cases a' with
  | true => exact ⟨W1, ρ, S1, rfl, r1, hs.mono l1, h1⟩
  | false => exact ⟨W1, ρ, S1, rfl, r1, hs.mono l1, h1⟩

/-! rows of expressions -/
theorem s_nil : PA X [] (rEs X Γ P fw k Wx .nil) := pa_nil.imp fun _ _ _ ⟨W, ρ, S, e, hr, hs, h⟩ => e ▸ h.ok hr .nil
theorem s_cons {e : E} {r : Es} {x : Expr} {xs : List Expr} (hn : ns x = true) (he : PE X x (rE X Γ P fw k Wx e)) (hr : PA X xs (rEs X Γ P fw k Wx r)) : PA X (x :: xs) (rEs X Γ P fw k Wx (.cons e r)) := by
  refine (pa_cons he hr (star_ns hn)).imp fun σ H Q h => ?_
  obtain ⟨W, ρ, S, rfl, hr, hs, h⟩ := h
  refine ⟨W, ρ, S, rfl, hr, hs, (Post.bind (D1 := Den X.K Γ) h).imp ?_⟩
  rintro x H1 ⟨W1, a', S1, rfl, l1, r1, d1, h1⟩
  refine ⟨W1, ρ, S1, rfl, r1, hs.mono l1, (h1.bind (D1 := DenL X.K Γ)).imp ?_⟩
  rintro y H2 ⟨W2, b', S2, rfl, l2, r2, d2, h2⟩
  exact h2.ok r2 (.cons (d1.mono l2) d2)
theorem s_star {e : E} {r : Es} {x : Expr} {xs : List Expr} {p : Pos} (he : PE X x (rE X Γ P fw k Wx e)) (hr : PA X xs (rEs X Γ P fw k Wx r)) : PA X (.Starred x p :: xs) (rEs X Γ P fw k Wx (.star e r)) := by
  refine (StX.pa_star he hr rfl).imp fun σ H Q h => ?_
  obtain ⟨W, ρ, S, rfl, hr, hs, h⟩ := h
  refine ⟨W, ρ, S, rfl, hr, hs, (Post.bind (D1 := Den X.K Γ) h).imp ?_⟩
  rintro x H1 ⟨W1, a', S1, rfl, l1, r1, d1, h1⟩
  cases ek : seqOf S1 a' with
  | none => rw [ek] at h1; exact h1.elim
  | some ys =>
    rw [ek] at h1
    simp only [opt_some, R.bind_ok] at h1
    obtain ⟨q, vs, rfl, hq, dl⟩ := seqOf_den r1 d1 ek
    refine ⟨q, vs, rfl, hq.symm, W1, ρ, S1, rfl, r1, hs.mono l1, (h1.bind (D1 := DenL X.K Γ)).imp ?_⟩
    rintro y H2 ⟨W2, b', S2, rfl, l2, r2, d2, h2⟩
    exact h2.ok r2 ((dl.mono l2).append d2)
theorem s_tup {es : Es} {xs : List Expr} {j : Nat} {p : Pos} (he : PA X xs (rEs X Γ P fw k Wx es)) : PE X (.Tuple xs j p) (rE X Γ P fw k Wx (.tup es)) := by
  refine (pe_tup he).imp fun σ H Q h => ?_
  obtain ⟨W, ρ, S, rfl, hr, hs, h⟩ := h
  refine ⟨W, ρ, S, rfl, hr, hs, (Post.bind (D1 := DenL X.K Γ) h).imp ?_⟩
  rintro vs H1 ⟨W1, ys, S1, rfl, l1, r1, d1, h1⟩
  split at h1
  · rename_i hl
    exact ⟨by rw [← d1.length]; exact hl, fun q hq => h1.tup r1 hq d1⟩
  · exact h1.elim
theorem s_lst {es : Es} {cc : Bool} {xs : List Expr} {p : Pos} (he : PA X xs (rEs X Γ P fw k Wx es)) : PE X (.List xs p) (rE X Γ P fw k Wx (.lst cc es)) := by
  refine (pe_lst he).imp fun σ H Q h => ?_
  obtain ⟨W, ρ, S, rfl, hr, hs, h⟩ := h
  refine ⟨W, ρ, S, rfl, hr, hs, (Post.bind (D1 := DenL X.K Γ) h).imp ?_⟩
  rintro vs H1 ⟨W1, ys, S1, rfl, l1, r1, d1, h1⟩
  split at h1
  · rename_i hl
    exact ⟨by rw [← d1.length]; exact hl, fun q hq => h1.fin r1 hq d1⟩
  · exact h1.elim

/-! items, slices -/
theorem s_sub (c : Cxt Γ P fw M N k sc X Wx) {a b : E} {x y : Expr} {p : Pos} (hp : plIx y = true) (ha : PE X x (rE X Γ P fw k Wx a)) (hb : PE X y (rE X Γ P fw k Wx b)) : PE X (.Subscript x y p) (rE X Γ P fw k Wx (.sub a b)) := by
  refine (pe_ix (ix_ok (Γ := Γ) (P := P) (fun W => c.kd W)) ha hb (plIx_sub hp)).imp fun σ H Q h => ?_
  obtain ⟨W, ρ, S, e, hr, hs, h⟩ := two (f := evE (cal P fw k) P a) (g := evE (cal P fw k) P b) (op := fun x y S2 => opt (ixOp P S2 x y) S2) h
  refine ⟨W, ρ, S, e, hr, hs, h.imp ?_⟩
  rintro x H1 ⟨W1, ρ1, S1, e1, hr1, hs1, h1⟩
  refine ⟨W1, ρ1, S1, e1, hr1, hs1, h1.imp ?_⟩
  rintro y H2 ⟨W2, a', b', S2, e2, r2, d1, d2, h2⟩
  exact ⟨W2, a', b', S2, Wx, σ, e2, r2, d1, d2, h2⟩
theorem keyS_inj {a b : Sum Int Codes} (h : keyS a = keyS b) : a = b := by
  cases a <;> cases b <;> simp only [keyS] at h <;> first | (cases h; rfl) | (cases h; done) | (rw [sOf_inj (Sum.inr.inj h)])
theorem dget_den {K : PySem.W.Frag} {W : Wd} {q : Sum Int Codes} : ∀ {kvs : List (Sum Int Codes × PV)} {vs : List (Key × V)}, DenK K Γ W kvs vs → match dget kvs q with
    | some x => ∃ v, valV vs (keyS q) = some v ∧ Den K Γ W x v
    | none => valV vs (keyS q) = none
  | _, _, .nil => rfl
  | _, _, .cons (k := k') (x := x) (v := v) (xs := xs) (vs := vs) a b => by
    by_cases h : k' = q
    · subst h
      have : dget ((k', x) :: xs) k' = some x := by simp [dget]
      rw [this]
      exact ⟨v, by simp [valV], a⟩
    · have e1 : dget ((k', x) :: xs) q = dget xs q := by simp [dget, h]
      have e2 : valV ((keyS k', v) :: vs) (keyS q) = valV vs (keyS q) := valV_neg fun z => h (keyS_inj z)
      rw [e1, e2]
      exact dget_den b
theorem keyOf_den {K : PySem.W.Frag} {W : Wd} {x : PV} {v : V} {q : Sum Int Codes} (d : Den K Γ W x v) (e : keyOf x = some q) : v = kV (keyS q) := by
  cases d <;> first | (cases e; rfl) | (cases e; done)
theorem s_dsub (c : Cxt Γ P fw M N k sc X Wx) {a b : E} {x y : Expr} {p : Pos} (hp : plIx y = true) (ha : PE X x (rE X Γ P fw k Wx a)) (hb : PE X y (rE X Γ P fw k Wx b)) : PE X (.Subscript x y p) (rE X Γ P fw k Wx (.dsub a b)) := by
  refine (pe_dget (by have := c.units; omega) ha hb (plIx_sub hp)).imp fun σ H Q h => ?_
  obtain ⟨W, ρ, S, e, hr, hs, h⟩ := two (f := evE (cal P fw k) P a) (g := evE (cal P fw k) P b) (op := fun x y S2 => opt (dixOp S2 x y) S2) h
  refine ⟨W, ρ, S, e, hr, hs, h.imp ?_⟩
  rintro x H1 ⟨W1, ρ1, S1, e1, hr1, hs1, h1⟩
  refine ⟨W1, ρ1, S1, e1, hr1, hs1, h1.imp ?_⟩
  rintro y H2 ⟨W2, a', b', S2, rfl, r2, d1, d2, h2⟩
  replace h2 := h2.opt
  obtain ⟨z, ez, h2⟩ := h2
  unfold dixOp at ez
  split at ez
  · rename_i kvs q h3 h4
    obtain ⟨n, ad, vs, rfl, hn, hS, rfl, hH, dk⟩ := dctOf_den r2 d1 h3
    have g := dget_den (q := q) dk
    rw [ez] at g
    obtain ⟨v, hv, dv⟩ := g
    refine ⟨ad, v, rfl, ?_, h2.ok r2 dv⟩
    rw [keyOf_den d2 h4, ← hv]
    exact DGet.k hH
  · cases ez
theorem s_din (c : Cxt Γ P fw M N k sc X Wx) {ng : Bool} {a b : E} {x y : Expr} {p : Pos} (hm : noSet y = true) (ha : PE X x (rE X Γ P fw k Wx a)) (hb : PE X y (rE X Γ P fw k Wx b)) : PE X (.Compare x [if ng then CmpOp.NotIn else CmpOp.In] [y] p) (rE X Γ P fw k Wx (.din ng a b)) := by
  have fin : ∀ (σ : L2.St) (H : Hp) (Q : VK), rE X Γ P fw k Wx (.din ng a b) σ H Q → rE X Γ P fw k Wx a σ H fun y H1 => rE X Γ P fw k Wx b σ H1 fun x H2 => ∃ ad o, x = .ref ad ∧ DGet H2 ad y o ∧ Q (.bl (if ng then !o.isSome else o.isSome)) H2 := by
    intro σ H Q h
    obtain ⟨W, ρ, S, e, hr, hs, h⟩ := two (f := evE (cal P fw k) P a) (g := evE (cal P fw k) P b) (op := fun x y S2 => opt ((dinOp S2 x y).map fun b => .bl (if ng then !b else b)) S2) h
    refine ⟨W, ρ, S, e, hr, hs, h.imp ?_⟩
    rintro x H1 ⟨W1, ρ1, S1, e1, hr1, hs1, h1⟩
    refine ⟨W1, ρ1, S1, e1, hr1, hs1, h1.imp ?_⟩
    rintro y H2 ⟨W2, a', b', S2, rfl, r2, d1, d2, h2⟩
    replace h2 := h2.opt
    obtain ⟨z, ez, h2⟩ := h2
    rw [Option.map_eq_some_iff] at ez
    obtain ⟨kk, ez, rfl⟩ := ez
    unfold dinOp at ez
    split at ez
    · rename_i kvs q h3 h4
      cases ez
      obtain ⟨n, ad, vs, rfl, hn, hS, rfl, hH, dk⟩ := dctOf_den r2 d2 h3
      have g := dget_den (q := q) dk
      refine ⟨ad, valV vs (keyS q), rfl, ?_, ?_⟩
      · rw [keyOf_den d1 h4]
        exact DGet.k hH
      · have e : (valV vs (keyS q)).isSome = (dget kvs q).isSome := by
          cases ed : dget kvs q with
          | none => rw [ed] at g; rw [g]; rfl
          | some x => rw [ed] at g; obtain ⟨v, hv, _⟩ := g; rw [hv]; rfl
        rw [e]
        exact h2.ok r2 (.bl _)
    · cases ez
  have hu : X.A.units + 1 < cLine := by have := c.units; omega
  cases ng with
  | true => exact (pe_cmp (pc_dnotin hu ha hb) (nobeh hm)).imp fun σ H Q h => fin σ H Q h
  | false => exact (pe_cmp (pc_din hu ha hb) (nobeh hm)).imp fun σ H Q h => fin σ H Q h
theorem s_onone : PO X none (rEo X Γ P fw k Wx .none) := po_none.imp fun _ _ _ ⟨W, ρ, S, e, hr, hs, h⟩ => e ▸ h.ok hr rfl
theorem s_osome {e : E} {x : Expr} (he : PE X x (rE X Γ P fw k Wx e)) : PO X (some x) (rEo X Γ P fw k Wx (.some e)) := by
  refine (po_some he).imp fun σ H Q h => ?_
  obtain ⟨W, ρ, S, rfl, hr, hs, h⟩ := h
  refine ⟨W, ρ, S, rfl, hr, hs, (Post.bind (D1 := Den X.K Γ) h).imp ?_⟩
  rintro x H1 ⟨W1, a', S1, rfl, l1, r1, d1, h1⟩
  cases d1 with
  | int i => exact ⟨i, rfl, h1.ok r1 rfl⟩
  | _ => exact h1.elim
theorem s_slice {cc : Bool} {a : E} {lo hi : Eo} {x : Expr} {l h' : Option Expr} {p p2 : Pos} (ha : PE X x (rE X Γ P fw k Wx a)) (hl : PO X l (rEo X Γ P fw k Wx lo)) (hh : PO X h' (rEo X Γ P fw k Wx hi)) : PE X (.Subscript x (.Slice l h' none p2) p) (rE X Γ P fw k Wx (.slice cc a lo hi)) := by
  refine (pe_slice (sl_ok (Γ := Γ) cc) ha hl hh).imp fun σ H Q h => ?_
  obtain ⟨W, ρ, S, rfl, hr, hs, h⟩ := h
  refine ⟨W, ρ, S, rfl, hr, hs, (Post.bind (D1 := Den X.K Γ) h).imp ?_⟩
  rintro x H1 ⟨W1, a', S1, rfl, l1, r1, d1, h1⟩
  refine ⟨W1, ρ, S1, rfl, r1, hs.mono l1, (h1.bind (D1 := fun _ a b => a = b)).imp ?_⟩
  rintro y H2 ⟨W2, b', S2, rfl, l2, r2, rfl, h2⟩
  refine ⟨W2, ρ, S2, rfl, r2, (hs.mono l1).mono l2, (h2.bind (D1 := fun _ a b => a = b)).imp ?_⟩
  rintro z H3 ⟨W3, c', S3, rfl, l3, r3, rfl, h3⟩
  exact ⟨W3, a', S3, Wx, σ, rfl, r3, (d1.mono l2).mono l3, h3⟩

/-! calls -/
theorem s_call (c : Cxt Γ P fw M N k sc X Wx) {f j : Nat} {es : Es} {x : Str} {xs : List Expr} {p pos : Pos} (h1 : M.fn f = some x) (h2 : glB sc x = true) (h3 : okN x = true) (h4 : xs.all ns = true) (h5 : xs.isEmpty = false) (h6 : (j == 0 || M.dj f j) = true)
    (he : PA X xs (rEs X Γ P fw k Wx es)) : PE X (.Call (.Name x p) xs [] pos) (rE X Γ P fw k Wx (.call f es j)) := by
  obtain ⟨fa, fd, ps, m, kp, F, b0, ⟨dd, hd, hnp⟩, bj⟩ := c.fn f x h1
  have main : ∀ dvs ds, Binds X.K fd ps ds → Vals dvs ds → (∀ W, DenL X.K Γ W (P.dv f j) dvs) → PE X (.Call (.Name x p) xs [] pos) (rE X Γ P fw k Wx (.call f es j)) := by
    intro dvs ds hb hv hdv
    cases xs with
    | nil => cases h5
    | cons y ys =>
      rw [List.all_cons, Bool.and_eq_true] at h4
      refine (pe_callSD (E := WE Wx) F c.room (glB_ok h2 c.hsc) m kp hb hv (fun σ => passAt c.tk σ) he (okN_ok h3).1 (star_ns h4.1) (any_ns h4.2)).imp fun σ H Q h => ?_
      obtain ⟨W, ρ, S, rfl, hr, hs, h⟩ := h
      refine ⟨W, ρ, S, rfl, hr, hs, (Post.bind (D1 := DenL X.K Γ) h).imp ?_⟩
      rintro vs H1 ⟨W1, as, S1, rfl, l1, r1, d1, h1⟩
      have dl := d1.append (hdv W1)
      refine ⟨W1, as ++ P.dv f j, S1, rfl, r1, dl, ⟨dd, hd, ?_⟩, ?_⟩
      · cases k with
        | zero => exact h1.elim
        | succ n =>
          simp only [cal, hd] at h1
          split at h1
          · rename_i hl; rw [← dl.length]; exact hl
          · exact h1.elim
      · have : ∀ {r : R PV}, Post X.K Γ Wx σ (Den X.K Γ) r W1 Q → Post X.K Γ (fun cls d _ H => WE Wx σ cls d H) [] (Den X.K Γ) r W1 Q := by
          intro r hp
          cases r with
          | ok a S => exact hp
          | ex cc pp S => exact hp
          | bad => exact hp
        exact this h1
  by_cases hj : j = 0
  · subst hj
    exact main [] [] b0 .nil fun W => by rw [c.dv0]; exact .nil
  · have : M.dj f j = true := by
      simp only [Bool.or_eq_true, beq_iff_eq] at h6
      exact h6.resolve_left hj
    obtain ⟨dvs, ds, hb, hv, hdv⟩ := bj j this
    exact main dvs ds hb hv hdv
theorem boot_blt (b : Blt) : bootBuiltins (bltN b) = some (bltV b) := by cases b <;> decide +kernel
theorem boot_bltL (b : BltL) : bootBuiltins (bltLN b) = some (bltLV b) := by cases b <;> decide +kernel
theorem boot_ty (t : TyN) : bootBuiltins (tyNm t) = some (.type (tyS t)) := by cases t <;> decide +kernel
theorem in_blt (b : Blt) : bltN b ∈ bltNames := by cases b <;> decide +kernel
theorem in_bltL (b : BltL) : bltLN b ∈ bltNames := by cases b <;> decide +kernel
theorem in_ty (t : TyN) : tyNm t ∈ bltNames := by cases t <;> decide +kernel
theorem ok_blt (b : Blt) : okN (bltN b) = true := by cases b <;> decide +kernel
theorem ok_bltL (b : BltL) : okN (bltLN b) = true := by cases b <;> decide +kernel
theorem ok_ty (t : TyN) : okN (tyNm t) = true := by cases t <;> decide +kernel
/-- a call of a built-in value -/
theorem s_cb {f : List PV → Store → R PV} {u : Value} {x : Str} {es : Es} {g : Rho → Store → R PV} {xs : List Expr} {p pos : Pos} (c : Cxt Γ P fw M N k sc X Wx) (hu : (∃ id, u = .builtin id) ∨ ∃ T, u = .type T) (hcr : CallR X u (rCl X.K Γ f)) (hv : bootBuiltins x = some u) (hx : x ∈ bltNames) (ho : okN x = true)
    (hg : glB sc x = true) (h4 : xs.all ns = true) (h5 : xs.isEmpty = false) (he : PA X xs (rEs X Γ P fw k Wx es)) (hgf : ∀ ρ S, g ρ S = (evEs (cal P fw k) P es ρ S).bind f) : PE X (.Call (.Name x p) xs [] pos) (tE X.K Γ Wx g) := by
  have fin : ∀ (σ : L2.St) (H : Hp) (Q : VK), tE X.K Γ Wx g σ H Q → tCB (rCl X.K Γ f) (rEs X Γ P fw k Wx es) σ H Q := by
    intro σ H Q h
    obtain ⟨W, ρ, S, rfl, hr, hs, h⟩ := h
    rw [hgf] at h
    refine ⟨W, ρ, S, rfl, hr, hs, (Post.bind (D1 := DenL X.K Γ) h).imp ?_⟩
    rintro vs H1 ⟨W1, as, S1, rfl, l1, r1, d1, h1⟩
    exact ⟨W1, as, S1, Wx, σ, rfl, r1, d1, h1⟩
  obtain ⟨o1, _, o3⟩ := okN_ok ho
  cases xs with
  | nil => cases h5
  | cons y ys =>
    rw [List.all_cons, Bool.and_eq_true] at h4
    rcases hu with ⟨id, rfl⟩ | ⟨T, rfl⟩
    · exact (pe_callB hcr (glB_ok hg c.hsc) (c.bt x hx) hv he o3 o1 (star_ns h4.1) (any_ns h4.2)).imp fun σ H Q h => fin σ H Q h
    · exact (pe_callTy hcr (glB_ok hg c.hsc) (c.bt x hx) hv he o3 o1 (star_ns h4.1) (any_ns h4.2)).imp fun σ H Q h => fin σ H Q h
theorem s_blt (c : Cxt Γ P fw M N k sc X Wx) {b : Blt} {es : Es} {xs : List Expr} {p pos : Pos} (hg : glB sc (bltN b) = true) (h4 : xs.all ns = true) (h5 : xs.isEmpty = false) (he : PA X xs (rEs X Γ P fw k Wx es)) : PE X (.Call (.Name (bltN b) p) xs [] pos) (rE X Γ P fw k Wx (.blt b es)) :=
  s_cb (u := bltV b) c (by cases b <;> first | exact .inl ⟨_, rfl⟩ | exact .inr ⟨_, rfl⟩) (cb_blt b c.calm) (boot_blt b) (in_blt b) (ok_blt b) hg h4 h5 he fun _ _ => rfl
theorem s_bltL (c : Cxt Γ P fw M N k sc X Wx) {b : BltL} {cc : Bool} {es : Es} {xs : List Expr} {p pos : Pos} (hg : glB sc (bltLN b) = true) (h4 : xs.all ns = true) (h5 : xs.isEmpty = false) (he : PA X xs (rEs X Γ P fw k Wx es)) : PE X (.Call (.Name (bltLN b) p) xs [] pos) (rE X Γ P fw k Wx (.bltL b cc es)) :=
  s_cb (u := bltLV b) c (by cases b <;> first | exact .inl ⟨_, rfl⟩ | exact .inr ⟨_, rfl⟩) (cb_bltL b cc c.calm) (boot_bltL b) (in_bltL b) (ok_bltL b) hg h4 h5 he fun _ _ => rfl
theorem s_isi (c : Cxt Γ P fw M N k sc X Wx) {a : E} {t : TyN} {x : Expr} {p p2 pos : Pos} (hg : glB sc "isinstance" = true) (hgt : glB sc (tyNm t) = true) (hn : ns x = true) (ha : PE X x (rE X Γ P fw k Wx a)) : PE X (.Call (.Name "isinstance" p) [x, .Name (tyNm t) p2] [] pos) (rE X Γ P fw k Wx (.isi a t)) := by
  obtain ⟨o1, _, o3⟩ := okN_ok (ok_ty t)
  have hT : PE X (.Name (tyNm t) p2) (tC (.ty (tyS t))) := pe_bltn (glB_ok hgt c.hsc) (c.bt _ (in_ty t)) (boot_ty t) rfl o3 o1
  have hR : CallR X (.builtin "isinstance") (fun vs H Q => ∃ W a' S k' v, W.H = H ∧ Rl X.K Γ W S ∧ Den X.K Γ W a' v ∧ vs = [v, .ty (tyS t)] ∧ isiOp t a' S = some k' ∧ Q (.bl k') H) := by
    rintro pins s σ H xs us Q I r ⟨W, a', S, k', v, rfl, hr, d, rfl, e, q⟩
    exact cb_isi I r hr d e q
  refine (pe_callB hR (glB_ok hg c.hsc) (c.bt _ (by decide +kernel)) (by decide +kernel) (pa_cons ha (pa_cons hT pa_nil) (star_ns hn)) (by decide +kernel) (by decide +kernel) (star_ns hn) rfl).imp fun σ H Q h => ?_
  obtain ⟨W, ρ, S, rfl, hr, hs, h⟩ := h
  refine ⟨W, ρ, S, rfl, hr, hs, (Post.bind (D1 := Den X.K Γ) h).imp ?_⟩
  rintro v H1 ⟨W1, a', S1, rfl, l1, r1, d1, h1⟩
  replace h1 := h1.opt
  obtain ⟨z, ez, h1⟩ := h1
  rw [Option.map_eq_some_iff] at ez
  obtain ⟨kk, ek, rfl⟩ := ez
  exact ⟨W1, a', S1, kk, v, rfl, r1, d1, rfl, ek, h1.ok r1 (.bl kk)⟩
def mtId : Mt → String
  | .append => "list.append" | .extend => "list.extend" | .pop => "list.pop"
theorem mt_slot (m : Mt) : Slot "list" (Str.ofString (mtS m)) (mtId m) := by
  cases m
  · exact PySem.F.slot_list_append
  · exact PySem.F.slot_list_extend
  · exact PySem.F.slot_list_pop
theorem mt_type (m : Mt) : typeOf (.builtin (mtId m)) = pure (.type "method_descriptor") := by
  cases m
  · exact PySem.F.type_list_append
  · exact PySem.F.type_list_extend
  · exact PySem.F.type_list_pop
theorem mt_rule (m : Mt) : MtR X (mtId m) (rMt X.K Γ m) := by
  cases m
  · exact mb_append
  · exact mb_extend
  · exact mb_pop
theorem s_mt {m : Mt} {a : E} {es : Es} {o : Expr} {xs : List Expr} {ap cp : Pos} (hnil : xs = [] → es = .nil) (hb : noCall0 o = true) (h4 : xs.all ns = true) (hl : (ap.endLine == cp.line) = true) (hlen : xs.length < 30) (ha : PE X o (rE X Γ P fw k Wx a)) (he : PA X xs (rEs X Γ P fw k Wx es)) :
    PE X (.Call (.Attribute o (Str.ofString (mtS m)) ap) xs [] cp) (rE X Γ P fw k Wx (.mt m a es)) := by
  have fin : ∀ (σ : L2.St) (H : Hp) (Q : VK), rE X Γ P fw k Wx (.mt m a es) σ H Q → rE X Γ P fw k Wx a σ H fun x H1 => tyV X.K "list" x H1 ∧ rEs X Γ P fw k Wx es σ H1 fun ys H2 => rMt X.K Γ m x ys H2 Q := by
    intro σ H Q h
    obtain ⟨W, ρ, S, rfl, hr, hs, h⟩ := h
    refine ⟨W, ρ, S, rfl, hr, hs, (Post.bind (D1 := Den X.K Γ) h).imp ?_⟩
    rintro v H1 ⟨W1, a', S1, rfl, l1, r1, d1, h1⟩
    cases e : lstOf S1 a' with
    | none => rw [e] at h1; exact h1.elim
    | some zs =>
      rw [e] at h1
      simp only [opt_some, R.bind_ok] at h1
      obtain ⟨q, vs, rfl, hq, dl⟩ := lstOf_den r1 d1 e
      refine ⟨.inl ⟨rfl, vs, .inl (.inl hq)⟩, W1, ρ, S1, rfl, r1, hs.mono l1, (h1.bind (D1 := DenL X.K Γ)).imp ?_⟩
      rintro ys H2 ⟨W2, b', S2, rfl, l2, r2, d2, h2⟩
      exact ⟨W2, a', b', S2, Wx, σ, rfl, r2, d1.mono l2, d2, h2⟩
  cases xs with
  | nil =>
    refine (pe_bm0 PySem.F.plainAttrs_list (mt_slot m) (mt_type m) (mt_rule (Γ := Γ) m) ha (noCall0_base hb) hl).imp fun σ H Q h => ?_
    obtain ⟨W, ρ, S, e, hr, hs, h⟩ := fin σ H Q h
    refine ⟨W, ρ, S, e, hr, hs, h.imp ?_⟩
    rintro x H1 ⟨ty, h1⟩
    refine ⟨ty, ?_⟩
    obtain ⟨W1, ρ1, S1, rfl, hr1, hs1, h1⟩ := h1
    cases hnil rfl
    exact h1.ok hr1 .nil
  | cons y ys =>
    have h4' := h4
    rw [List.all_cons, Bool.and_eq_true] at h4'
    refine (pe_bm PySem.F.plainAttrs_list (mt_slot m) (mt_type m) (mt_rule (Γ := Γ) m) ha he (noCall0_base hb) ?_ hl (star_ns h4'.1) (any_ns h4'.2)).imp fun σ H Q h => fin σ H Q h
    rw [all_ns h4]
    simp only [Bool.true_and]
    show (true && decide (_)) = true
    rw [Bool.true_and, decide_eq_true_iff]
    simpa using hlen
end
end Ev

/-! Part F: targets, what is walked, comprehensions; all expressions. -/
namespace Ev
open PySem PySem.Spec PyProof.Rows L2

section
variable {K : PySem.W.Frag} {Γ : Gm} {W W' : Wd} {S : Store} {Wx : WX} {σ : L2.St}
/-- what is to be shown of a result that must be a value -/
def Pok (K : PySem.W.Frag) (Γ : Gm) {α β : Type} (D : Wd → α → β → Prop) (r : R α) (W : Wd) (Q : β → Hp → Prop) : Prop :=
  match r with
  | .ok a S' => ∀ W' b, Le K W W' → Rl K Γ W' S' → D W' a b → Q b W'.H
  | _ => False
theorem Pok.post {α β : Type} {D : Wd → α → β → Prop} {r : R α} {Q : β → Hp → Prop} (h : Pok K Γ D r W Q) : Post K Γ Wx σ D r W Q := by
  cases r with
  | ok a S => exact h
  | ex _ _ _ => exact h.elim
  | bad => exact h.elim
theorem Pok.le {α β : Type} {D : Wd → α → β → Prop} {r : R α} {Q : β → Hp → Prop} (h : Le K W W') (p : Pok K Γ D r W Q) : Pok K Γ D r W' Q := by
  cases r with
  | ok a S => exact fun W'' b l r d => p W'' b (h.trans l) r d
  | ex c q S => exact p
  | bad => exact p
theorem Pok.bind {α β γ δ : Type} {D1 : Wd → α → γ → Prop} {D2 : Wd → β → δ → Prop} {r : R α} {g : α → Store → R β} {Q : δ → Hp → Prop} (h : Pok K Γ D2 (r.bind g) W Q) :
    Pok K Γ D1 r W (fun b H => ∃ W1 a S1, W1.H = H ∧ Le K W W1 ∧ Rl K Γ W1 S1 ∧ D1 W1 a b ∧ Pok K Γ D2 (g a S1) W1 Q) := by
  cases r with
  | ok a S => exact fun W' b l r d => ⟨W', a, S, rfl, l, r, d, Pok.le l h⟩
  | ex c q S => exact h
  | bad => exact h
theorem Pok.ok {α β : Type} {D : Wd → α → β → Prop} {a : α} {b : β} {Q : β → Hp → Prop} (p : Pok K Γ D (.ok a S) W Q) (hr : Rl K Γ W S) (d : D W a b) : Q b W.H := p W b .refl hr d
theorem Pok.imp {α β : Type} {D : Wd → α → β → Prop} {r : R α} {Q Q' : β → Hp → Prop} (p : Pok K Γ D r W Q) (h : ∀ b H, Q b H → Q' b H) : Pok K Γ D r W Q' := by
  cases r with
  | ok a S => exact fun W' b l r d => h _ _ (p W' b l r d)
  | ex c q S => exact p
  | bad => exact p
theorem noex_ok {α : Type} {r : R α} {a : α} {S : Store} (h : noex r = .ok a S) : r = .ok a S := by
  cases r with
  | ok _ _ => exact h
  | ex _ _ _ => cases h
  | bad => cases h
theorem Pok.noex {α β : Type} {D : Wd → α → β → Prop} {r : R α} {Q : β → Hp → Prop} (p : Pok K Γ D (noex r) W Q) : Pok K Γ D r W Q := by
  cases r with
  | ok a S => exact p
  | ex c q S => exact p.elim
  | bad => exact p.elim
end
section
variable {Γ : Gm} {P : Pg} {fw : Nat} {M : Nm} {N : List Str} {k : Nat} {sc ss : Scope} {X : Cx} {Wx : WX}
/-- slots, but for those at T as they were -/
def SlT (K : PySem.W.Frag) (Γ : Gm) (T : List Nat) (σ : L2.St) (W' : Wd) (ρ' : Rho) (σ' : L2.St) : Prop := SlotR K Γ W' ρ' σ' ∧ ∀ j, j ∉ T → σ'[j]? = σ[j]?
def tG (K : PySem.W.Frag) (Γ : Gm) (T : List Nat) (f : PV → Rho → Store → R Rho) : TG := fun v σ H Q => ∃ W pv ρ S, W.H = H ∧ Rl K Γ W S ∧ SlotR K Γ W ρ σ ∧ Den K Γ W pv v ∧ Pok K Γ (SlT K Γ T σ) (f pv ρ S) W Q
def tGs (K : PySem.W.Frag) (Γ : Gm) (T : List Nat) (f : List PV → Rho → Store → R Rho) : TGs := fun v σ H Q => ∃ W pv ρ S, W.H = H ∧ Rl K Γ W S ∧ SlotR K Γ W ρ σ ∧ DenL K Γ W pv v ∧ Pok K Γ (SlT K Γ T σ) (f pv ρ S) W Q
abbrev rTg (X : Cx) (Γ : Gm) (P : Pg) (fw k : Nat) (t : Tg) : TG := tG X.K Γ (tgs t) (asgT (cal P fw k) P t)
abbrev rTgs (X : Cx) (Γ : Gm) (P : Pg) (fw k : Nat) (t : Tgs) : TGs := tGs X.K Γ (tgss t) (asgTs (cal P fw k) P t)

theorem SlotR.set {K : PySem.W.Frag} {W : Wd} {ρ : Rho} {σ : L2.St} {i : Nat} {x : PV} {v : V} (h : SlotR K Γ W ρ σ) (d : Den K Γ W x v) : SlotR K Γ W (ρ.set i (some x)) (σ.set i (some v)) := by
  refine ⟨by simp [h.len], fun j y e => ?_⟩
  by_cases hj : i = j
  · subst hj
    have hi : i < ρ.length := by
      have := (List.getElem?_eq_some_iff.mp e).1
      simpa using this
    rw [List.getElem?_set_self hi] at e
    cases e
    exact ⟨v, by rw [List.getElem?_set_self (by rw [← h.len]; exact hi)], d⟩
  · rw [List.getElem?_set_ne hj] at e
    obtain ⟨v', h1, h2⟩ := h.get j y e
    exact ⟨v', by rw [List.getElem?_set_ne hj]; exact h1, h2⟩
theorem s_gname (c : Cxt Γ P fw M N k sc X Wx) (hf : ∀ x, ss.names.lookup x = some .cell → X.fn x = true) {i : Nat} {x : Str} {p : Pos} (h1 : N[i]? = some x) (h2 : stB sc ss x = true) : PG X (.Name x p) (rTg X Γ P fw k (.name i)) := by
  obtain ⟨h3, h4⟩ := stB_ok c hf h2
  refine (pg_name (by rw [c.hN]; exact c.nd) (by rw [c.hN]; exact h1) h3 h4).imp ?_
  rintro v σ H Q ⟨W, pv, ρ, S, rfl, hr, hs, d, h⟩
  simp only [asgT] at h
  split at h
  · exact h.ok hr ⟨hs.set d, fun j hj => by rw [List.getElem?_set_ne (fun e => hj (by simp [tgs, e]))]⟩
  · exact h.elim
theorem s_gnil : PGs X [] (rTgs X Γ P fw k .nil) := by
  refine pgs_nil.imp ?_
  rintro v σ H Q ⟨W, pv, ρ, S, rfl, hr, hs, d, h⟩
  cases d with
  | nil => exact ⟨rfl, h.ok hr ⟨hs, fun _ _ => rfl⟩⟩
  | cons _ _ => exact h.elim
theorem asgE_ns {e : Expr} {es : List Expr} {env : Env} (h : ns e = true) : (assignEach (e :: es) env).map (·.2) = assign e env :: (assignEach es env).map (·.2) := by
  cases e <;> first | rfl | (cases h; done)
theorem s_gcons {t : Tg} {r : Tgs} {x : Expr} {xs : List Expr} (hn : ns x = true) (h1 : PG X x (rTg X Γ P fw k t)) (h2 : PGs X xs (rTgs X Γ P fw k r)) : PGs X (x :: xs) (rTgs X Γ P fw k (.cons t r)) := by
  refine (pgs_cons h1 h2 (asgE_ns hn)).imp ?_
  rintro v σ H Q ⟨W, pv, ρ, S, rfl, hr, hs, d, h⟩
  cases d with
  | nil => exact h.elim
  | @cons x v xs vs d dr =>
    refine ⟨v, vs, rfl, W, x, ρ, S, rfl, hr, hs, d, (Pok.bind (D1 := SlT X.K Γ (tgs t) σ) h).imp ?_⟩
    rintro σ1 H1 ⟨W1, ρ1, S1, rfl, l1, r1, ⟨s1, k1⟩, h1⟩
    refine ⟨W1, xs, ρ1, S1, rfl, r1, s1, dr.mono l1, ?_⟩
    generalize asgTs (cal P fw k) P r xs ρ1 S1 = q at h1 ⊢
    cases q with
    | ok a S' => exact fun W' b l rr ⟨s2, k2⟩ => h1 W' b l rr ⟨s2, fun j hj => by
        have hj' : j ∉ tgs t ++ tgss r := hj
        rw [List.mem_append] at hj'
        rw [k2 j fun z => hj' (.inr z), k1 j fun z => hj' (.inl z)]⟩
    | ex _ _ _ => exact h1
    | bad => exact h1
def tlen : Tgs → Nat
  | .nil => 0
  | .cons _ r => tlen r + 1
theorem asgTs_len {Cl : Nat → List PV → Store → R PV} : ∀ (ts : Tgs) (vs : List PV) (ρ : Rho) (S : Store) (ρ' : Rho) (S' : Store), asgTs Cl P ts vs ρ S = .ok ρ' S' → vs.length = tlen ts
  | .nil, [], _, _, _, _, _ => rfl
  | .nil, _ :: _, _, _, _, _, h => by cases h
  | .cons t r, [], _, _, _, _, h => by cases h
  | .cons t r, v :: vs, ρ, S, ρ', S', h => by
    have h : (asgT Cl P t v ρ S).bind (fun ρ1 S1 => asgTs Cl P r vs ρ1 S1) = .ok ρ' S' := h
    cases e : asgT Cl P t v ρ S with
    | ok ρ1 S1 =>
      rw [e] at h
      have := asgTs_len r vs ρ1 S1 ρ' S' h
      simp [tlen, this]
    | ex _ _ _ => rw [e] at h; cases h
    | bad => rw [e] at h; cases h
theorem corTgs_len : ∀ (ts : Tgs) (xs : List Expr), corTgs M N sc ss ts xs = true → xs.all ns = true ∧ tlen ts = xs.length
  | .nil, [], _ => ⟨rfl, rfl⟩
  | .nil, _ :: _, h => by cases h
  | .cons _ _, [], h => by cases h
  | .cons t r, x :: xs, h => by
    simp only [corTgs, Bool.and_eq_true] at h
    obtain ⟨i1, i2⟩ := corTgs_len r xs h.2
    exact ⟨by rw [List.all_cons, h.1.1, i1]; rfl, by simp [tlen, i2]⟩
theorem s_gtup (c : Cxt Γ P fw M N k sc X Wx) {ts : Tgs} {xs : List Expr} {j : Nat} {p : Pos} (hns : xs.all ns = true) (hlen : tlen ts = xs.length) (h : PGs X xs (rTgs X Γ P fw k ts)) : PG X (.Tuple xs j p) (rTg X Γ P fw k (.tup ts)) := by
  have hl : ∀ {xs : List Expr}, xs.all ns = true → (assignEach xs X.env).length = xs.length ∧ (assignEach xs X.env).findIdx? (·.1) = none := by
    intro xs
    induction xs with
    | nil => intro _; exact ⟨rfl, rfl⟩
    | cons e es ih =>
      intro hh
      rw [List.all_cons, Bool.and_eq_true] at hh
      obtain ⟨i1, i2⟩ := ih hh.2
      have e0 : assignEach (e :: es) X.env = (false, assign e X.env) :: assignEach es X.env := by
        have := hh.1
        cases e <;> first | rfl | (cases this; done)
      rw [e0]
      exact ⟨by simp [i1], by rw [List.findIdx?_cons]; simp [i2]⟩
  obtain ⟨l1, l2⟩ := hl hns
  refine (pg_tup (n := xs.length) c.calm h l1 l2).imp ?_
  rintro v σ H Q ⟨W, pv, ρ, S, rfl, hr, hs, d, h⟩
  cases d with
  | @tup a ys vs h1 h2 =>
    simp only [asgT] at h
    refine ⟨a, vs, rfl, h1, ?_, W, ys, ρ, S, rfl, hr, hs, h2, h⟩
    rw [← h2.length]
    cases e : asgTs (cal P fw k) P ts ys ρ S with
    | ok ρ' S' => rw [asgTs_len ts ys ρ S ρ' S' e, hlen]
    | ex a b c => rw [e] at h; exact h.elim
    | bad => rw [e] at h; exact h.elim
  | _ => exact h.elim

/-! x[i] = v -/
theorem DenK.length {K : PySem.W.Frag} {W : Wd} : ∀ {kvs vs}, DenK K Γ W kvs vs → kvs.length = vs.length
  | _, _, .nil => rfl
  | _, _, .cons _ b => by simp [DenK.length b]
theorem DenK.append {K : PySem.W.Frag} {W : Wd} : ∀ {kvs vs kvs' vs'}, DenK K Γ W kvs vs → DenK K Γ W kvs' vs' → DenK K Γ W (kvs ++ kvs') (vs ++ vs')
  | _, _, _, _, .nil, h => h
  | _, _, _, _, .cons a b, h => .cons a (DenK.append b h)
theorem DenK.anyK {K : PySem.W.Frag} {W : Wd} {q : Sum Int Codes} : ∀ {kvs vs}, DenK K Γ W kvs vs → (kvs.any fun kv => decide (kv.1 = q)) = (vs.any fun kv => decide (kv.1 = keyS q))
  | _, _, .nil => rfl
  | _, _, .cons (k := k') a b => by
    rw [List.any_cons, List.any_cons, DenK.anyK b]
    congr 1
    by_cases h : k' = q
    · subst h; simp
    · rw [decide_eq_false h]
      exact (decide_eq_false fun e => h (keyS_inj e)).symm
theorem DenK.mapK {K : PySem.W.Frag} {W : Wd} {q : Sum Int Codes} {x : PV} {v : V} (d : Den K Γ W x v) : ∀ {kvs vs}, DenK K Γ W kvs vs → DenK K Γ W (kvs.map fun kv => if kv.1 = q then (kv.1, x) else kv) (vs.map fun kv => if kv.1 = keyS q then (kv.1, v) else kv)
  | _, _, .nil => .nil
  | _, _, .cons (k := k') a b => by
    rw [List.map_cons, List.map_cons]
    by_cases h : k' = q
    · subst h
      rw [if_pos rfl, if_pos rfl]
      exact .cons d (DenK.mapK d b)
    · rw [if_neg h, if_neg fun e => h (keyS_inj e)]
      exact .cons a (DenK.mapK d b)
theorem DenK.put {K : PySem.W.Frag} {W : Wd} {q : Sum Int Codes} {x : PV} {v : V} {kvs vs} (d : Den K Γ W x v) (h : DenK K Γ W kvs vs) : DenK K Γ W (dput kvs q x) (putK vs (keyS q) v) := by
  unfold dput putK
  rw [DenK.anyK h]
  split
  · exact DenK.mapK d h
  · exact DenK.append h (.cons d .nil)
theorem set_ok (hu : X.A.units + 1 < cLine) : PSet X (fun o i v H Q => ∃ W a b c S, W.H = H ∧ Rl X.K Γ W S ∧ Den X.K Γ W a o ∧ Den X.K Γ W b i ∧ Den X.K Γ W c v ∧ Pok X.K Γ (fun _ (_ : Unit) (_ : Unit) => True) (setOp a b c S) W fun _ H' => Q H') := by
  rintro pins s σ H o i v ov iv u Q I ro ri rv ⟨W, a, b, c, S, rfl, hr, da, db, dc, h⟩
  cases da with
  | @ref n p hn =>
    simp only [setOp] at h
    split at h
    · rename_i xs hx
      cases db with
      | int i =>
        dsimp only at h
        split at h
        · rename_i j hj
          obtain ⟨vs, h1, h2⟩ := hr.cell n p _ hn hx
          have hm : Mut (W.H p) := by rw [h1]; trivial
          refine set_list pins s σ W.H _ _ v ov iv u Q I ro ri rv ⟨p, vs, i, j, rfl, rfl, h1, by rw [← h2.length]; exact hj, ?_⟩
          exact h _ () (Le.write hr hn hm) (Rl.write hr hn hm ⟨_, upd_same, (h2.mono (Le.write hr hn hm)).set j (dc.mono (Le.write hr hn hm))⟩) trivial
        · exact h.elim
      | _ => exact h.elim
    · rename_i kvs hx
      split at h
      · rename_i q hq
        split at h
        · rename_i hl
          obtain ⟨vs, h1, h2⟩ := hr.cell n p _ hn hx
          have hm : Mut (W.H p) := by rw [h1]; trivial
          cases ro
          have e := keyOf_den db hq
          subst e
          refine d_setItem hu I (DPut.k h1 (by rw [← DenK.length h2]; exact hl)) ri rv fun s' I' => ⟨_, I', ?_⟩
          exact h _ () (Le.write hr hn hm) (Rl.write hr hn hm ⟨_, upd_same, DenK.put (dc.mono (Le.write hr hn hm)) (h2.mono (Le.write hr hn hm))⟩) trivial
        · exact h.elim
      · exact h.elim
    · exact h.elim
  | _ => exact h.elim
theorem plIx_asg {o i : Expr} {p : Pos} {env : Env} (h : plIx i = true) : ∀ v, assign (.Subscript o i p) env v = (do
      let ov ← holding [v] (eval o env)
      let iv ← holding [v, ov] (eval i env)
      standAt p
      holding [v, ov, iv] (setItem ov iv v)
      release [v, ov, iv] []) := by
  intro v
  cases i <;> first | rfl | (cases h; done)
theorem s_gsub (c : Cxt Γ P fw M N k sc X Wx) {o i : E} {x y : Expr} {p : Pos} (hp : plIx y = true) (ho : PE X x (rE X Γ P fw k Wx o)) (hi : PE X y (rE X Γ P fw k Wx i)) : PG X (.Subscript x y p) (rTg X Γ P fw k (.sub o i)) := by
  refine (pg_sub ho hi (set_ok (Γ := Γ) (by have := c.units; omega)) (plIx_asg hp)).imp ?_
  rintro v σ H Q ⟨W, pv, ρ, S, rfl, hr, hs, d, h⟩
  refine ⟨W, ρ, S, rfl, hr, hs, (Pok.noex (Pok.bind (D1 := Den X.K Γ) h)).post.imp ?_⟩
  rintro ov H1 ⟨W1, a, S1, rfl, l1, r1, d1, h1⟩
  refine ⟨W1, ρ, S1, rfl, r1, hs.mono l1, (Pok.noex (Pok.bind (D1 := Den X.K Γ) h1)).post.imp ?_⟩
  rintro iv H2 ⟨W2, b, S2, rfl, l2, r2, d2, h2⟩
  refine ⟨W2, a, b, pv, S2, rfl, r2, d1.mono l2, d2, (d.mono l1).mono l2, (Pok.bind (D1 := fun _ (_ : Unit) (_ : Unit) => True) h2).imp ?_⟩
  rintro _ H3 ⟨W3, _, S3, rfl, l3, r3, _, h3⟩
  exact h3.ok r3 ⟨((hs.mono l1).mono l2).mono l3, fun _ _ => rfl⟩

/-! what is walked -/
abbrev rIt (X : Cx) (Γ : Gm) (P : Pg) (fw k : Nat) (Wx : WX) (t : It) : TI := tI X.K Γ Wx (evIt (cal P fw k) P t)
theorem pi_or {tg e : Expr} {t u : TI} (h1 : PI X tg e t) (h2 : PI X tg e u) : PI X tg e (fun σ H R => t σ H R ∨ u σ H R) := ⟨fun pins s σ H R I h => h.elim (fun h => h1.run pins s σ H R I h) fun h => h2.run pins s σ H R I h⟩
theorem pi_any {tg e : Expr} {te : TE} (he : PE X e te) : PI X tg e (fun σ H R => te σ H fun x H1 => (∃ a, x = .ref a ∧ (∃ xs, SqL X.K H1 a xs) ∧ R (Itl X.K a) H1) ∨ (∃ a, x = .ref a ∧ (∃ xs, SqT X.K H1 a xs) ∧ R (Itt X.K a) H1) ∨ ∃ x', x = .str x' ∧ R (L2.Its x') H1) := by
  refine ⟨fun pins s σ H R I h => ?_⟩
  refine thn (he.run pins s σ H _ I h) fun v s1 ⟨x, H1, I1, r1, q1⟩ => ?_
  -- the value is known: each rule at the name of a value that is there already
  have val : ∀ (t : TI), (∀ (e' : Expr), PE X e' (fun _ H Q => Q x H) → PI X tg e' t) → True := fun _ _ => trivial
  rcases q1 with ⟨a, rfl, ⟨xs, hq⟩, q⟩ | ⟨a, rfl, ⟨xs, hq⟩, q⟩ | ⟨x', rfl, q⟩
  · cases r1
    obtain ⟨its, rv, p, hz⟩ := I1.list hq
    refine wpAny_pyIter_list p.isList ?_
    refine ⟨s1.heap.objs.size, [s1.heap.objs.size], _, _, H1, rfl, I1.kept (t' := s1.toks) fun b o e => Heap.get?_push_of_some _ e, turn_list a _, ⟨_, Heap.get?_push_size _ rfl, rfl, rfl⟩, fun b hb => ?_, q⟩
    have e : b = s1.heap.objs.size := by simpa using hb
    subst e
    exact I1.fpOk (Nat.le_refl _) (I1.hok.fresh (Nat.le_refl _))
  · cases r1
    obtain ⟨its, rv, p, hz⟩ := I1.tuple hq
    refine wpAny_pyIter_tuple (show s1.heap.IsTuple a its.toArray from p) ?_
    refine ⟨s1.heap.objs.size, [s1.heap.objs.size], _, _, H1, rfl, I1.kept (t' := s1.toks) fun b o e => Heap.get?_push_of_some _ e, turn_tuple a _, ⟨_, Heap.get?_push_size _ rfl, rfl, rfl⟩, fun b hb => ?_, q⟩
    have e : b = s1.heap.objs.size := by simpa using hb
    subst e
    exact I1.fpOk (Nat.le_refl _) (I1.hok.fresh (Nat.le_refl _))
  · obtain ⟨t, rfl⟩ := r1
    have fresh : ∀ b ∈ [s1.heap.objs.size], FpOk X pins H1 b := fun b hb => by
      have e : b = s1.heap.objs.size := by simpa using hb
      subst e
      exact I1.fpOk (Nat.le_refl _) (I1.hok.fresh (Nat.le_refl _))
    cases ha : x'.cps.all (· < 128)
    · exact wpAny_pyIter_wide ha ⟨s1.heap.objs.size, [s1.heap.objs.size], _, _, H1, rfl, I1.kept (t' := s1.toks) fun b o e => Heap.get?_push_of_some _ e, turn_str _ x' t _ (.inr rfl), ⟨_, Heap.get?_push_size _ rfl, rfl, rfl⟩, fresh, q⟩
    · exact wpAny_pyIter_ascii ha ⟨s1.heap.objs.size, [s1.heap.objs.size], _, _, H1, rfl, I1.kept (t' := s1.toks) fun b o e => Heap.get?_push_of_some _ e, turn_str _ x' t _ (.inl rfl), ⟨_, Heap.get?_push_size _ rfl, rfl, rfl⟩, fresh, q⟩
theorem s_iseq {a : E} {tg x : Expr} (ha : PE X x (rE X Γ P fw k Wx a)) : PI X tg x (rIt X Γ P fw k Wx (.seq a)) := by
  refine (pi_any ha).imp fun σ H R h => ?_
  obtain ⟨W, ρ, S, rfl, hr, hs, h⟩ := h
  refine ⟨W, ρ, S, rfl, hr, hs, (Post.bind (D1 := Den X.K Γ) h).imp ?_⟩
  rintro x H1 ⟨W1, a', S1, rfl, l1, r1, d1, h1⟩
  replace h1 := h1.opt
  obtain ⟨J, eJ, h1⟩ := h1
  by_cases hstr : ∃ s, a' = .str s
  · obtain ⟨s, rfl⟩ := hstr
    cases eJ
    cases d1.strv
    exact .inr (.inr ⟨_, rfl, h1.ok r1 ItR.str⟩)
  · have eJ' : itsSq S1 a' = some J := by
      cases a' <;> first | exact eJ | exact absurd ⟨_, rfl⟩ hstr
    obtain ⟨ad, rfl, hh⟩ := itsSq_den r1 d1 eJ'
    rcases hh with ⟨_, vs, hq, hh⟩ | ⟨_, vs, hq, hh⟩
    · exact .inl ⟨ad, rfl, ⟨vs, hq⟩, h1.ok r1 (ItR.lst hh)⟩
    · exact .inr (.inl ⟨ad, rfl, ⟨vs, hq⟩, h1.ok r1 (ItR.tup hh)⟩)
theorem s_irng1 (c : Cxt Γ P fw M N k sc X Wx) {a : E} {tg x : Expr} {p pos : Pos} (hg : glB sc "range" = true) (hn : ns x = true) (ha : PE X x (rE X Γ P fw k Wx a)) : PI X tg (.Call (.Name "range" p) [x] [] pos) (rIt X Γ P fw k Wx (.rng1 a)) := by
  refine (pi_range1 (glB_ok hg c.hsc) (c.bt _ (by decide +kernel)) (pa_cons ha pa_nil (star_ns hn)) (star_ns hn)).imp fun σ H R h => ?_
  obtain ⟨W, ρ, S, rfl, hr, hs, h⟩ := h
  refine ⟨W, ρ, S, rfl, hr, hs, (Post.bind (D1 := Den X.K Γ) h).imp ?_⟩
  rintro x H1 ⟨W1, a', S1, rfl, l1, r1, d1, h1⟩
  cases d1 with
  | int j =>
    dsimp only at h1
    split at h1
    · rename_i hj
      refine ⟨j, rfl, hj.1, hj.2, h1.ok r1 ?_⟩
      have := ItR.rng (K := X.K) (Γ := Γ) (W := W1) (lo := 0) (n := j.toNat)
      simpa using this
    · exact h1.elim
  | _ => exact h1.elim
theorem s_irng2 (c : Cxt Γ P fw M N k sc X Wx) {a b : E} {tg x y : Expr} {p pos : Pos} (hg : glB sc "range" = true) (hn : ns x = true) (hn2 : ns y = true) (ha : PE X x (rE X Γ P fw k Wx a)) (hb : PE X y (rE X Γ P fw k Wx b)) : PI X tg (.Call (.Name "range" p) [x, y] [] pos) (rIt X Γ P fw k Wx (.rng2 a b)) := by
  refine (pi_range2 (glB_ok hg c.hsc) (c.bt _ (by decide +kernel)) (pa_cons ha (pa_cons hb pa_nil (star_ns hn2)) (star_ns hn)) (by rw [star_ns hn, star_ns hn2]; rfl) (star_ns hn2)).imp fun σ H R h => ?_
  obtain ⟨W, ρ, S, rfl, hr, hs, h⟩ := h
  refine ⟨W, ρ, S, rfl, hr, hs, (Post.bind (D1 := Den X.K Γ) h).imp ?_⟩
  rintro x H1 ⟨W1, a', S1, rfl, l1, r1, d1, h1⟩
  refine ⟨W1, ρ, S1, rfl, r1, hs.mono l1, (Post.bind (D1 := Den X.K Γ) h1).imp ?_⟩
  rintro y H2 ⟨W2, b', S2, rfl, l2, r2, d2, h2⟩
  cases d1 with
  | int i =>
    cases d2 with
    | int j =>
      dsimp only at h2
      split at h2
      · rename_i hj
        exact ⟨i, j, rfl, ⟨hj.1.1, hj.1.2, hj.2.1, hj.2.2⟩, h2.ok r2 ItR.rng⟩
      · exact h2.elim
    | _ => exact h2.elim
  | _ => exact h2.elim
theorem s_ienum (c : Cxt Γ P fw M N k sc X Wx) {a : E} {x : Expr} {xs : List Expr} {j : Nat} {p pos p2 : Pos} (hg : glB sc "enumerate" = true) (hn : ns x = true) (ha : PE X x (rE X Γ P fw k Wx a)) : PI X (.Tuple xs j p2) (.Call (.Name "enumerate" p) [x] [] pos) (rIt X Γ P fw k Wx (.enum a)) := by
  refine (pi_enumA (glB_ok hg c.hsc) (c.bt _ (by decide +kernel)) (pa_cons ha pa_nil (star_ns hn)) (star_ns hn)).imp fun σ H R h => ?_
  obtain ⟨W, ρ, S, rfl, hr, hs, h⟩ := h
  refine ⟨W, ρ, S, rfl, hr, hs, (Post.bind (D1 := Den X.K Γ) h).imp ?_⟩
  rintro x H1 ⟨W1, a', S1, rfl, l1, r1, d1, h1⟩
  cases eJ : itsSq S1 a' with
  | none => rw [eJ] at h1; exact h1.elim
  | some J =>
    rw [eJ] at h1
    simp only [opt_some, Ev.R.bind_ok] at h1
    obtain ⟨ad, rfl, hh⟩ := itsSq_den r1 d1 eJ
    rcases hh with ⟨_, vs, hq, hh⟩ | ⟨_, vs, hq, hh⟩
    · exact ⟨ad, vs, rfl, .inl ⟨hq, h1.ok r1 (ItR.enumL hh)⟩⟩
    · exact ⟨ad, vs, rfl, .inr ⟨hq, h1.ok r1 (ItR.enumT hh)⟩⟩
theorem s_izip (c : Cxt Γ P fw M N k sc X Wx) {a b : E} {x y : Expr} {xs : List Expr} {j : Nat} {p pos p2 : Pos} (hg : glB sc "zip" = true) (hn : ns x = true) (hn2 : ns y = true) (ha : PE X x (rE X Γ P fw k Wx a)) (hb : PE X y (rE X Γ P fw k Wx b)) :
    PI X (.Tuple xs j p2) (.Call (.Name "zip" p) [x, y] [] pos) (rIt X Γ P fw k Wx (.zip a b)) := by
  refine (RZ.pi_zipA (glB_ok hg c.hsc) (c.bt _ (by decide +kernel)) (pa_cons ha (pa_cons hb pa_nil (star_ns hn2)) (star_ns hn)) (star_ns hn) (any_ns (by simp [hn2]))).imp fun σ H R h => ?_
  obtain ⟨W, ρ, S, rfl, hr, hs, h⟩ := h
  refine ⟨W, ρ, S, rfl, hr, hs, (Post.bind (D1 := Den X.K Γ) h).imp ?_⟩
  rintro x H1 ⟨W1, a', S1, rfl, l1, r1, d1, h1⟩
  refine ⟨W1, ρ, S1, rfl, r1, hs.mono l1, (Post.bind (D1 := Den X.K Γ) h1).imp ?_⟩
  rintro y H2 ⟨W2, b', S2, rfl, l2, r2, d2, h2⟩
  cases eJ : itsSq S2 a' with
  | none => rw [eJ] at h2; exact h2.elim
  | some J =>
    cases eJ' : itsSq S2 b' with
    | none => rw [eJ, eJ'] at h2; exact h2.elim
    | some J' =>
      rw [eJ, eJ'] at h2
      dsimp only at h2
      split at h2
      · rename_i ht
        obtain ⟨ad, rfl, hh⟩ := itsSq_den r2 (d1.mono l2) eJ
        obtain ⟨bd, rfl, hh'⟩ := itsSq_den r2 d2 eJ'
        rcases hh with ⟨t1, vs, hq, hh⟩ | ⟨t1, vs, hq, hh⟩
        · rcases hh' with ⟨t2, us, hu, hh'⟩ | ⟨t2, us, hu, hh'⟩
          · exact ⟨ad, bd, vs, us, rfl, .inl ⟨hq, hu, h2.ok r2 (ItR.zipL hh hh')⟩⟩
          · rw [t1, t2] at ht; cases ht
        · rcases hh' with ⟨t2, us, hu, hh'⟩ | ⟨t2, us, hu, hh'⟩
          · rw [t1, t2] at ht; cases ht
          · exact ⟨ad, bd, vs, us, rfl, .inr ⟨hq, hu, h2.ok r2 (ItR.zipT hh hh')⟩⟩
      · exact h2.elim
end
end Ev

/-! Part G: comprehensions; every expression. -/
namespace Ev
open PySem PySem.Spec PyProof.Rows L2

section
variable {K : PySem.W.Frag} {Γ : Gm} {W W' : Wd} {S : Store}
/-- a list that is being made -/
def Wd.prv (W : Wd) (p : Addr) (o : HO) : Wd := ⟨W.m, W.L, fun a => W.P a ∨ a = p, upd W.H p o⟩
theorem Le.prv {p : Addr} {o : HO} (hr : Rl K Γ W S) (hp : W.H p = none) : Le K W (W.prv p o) where
  mm := ⟨[], by simp [Wd.prv]⟩
  ll := fun _ h => h
  tt := fun a vs h => SqT.upd_new hp h
  lv := fun a o' h e => by show upd W.H p o a = _; rw [upd_ne (ne_of_none e hp)]; exact e
  fz := fun a o' u e => by show upd W.H p o a = _; rw [upd_ne (ne_of_none e hp)]; exact e
  new := fun a h => by
    have e : a ≠ p := fun e => by subst e; exact absurd hp h
    exact ⟨by show upd W.H p o a ≠ none; rw [upd_ne e]; exact h, fun z => z, fun z => z⟩
  pv := fun a o' h e => ⟨.inl h, by show upd W.H p o a = _; rw [upd_ne (ne_of_none e hp)]; exact e⟩
theorem Rl.prv {p : Addr} {o : HO} (hr : Rl K Γ W S) (hp : W.H p = none) : Rl K Γ (W.prv p o) S where
  len := hr.len
  nd := hr.nd
  dis := hr.dis
  ll := fun a h => by
    have e : a ≠ p := fun e => by subst e; exact hr.ll _ h hp
    show upd W.H p o a ≠ none
    rw [upd_ne e]; exact hr.ll a h
  pp := fun a h => by
    by_cases e : a = p
    · subst e
      exact ⟨by show upd W.H a o a ≠ none; rw [upd_same]; simp, fun z => hr.mne z hp, fun z => hr.ll _ z hp⟩
    · obtain ⟨h1, h2, h3⟩ := hr.pp a (h.resolve_right e)
      exact ⟨by show upd W.H p o a ≠ none; rw [upd_ne e]; exact h1, h2, h3⟩
  cell := fun n a c h1 h2 => by
    refine (hr.cell n a c h1 h2).mono (Le.prv hr hp).toLe0 ?_
    show upd W.H p o a = W.H a
    rw [upd_ne]
    rintro rfl
    exact (hr.cell n _ c h1 h2).ne hp
/-- its content changes -/
theorem Le0.prvSet {p : Addr} {o : HO} (hr : Rl K Γ W S) (hp : W.P p) (hm : Mut (W.H p)) : Le0 K W { W with H := upd W.H p o } where
  mm := ⟨[], by simp⟩
  ll := fun _ h => h
  tt := fun a vs h => SqT.upd_mut hm h
  lv := fun a o' h e => by
    show upd W.H p o a = _
    rw [upd_ne]; exact e
    rintro rfl
    exact (hr.pp _ hp).2.2 h
  fz := fun a o' u e => by
    show upd W.H p o a = _
    rw [upd_ne]; exact e
    rintro rfl
    rw [e] at hm; exact hm
theorem Rl.prvSet {p : Addr} {o : HO} (hr : Rl K Γ W S) (hp : W.P p) (hm : Mut (W.H p)) : Rl K Γ { W with H := upd W.H p o } S where
  len := hr.len
  nd := hr.nd
  dis := hr.dis
  ll := fun a h => by
    have e : a ≠ p := fun e => by subst e; exact (hr.pp _ hp).2.2 h
    show upd W.H p o a ≠ none
    rw [upd_ne e]; exact hr.ll a h
  pp := fun a h => ⟨by
    show upd W.H p o a ≠ none
    by_cases e : a = p
    · subst e; rw [upd_same]; simp
    · rw [upd_ne e]; exact (hr.pp a h).1, (hr.pp a h).2⟩
  cell := fun n a c h1 h2 => by
    refine (hr.cell n a c h1 h2).mono (Le0.prvSet hr hp hm) ?_
    show upd W.H p o a = W.H a
    rw [upd_ne]
    rintro rfl
    exact (hr.pp _ hp).2.1 (List.mem_of_getElem? h1)
/-- from a world in which p was not there, to one in which it is changed -/
theorem Le.prvSet {p : Addr} {o : HO} {S0 : Store} (h0 : W.H p = none) (l : Le K W W') (hr : Rl K Γ W' S) (hp : W'.P p) (hm : Mut (W'.H p)) (hr0 : Rl K Γ W S0) : Le K W { W' with H := upd W'.H p o } where
  toLe0 := by
    have l2 := Le0.prvSet (o := o) hr hp hm
    obtain ⟨l1, e1⟩ := l.mm
    obtain ⟨l2', e2⟩ := l2.mm
    exact ⟨⟨l1, e1⟩, fun a h => l2.ll a (l.ll a h), fun a vs h => l2.tt a vs (l.tt a vs h), fun a o h e => l2.lv a o (l.ll a h) (l.lv a o h e), fun a o u h => l2.fz a o u (l.fz a o u h)⟩
  new := fun a h => by
    obtain ⟨n1, n2, n3⟩ := l.new a h
    refine ⟨?_, n2, n3⟩
    show upd W'.H p o a ≠ none
    by_cases e : a = p
    · subst e; rw [upd_same]; simp
    · rw [upd_ne e]; exact n1
  pv := fun a o' h e => by
    obtain ⟨n1, n2⟩ := l.pv a o' h e
    refine ⟨n1, ?_⟩
    show upd W'.H p o a = _
    rw [upd_ne (ne_of_none e h0)]
    exact n2
/-- the list is made: as a value, or as a cell -/
theorem Post.finP {Wx : WX} {σ : L2.St} {c : Bool} {xs : List PV} {vs : List V} {Q : VK} {p : Addr} {S0 : Store} (h : Post K Γ Wx σ (Den K Γ) (Ev.fin c xs S) W Q) (hr0 : Rl K Γ W S0) (hp : W.H p = none) (l : Le K W W') (hr : Rl K Γ W' S) (hP : W'.P p) (hH : W'.H p = some (.lst vs)) (d : DenL K Γ W' xs vs) : Q (.ref p) W'.H := by
  obtain ⟨_, nm, nL⟩ := hr.pp p hP
  have h0 : ∀ a, W.H a ≠ none → a ≠ p := fun a h e => by subst e; exact h hp
  have h0P : ¬ W.P p := fun z => (hr0.pp p z).1 hp
  cases c with
  | false =>
    refine h ⟨W'.m, fun a => W'.L a ∨ a = p, fun a => W'.P a ∧ a ≠ p, W'.H⟩ (.ref p) ?_ ?_ (.lv (.inr rfl) hH ?_)
    · exact ⟨⟨l.mm, fun a z => .inl (l.ll a z), l.tt, l.lv, l.fz⟩, fun a z => ⟨(l.new a z).1, (l.new a z).2.1, fun q => q.elim (l.new a z).2.2 fun q => absurd q (h0 a z)⟩, fun a o z e => ⟨⟨(l.pv a o z e).1, fun q => by subst q; exact h0P z⟩, (l.pv a o z e).2⟩⟩
    · exact ⟨hr.len, hr.nd, fun a ha z => z.elim (hr.dis a ha) fun e => nm (e ▸ ha), fun a z => z.elim (hr.ll a) fun e => by subst e; show W'.H a ≠ none; rw [hH]; simp, fun a z => ⟨(hr.pp a z.1).1, (hr.pp a z.1).2.1, fun q => q.elim (hr.pp a z.1).2.2 z.2⟩,
        fun n a c h1 h2 => (hr.cell n a c h1 h2).mono (W' := ⟨W'.m, fun a => W'.L a ∨ a = p, fun a => W'.P a ∧ a ≠ p, W'.H⟩) ⟨⟨[], by simp⟩, fun _ z => .inl z, fun _ _ z => z, fun _ _ _ z => z, fun _ _ _ z => z⟩ rfl⟩
    · exact d.mono0 (W' := ⟨W'.m, fun a => W'.L a ∨ a = p, fun a => W'.P a ∧ a ≠ p, W'.H⟩) ⟨⟨[], by simp⟩, fun _ z => .inl z, fun _ _ z => z, fun _ _ _ z => z, fun _ _ _ z => z⟩
  | true =>
    have l0 : Le0 K W' ⟨W'.m ++ [p], W'.L, fun a => W'.P a ∧ a ≠ p, W'.H⟩ := ⟨⟨[p], rfl⟩, fun _ z => z, fun _ _ z => z, fun _ _ _ z => z, fun _ _ _ z => z⟩
    refine h ⟨W'.m ++ [p], W'.L, fun a => W'.P a ∧ a ≠ p, W'.H⟩ (.ref p) ?_ ?_ (.ref ?_)
    · obtain ⟨l1, e1⟩ := l.mm
      refine ⟨⟨⟨l1 ++ [p], by rw [e1, List.append_assoc]⟩, l.ll, l.tt, l.lv, l.fz⟩, fun a z => ⟨(l.new a z).1, fun q => ?_, (l.new a z).2.2⟩, fun a o z e => ⟨⟨(l.pv a o z e).1, fun q => by subst q; exact h0P z⟩, (l.pv a o z e).2⟩⟩
      rcases List.mem_append.mp q with q | q
      · exact (l.new a z).2.1 q
      · exact absurd (by simpa using q) (h0 a z)
    · refine ⟨by simp [hr.len], ?_, fun a ha z => ?_, hr.ll, fun a z => ⟨(hr.pp a z.1).1, fun q => ?_, (hr.pp a z.1).2.2⟩, fun n a c h1 h2 => ?_⟩
      · rw [List.nodup_append]
        refine ⟨hr.nd, by simp, fun a ha b hb => ?_⟩
        have : b = p := by simpa using hb
        subst this
        rintro rfl
        exact nm ha
      · rcases List.mem_append.mp ha with ha | ha
        · exact hr.dis a ha z
        · have : a = p := by simpa using ha
          subst this
          exact nL z
      · rcases List.mem_append.mp q with q | q
        · exact (hr.pp a z.1).2.1 q
        · exact z.2 (by simpa using q)
      · have h1' : (W'.m ++ [p])[n]? = some a := h1
        by_cases hn : n < W'.m.length
        · rw [List.getElem?_append_left hn] at h1'
          rw [List.getElem?_append_left (by rw [← hr.len]; exact hn)] at h2
          exact (hr.cell n a c h1' h2).mono l0 rfl
        · have hn' : n = W'.m.length := by
            have := (List.getElem?_eq_some_iff.mp h1').1
            simp at this; omega
          subst hn'
          simp at h1'
          subst h1'
          rw [hr.len] at h2
          simp at h2
          subst h2
          exact ⟨vs, hH, d.mono0 l0⟩
    · show (W'.m ++ [p])[S.length]? = some p
      rw [← hr.len]
      simp
theorem wipe_get (σ : L2.St) : ∀ (vs : List Nat) (j : Nat), (wipe σ vs)[j]? = if j ∈ vs ∧ j < σ.length then some none else σ[j]?
  | [], j => by simp [wipe]
  | v :: vs, j => by
    unfold wipe
    by_cases h : v = j
    · subst h
      by_cases hl : v < σ.length
      · rw [List.getElem?_set_self (by rw [wipe_length]; exact hl), if_pos ⟨by simp, hl⟩]
      · rw [if_neg fun z => hl z.2, List.getElem?_eq_none (by rw [List.length_set, wipe_length]; omega), List.getElem?_eq_none (by omega)]
    · rw [List.getElem?_set_ne h, wipe_get σ vs j]
      by_cases hm : j ∈ vs ∧ j < σ.length
      · rw [if_pos hm, if_pos ⟨List.mem_cons_of_mem _ hm.1, hm.2⟩]
      · rw [if_neg hm, if_neg]
        rintro ⟨z1, z2⟩
        rcases List.mem_cons.mp z1 with z1 | z1
        · exact h z1.symm
        · exact hm ⟨z1, z2⟩
theorem wipe_back {σ σ2 : L2.St} {vs : List Nat} (hl : σ2.length = σ.length) (h : ∀ j, j ∉ vs → σ2[j]? = (wipe σ vs)[j]?) : wipe σ2 vs = wipe σ vs := by
  apply List.ext_getElem?
  intro j
  rw [wipe_get σ2 vs j, hl]
  by_cases hm : j ∈ vs ∧ j < σ.length
  · rw [if_pos hm, wipe_get, if_pos hm]
  · rw [if_neg hm]
    by_cases hj : j ∈ vs
    · have : ¬ j < σ.length := fun z => hm ⟨hj, z⟩
      rw [List.getElem?_eq_none (by omega), List.getElem?_eq_none (by rw [wipe_length]; omega)]
    · exact h j hj
theorem wipeR_len (ρ : Rho) : ∀ vs : List Nat, (wipeR ρ vs).length = ρ.length
  | [] => rfl
  | v :: vs => by unfold wipeR; rw [List.length_set, wipeR_len ρ vs]
theorem SlotR.wipe {ρ : Rho} {σ : L2.St} (h : SlotR K Γ W ρ σ) : ∀ vs : List Nat, SlotR K Γ W (wipeR ρ vs) (wipe σ vs)
  | [] => h
  | v :: vs => by
    have ih := SlotR.wipe h vs
    refine ⟨by rw [wipeR_len, wipe_length]; exact h.len, fun i x e => ?_⟩
    unfold wipeR at e
    unfold L2.wipe
    by_cases hv : v = i
    · subst hv
      by_cases hi : v < (wipeR ρ vs).length
      · rw [List.getElem?_set_self hi] at e; cases e
      · rw [List.getElem?_eq_none (by rw [List.length_set]; omega)] at e; cases e
    · rw [List.getElem?_set_ne hv] at e
      rw [List.getElem?_set_ne hv]
      exact ih.get i x e
end

section
variable {Γ : Gm} {P : Pg} {fw : Nat} {M : Nm} {N : List Str} {k : Nat} {sc ss : Scope} {X : Cx} {Wx : WX}
abbrev rCd (X : Cx) (Γ : Gm) (P : Pg) (fw k : Nat) (Wx : WX) (e : Eo) : TT := tT X.K Γ Wx (evCond (cal P fw k) P e)
abbrev WF : WX := fun _ _ _ _ => False
theorem s_comp (c : Cxt Γ P fw M N k sc X Wx) {cc : Bool} {elt : E} {tg : Tg} {it : It} {cond : Eo} {own : List (Str × Nat)} {x t i : Expr} {ifs : List Expr} {scope : Scope} {p : Pos} (hb : blkC N sc scope own = true) (hns : noSet i = true) (ht : (tgs tg).all (fun j => (own.map (·.2)).contains j) = true)
    (hi : PI X t i (rIt X Γ P fw k Wx it))
    (hg : ∀ (s : Shared) (H : Hp) (C : Addr) (cl : List (Str × Addr)) (fp : List Addr), PG (X.blk s H scope (compEnvC scope cl C X.env) fp) t (rTg X Γ P fw k tg))
    (hcd : ∀ (s : Shared) (H : Hp) (C : Addr) (cl : List (Str × Addr)) (fp : List Addr), PTs (X.blk s H scope (compEnvC scope cl C X.env) fp) ifs (rCd X Γ P fw k WF cond))
    (he : ∀ (s : Shared) (H : Hp) (C : Addr) (cl : List (Str × Addr)) (fp : List Addr), PE (X.blk s H scope (compEnvC scope cl C X.env) fp) x (rE X Γ P fw k WF elt)) :
    ∀ σ H Q, rE X Γ P fw k Wx (.comp cc elt tg it cond own) σ H Q → tLc (rIt X Γ P fw k Wx it) (rTg X Γ P fw k tg) (rCd X Γ P fw k WF cond) (rE X Γ P fw k WF elt) (own.map (·.2)) σ H Q := by
  intro σ H Q h
  obtain ⟨W, ρ, S, rfl, hr, hs, h⟩ := h
  refine ⟨W, ρ, S, rfl, hr, hs, (Post.bind (D1 := ItR X.K Γ) h).imp ?_⟩
  rintro J H1 ⟨W1, J', S1, rfl, l1, r1, d1, h1⟩ D hD
  generalize hf : (fun x S2 => (asgT (cal P fw k) P tg x (wipeR ρ (own.map (·.2))) S2).bind fun ρ2 S3 => (evCond (cal P fw k) P cond ρ2 S3).bind fun k' S4 => match k' with
      | true => (evE (cal P fw k) P elt ρ2 S4).bind fun y S5 => .ok (some y) S5
      | false => .ok none S4 : PV → Store → R (Option PV)) = f at h1
  have hs1 := hs.mono l1
  -- the whole comes to an end
  obtain ⟨ys, Se, ec, hlen, h1⟩ : ∃ ys Se, cmpL J' f J'.xs S1 = .ok ys Se ∧ ys.length ≤ sizeLine ∧ Post X.K Γ Wx σ (Den X.K Γ) (fin cc ys Se) W1 Q := by
    cases e : cmpL J' f J'.xs S1 with
    | ok ys Se =>
      rw [e] at h1
      have h1 : Post X.K Γ Wx σ (Den X.K Γ) (if ys.length ≤ sizeLine then fin cc ys Se else .bad) W1 Q := h1
      split at h1
      · rename_i hl; exact ⟨ys, Se, rfl, hl, h1⟩
      · exact h1.elim
    | ex _ _ _ => rw [e] at h1; exact h1.elim
    | bad => rw [e] at h1; exact h1.elim
  let Iv : Nat → Hp → Prop := fun i H => ∃ W2 S2 acc accV rest, W2.H = H ∧ Le X.K W1 W2 ∧ Rl X.K Γ W2 S2 ∧ W2.P D ∧ H D = some (.lst accV) ∧ DenL X.K Γ W2 acc accV ∧ cmpL J' f (J'.xs.drop i) S2 = .ok rest Se ∧ acc ++ rest = ys
  refine ⟨fun i m H => m = J'.xs.length - i ∧ Iv i H, ⟨_, rfl, W1.prv D (.lst []), S1, [], [], ys, rfl, Le.prv r1 hD, Rl.prv r1 hD, .inr rfl, upd_same, .nil, by simpa using ec, rfl⟩, ?_⟩
  rintro i m H ⟨rfl, W2, S2, acc, accV, rest, rfl, l2, r2, hP, hH, dl, e2, ey⟩
  by_cases hi : i < J'.xs.length
  · right
    have hx : J'.xs[i]? = some J'.xs[i] := List.getElem?_eq_getElem hi
    generalize J'.xs[i] = x at hx
    have hdrop : J'.xs.drop i = x :: J'.xs.drop (i + 1) := by
      rw [List.drop_eq_getElem_cons hi]
      rw [List.getElem?_eq_getElem hi] at hx
      rw [Option.some.inj hx]
    rw [hdrop] at e2
    unfold cmpL at e2
    split at e2
    · rename_i hok
      obtain ⟨go, yl⟩ := (d1 i W2 S2 l2 r2 hok).1 x hx
      -- the turn's parts
      cases ef : f x S2 with
      | ex _ _ _ => rw [ef] at e2; cases e2
      | bad => rw [ef] at e2; cases e2
      | ok o S3 =>
        rw [ef] at e2
        have e2 : (cmpL J' f (J'.xs.drop (i + 1)) S3).bind (fun ys S2 => .ok (o.toList ++ ys) S2) = .ok rest Se := e2
        cases er : cmpL J' f (J'.xs.drop (i + 1)) S3 with
        | ex _ _ _ => rw [er] at e2; cases e2
        | bad => rw [er] at e2; cases e2
        | ok rest' Se' =>
          rw [er] at e2
          have e2 : R.ok (o.toList ++ rest') Se' = R.ok rest Se := e2
          cases e2
          refine ⟨go, Iv (i + 1), fun H' n => ⟨J'.xs.length - (i + 1), by omega, rfl, n⟩, fun v H' y => ?_⟩
          obtain ⟨W3, rfl, l3, r3, dx⟩ := yl v H' y
          obtain ⟨P3, H3⟩ := l3.pv D _ hP hH
          have ef : (asgT (cal P fw k) P tg x (wipeR ρ (own.map (·.2))) S2).bind (fun ρ2 S3 => (evCond (cal P fw k) P cond ρ2 S3).bind fun k' S4 => match k' with
            | true => (evE (cal P fw k) P elt ρ2 S4).bind fun y S5 => .ok (some y) S5
            | false => .ok none S4) = .ok o S3 := by rw [← hf] at ef; exact ef
          refine ⟨W3, x, wipeR ρ (own.map (·.2)), S2, rfl, r3, ((hs1.mono l2).mono l3).wipe _, dx, ?_⟩
          cases ea : asgT (cal P fw k) P tg x (wipeR ρ (own.map (·.2))) S2 with
          | ex _ _ _ => rw [ea] at ef; cases ef
          | bad => rw [ea] at ef; cases ef
          | ok ρ2 Sa =>
            rw [ea] at ef
            rintro W4 σ2 l4 r4 ⟨s4, k4⟩
            obtain ⟨P4, H4⟩ := l4.pv D _ P3 H3
            have hlσ : σ2.length = σ.length := by
              rw [← s4.len]
              have z := asgT_len (P := P) (Cl := cal P fw k) tg x (wipeR ρ (own.map (·.2))) S2 ρ2 Sa ea
              rw [z, wipeR_len, hs.len]
            refine ⟨wipe_back hlσ fun j hj => k4 j fun z => hj ?_, ?_⟩
            · rw [List.all_eq_true] at ht
              simpa using ht j z
            refine ⟨W4, ρ2, Sa, rfl, r4, s4, ?_⟩
            have ef : (evCond (cal P fw k) P cond ρ2 Sa).bind (fun k' S4 => match k' with
              | true => (evE (cal P fw k) P elt ρ2 S4).bind fun y S5 => .ok (some y) S5
              | false => .ok none S4) = .ok o S3 := ef
            cases ec : evCond (cal P fw k) P cond ρ2 Sa with
            | ex _ _ _ => rw [ec] at ef; cases ef
            | bad => rw [ec] at ef; cases ef
            | ok kk Sb =>
              rw [ec] at ef
              rintro W5 b l5 r5 rfl
              obtain ⟨P5, H5⟩ := l5.pv D _ P4 H4
              have l15 : Le X.K W1 W5 := ((l2.trans l3).trans l4).trans l5
              cases kk with
              | false =>
                have ef : R.ok none Sb = R.ok o S3 := ef
                cases ef
                simp only [Bool.false_eq_true, if_false]
                exact ⟨W5, S3, acc, accV, rest', rfl, l15, r5, P5, H5, ((dl.mono l3).mono l4).mono l5, er, by simpa using ey⟩
              | true =>
                have ef : (evE (cal P fw k) P elt ρ2 Sb).bind (fun y S5 => R.ok (some y) S5) = R.ok o S3 := ef
                simp only [if_true]
                refine ⟨W5, ρ2, Sb, rfl, r5, s4.mono l5, ?_⟩
                cases ee : evE (cal P fw k) P elt ρ2 Sb with
                | ex _ _ _ => rw [ee] at ef; cases ef
                | bad => rw [ee] at ef; cases ef
                | ok y Sc =>
                  rw [ee] at ef
                  have ef : R.ok (some y) Sc = R.ok o S3 := ef
                  cases ef
                  rintro W6 z l6 r6 dz
                  obtain ⟨P6, H6⟩ := l6.pv D _ P5 H5
                  have l16 := l15.trans l6
                  have dacc := (((dl.mono l3).mono l4).mono l5).mono l6
                  have hal : accV.length < sizeLine := by
                    rw [← dacc.length]
                    have : ys.length = acc.length + (1 + rest'.length) := by rw [← ey]; simp; omega
                    omega
                  have hm : Mut (W6.H D) := by rw [H6]; trivial
                  refine ⟨accV, H6, hal, { W6 with H := upd W6.H D (.lst (accV ++ [z])) }, S3, acc ++ [y], accV ++ [z], rest', rfl, Le.prvSet hD l16 r6 P6 hm r1, r6.prvSet P6 hm, P6, upd_same, ?_, er, by rw [← ey]; simp⟩
                  exact (dacc.append (.cons dz .nil)).mono0 (Le0.prvSet r6 P6 hm)
    · cases e2
  · left
    have hdrop : J'.xs.drop i = [] := List.drop_eq_nil_of_le (by omega)
    rw [hdrop] at e2
    unfold cmpL at e2
    split at e2
    · rename_i hok
      cases e2
      rw [List.append_nil] at ey
      subst ey
      exact ⟨(d1 i W2 Se l2 r2 hok).2 (by omega), h1.finP r1 hD l2 r2 hP hH dl⟩
    · cases e2
where
  asgT_len {P : Pg} {Cl : Nat → List PV → Store → R PV} : ∀ (t : Tg) (v : PV) (ρ : Rho) (S : Store) (ρ' : Rho) (S' : Store), asgT Cl P t v ρ S = .ok ρ' S' → ρ'.length = ρ.length
  | .name i, v, ρ, S, ρ', S', h => by
    simp only [asgT] at h
    split at h
    · cases h; simp
    · cases h
  | .tup ts, v, ρ, S, ρ', S', h => by
    simp only [asgT] at h
    split at h
    · exact asgTs_len2 ts _ ρ S ρ' S' h
    · cases h
  | .sub o i, v, ρ, S, ρ', S', h => by
    simp only [asgT] at h
    cases e1 : noex (evE Cl P o ρ S) with
    | ex _ _ _ => rw [e1] at h; cases h
    | bad => rw [e1] at h; cases h
    | ok x S1 =>
      rw [e1] at h
      simp only [R.bind_ok] at h
      cases e2 : noex (evE Cl P i ρ S1) with
      | ex _ _ _ => rw [e2] at h; cases h
      | bad => rw [e2] at h; cases h
      | ok y S2 =>
        rw [e2] at h
        simp only [R.bind_ok] at h
        cases e3 : setOp x y v S2 with
        | ex _ _ _ => rw [e3] at h; cases h
        | bad => rw [e3] at h; cases h
        | ok z S3 => rw [e3] at h; cases h; rfl
  asgTs_len2 {P : Pg} {Cl : Nat → List PV → Store → R PV} : ∀ (t : Tgs) (v : List PV) (ρ : Rho) (S : Store) (ρ' : Rho) (S' : Store), asgTs Cl P t v ρ S = .ok ρ' S' → ρ'.length = ρ.length
  | .nil, [], ρ, S, ρ', S', h => by cases h; rfl
  | .nil, _ :: _, ρ, S, ρ', S', h => by cases h
  | .cons t r, [], ρ, S, ρ', S', h => by cases h
  | .cons t r, v :: vs, ρ, S, ρ', S', h => by
    have h : (asgT Cl P t v ρ S).bind (fun ρ1 S1 => asgTs Cl P r vs ρ1 S1) = .ok ρ' S' := h
    cases e : asgT Cl P t v ρ S with
    | ok ρ1 S1 =>
      rw [e] at h
      rw [asgTs_len2 r vs ρ1 S1 ρ' S' h, asgT_len t v ρ S ρ1 S1 e]
    | ex _ _ _ => rw [e] at h; cases h
    | bad => rw [e] at h; cases h
end
end Ev

/-! Part H: every expression of the small language that is that of a piece of text. -/
namespace Ev
open PySem PySem.Spec PyProof.Rows L2

section
variable {M : Nm} {N : List Str} {sc ss : Scope}
theorem inv_var {i : Nat} {x : Expr} (h : corE M N sc (.var i) x = true) : ∃ y p, x = .Name y p ∧ (decide (N[i]? = some y) && visB sc y && okN y) = true := by
  cases x <;> first | exact ⟨_, _, rfl, h⟩ | cases h
theorem inv_glob {i : Nat} {x : Expr} (h : corE M N sc (.glob i) x = true) : ∃ y p, x = .Name y p ∧ (decide (M.cn i = some y) && glB sc y && okN y) = true := by
  cases x <;> first | exact ⟨_, _, rfl, h⟩ | cases h
theorem inv_non {x : Expr} (h : corE M N sc .non x = true) : ∃ j p, x = .Constant .none j p := by
  cases x with
  | Constant v j p => cases v <;> first | exact ⟨_, _, rfl⟩ | cases h
  | _ => cases h
theorem inv_bl {b : Bool} {x : Expr} (h : corE M N sc (.bl b) x = true) : ∃ c j p, x = .Constant (.bool c) j p ∧ (b == c) = true := by
  cases x with
  | Constant v j p => cases v <;> first | exact ⟨_, _, _, rfl, h⟩ | cases h
  | _ => cases h
theorem inv_int {b : Int} {x : Expr} (h : corE M N sc (.int b) x = true) : ∃ c j p, x = .Constant (.int c) j p ∧ decide (b = c) = true := by
  cases x with
  | Constant v j p => cases v <;> first | exact ⟨_, _, _, rfl, h⟩ | cases h
  | _ => cases h
theorem inv_str {b : Codes} {x : Expr} (h : corE M N sc (.str b) x = true) : ∃ c j p, x = .Constant (.str c) j p ∧ decide (sOf b = c) = true := by
  cases x with
  | Constant v j p => cases v <;> first | exact ⟨_, _, _, rfl, h⟩ | cases h
  | _ => cases h
theorem inv_bin {op : BOp} {c : Bool} {a b : E} {x : Expr} (h : corE M N sc (.bin op c a b) x = true) : ∃ y o z p, x = .BinOp y o z p ∧ (decide (opOf op = o) && corE M N sc a y && corE M N sc b z) = true := by
  cases x <;> first | exact ⟨_, _, _, _, rfl, h⟩ | cases h
theorem inv_neg {a : E} {x : Expr} (h : corE M N sc (.neg a) x = true) : ∃ y p, x = .UnaryOp .USub y p ∧ corE M N sc a y = true := by
  cases x with
  | UnaryOp o y p => cases o <;> first | exact ⟨_, _, rfl, h⟩ | cases h
  | _ => cases h
theorem inv_not {a : E} {x : Expr} (h : corE M N sc (.not a) x = true) : ∃ y p, x = .UnaryOp .Not y p ∧ corE M N sc a y = true := by
  cases x with
  | UnaryOp o y p => cases o <;> first | exact ⟨_, _, rfl, h⟩ | cases h
  | _ => cases h
theorem inv_cmp {op : COp} {a b : E} {x : Expr} (h : corE M N sc (.cmp op a b) x = true) : ∃ y o z p, x = .Compare y [o] [z] p ∧ (decide (copOf op = o) && noSet z && corE M N sc a y && corE M N sc b z) = true := by
  cases x with
  | Compare l ops cs p =>
    rcases ops with _ | ⟨o, _ | ⟨o', _⟩⟩ <;> rcases cs with _ | ⟨z, _ | ⟨z', _⟩⟩ <;> first | exact ⟨_, _, _, _, rfl, h⟩ | cases h
  | _ => cases h
theorem inv_din {ng : Bool} {a b : E} {x : Expr} (h : corE M N sc (.din ng a b) x = true) : ∃ y o z p, x = .Compare y [o] [z] p ∧ (decide ((if ng then CmpOp.NotIn else CmpOp.In) = o) && noSet z && corE M N sc a y && corE M N sc b z) = true := by
  cases x with
  | Compare l ops cs p =>
    rcases ops with _ | ⟨o, _ | ⟨o', _⟩⟩ <;> rcases cs with _ | ⟨z, _ | ⟨z', _⟩⟩ <;> first | exact ⟨_, _, _, _, rfl, h⟩ | cases h
  | _ => cases h
theorem inv_chain {op op' : COp} {a b c : E} {x : Expr} (h : corE M N sc (.chain op op' a b c) x = true) : ∃ y o o' z u p, x = .Compare y [o, o'] [z, u] p ∧
    (decide (copOf op = o) && decide (copOf op' = o') && noSet u && corE M N sc a y && corE M N sc b z && corE M N sc c u) = true := by
  cases x with
  | Compare l ops cs p =>
    rcases ops with _ | ⟨o, _ | ⟨o', _ | ⟨o'', _⟩⟩⟩ <;> rcases cs with _ | ⟨z, _ | ⟨z', _ | ⟨z'', _⟩⟩⟩ <;> first | exact ⟨_, _, _, _, _, _, rfl, h⟩ | cases h
  | _ => cases h
theorem inv_and {a b : E} {x : Expr} (h : corE M N sc (.and a b) x = true) : ∃ y z r p, x = .BoolOp .And (y :: z :: r) p ∧ (corE M N sc a y && (match r with
    | [] => corE M N sc b z
    | z' :: r' => corE M N sc b (.BoolOp .And (z :: z' :: r') p))) = true := by
  cases x with
  | BoolOp o vs p =>
    cases o <;> rcases vs with _ | ⟨y, _ | ⟨z, r⟩⟩ <;> first | exact ⟨_, _, _, _, rfl, h⟩ | cases h
  | _ => cases h
theorem inv_or {a b : E} {x : Expr} (h : corE M N sc (.or a b) x = true) : ∃ y z r p, x = .BoolOp .Or (y :: z :: r) p ∧ (corE M N sc a y && (match r with
    | [] => corE M N sc b z
    | z' :: r' => corE M N sc b (.BoolOp .Or (z :: z' :: r') p))) = true := by
  cases x with
  | BoolOp o vs p =>
    cases o <;> rcases vs with _ | ⟨y, _ | ⟨z, r⟩⟩ <;> first | exact ⟨_, _, _, _, rfl, h⟩ | cases h
  | _ => cases h
theorem inv_ite {c a b : E} {x : Expr} (h : corE M N sc (.ite c a b) x = true) : ∃ z y u p, x = .IfExp z y u p ∧ (tsE c && corE M N sc c z && corE M N sc a y && corE M N sc b u) = true := by
  cases x <;> first | exact ⟨_, _, _, _, rfl, h⟩ | cases h
theorem inv_tup {es : Es} {x : Expr} (h : corE M N sc (.tup es) x = true) : ∃ xs j p, x = .Tuple xs j p ∧ corEs M N sc es xs = true := by
  cases x <;> first | exact ⟨_, _, _, rfl, h⟩ | cases h
theorem inv_lst {c : Bool} {es : Es} {x : Expr} (h : corE M N sc (.lst c es) x = true) : ∃ xs p, x = .List xs p ∧ corEs M N sc es xs = true := by
  cases x <;> first | exact ⟨_, _, rfl, h⟩ | cases h
theorem inv_sub {a b : E} {x : Expr} (h : corE M N sc (.sub a b) x = true) : ∃ y z p, x = .Subscript y z p ∧ (plIx z && corE M N sc a y && corE M N sc b z) = true := by
  cases x <;> first | exact ⟨_, _, _, rfl, h⟩ | cases h
theorem inv_dsub {a b : E} {x : Expr} (h : corE M N sc (.dsub a b) x = true) : ∃ y z p, x = .Subscript y z p ∧ (plIx z && corE M N sc a y && corE M N sc b z) = true := by
  cases x <;> first | exact ⟨_, _, _, rfl, h⟩ | cases h
theorem inv_slice {c : Bool} {a : E} {lo hi : Eo} {x : Expr} (h : corE M N sc (.slice c a lo hi) x = true) : ∃ y l u p2 p, x = .Subscript y (.Slice l u none p2) p ∧ (corE M N sc a y && corEo M N sc lo l && corEo M N sc hi u) = true := by
  cases x with
  | Subscript y z p =>
    cases z with
    | Slice l u st p2 => cases st <;> first | exact ⟨_, _, _, _, _, rfl, h⟩ | cases h
    | _ => cases h
  | _ => cases h
theorem inv_call {f j : Nat} {es : Es} {x : Expr} (h : corE M N sc (.call f es j) x = true) : ∃ y p xs pos, x = .Call (.Name y p) xs [] pos ∧
    (decide (M.fn f = some y) && glB sc y && okN y && xs.all ns && !xs.isEmpty && corEs M N sc es xs && (j == 0 || M.dj f j)) = true := by
  cases x with
  | Call g xs kws pos =>
    cases g with
    | Name y p => cases kws <;> first | exact ⟨_, _, _, _, rfl, h⟩ | cases h
    | _ => cases h
  | _ => cases h
theorem inv_blt {b : Blt} {es : Es} {x : Expr} (h : corE M N sc (.blt b es) x = true) : ∃ y p xs pos, x = .Call (.Name y p) xs [] pos ∧
    (decide (bltN b = y) && glB sc y && xs.all ns && !xs.isEmpty && corEs M N sc es xs) = true := by
  cases x with
  | Call g xs kws pos =>
    cases g with
    | Name y p => cases kws <;> first | exact ⟨_, _, _, _, rfl, h⟩ | cases h
    | _ => cases h
  | _ => cases h
theorem inv_bltL {b : BltL} {c : Bool} {es : Es} {x : Expr} (h : corE M N sc (.bltL b c es) x = true) : ∃ y p xs pos, x = .Call (.Name y p) xs [] pos ∧
    (decide (bltLN b = y) && glB sc y && xs.all ns && !xs.isEmpty && corEs M N sc es xs) = true := by
  cases x with
  | Call g xs kws pos =>
    cases g with
    | Name y p => cases kws <;> first | exact ⟨_, _, _, _, rfl, h⟩ | cases h
    | _ => cases h
  | _ => cases h
theorem inv_isi {a : E} {t : TyN} {x : Expr} (h : corE M N sc (.isi a t) x = true) : ∃ y p e T p2 pos, x = .Call (.Name y p) [e, .Name T p2] [] pos ∧
    (decide (y = ("isinstance" : Str)) && glB sc "isinstance" && decide (tyNm t = T) && glB sc T && ns e && corE M N sc a e) = true := by
  cases x with
  | Call g xs kws pos =>
    cases g with
    | Name y p =>
      rcases xs with _ | ⟨e, _ | ⟨e2, _ | ⟨e3, _⟩⟩⟩
      · cases h
      · cases h
      · cases e2 <;> first | (cases h; done) | skip
        cases kws <;> first | exact ⟨_, _, _, _, _, _, rfl, h⟩ | cases h
      · cases e2 <;> cases h
    | _ => cases h
  | _ => cases h
theorem inv_mt {m : Mt} {a : E} {es : Es} {x : Expr} (h : corE M N sc (.mt m a es) x = true) : ∃ o y ap xs cp, x = .Call (.Attribute o y ap) xs [] cp ∧
    (decide (Str.ofString (mtS m) = y) && corE M N sc a o && noCall0 o && xs.all ns && corEs M N sc es xs && (ap.endLine == cp.line) && decide (xs.length < 30)) = true := by
  cases x with
  | Call g xs kws pos =>
    cases g with
    | Attribute o y ap => cases kws <;> first | exact ⟨_, _, _, _, _, rfl, h⟩ | cases h
    | _ => cases h
  | _ => cases h
theorem inv_comp {c : Bool} {elt : E} {tg : Tg} {it : It} {cond : Eo} {own : List (Str × Nat)} {x : Expr} (h : corE M N sc (.comp c elt tg it cond own) x = true) : ∃ y t i ifs scope p, x = .ListComp y [⟨t, i, ifs, 0⟩] scope p ∧
    (blkC N sc scope own && noSet i && (tgs tg).all (fun j => (own.map (·.2)).contains j) && corIt M N sc it i t && corTg M N (relab sc scope) scope tg t && corCd M N (relab sc scope) cond ifs && corE M N (relab sc scope) elt y) = true := by
  cases x with
  | ListComp y gs scope p =>
    rcases gs with _ | ⟨⟨t, i, ifs, a⟩, _ | ⟨_, _⟩⟩
    · cases h
    · rcases a with a | a
      · cases a with
        | zero => exact ⟨_, _, _, _, _, _, rfl, h⟩
        | succ n => cases h
      · cases h
    · rcases a with a | a
      · cases a with
        | zero => cases h
        | succ n => cases h
      · cases h
  | _ => cases h
end
abbrev Snd (Γ : Gm) (P : Pg) (fw : Nat) (M : Nm) (N : List Str) (k : Nat) (sc : Scope) (e : E) (x : Expr) : Prop := ∀ (X : Cx) (Wx : WX), Cxt Γ P fw M N k sc X Wx → PE X x (rE X Γ P fw k Wx e)
section
variable {Γ : Gm} {P : Pg} {fw : Nat} {M : Nm} {N : List Str} {k : Nat}
theorem i_none {X : Cx} {Wx : WX} : PTs X [] (rCd X Γ P fw k Wx .none) := ⟨fun pins s σ H Q I h => pts_nil.run pins s σ H Q I (by
  obtain ⟨W, ρ, S, rfl, hr, hs, h⟩ := h
  exact h.ok hr rfl)⟩
theorem i_some {X : Cx} {Wx : WX} {e : E} {x : Expr} (h : PT X x (rT X Γ P fw k Wx e)) : PTs X [x] (rCd X Γ P fw k Wx (.some e)) := ⟨fun pins s σ H Q I hw => (pts_one h).run pins s σ H Q I hw⟩
theorem t_din {sc : Scope} {X : Cx} {Wx : WX} (c : Cxt Γ P fw M N k sc X Wx) {ng : Bool} {a b : E} {x y : Expr} {p : Pos} (hm : noSet y = true) (ha : PE X x (rE X Γ P fw k Wx a)) (hb : PE X y (rE X Γ P fw k Wx b)) : PT X (.Compare x [if ng then CmpOp.NotIn else CmpOp.In] [y] p) (rT X Γ P fw k Wx (.din ng a b)) := by
  have hu : X.A.units + 1 < cLine := by have := c.units; omega
  have fin : ∀ (σ : L2.St) (H : Hp) (Q : Bool → Hp → Prop), rT X Γ P fw k Wx (.din ng a b) σ H Q → rE X Γ P fw k Wx a σ H fun y H1 => rE X Γ P fw k Wx b σ H1 fun x H2 => ∃ ad o, x = .ref ad ∧ DGet H2 ad y o ∧ Q (if ng then !o.isSome else o.isSome) H2 := by
    intro σ H Q h
    obtain ⟨W, ρ, S, rfl, hr, hs, h⟩ := h
    have e : evT (cal P fw k) P (.din ng a b) ρ S = (evE (cal P fw k) P a ρ S).bind fun x S1 => (evE (cal P fw k) P b ρ S1).bind fun y S2 => opt ((dinOp S2 x y).map fun b => if ng then !b else b) S2 := by
      simp only [evT, evE]
      cases evE (cal P fw k) P a ρ S with
      | ok x S1 =>
        simp only [Ev.R.bind_ok]
        cases evE (cal P fw k) P b ρ S1 with
        | ok y S2 => simp only [Ev.R.bind_ok]; cases dinOp S2 x y <;> rfl
        | _ => rfl
      | _ => rfl
    rw [e] at h
    refine ⟨W, ρ, S, rfl, hr, hs, (Post.bind (D1 := Den X.K Γ) h).imp ?_⟩
    rintro x H1 ⟨W1, a', S1, rfl, l1, r1, d1, h1⟩
    refine ⟨W1, ρ, S1, rfl, r1, hs.mono l1, (Post.bind (D1 := Den X.K Γ) h1).imp ?_⟩
    rintro y H2 ⟨W2, b', S2, rfl, l2, r2, d2, h2⟩
    replace h2 := h2.opt
    obtain ⟨z, ez, h2⟩ := h2
    rw [Option.map_eq_some_iff] at ez
    obtain ⟨kk, ez, rfl⟩ := ez
    unfold dinOp at ez
    split at ez
    · rename_i kvs q h3 h4
      cases ez
      obtain ⟨n, ad, vs, rfl, hn, hS, rfl, hH, dk⟩ := dctOf_den r2 d2 h3
      have g := dget_den (q := q) dk
      refine ⟨ad, valV vs (keyS q), rfl, ?_, ?_⟩
      · rw [keyOf_den (d1.mono l2) h4]
        exact DGet.k hH
      · have e : (valV vs (keyS q)).isSome = (dget kvs q).isSome := by
          cases ed : dget kvs q with
          | none => rw [ed] at g; rw [g]; rfl
          | some x => rw [ed] at g; obtain ⟨v, hv, _⟩ := g; rw [hv]; rfl
        rw [e]
        exact h2.ok r2 rfl
    · cases ez
  cases ng with
  | true =>
    refine (pt_cmp (pc_dnotin hu ha hb) (nobeh hm)).imp fun σ H Q h => ?_
    obtain ⟨W, ρ, S, e, hr, hs, h⟩ := fin σ H Q h
    refine ⟨W, ρ, S, e, hr, hs, h.imp ?_⟩
    rintro y H1 ⟨W1, ρ1, S1, e1, hr1, hs1, h1⟩
    refine ⟨W1, ρ1, S1, e1, hr1, hs1, h1.imp ?_⟩
    rintro x H2 ⟨ad, o, e2, g, q⟩
    exact ⟨ad, o, e2, g, _, rfl, q⟩
  | false =>
    refine (pt_cmp (pc_din hu ha hb) (nobeh hm)).imp fun σ H Q h => ?_
    obtain ⟨W, ρ, S, e, hr, hs, h⟩ := fin σ H Q h
    refine ⟨W, ρ, S, e, hr, hs, h.imp ?_⟩
    rintro y H1 ⟨W1, ρ1, S1, e1, hr1, hs1, h1⟩
    refine ⟨W1, ρ1, S1, e1, hr1, hs1, h1.imp ?_⟩
    rintro x H2 ⟨ad, o, e2, g, q⟩
    exact ⟨ad, o, e2, g, _, rfl, q⟩
mutual
theorem sndE : ∀ (e : E) (x : Expr) (sc : Scope), corE M N sc e x = true → ∀ (X : Cx) (Wx : WX), Cxt Γ P fw M N k sc X Wx → PE X x (rE X Γ P fw k Wx e)
  | .var i, x, sc, h, X, Wx, c => by
    obtain ⟨y, p, rfl, hh⟩ := inv_var h
    have h := hh
    simp only [Bool.and_eq_true, decide_eq_true_eq] at h
    exact s_var c h.1.1 h.1.2 h.2
  | .non, x, sc, h, X, Wx, c => by
    obtain ⟨j, p, rfl⟩ := inv_non h
    exact s_non
  | .bl b, x, sc, h, X, Wx, c => by
    obtain ⟨d, j, p, rfl, hh⟩ := inv_bl h
    have h := hh
    cases eq_of_beq h
    exact s_bl
  | .int b, x, sc, h, X, Wx, c => by
    obtain ⟨d, j, p, rfl, hh⟩ := inv_int h
    have h := hh
    cases of_decide_eq_true h
    exact s_int
  | .str b, x, sc, h, X, Wx, c => by
    obtain ⟨d, j, p, rfl, hh⟩ := inv_str h
    have h := hh
    cases of_decide_eq_true h
    exact s_str
  | .glob i, x, sc, h, X, Wx, c => by
    obtain ⟨y, p, rfl, hh⟩ := inv_glob h
    have h := hh
    simp only [Bool.and_eq_true, decide_eq_true_eq] at h
    exact s_glob c h.1.1 h.1.2 h.2
  | .bin op cc a b, x, sc, h, X, Wx, c => by
    obtain ⟨y, o, z, p, rfl, hh⟩ := inv_bin h
    have h := hh
    simp only [Bool.and_eq_true, decide_eq_true_eq] at h
    obtain ⟨⟨rfl, h1⟩, h2⟩ := h
    exact s_bin (sndE a y sc h1 X Wx c) (sndE b z sc h2 X Wx c)
  | .neg a, x, sc, h, X, Wx, c => by
    obtain ⟨y, p, rfl, hh⟩ := inv_neg h
    have h := hh
    exact s_neg (sndE a y sc h X Wx c)
  | .cmp op a b, x, sc, h, X, Wx, c => by
    obtain ⟨y, o, z, p, rfl, hh⟩ := inv_cmp h
    have h := hh
    simp only [Bool.and_eq_true, decide_eq_true_eq] at h
    obtain ⟨⟨⟨rfl, h1⟩, h2⟩, h3⟩ := h
    exact s_cmp c h1 (sndE a y sc h2 X Wx c) (sndE b z sc h3 X Wx c)
  | .chain op op' a b d, x, sc, h, X, Wx, c => by
    obtain ⟨y, o, o', z, u, p, rfl, hh⟩ := inv_chain h
    have h := hh
    simp only [Bool.and_eq_true, decide_eq_true_eq] at h
    obtain ⟨⟨⟨⟨⟨rfl, rfl⟩, h1⟩, h2⟩, h3⟩, h4⟩ := h
    exact s_chain c h1 (sndE a y sc h2 X Wx c) (sndE b z sc h3 X Wx c) (sndE d u sc h4 X Wx c)
  | .din ng a b, x, sc, h, X, Wx, c => by
    obtain ⟨y, o, z, p, rfl, hh⟩ := inv_din h
    have h := hh
    simp only [Bool.and_eq_true, decide_eq_true_eq] at h
    obtain ⟨⟨⟨rfl, h1⟩, h2⟩, h3⟩ := h
    exact s_din c h1 (sndE a y sc h2 X Wx c) (sndE b z sc h3 X Wx c)
  | .and a b, x, sc, h, X, Wx, c => by
    obtain ⟨y, z, r, p, rfl, hh⟩ := inv_and h
    have h := hh
    rw [Bool.and_eq_true] at h
    refine s_and (sndE a y sc h.1 X Wx c) ?_
    cases r with
    | nil => exact pe_one (sndE b z sc h.2 X Wx c)
    | cons z' r' => exact sndE b _ sc h.2 X Wx c
  | .or a b, x, sc, h, X, Wx, c => by
    obtain ⟨y, z, r, p, rfl, hh⟩ := inv_or h
    have h := hh
    rw [Bool.and_eq_true] at h
    refine s_or (sndE a y sc h.1 X Wx c) ?_
    cases r with
    | nil => exact pe_one (sndE b z sc h.2 X Wx c)
    | cons z' r' => exact sndE b _ sc h.2 X Wx c
  | .not a, x, sc, h, X, Wx, c => by
    obtain ⟨y, p, rfl, hh⟩ := inv_not h
    have h := hh
    exact s_not (sndE a y sc h X Wx c)
  | .ite d a b, x, sc, h, X, Wx, c => by
    obtain ⟨z, y, u, p, rfl, hh⟩ := inv_ite h
    have h := hh
    simp only [Bool.and_eq_true] at h
    obtain ⟨⟨⟨h0, h1⟩, h2⟩, h3⟩ := h
    exact s_ite (sndT d z sc h0 h1 X Wx c) (sndE a y sc h2 X Wx c) (sndE b u sc h3 X Wx c)
  | .tup es, x, sc, h, X, Wx, c => by
    obtain ⟨xs, j, p, rfl, hh⟩ := inv_tup h
    have h := hh
    exact s_tup (sndEs es xs sc h X Wx c)
  | .lst cc es, x, sc, h, X, Wx, c => by
    obtain ⟨xs, p, rfl, hh⟩ := inv_lst h
    have h := hh
    exact s_lst (sndEs es xs sc h X Wx c)
  | .sub a b, x, sc, h, X, Wx, c => by
    obtain ⟨y, z, p, rfl, hh⟩ := inv_sub h
    have h := hh
    simp only [Bool.and_eq_true] at h
    exact s_sub c h.1.1 (sndE a y sc h.1.2 X Wx c) (sndE b z sc h.2 X Wx c)
  | .dsub a b, x, sc, h, X, Wx, c => by
    obtain ⟨y, z, p, rfl, hh⟩ := inv_dsub h
    have h := hh
    simp only [Bool.and_eq_true] at h
    exact s_dsub c h.1.1 (sndE a y sc h.1.2 X Wx c) (sndE b z sc h.2 X Wx c)
  | .slice cc a lo hi, x, sc, h, X, Wx, c => by
    obtain ⟨y, l, u, p2, p, rfl, hh⟩ := inv_slice h
    have h := hh
    simp only [Bool.and_eq_true] at h
    exact s_slice (sndE a y sc h.1.1 X Wx c) (sndEo lo l sc h.1.2 X Wx c) (sndEo hi u sc h.2 X Wx c)
  | .call f es j, x, sc, h, X, Wx, c => by
    obtain ⟨y, p, xs, pos, rfl, hh⟩ := inv_call h
    have h := hh
    simp only [Bool.and_eq_true, decide_eq_true_eq, Bool.not_eq_true'] at h
    obtain ⟨⟨⟨⟨⟨⟨h1, h2⟩, h3⟩, h4⟩, h5⟩, h6⟩, h7⟩ := h
    exact s_call c h1 h2 h3 h4 h5 h7 (sndEs es xs sc h6 X Wx c)
  | .blt b es, x, sc, h, X, Wx, c => by
    obtain ⟨y, p, xs, pos, rfl, hh⟩ := inv_blt h
    have h := hh
    simp only [Bool.and_eq_true, decide_eq_true_eq, Bool.not_eq_true'] at h
    obtain ⟨⟨⟨⟨rfl, h2⟩, h4⟩, h5⟩, h6⟩ := h
    exact s_blt c h2 h4 h5 (sndEs es xs sc h6 X Wx c)
  | .bltL b cc es, x, sc, h, X, Wx, c => by
    obtain ⟨y, p, xs, pos, rfl, hh⟩ := inv_bltL h
    have h := hh
    simp only [Bool.and_eq_true, decide_eq_true_eq, Bool.not_eq_true'] at h
    obtain ⟨⟨⟨⟨rfl, h2⟩, h4⟩, h5⟩, h6⟩ := h
    exact s_bltL c h2 h4 h5 (sndEs es xs sc h6 X Wx c)
  | .isi a t, x, sc, h, X, Wx, c => by
    obtain ⟨y, p, e, T, p2, pos, rfl, hh⟩ := inv_isi h
    have h := hh
    simp only [Bool.and_eq_true, decide_eq_true_eq] at h
    obtain ⟨⟨⟨⟨⟨rfl, h1⟩, rfl⟩, h2⟩, h3⟩, h4⟩ := h
    exact s_isi c h1 h2 h3 (sndE a e sc h4 X Wx c)
  | .mt m a es, x, sc, h, X, Wx, c => by
    obtain ⟨o, y, ap, xs, cp, rfl, hh⟩ := inv_mt h
    have h := hh
    simp only [Bool.and_eq_true, decide_eq_true_eq] at h
    obtain ⟨⟨⟨⟨⟨⟨rfl, h1⟩, h2⟩, h3⟩, h4⟩, h5⟩, h6⟩ := h
    exact s_mt (fun e => by subst e; cases es <;> first | rfl | cases h4) h2 h3 h5 h6 (sndE a o sc h1 X Wx c) (sndEs es xs sc h4 X Wx c)
  | .comp cc elt tg it cond own, x, sc, h, X, Wx, c => by
    obtain ⟨y, t, i, ifs, scope, p, rfl, hh⟩ := inv_comp h
    have h := hh
    simp only [Bool.and_eq_true] at h
    obtain ⟨⟨⟨⟨⟨⟨h1, h2⟩, h3⟩, h4⟩, h5⟩, h6⟩, h7⟩ := h
    have hi := sndIt it i t sc h4 X Wx c
    have hg : ∀ (s : Shared) (H : Hp) (C : Addr) (cl : List (Str × Addr)) (fp : List Addr), PG (X.blk s H scope (compEnvC scope cl C X.env) fp) t (rTg X Γ P fw k tg) := fun s H C cl fp => sndTg tg t (relab sc scope) scope h5 _ _ (c.blk s H scope C cl fp) (fun x hx => by show (scope.names.lookup x == some .cell) = true; rw [hx]; rfl)
    have hcd : ∀ (s : Shared) (H : Hp) (C : Addr) (cl : List (Str × Addr)) (fp : List Addr), PTs (X.blk s H scope (compEnvC scope cl C X.env) fp) ifs (rCd X Γ P fw k WF cond) := fun s H C cl fp => sndCd cond ifs (relab sc scope) h6 _ _ (c.blk s H scope C cl fp)
    have he : ∀ (s : Shared) (H : Hp) (C : Addr) (cl : List (Str × Addr)) (fp : List Addr), PE (X.blk s H scope (compEnvC scope cl C X.env) fp) y (rE X Γ P fw k WF elt) := fun s H C cl fp => sndE elt y (relab sc scope) h7 _ _ (c.blk s H scope C cl fp)
    refine (pe_lc c.calm (by rw [c.hN]; exact c.nd) hi (blkOk_by (by rw [c.hN, c.hsc]; exact h1)) hg hcd he (nofold h2)).imp fun σ H Q q => ?_
    exact s_comp (p := p) c h1 h2 h3 hi hg hcd he σ H Q q
theorem sndT : ∀ (e : E) (x : Expr) (sc : Scope), tsE e = true → corE M N sc e x = true → ∀ (X : Cx) (Wx : WX), Cxt Γ P fw M N k sc X Wx → PT X x (rT X Γ P fw k Wx e)
  | .and a b, x, sc, t, h, X, Wx, c => (sndW (.and a b) x sc t h X Wx c (by obtain ⟨y, z, r, p, rfl, _⟩ := inv_and h; exact .inl ⟨_, _, rfl⟩)).pt
  | .or a b, x, sc, t, h, X, Wx, c => (sndW (.or a b) x sc t h X Wx c (by obtain ⟨y, z, r, p, rfl, _⟩ := inv_or h; exact .inr ⟨_, _, rfl⟩)).pt
  | .not a, x, sc, t, h, X, Wx, c => by
    obtain ⟨y, p, rfl, hh⟩ := inv_not h
    have h := hh
    exact t_not (sndT a y sc t h X Wx c)
  | .cmp op a b, x, sc, t, h, X, Wx, c => by
    obtain ⟨y, o, z, p, rfl, hh⟩ := inv_cmp h
    have h := hh
    simp only [Bool.and_eq_true, decide_eq_true_eq] at h
    obtain ⟨⟨⟨rfl, h1⟩, h2⟩, h3⟩ := h
    exact t_cmp c h1 (sndE a y sc h2 X Wx c) (sndE b z sc h3 X Wx c)
  | .chain op op' a b d, x, sc, t, h, X, Wx, c => by
    obtain ⟨y, o, o', z, u, p, rfl, hh⟩ := inv_chain h
    have h := hh
    simp only [Bool.and_eq_true, decide_eq_true_eq] at h
    obtain ⟨⟨⟨⟨⟨rfl, rfl⟩, h1⟩, h2⟩, h3⟩, h4⟩ := h
    exact t_chain c h1 (sndE a y sc h2 X Wx c) (sndE b z sc h3 X Wx c) (sndE d u sc h4 X Wx c)
  | .din ng a b, x, sc, t, h, X, Wx, c => by
    have h0 := h
    obtain ⟨y, o, z, p, rfl, hh⟩ := inv_din h
    have h := hh
    simp only [Bool.and_eq_true, decide_eq_true_eq] at h
    obtain ⟨⟨⟨rfl, h1⟩, h2⟩, h3⟩ := h
    exact t_din c h1 (sndE a y sc h2 X Wx c) (sndE b z sc h3 X Wx c)
  | .ite _ _ _, x, sc, t, h, X, Wx, c => by cases t
  | .var i, x, sc, t, h, X, Wx, c => by obtain ⟨y, p, rfl, h'⟩ := inv_var h; exact t_plain (sndE (.var i) _ sc h X Wx c) fun _ => rfl
  | .non, x, sc, t, h, X, Wx, c => by obtain ⟨y, p, rfl⟩ := inv_non h; exact t_plain (sndE .non _ sc h X Wx c) fun _ => rfl
  | .bl b, x, sc, t, h, X, Wx, c => by obtain ⟨d, y, p, rfl, h'⟩ := inv_bl h; exact t_plain (sndE (.bl b) _ sc h X Wx c) fun _ => rfl
  | .int b, x, sc, t, h, X, Wx, c => by obtain ⟨d, y, p, rfl, h'⟩ := inv_int h; exact t_plain (sndE (.int b) _ sc h X Wx c) fun _ => rfl
  | .str b, x, sc, t, h, X, Wx, c => by obtain ⟨d, y, p, rfl, h'⟩ := inv_str h; exact t_plain (sndE (.str b) _ sc h X Wx c) fun _ => rfl
  | .glob i, x, sc, t, h, X, Wx, c => by obtain ⟨y, p, rfl, h'⟩ := inv_glob h; exact t_plain (sndE (.glob i) _ sc h X Wx c) fun _ => rfl
  | .bin op cc a b, x, sc, t, h, X, Wx, c => by
    have h0 := h
    obtain ⟨y, o, z, p, rfl, hh⟩ := inv_bin h
    have h := hh
    simp only [Bool.and_eq_true, decide_eq_true_eq] at h
    obtain ⟨⟨rfl, h1⟩, h2⟩ := h
    exact t_plain (s_bin (sndE a y sc h1 X Wx c) (sndE b z sc h2 X Wx c)) fun _ => rfl
  | .neg a, x, sc, t, h, X, Wx, c => by
    obtain ⟨y, p, rfl, hh⟩ := inv_neg h
    have h := hh
    exact t_plain (s_neg (sndE a y sc h X Wx c)) fun _ => rfl
  | .tup es, x, sc, t, h, X, Wx, c => by
    obtain ⟨xs, j, p, rfl, hh⟩ := inv_tup h
    have h := hh
    exact t_plain (s_tup (sndEs es xs sc h X Wx c)) fun _ => rfl
  | .lst cc es, x, sc, t, h, X, Wx, c => by
    obtain ⟨xs, p, rfl, hh⟩ := inv_lst h
    have h := hh
    exact t_plain (s_lst (sndEs es xs sc h X Wx c)) fun _ => rfl
  | .sub a b, x, sc, t, h, X, Wx, c => by
    obtain ⟨y, z, p, rfl, hh⟩ := inv_sub h
    have h := hh
    simp only [Bool.and_eq_true] at h
    exact t_plain (s_sub c h.1.1 (sndE a y sc h.1.2 X Wx c) (sndE b z sc h.2 X Wx c)) fun _ => rfl
  | .dsub a b, x, sc, t, h, X, Wx, c => by
    obtain ⟨y, z, p, rfl, hh⟩ := inv_dsub h
    have h := hh
    simp only [Bool.and_eq_true] at h
    exact t_plain (s_dsub c h.1.1 (sndE a y sc h.1.2 X Wx c) (sndE b z sc h.2 X Wx c)) fun _ => rfl
  | .slice cc a lo hi, x, sc, t, h, X, Wx, c => by
    obtain ⟨y, l, u, p2, p, rfl, hh⟩ := inv_slice h
    have h := hh
    simp only [Bool.and_eq_true] at h
    exact t_plain (s_slice (sndE a y sc h.1.1 X Wx c) (sndEo lo l sc h.1.2 X Wx c) (sndEo hi u sc h.2 X Wx c)) fun _ => rfl
  | .call f es j, x, sc, t, h, X, Wx, c => by
    obtain ⟨y, p, xs, pos, rfl, hh⟩ := inv_call h
    have h := hh
    simp only [Bool.and_eq_true, decide_eq_true_eq, Bool.not_eq_true'] at h
    obtain ⟨⟨⟨⟨⟨⟨h1, h2⟩, h3⟩, h4⟩, h5⟩, h6⟩, h7⟩ := h
    exact t_plain (s_call c h1 h2 h3 h4 h5 h7 (sndEs es xs sc h6 X Wx c)) fun _ => rfl
  | .blt b es, x, sc, t, h, X, Wx, c => by
    obtain ⟨y, p, xs, pos, rfl, hh⟩ := inv_blt h
    have h := hh
    simp only [Bool.and_eq_true, decide_eq_true_eq, Bool.not_eq_true'] at h
    obtain ⟨⟨⟨⟨rfl, h2⟩, h4⟩, h5⟩, h6⟩ := h
    exact t_plain (s_blt c h2 h4 h5 (sndEs es xs sc h6 X Wx c)) fun _ => rfl
  | .bltL b cc es, x, sc, t, h, X, Wx, c => by
    obtain ⟨y, p, xs, pos, rfl, hh⟩ := inv_bltL h
    have h := hh
    simp only [Bool.and_eq_true, decide_eq_true_eq, Bool.not_eq_true'] at h
    obtain ⟨⟨⟨⟨rfl, h2⟩, h4⟩, h5⟩, h6⟩ := h
    exact t_plain (s_bltL c h2 h4 h5 (sndEs es xs sc h6 X Wx c)) fun _ => rfl
  | .isi a ty, x, sc, t, h, X, Wx, c => by
    obtain ⟨y, p, e, T, p2, pos, rfl, hh⟩ := inv_isi h
    have h := hh
    simp only [Bool.and_eq_true, decide_eq_true_eq] at h
    obtain ⟨⟨⟨⟨⟨rfl, h1⟩, rfl⟩, h2⟩, h3⟩, h4⟩ := h
    exact t_plain (s_isi c h1 h2 h3 (sndE a e sc h4 X Wx c)) fun _ => rfl
  | .mt m a es, x, sc, t, h, X, Wx, c => by
    obtain ⟨o, y, ap, xs, cp, rfl, hh⟩ := inv_mt h
    have h := hh
    simp only [Bool.and_eq_true, decide_eq_true_eq] at h
    obtain ⟨⟨⟨⟨⟨⟨rfl, h1⟩, h2⟩, h3⟩, h4⟩, h5⟩, h6⟩ := h
    exact t_plain (s_mt (fun e => by subst e; cases es <;> first | rfl | cases h4) h2 h3 h5 h6 (sndE a o sc h1 X Wx c) (sndEs es xs sc h4 X Wx c)) fun _ => rfl
  | .comp cc elt tg it cond own, x, sc, t, h, X, Wx, c => by
    have h0 := sndE (.comp cc elt tg it cond own) x sc h X Wx c
    obtain ⟨y, t, i, ifs, scope, p, rfl, hh⟩ := inv_comp h
    have h := hh
    exact t_plain h0 fun _ => rfl
theorem sndW : ∀ (e : E) (x : Expr) (sc : Scope), tsE e = true → corE M N sc e x = true → ∀ (X : Cx) (Wx : WX), Cxt Γ P fw M N k sc X Wx → ((∃ vs p, x = .BoolOp .And vs p) ∨ ∃ vs p, x = .BoolOp .Or vs p) → PW X x (rT X Γ P fw k Wx e)
  | .and a b, x, sc, t, h, X, Wx, c, _ => by
    obtain ⟨y, z, r, p, rfl, hh⟩ := inv_and h
    have h := hh
    rw [Bool.and_eq_true] at h
    simp only [tsE, Bool.and_eq_true] at t
    refine t_and (sndT a y sc t.1 h.1 X Wx c) ?_
    cases r with
    | nil => exact pw_and1 (sndT b z sc t.2 h.2 X Wx c)
    | cons z' r' => exact sndW b _ sc t.2 h.2 X Wx c (.inl ⟨_, _, rfl⟩)
  | .or a b, x, sc, t, h, X, Wx, c, _ => by
    obtain ⟨y, z, r, p, rfl, hh⟩ := inv_or h
    have h := hh
    rw [Bool.and_eq_true] at h
    simp only [tsE, Bool.and_eq_true] at t
    refine t_or (sndT a y sc t.1 h.1 X Wx c) ?_
    cases r with
    | nil => exact pw_or1 (sndT b z sc t.2 h.2 X Wx c)
    | cons z' r' => exact sndW b _ sc t.2 h.2 X Wx c (.inr ⟨_, _, rfl⟩)
  | .var _, x, sc, t, h, X, Wx, c, hb => by rcases hb with ⟨vs, p, rfl⟩ | ⟨vs, p, rfl⟩ <;> cases h
  | .non, x, sc, t, h, X, Wx, c, hb => by rcases hb with ⟨vs, p, rfl⟩ | ⟨vs, p, rfl⟩ <;> cases h
  | .bl _, x, sc, t, h, X, Wx, c, hb => by rcases hb with ⟨vs, p, rfl⟩ | ⟨vs, p, rfl⟩ <;> cases h
  | .int _, x, sc, t, h, X, Wx, c, hb => by rcases hb with ⟨vs, p, rfl⟩ | ⟨vs, p, rfl⟩ <;> cases h
  | .str _, x, sc, t, h, X, Wx, c, hb => by rcases hb with ⟨vs, p, rfl⟩ | ⟨vs, p, rfl⟩ <;> cases h
  | .glob _, x, sc, t, h, X, Wx, c, hb => by rcases hb with ⟨vs, p, rfl⟩ | ⟨vs, p, rfl⟩ <;> cases h
  | .bin _ _ _ _, x, sc, t, h, X, Wx, c, hb => by rcases hb with ⟨vs, p, rfl⟩ | ⟨vs, p, rfl⟩ <;> cases h
  | .neg _, x, sc, t, h, X, Wx, c, hb => by rcases hb with ⟨vs, p, rfl⟩ | ⟨vs, p, rfl⟩ <;> cases h
  | .cmp _ _ _, x, sc, t, h, X, Wx, c, hb => by rcases hb with ⟨vs, p, rfl⟩ | ⟨vs, p, rfl⟩ <;> cases h
  | .chain _ _ _ _ _, x, sc, t, h, X, Wx, c, hb => by rcases hb with ⟨vs, p, rfl⟩ | ⟨vs, p, rfl⟩ <;> cases h
  | .din _ _ _, x, sc, t, h, X, Wx, c, hb => by rcases hb with ⟨vs, p, rfl⟩ | ⟨vs, p, rfl⟩ <;> cases h
  | .not _, x, sc, t, h, X, Wx, c, hb => by rcases hb with ⟨vs, p, rfl⟩ | ⟨vs, p, rfl⟩ <;> cases h
  | .ite _ _ _, x, sc, t, h, X, Wx, c, hb => by rcases hb with ⟨vs, p, rfl⟩ | ⟨vs, p, rfl⟩ <;> cases h
  | .tup _, x, sc, t, h, X, Wx, c, hb => by rcases hb with ⟨vs, p, rfl⟩ | ⟨vs, p, rfl⟩ <;> cases h
  | .lst _ _, x, sc, t, h, X, Wx, c, hb => by rcases hb with ⟨vs, p, rfl⟩ | ⟨vs, p, rfl⟩ <;> cases h
  | .sub _ _, x, sc, t, h, X, Wx, c, hb => by rcases hb with ⟨vs, p, rfl⟩ | ⟨vs, p, rfl⟩ <;> cases h
  | .dsub _ _, x, sc, t, h, X, Wx, c, hb => by rcases hb with ⟨vs, p, rfl⟩ | ⟨vs, p, rfl⟩ <;> cases h
  | .slice _ _ _ _, x, sc, t, h, X, Wx, c, hb => by rcases hb with ⟨vs, p, rfl⟩ | ⟨vs, p, rfl⟩ <;> cases h
  | .call _ _ _, x, sc, t, h, X, Wx, c, hb => by rcases hb with ⟨vs, p, rfl⟩ | ⟨vs, p, rfl⟩ <;> cases h
  | .blt _ _, x, sc, t, h, X, Wx, c, hb => by rcases hb with ⟨vs, p, rfl⟩ | ⟨vs, p, rfl⟩ <;> cases h
  | .bltL _ _ _, x, sc, t, h, X, Wx, c, hb => by rcases hb with ⟨vs, p, rfl⟩ | ⟨vs, p, rfl⟩ <;> cases h
  | .isi _ _, x, sc, t, h, X, Wx, c, hb => by rcases hb with ⟨vs, p, rfl⟩ | ⟨vs, p, rfl⟩ <;> cases h
  | .mt _ _ _, x, sc, t, h, X, Wx, c, hb => by rcases hb with ⟨vs, p, rfl⟩ | ⟨vs, p, rfl⟩ <;> cases h
  | .comp _ _ _ _ _ _, x, sc, t, h, X, Wx, c, hb => by rcases hb with ⟨vs, p, rfl⟩ | ⟨vs, p, rfl⟩ <;> cases h
theorem sndEs : ∀ (e : Es) (x : List Expr) (sc : Scope), corEs M N sc e x = true → ∀ (X : Cx) (Wx : WX), Cxt Γ P fw M N k sc X Wx → PA X x (rEs X Γ P fw k Wx e)
  | .nil, [], sc, h, X, Wx, c => s_nil
  | .nil, _ :: _, sc, h, X, Wx, c => by cases h
  | .cons e r, [], sc, h, X, Wx, c => by cases h
  | .cons e r, x :: xs, sc, h, X, Wx, c => by
    simp only [corEs, Bool.and_eq_true] at h
    exact s_cons h.1.1 (sndE e x sc h.1.2 X Wx c) (sndEs r xs sc h.2 X Wx c)
  | .star e r, [], sc, h, X, Wx, c => by cases h
  | .star e r, x :: xs, sc, h, X, Wx, c => by
    cases x with
    | Starred y p =>
      simp only [corEs, Bool.and_eq_true] at h
      exact s_star (sndE e y sc h.1 X Wx c) (sndEs r xs sc h.2 X Wx c)
    | _ => cases h
theorem sndEo : ∀ (e : Eo) (x : Option Expr) (sc : Scope), corEo M N sc e x = true → ∀ (X : Cx) (Wx : WX), Cxt Γ P fw M N k sc X Wx → PO X x (rEo X Γ P fw k Wx e)
  | .none, none, sc, h, X, Wx, c => s_onone
  | .none, some _, sc, h, X, Wx, c => by cases h
  | .some e, none, sc, h, X, Wx, c => by cases h
  | .some e, some x, sc, h, X, Wx, c => s_osome (sndE e x sc h X Wx c)
theorem sndCd : ∀ (e : Eo) (x : List Expr) (sc : Scope), corCd M N sc e x = true → ∀ (X : Cx) (Wx : WX), Cxt Γ P fw M N k sc X Wx → PTs X x (rCd X Γ P fw k Wx e)
  | .none, [], sc, h, X, Wx, c => i_none
  | .none, _ :: _, sc, h, X, Wx, c => by cases h
  | .some e, [], sc, h, X, Wx, c => by cases h
  | .some e, [x], sc, h, X, Wx, c => by
    simp only [corCd, Bool.and_eq_true] at h
    exact i_some (sndT e x sc h.1 h.2 X Wx c)
  | .some e, _ :: _ :: _, sc, h, X, Wx, c => by cases h
theorem sndTg : ∀ (e : Tg) (x : Expr) (sc ss : Scope), corTg M N sc ss e x = true → ∀ (X : Cx) (Wx : WX), Cxt Γ P fw M N k sc X Wx → (∀ x, ss.names.lookup x = some .cell → X.fn x = true) → PG X x (rTg X Γ P fw k e)
  | .name i, x, sc, ss, h, X, Wx, c, hf => by
    cases x with
    | Name y p =>
      simp only [corTg, Bool.and_eq_true, decide_eq_true_eq] at h
      exact s_gname c hf h.1 h.2
    | _ => cases h
  | .tup ts, x, sc, ss, h, X, Wx, c, hf => by
    cases x with
    | Tuple xs j p =>
      obtain ⟨h1, h2⟩ := corTgs_len ts xs h
      exact s_gtup c h1 h2 (sndTgs ts xs sc ss h X Wx c hf)
    | _ => cases h
  | .sub o i, x, sc, ss, h, X, Wx, c, hf => by
    cases x with
    | Subscript y z p =>
      simp only [corTg, Bool.and_eq_true] at h
      exact s_gsub c h.1.1 (sndE o y sc h.1.2 X Wx c) (sndE i z sc h.2 X Wx c)
    | _ => cases h
theorem sndTgs : ∀ (e : Tgs) (x : List Expr) (sc ss : Scope), corTgs M N sc ss e x = true → ∀ (X : Cx) (Wx : WX), Cxt Γ P fw M N k sc X Wx → (∀ x, ss.names.lookup x = some .cell → X.fn x = true) → PGs X x (rTgs X Γ P fw k e)
  | .nil, [], sc, ss, h, X, Wx, c, hf => s_gnil
  | .nil, _ :: _, sc, ss, h, X, Wx, c, hf => by cases h
  | .cons t r, [], sc, ss, h, X, Wx, c, hf => by cases h
  | .cons t r, x :: xs, sc, ss, h, X, Wx, c, hf => by
    simp only [corTgs, Bool.and_eq_true] at h
    exact s_gcons h.1.1 (sndTg t x sc ss h.1.2 X Wx c hf) (sndTgs r xs sc ss h.2 X Wx c hf)
theorem sndIt : ∀ (e : It) (x t : Expr) (sc : Scope), corIt M N sc e x t = true → ∀ (X : Cx) (Wx : WX), Cxt Γ P fw M N k sc X Wx → PI X t x (rIt X Γ P fw k Wx e)
  | .seq e, x, t, sc, h, X, Wx, c => s_iseq (sndE e x sc h X Wx c)
  | .rng1 e, x, t, sc, h, X, Wx, c => by
    cases x with
    | Call g xs kws pos =>
      cases g with
      | Name f p =>
        rcases xs with _ | ⟨a, _ | ⟨b, _⟩⟩ <;> cases kws <;> first | (cases h; done) | skip
        simp only [corIt, Bool.and_eq_true, decide_eq_true_eq] at h
        obtain ⟨⟨⟨rfl, h1⟩, h2⟩, h3⟩ := h
        exact s_irng1 c h1 h2 (sndE e a sc h3 X Wx c)
      | _ => cases h
    | _ => cases h
  | .rng2 e e', x, t, sc, h, X, Wx, c => by
    cases x with
    | Call g xs kws pos =>
      cases g with
      | Name f p =>
        rcases xs with _ | ⟨a, _ | ⟨b, _ | ⟨d, _⟩⟩⟩ <;> cases kws <;> first | (cases h; done) | skip
        simp only [corIt, Bool.and_eq_true, decide_eq_true_eq] at h
        obtain ⟨⟨⟨⟨⟨rfl, h1⟩, h2⟩, h3⟩, h4⟩, h5⟩ := h
        exact s_irng2 c h1 h2 h3 (sndE e a sc h4 X Wx c) (sndE e' b sc h5 X Wx c)
      | _ => cases h
    | _ => cases h
  | .enum e, x, t, sc, h, X, Wx, c => by
    cases x with
    | Call g xs kws pos =>
      cases g with
      | Name f p =>
        rcases xs with _ | ⟨a, _ | ⟨b, _⟩⟩ <;> cases kws <;> first | (cases h; done) | skip
        simp only [corIt, Bool.and_eq_true, decide_eq_true_eq] at h
        obtain ⟨⟨⟨⟨rfl, h1⟩, h2⟩, h3⟩, h4⟩ := h
        cases t with
        | Tuple ts j tp => exact s_ienum c h1 h2 (sndE e a sc h3 X Wx c)
        | _ => cases h4
      | _ => cases h
    | _ => cases h
  | .zip e e', x, t, sc, h, X, Wx, c => by
    cases x with
    | Call g xs kws pos =>
      cases g with
      | Name f p =>
        rcases xs with _ | ⟨a, _ | ⟨b, _ | ⟨d, _⟩⟩⟩ <;> cases kws <;> first | (cases h; done) | skip
        simp only [corIt, Bool.and_eq_true, decide_eq_true_eq] at h
        obtain ⟨⟨⟨⟨⟨⟨rfl, h1⟩, h2⟩, h3⟩, h4⟩, h5⟩, h6⟩ := h
        cases t with
        | Tuple ts j tp => exact s_izip c h1 h2 h3 (sndE e a sc h4 X Wx c) (sndE e' b sc h5 X Wx c)
        | _ => cases h6
      | _ => cases h
    | _ => cases h
end
end
end Ev

/-! Part S: statements. -/
namespace Ev
open PySem PySem.Spec PyProof.Rows L2

/-! ### the same piece of text -/
def noCmp : Expr → Bool
  | .ListComp .. => false
  | .SetComp .. => false
  | .DictComp .. => false
  | _ => true
/-- a store of several values into several targets that is no swap -/
def swNone (sc : Scope) (ts vs : List Expr) : Bool :=
  !(ts.length == 2 || ts.length == 3) || vs.length != ts.length || (ts.any fun | .Name id _ => !(sc.names.lookup id == some .local) | _ => true)
/-- a swap -/
def swPar (sc : Scope) (ts vs : List Expr) (is : List Nat) (N : List Str) : Bool :=
  match ts, is with
  | [.Name x px, .Name y py], [i, j] => vs.length == 2 && vs.all ns && (sc.names.lookup x == some .local) && (sc.names.lookup y == some .local) && (px.line == py.line) && decide (N[i]? = some x) && decide (N[j]? = some y) && i != j && !(vs.all (foldedForSure 8)) && !(vs.all (constantsAlone 8))
  | [.Name x px, .Name y py, .Name z pz], [i, j, l] => vs.length == 3 && vs.all ns && (sc.names.lookup x == some .local) && (sc.names.lookup y == some .local) && (sc.names.lookup z == some .local) && (px.line == py.line) && (px.line == pz.line) &&
      decide (N[i]? = some x) && decide (N[j]? = some y) && decide (N[l]? = some z) && i != j && i != l && j != l && !(vs.all (foldedForSure 8)) && !(vs.all (constantsAlone 8))
  | _, _ => false
section
variable (M : Nm) (N : List Str) (sc : Scope)
mutual
def corC : C → Stmt → Bool
  | .asg t e, .Assign [tg] x _ => corTg M N sc sc t tg && corE M N sc e x && (match tg with
    | .Name _ _ => true
    | .Tuple ts _ _ => (match x with
      | .Tuple vs _ _ => swNone sc ts vs
      | _ => true)
    | .Subscript _ _ _ => true
    | _ => false)
  | .par is es, .Assign [.Tuple ts _ _] (.Tuple vs _ _) _ => swPar sc ts vs is N && corEs M N sc es vs
  | .aug op i e, .AugAssign (.Name x _) o y _ => decide (opOf op = o) && decide (N[i]? = some x) && stB sc sc x && corE M N sc e y
  | .expr e, .Expr x _ => noCmp x && corE M N sc e x
  | .ret e, .Return (some x) _ => corE M N sc e x
  | .retN, .Return none _ => true
  | .ifs c a b, .If x ys zs _ => tsE c && corE M N sc c x && corB a ys && corB b zs
  | .whl c b, .While x ys [] _ => tsE c && corE M N sc c x && corB b ys
  | .for_ t it b, .For tg x ys [] _ => noSet x && corTg M N sc sc t tg && corIt M N sc it x tg && corB b ys
  | .pass, .Pass _ => true
  | .brk, .Break _ => true
  | .cont, .Continue _ => true
  | .never, _ => true
  | _, _ => false
def corB : B → List Stmt → Bool
  | .nil, [] => true
  | .cons c r, x :: xs => corC c x && corB r xs
  | _, _ => false
end
end

theorem _root_.L2.PS.imp {X : Cx} {e : Stmt} {t t' : TS} (h : PS X e t) (i : ∀ D σ H, t' D σ H → t D σ H) : PS X e t' := ⟨fun pins s σ H D I q => h.run pins s σ H D I (i _ _ _ q)⟩
theorem _root_.L2.PSs.imp {X : Cx} {e : List Stmt} {t t' : TS} (h : PSs X e t) (i : ∀ D σ H, t' D σ H → t D σ H) : PSs X e t' := ⟨fun pins s σ H D I q => h.run pins s σ H D I (i _ _ _ q)⟩

section
variable (K : PySem.W.Frag) (Γ : Gm) (Wx : WX)
def PX (D : Ends) (r : Ev.X) (W : Wd) : Prop :=
  match r with
  | .next ρ' S' => ∀ W' σ', Le K W W' → Rl K Γ W' S' → SlotR K Γ W' ρ' σ' → D.nx σ' W'.H
  | .ret v S' => ∀ W' v', Le K W W' → Rl K Γ W' S' → Den K Γ W' v v' → D.rt v' W'.H
  | .brk ρ' S' => ∀ W' σ', Le K W W' → Rl K Γ W' S' → SlotR K Γ W' ρ' σ' → D.bk σ' W'.H
  | .cont ρ' S' => ∀ W' σ', Le K W W' → Rl K Γ W' S' → SlotR K Γ W' ρ' σ' → D.ct σ' W'.H
  | .ex c p ρ' S' => ∀ W' d σ', Le K W W' → Rl K Γ W' S' → SlotR K Γ W' ρ' σ' → XDen K Γ W' p d → Wx (.ref (Γ.cA c)) d σ' W'.H
  | .bad => False
def tX (f : Rho → Store → Ev.X) : TS := fun D σ H => ∃ W ρ S, W.H = H ∧ Rl K Γ W S ∧ SlotR K Γ W ρ σ ∧ PX K Γ Wx D (f ρ S) W
end
section
variable {K : PySem.W.Frag} {Γ : Gm} {Wx : WX} {W W' : Wd} {S : Store} {D : Ends}
theorem PX.le {r : Ev.X} (h : Le K W W') (p : PX K Γ Wx D r W) : PX K Γ Wx D r W' := by
  cases r with
  | next ρ S => exact fun W'' b l r d => p W'' b (h.trans l) r d
  | ret v S => exact fun W'' b l r d => p W'' b (h.trans l) r d
  | brk ρ S => exact fun W'' b l r d => p W'' b (h.trans l) r d
  | cont ρ S => exact fun W'' b l r d => p W'' b (h.trans l) r d
  | ex c q ρ S => exact fun W'' d σ' l r s x => p W'' d σ' (h.trans l) r s x
  | bad => exact p
/-- an expression's result, then a statement's end -/
theorem PX.toX {ρ : Rho} {σ : L2.St} {r : R PV} {g : PV → Store → Ev.X} (hs : SlotR K Γ W ρ σ) (h : PX K Γ Wx D (r.toX ρ g) W) :
    Post K Γ Wx σ (Den K Γ) r W (fun b H => ∃ W1 a S1, W1.H = H ∧ Le K W W1 ∧ Rl K Γ W1 S1 ∧ Den K Γ W1 a b ∧ PX K Γ Wx D (g a S1) W1) := by
  cases r with
  | ok a S => exact fun W' b l r d => ⟨W', a, S, rfl, l, r, d, PX.le l h⟩
  | ex c q S => exact fun W' d l r x => h W' d σ l r (hs.mono l) x
  | bad => exact h
end

section
variable {Γ : Gm} {P : Pg} {fw : Nat} {M : Nm} {N : List Str} {k : Nat} {sc : Scope} {X : Cx} {Wx : WX}
abbrev rC (X : Cx) (Γ : Gm) (P : Pg) (fw k : Nat) (Wx : WX) (c : C) : TS := tX X.K Γ Wx (exC (cal P fw k) P fw c)
abbrev rB' (X : Cx) (Γ : Gm) (P : Pg) (fw k : Nat) (Wx : WX) (c : B) : TS := tX X.K Γ Wx (exB (cal P fw k) P fw c)

theorem swaps_no {x : Expr} {t : Option Expr} {l : Nat} {env : Env} (h : noCmp x = true) : swapsWith x t l env = pure false := by
  cases x <;> first | rfl | (cases h; done)
theorem swaps_other {x tg : Expr} {l : Nat} {env : Env} (h : ∀ y p, tg ≠ .Name y p) : swapsWith x (some tg) l env = pure false := by
  cases tg <;> first | exact absurd rfl (h _ _) | (cases x <;> rfl)
theorem swapped_name {x : Expr} {y : Str} {p : Pos} {env : Env} : swappedStores [.Name y p] x env = pure none := rfl
theorem swapped_sub {x o i : Expr} {p : Pos} {env : Env} : swappedStores [.Subscript o i p] x env = pure none := rfl
theorem swapped_tup {x : Expr} {ts : List Expr} {j : Nat} {p : Pos} {env : Env} (h : ∀ vs j p, x ≠ .Tuple vs j p) : swappedStores [.Tuple ts j p] x env = pure none := by
  cases x <;> first | exact absurd rfl (h _ _ _) | rfl
theorem filterMap_short {α β : Type} (f : α → Option β) : ∀ l : List α, (∃ x ∈ l, f x = none) → (l.filterMap f).length ≠ l.length
  | [], h => by obtain ⟨x, hx, _⟩ := h; cases hx
  | a :: r, h => by
    intro e
    cases hf : f a with
    | none =>
      rw [List.filterMap_cons_none hf] at e
      have := List.length_filterMap_le f r
      simp at e; omega
    | some b =>
      rw [List.filterMap_cons_some hf] at e
      obtain ⟨x, hx, hn⟩ := h
      rcases List.mem_cons.mp hx with rfl | hx
      · rw [hf] at hn; cases hn
      · exact filterMap_short f r ⟨x, hx, hn⟩ (by simpa using e)
theorem swapped_none {ts vs : List Expr} {j j' : Nat} {p p' : Pos} {env : Env} (he : env.scope = sc) (h : swNone sc ts vs = true) : swappedStores [.Tuple ts j p] (.Tuple vs j' p') env = pure none := by
  subst he
  show (if (!(ts.length == 2 || ts.length == 3) || vs.length != ts.length || env.blockKind != .function) = true then (pure none : Sem (Option (List Str))) else _) = pure none
  by_cases c1 : (!(ts.length == 2 || ts.length == 3) || vs.length != ts.length || env.blockKind != .function) = true
  · rw [if_pos c1]
  · rw [if_neg c1]
    simp only [pure_bind]
    show (if _ = true then (pure none : Sem (Option (List Str))) else _) = pure none
    split
    · rfl
    · unfold swNone at h
      simp only [Bool.or_eq_true] at c1 h
      have h3 : (ts.any fun | .Name id _ => !(env.scope.names.lookup id == some .local) | _ => true) = true := by
        rcases h with (h | h) | h
        · exact absurd (.inl (.inl h)) c1
        · exact absurd (.inl (.inr h)) c1
        · exact h
      show (if _ = true then (pure none : Sem (Option (List Str))) else _) = pure none
      rw [if_pos]
      rw [Bool.or_eq_true]
      left
      rw [bne_iff_ne]
      apply filterMap_short
      rw [List.any_eq_true] at h3
      obtain ⟨t, ht, hb⟩ := h3
      refine ⟨t, ht, ?_⟩
      cases t with
      | Name id pos =>
        have hb : (!(env.scope.names.lookup id == some .local)) = true := hb
        rw [Bool.not_eq_true'] at hb
        show (if (env.scope.names.lookup id == some .local && _) = true then some id else none) = none
        rw [hb]
        rfl
      | _ => rfl
end
end Ev

/-! Part T: statements do what their meaning says. -/
namespace Ev
open PySem PySem.Spec PyProof.Rows L2

section
variable {Γ : Gm} {P : Pg} {fw : Nat} {M : Nm} {N : List Str} {k : Nat} {sc : Scope} {X : Cx} {Wx : WX}

theorem blockK {env : Env} (h : env.scope.kind = .function) : env.blockKind = .function := by
  unfold Env.blockKind
  rw [h]
  rfl
theorem any_star_ns : ∀ {vs : List Expr}, vs.all ns = true → (vs.any fun | .Starred .. => true | _ => false) = false
  | [], _ => rfl
  | e :: es, h => by
    rw [List.all_cons, Bool.and_eq_true] at h
    rw [List.any_cons, any_star_ns h.2]
    have := h.1
    cases e <;> first | rfl | (cases this; done)
theorem swapped_par2 {x y : Str} {px py : Pos} {vs : List Expr} {i j : Nat} {jt jv : Nat} {p p' : Pos} {env : Env} (he : env.scope = sc) (hk : sc.kind = .function) (hne : x ≠ y) (h : swPar sc [.Name x px, .Name y py] vs [i, j] N = true) :
    swappedStores [.Tuple [.Name x px, .Name y py] jt p] (.Tuple vs jv p') env = pure (some [x, y]) := by
  subst he
  unfold swPar at h
  simp only [Bool.and_eq_true, beq_iff_eq, bne_iff_ne, decide_eq_true_eq, Bool.not_eq_true'] at h
  obtain ⟨⟨⟨⟨⟨⟨⟨⟨⟨h1, h2⟩, h3⟩, h4⟩, h5⟩, h6⟩, h7⟩, h8⟩, h9⟩, h10⟩ := h
  have c1 : ¬ (!([Expr.Name x px, Expr.Name y py].length == 2 || [Expr.Name x px, Expr.Name y py].length == 3) || vs.length != [Expr.Name x px, Expr.Name y py].length || env.blockKind != .function) = true := by
    rw [h1, blockK hk]; intro h; cases h
  have e1 : ([Expr.Name x px, Expr.Name y py].filterMap fun
    | .Name id pos => if (env.kindOf id == some .local && pos.line == px.line) = true then some id else none
    | _ => none) = [x, y] := by
    simp [Env.kindOf, h3, h4, h5]
  have e2 : [x, y].eraseDups = [x, y] := by
    simp [List.eraseDups_cons, hne.symm]
  show (if (!([Expr.Name x px, Expr.Name y py].length == 2 || [Expr.Name x px, Expr.Name y py].length == 3) || vs.length != [Expr.Name x px, Expr.Name y py].length || env.blockKind != .function) = true then (pure none : Sem (Option (List Str))) else _) = pure (some [x, y])
  rw [if_neg c1]
  try simp only [pure_bind]
  show (if (vs.any fun | .Starred .. => true | _ => false) = true then (pure none : Sem (Option (List Str))) else _) = pure (some [x, y])
  rw [if_neg (by rw [any_star_ns h2]; exact Bool.false_ne_true)]
  try simp only [pure_bind]
  show (if ((([Expr.Name x px, Expr.Name y py].filterMap fun
    | .Name id pos => if (env.kindOf id == some .local && pos.line == px.line) = true then some id else none
    | _ => none).length != 2) || (([Expr.Name x px, Expr.Name y py].filterMap fun
    | .Name id pos => if (env.kindOf id == some .local && pos.line == px.line) = true then some id else none
    | _ => none).eraseDups.length != ([Expr.Name x px, Expr.Name y py].filterMap fun
    | .Name id pos => if (env.kindOf id == some .local && pos.line == px.line) = true then some id else none
    | _ => none).length)) = true then (pure none : Sem (Option (List Str))) else _) = pure (some [x, y])
  rw [e1, e2, if_neg (by simp)]
  try simp only [pure_bind]
  show (if (vs.all (foldedForSure 8)) = true then (pure none : Sem (Option (List Str))) else _) = pure (some [x, y])
  rw [if_neg (by rw [h9]; exact Bool.false_ne_true)]
  try simp only [pure_bind]
  show (if (vs.all (constantsAlone 8)) = true then _ else _) = (pure (some [x, y]) : Sem (Option (List Str)))
  rw [if_neg (by rw [h10]; exact Bool.false_ne_true)]
  try simp only [pure_bind]
  show (pure (some ([Expr.Name x px, Expr.Name y py].filterMap fun
    | .Name id pos => if (env.kindOf id == some .local && pos.line == px.line) = true then some id else none
    | _ => none)) : Sem (Option (List Str))) = _
  rw [e1]
theorem swapped_par3 {x y z : Str} {px py pz : Pos} {vs : List Expr} {i j l : Nat} {jt jv : Nat} {p p' : Pos} {env : Env} (he : env.scope = sc) (hk : sc.kind = .function) (hxy : x ≠ y) (hxz : x ≠ z) (hyz : y ≠ z) (h : swPar sc [.Name x px, .Name y py, .Name z pz] vs [i, j, l] N = true) :
    swappedStores [.Tuple [.Name x px, .Name y py, .Name z pz] jt p] (.Tuple vs jv p') env = pure (some [x, y, z]) := by
  subst he
  unfold swPar at h
  simp only [Bool.and_eq_true, beq_iff_eq, bne_iff_ne, decide_eq_true_eq, Bool.not_eq_true'] at h
  obtain ⟨⟨⟨⟨⟨⟨⟨⟨⟨⟨⟨⟨⟨⟨h1, h2⟩, h3⟩, h4⟩, h4'⟩, h5⟩, h5'⟩, h6⟩, h7⟩, h8⟩, h9⟩, h10⟩, h11⟩, h12⟩, h13⟩ := h
  have c1 : ¬ (!([Expr.Name x px, Expr.Name y py, Expr.Name z pz].length == 2 || [Expr.Name x px, Expr.Name y py, Expr.Name z pz].length == 3) || vs.length != [Expr.Name x px, Expr.Name y py, Expr.Name z pz].length || env.blockKind != .function) = true := by
    rw [h1, blockK hk]; intro h; cases h
  have e1 : ([Expr.Name x px, Expr.Name y py, Expr.Name z pz].filterMap fun
    | .Name id pos => if (env.kindOf id == some .local && pos.line == px.line) = true then some id else none
    | _ => none) = [x, y, z] := by
    simp [Env.kindOf, h3, h4, h4', ← h5, ← h5']
  have e2 : [x, y, z].eraseDups = [x, y, z] := by
    simp [List.eraseDups_cons, hxy.symm, hxz.symm, hyz.symm]
  show (if (!([Expr.Name x px, Expr.Name y py, Expr.Name z pz].length == 2 || [Expr.Name x px, Expr.Name y py, Expr.Name z pz].length == 3) || vs.length != [Expr.Name x px, Expr.Name y py, Expr.Name z pz].length || env.blockKind != .function) = true then (pure none : Sem (Option (List Str))) else _) = pure (some [x, y, z])
  rw [if_neg c1]
  try simp only [pure_bind]
  show (if (vs.any fun | .Starred .. => true | _ => false) = true then (pure none : Sem (Option (List Str))) else _) = pure (some [x, y, z])
  rw [if_neg (by rw [any_star_ns h2]; exact Bool.false_ne_true)]
  try simp only [pure_bind]
  show (if ((([Expr.Name x px, Expr.Name y py, Expr.Name z pz].filterMap fun
    | .Name id pos => if (env.kindOf id == some .local && pos.line == px.line) = true then some id else none
    | _ => none).length != 3) || (([Expr.Name x px, Expr.Name y py, Expr.Name z pz].filterMap fun
    | .Name id pos => if (env.kindOf id == some .local && pos.line == px.line) = true then some id else none
    | _ => none).eraseDups.length != ([Expr.Name x px, Expr.Name y py, Expr.Name z pz].filterMap fun
    | .Name id pos => if (env.kindOf id == some .local && pos.line == px.line) = true then some id else none
    | _ => none).length)) = true then (pure none : Sem (Option (List Str))) else _) = pure (some [x, y, z])
  rw [e1, e2, if_neg (by simp)]
  try simp only [pure_bind]
  show (if (vs.all (foldedForSure 8)) = true then (pure none : Sem (Option (List Str))) else _) = pure (some [x, y, z])
  rw [if_neg (by rw [h12]; exact Bool.false_ne_true)]
  try simp only [pure_bind]
  show (if (vs.all (constantsAlone 8)) = true then _ else _) = (pure (some [x, y, z]) : Sem (Option (List Str)))
  rw [if_neg (by rw [h13]; exact Bool.false_ne_true)]
  try simp only [pure_bind]
  show (pure (some ([Expr.Name x px, Expr.Name y py, Expr.Name z pz].filterMap fun
    | .Name id pos => if (env.kindOf id == some .local && pos.line == px.line) = true then some id else none
    | _ => none)) : Sem (Option (List Str))) = _
  rw [e1]
theorem s_bnil : PSs X [] (rB' X Γ P fw k Wx .nil) := pss_nil.imp fun D σ H ⟨W, ρ, S, e, hr, hs, h⟩ => e ▸ h W σ .refl hr hs
theorem s_bcons {c : C} {r : B} {x : Stmt} {xs : List Stmt} (h1 : PS X x (rC X Γ P fw k Wx c)) (h2 : PSs X xs (rB' X Γ P fw k Wx r)) : PSs X (x :: xs) (rB' X Γ P fw k Wx (.cons c r)) := by
  refine (pss_cons h1 h2).imp ?_
  rintro D σ H ⟨W, ρ, S, rfl, hr, hs, h⟩
  refine ⟨W, ρ, S, rfl, hr, hs, ?_⟩
  simp only [exB] at h
  generalize exC (cal P fw k) P fw c ρ S = q at h ⊢
  cases q with
  | next ρ' S' => exact fun W' σ' l r s => ⟨W', ρ', S', rfl, r, s, PX.le l h⟩
  | ret v S' => exact h
  | brk ρ' S' => exact h
  | cont ρ' S' => exact h
  | ex c q ρ' S' => exact h
  | bad => exact h
theorem s_pass {p : Pos} : PS X (.Pass p) (rC X Γ P fw k Wx .pass) := ps_pass.imp fun D σ H ⟨W, ρ, S, e, hr, hs, h⟩ => e ▸ h W σ .refl hr hs
theorem s_brk {p : Pos} : PS X (.Break p) (rC X Γ P fw k Wx .brk) := ps_break.imp fun D σ H ⟨W, ρ, S, e, hr, hs, h⟩ => e ▸ h W σ .refl hr hs
theorem s_cont {p : Pos} : PS X (.Continue p) (rC X Γ P fw k Wx .cont) := ps_continue.imp fun D σ H ⟨W, ρ, S, e, hr, hs, h⟩ => e ▸ h W σ .refl hr hs
theorem s_never {x : Stmt} : PS X x (rC X Γ P fw k Wx .never) := ps_never.imp fun D σ H ⟨W, ρ, S, e, hr, hs, h⟩ => h
theorem s_expr {e : E} {x : Expr} {p : Pos} (hn : noCmp x = true) (he : PE X x (rE X Γ P fw k Wx e)) : PS X (.Expr x p) (rC X Γ P fw k Wx (.expr e)) := by
  refine (ps_expr he (swaps_no hn)).imp ?_
  rintro D σ H ⟨W, ρ, S, rfl, hr, hs, h⟩
  refine ⟨W, ρ, S, rfl, hr, hs, (PX.toX hs h).imp ?_⟩
  rintro v H1 ⟨W1, a, S1, rfl, l1, r1, d1, h1⟩
  exact h1 W1 σ .refl r1 (hs.mono l1)
theorem s_ret {e : E} {x : Expr} {p : Pos} (he : PE X x (rE X Γ P fw k Wx e)) : PS X (.Return (some x) p) (rC X Γ P fw k Wx (.ret e)) := by
  refine (ps_ret he).imp ?_
  rintro D σ H ⟨W, ρ, S, rfl, hr, hs, h⟩
  refine ⟨W, ρ, S, rfl, hr, hs, (PX.toX hs h).imp ?_⟩
  rintro v H1 ⟨W1, a, S1, rfl, l1, r1, d1, h1⟩
  exact h1 W1 v .refl r1 d1
theorem s_retN {p : Pos} : PS X (.Return none p) (rC X Γ P fw k Wx .retN) := ps_retN.imp fun D σ H ⟨W, ρ, S, e, hr, hs, h⟩ => e ▸ h W .non .refl hr .non
theorem s_asg {t : Tg} {e : E} {tg x : Expr} {p : Pos} (h1 : swapsWithSole [tg] x p.line X.env = pure false) (h2 : swappedStores [tg] x X.env = pure none) (h3 : ns tg = true) (hg : PG X tg (rTg X Γ P fw k t)) (he : PE X x (rE X Γ P fw k Wx e)) : PS X (.Assign [tg] x p) (rC X Γ P fw k Wx (.asg t e)) := by
  refine (ps_asg he hg h1 h2 (asgE_ns h3)).imp ?_
  rintro D σ H ⟨W, ρ, S, rfl, hr, hs, h⟩
  refine ⟨W, ρ, S, rfl, hr, hs, (PX.toX hs h).imp ?_⟩
  rintro v H1 ⟨W1, a, S1, rfl, l1, r1, d1, h1⟩
  refine ⟨W1, a, ρ, S1, rfl, r1, hs.mono l1, d1, ?_⟩
  generalize asgT (cal P fw k) P t a ρ S1 = q at h1 ⊢
  cases q with
  | ok ρ' S' => exact fun W' σ' l r s => h1 W' σ' l r s.1
  | ex _ _ _ => exact h1
  | bad => exact h1
/-- name = [..], by a swap -/
theorem s_asgLc (c : Cxt Γ P fw M N k sc X Wx) {cc : Bool} {elt : E} {tg : Tg} {it : It} {cond : Eo} {own : List (Str × Nat)} {j : Nat} {y : Str} {x t i : Expr} {ifs : List Expr} {scope : Scope} {p py sp : Pos} (hb : blkC N sc scope own = true) (hns : noSet i = true) (ht : (tgs tg).all (fun j => (own.map (·.2)).contains j) = true)
    (hy : N[j]? = some y) (hyl : X.env.scope.names.lookup y = some .local) (hsw : swapsWith (.ListComp x [⟨t, i, ifs, 0⟩] scope p) (some (.Name y py)) sp.line X.env = pure true)
    (hi : PI X t i (rIt X Γ P fw k Wx it))
    (hg : ∀ (s : Shared) (H : Hp) (C : Addr) (cl : List (Str × Addr)) (fp : List Addr), PG (X.blk s H scope (compEnvC scope cl C X.env) fp) t (rTg X Γ P fw k tg))
    (hcd : ∀ (s : Shared) (H : Hp) (C : Addr) (cl : List (Str × Addr)) (fp : List Addr), PTs (X.blk s H scope (compEnvC scope cl C X.env) fp) ifs (rCd X Γ P fw k WF cond))
    (he : ∀ (s : Shared) (H : Hp) (C : Addr) (cl : List (Str × Addr)) (fp : List Addr), PE (X.blk s H scope (compEnvC scope cl C X.env) fp) x (rE X Γ P fw k WF elt)) :
    PS X (.Assign [.Name y py] (.ListComp x [⟨t, i, ifs, 0⟩] scope p) sp) (rC X Γ P fw k Wx (.asg (.name j) (.comp cc elt tg it cond own))) := by
  refine (ps_setLc c.calm (by rw [c.hN]; exact c.nd) (by rw [c.hN]; exact hy) hyl hsw hi (blkOk_by (by rw [c.hN, c.hsc]; exact hb)) hg hcd he (nofold hns)).imp ?_
  rintro D σ H ⟨W, ρ, S, rfl, hr, hs, h⟩
  refine s_comp (cc := cc) (Wx := Wx) (p := p) c hb hns ht hi hg hcd he σ W.H _ ⟨W, ρ, S, rfl, hr, hs, ?_⟩
  refine (PX.toX hs h).imp ?_
  rintro v H1 ⟨W1, a, S1, rfl, l1, r1, d1, h1⟩
  simp only [asgT] at h1
  split at h1
  · rename_i ρ' S2 e
    split at e
    · cases e
      exact h1 W1 _ .refl r1 ((hs.mono l1).set d1)
    · cases e
  · exact h1.elim
theorem s_par2 (c : Cxt Γ P fw M N k sc X Wx) (hk : sc.kind = .function) {i j : Nat} {es : Es} {x y : Str} {px py pt p2 p : Pos} {vs : List Expr} {jt j2 : Nat} (h : swPar sc [.Name x px, .Name y py] vs [i, j] N = true) (he : PA X vs (rEs X Γ P fw k Wx es)) :
    PS X (.Assign [.Tuple [.Name x px, .Name y py] jt pt] (.Tuple vs j2 p2) p) (rC X Γ P fw k Wx (.par [i, j] es)) := by
  have h0 := h
  unfold swPar at h
  simp only [Bool.and_eq_true, beq_iff_eq, bne_iff_ne, decide_eq_true_eq, Bool.not_eq_true'] at h
  obtain ⟨⟨⟨⟨⟨⟨⟨⟨⟨h1, h2⟩, h3⟩, h4⟩, h5⟩, h6⟩, h7⟩, h8⟩, h9⟩, h10⟩ := h
  rcases vs with _ | ⟨a, _ | ⟨b, _ | ⟨_, _⟩⟩⟩ <;> first | (simp at h1; done) | skip
  have hne : x ≠ y := fun e => by subst e; exact h8 (nodup_ix c.nd h6 h7)
  refine (ps_par c.calm (by rw [c.hN]; exact c.nd) (by rw [c.hN]; exact h6) (by rw [c.hN]; exact h7) h8 (by rw [c.hsc]; exact h3) (by rw [c.hsc]; exact h4) he (swapped_par2 c.hsc hk hne h0) rfl).imp ?_
  rintro D σ H ⟨W, ρ, S, rfl, hr, hs, h⟩
  refine ⟨W, ρ, S, rfl, hr, hs, ?_⟩
  simp only [exC] at h
  generalize evEs (cal P fw k) P es ρ S = q at h ⊢
  cases q with
  | bad => exact h.elim
  | ex cc pp S' => exact fun W' d l r x => h W' d σ l r (hs.mono l) x
  | ok as S' =>
    intro W' us l r d
    cases d with
    | nil => exact h.elim
    | cons d1 d =>
      cases d with
      | nil =>
        simp only [setAll] at h
        split at h
        · rename_i heq
          split at heq <;> cases heq
        · exact h.elim
      | cons d2 d =>
        cases d with
        | cons _ _ =>
          simp only [setAll] at h
          split at h
          · rename_i heq
            split at heq
            · split at heq <;> cases heq
            · cases heq
          · exact h.elim
        | nil =>
          refine ⟨_, _, rfl, ?_⟩
          simp only [setAll] at h
          split at h
          · rename_i heq
            split at heq
            · split at heq
              · cases heq
                exact h W' _ l r (((hs.mono l).set d1).set d2)
              · cases heq
            · cases heq
          · exact h.elim
theorem s_par3 (c : Cxt Γ P fw M N k sc X Wx) (hk : sc.kind = .function) {i j l' : Nat} {es : Es} {x y z : Str} {px py pz pt p2 p : Pos} {vs : List Expr} {jt j2 : Nat} (h : swPar sc [.Name x px, .Name y py, .Name z pz] vs [i, j, l'] N = true) (he : PA X vs (rEs X Γ P fw k Wx es)) :
    PS X (.Assign [.Tuple [.Name x px, .Name y py, .Name z pz] jt pt] (.Tuple vs j2 p2) p) (rC X Γ P fw k Wx (.par [i, j, l'] es)) := by
  have h0 := h
  unfold swPar at h
  simp only [Bool.and_eq_true, beq_iff_eq, bne_iff_ne, decide_eq_true_eq, Bool.not_eq_true'] at h
  obtain ⟨⟨⟨⟨⟨⟨⟨⟨⟨⟨⟨⟨⟨⟨h1, h2⟩, h3⟩, h4⟩, h4'⟩, h5⟩, h5'⟩, h6⟩, h7⟩, h8⟩, h9⟩, h10⟩, h11⟩, h12⟩, h13⟩ := h
  rcases vs with _ | ⟨a, _ | ⟨b, _ | ⟨d, _ | ⟨_, _⟩⟩⟩⟩ <;> first | (simp at h1; done) | skip
  have hxy : x ≠ y := fun e => by subst e; exact h9 (nodup_ix c.nd h6 h7)
  have hxz : x ≠ z := fun e => by subst e; exact h10 (nodup_ix c.nd h6 h8)
  have hyz : y ≠ z := fun e => by subst e; exact h11 (nodup_ix c.nd h7 h8)
  refine (ps_par3 c.calm (by rw [c.hN]; exact c.nd) (by rw [c.hN]; exact h6) (by rw [c.hN]; exact h7) (by rw [c.hN]; exact h8) h9 h10 h11 (by rw [c.hsc]; exact h3) (by rw [c.hsc]; exact h4) (by rw [c.hsc]; exact h4') he (swapped_par3 c.hsc hk hxy hxz hyz h0) rfl).imp ?_
  rintro D σ H ⟨W, ρ, S, rfl, hr, hs, h⟩
  refine ⟨W, ρ, S, rfl, hr, hs, ?_⟩
  simp only [exC] at h
  generalize evEs (cal P fw k) P es ρ S = q at h ⊢
  cases q with
  | bad => exact h.elim
  | ex cc pp S' => exact fun W' d l r x => h W' d σ l r (hs.mono l) x
  | ok as S' =>
    intro W' us l r d
    dsimp only at h
    obtain ⟨ρ', e, h⟩ : ∃ ρ', setAll ρ [i, j, l'] as = some ρ' ∧ PX X.K Γ Wx D (.next ρ' S') W := by
      split at h
      · rename_i ρ' e; exact ⟨ρ', e, h⟩
      · exact h.elim
    have three : ∃ a b c, as = [a, b, c] ∧ ρ' = ((ρ.set i (some a)).set j (some b)).set l' (some c) := by
      rcases as with _ | ⟨a, _ | ⟨b, _ | ⟨c, _ | ⟨_, _⟩⟩⟩⟩ <;> simp only [setAll] at e
      · cases e
      · split at e <;> cases e
      · split at e
        · split at e <;> cases e
        · cases e
      · split at e
        · split at e
          · split at e
            · cases e; exact ⟨a, b, c, rfl, rfl⟩
            · cases e
          · cases e
        · cases e
      · split at e
        · split at e
          · split at e <;> cases e
          · cases e
        · cases e
    obtain ⟨a, b, c, rfl, rfl⟩ := three
    cases d with
    | cons d1 d =>
      cases d with
      | cons d2 d =>
        cases d with
        | cons d3 d =>
          cases d
          exact ⟨_, _, _, rfl, h W' _ l r ((((hs.mono l).set d1).set d2).set d3)⟩
theorem ip_aug (op : BOp) : PIp X (opOf op) (fun x y H Q => ∃ W a b c S, W.H = H ∧ Rl X.K Γ W S ∧ Den X.K Γ W a x ∧ Den X.K Γ W b y ∧ augOp op a b = some c ∧ ∀ z, Den X.K Γ W c z → Q z H) := by
  rintro pins s σ H x y v u Q I rx ry ⟨W, a, b, c, S, rfl, hr, da, db, e, q⟩
  cases op with
  | add =>
    cases da with
    | int i => cases db with
      | int j => cases e; exact iop_add pins s σ W.H _ _ v u Q I rx ry ⟨i, j, rfl, rfl, q _ (.int _)⟩
      | _ => cases e
    | str i => cases db with
      | str j =>
        simp only [augOp] at e
        split at e
        · rename_i hl
          cases e
          exact iop_add_str pins s σ W.H _ _ v u Q I rx ry ⟨sOf i, sOf j, rfl, rfl, by rw [sOf_len, sOf_len]; exact hl, by rw [sOf_app]; exact q _ (.str _)⟩
        · cases e
      | _ => cases e
    | _ => cases e
  | sub =>
    cases da with
    | int i => cases db with
      | int j => cases e; exact iop_sub pins s σ W.H _ _ v u Q I rx ry ⟨i, j, rfl, rfl, q _ (.int _)⟩
      | _ => cases e
    | _ => cases e
  | mul => cases da <;> cases e
  | fdiv => cases da <;> cases e
  | mod => cases da <;> cases e
  | pow => cases da <;> cases e
theorem s_aug (c : Cxt Γ P fw M N k sc X Wx) (hf : ∀ x, sc.names.lookup x = some .cell → X.fn x = true) {op : BOp} {i : Nat} {e : E} {x : Str} {y : Expr} {p pos : Pos} (h1 : N[i]? = some x) (h2 : stB sc sc x = true) (he : PE X y (rE X Γ P fw k Wx e)) :
    PS X (.AugAssign (.Name x p) (opOf op) y pos) (rC X Γ P fw k Wx (.aug op i e)) := by
  obtain ⟨h3, h4⟩ := stB_ok c hf h2
  refine (ps_aug (by rw [c.hN]; exact c.nd) (by rw [c.hN]; exact h1) h3 he (ip_aug (Γ := Γ) op) h4).imp ?_
  rintro D σ H ⟨W, ρ, S, rfl, hr, hs, h⟩
  simp only [exC] at h
  split at h
  · rename_i x' ex
    obtain ⟨v, hv, dv⟩ := hs.get i x' ex
    refine ⟨v, hv, W, ρ, S, rfl, hr, hs, (PX.toX hs h).imp ?_⟩
    rintro u H1 ⟨W1, b, S1, rfl, l1, r1, d1, h1⟩
    split at h1
    · rename_i z ez
      exact ⟨W1, x', b, z, S1, rfl, r1, dv.mono l1, d1, ez, fun w dw => h1 W1 _ .refl r1 ((hs.mono l1).set dw)⟩
    · exact h1.elim
  · exact h.elim
theorem s_if {c : E} {a b : B} {x : Expr} {ys zs : List Stmt} {p : Pos} (hc : PT X x (rT X Γ P fw k Wx c)) (ha : PSs X ys (rB' X Γ P fw k Wx a)) (hb : PSs X zs (rB' X Γ P fw k Wx b)) : PS X (.If x ys zs p) (rC X Γ P fw k Wx (.ifs c a b)) := by
  refine (ps_if hc ha hb).imp ?_
  rintro D σ H ⟨W, ρ, S, rfl, hr, hs, h⟩
  refine ⟨W, ρ, S, rfl, hr, hs, ?_⟩
  simp only [exC] at h
  generalize evT (cal P fw k) P c ρ S = q at h ⊢
  cases q with
  | bad => exact h.elim
  | ex cc pp S' => exact fun W' d l r x => h W' d σ l r (hs.mono l) x
  | ok kk S' =>
    rintro W' b' l r rfl
    cases kk with
    | true => rw [if_pos rfl]; exact ⟨W', ρ, S', rfl, r, hs.mono l, PX.le l h⟩
    | false => rw [if_neg Bool.false_ne_true]; exact ⟨W', ρ, S', rfl, r, hs.mono l, PX.le l h⟩
theorem s_while (hp : PassesOwn (model X.prog X.w) X.A X.env X.xe) {c : E} {b : B} {x : Expr} {ys : List Stmt} {p : Pos} (hc : PT X x (rT X Γ P fw k Wx c)) (hb : PSs X ys (rB' X Γ P fw k Wx b)) : PS X (.While x ys [] p) (rC X Γ P fw k Wx (.whl c b)) := by
  refine (ps_while hp hc hb).imp ?_
  rintro D σ H ⟨W, ρ, S, rfl, hr, hs, h⟩
  refine ⟨fun m σ H => ∃ W ρ S, W.H = H ∧ Rl X.K Γ W S ∧ SlotR X.K Γ W ρ σ ∧ PX X.K Γ Wx D (whlL (fun ρ S => evT (cal P fw k) P c ρ S) (fun ρ S => exB (cal P fw k) P fw b ρ S) m ρ S) W, ⟨fw, W, ρ, S, rfl, hr, hs, h⟩, ?_⟩
  rintro m σ H ⟨W, ρ, S, rfl, hr, hs, h⟩
  cases m with
  | zero => exact h.elim
  | succ m =>
    refine ⟨W, ρ, S, rfl, hr, hs, ?_⟩
    simp only [whlL] at h
    generalize evT (cal P fw k) P c ρ S = q at h ⊢
    cases q with
    | bad => exact h.elim
    | ex cc pp S' => exact fun W' d l r x => h W' d σ l r (hs.mono l) x
    | ok kk S' =>
      rintro W' b' l r rfl
      cases kk with
      | false => rw [if_neg Bool.false_ne_true]; exact h W' σ l r (hs.mono l)
      | true =>
        rw [if_pos rfl]
        refine ⟨fun σ H => ∃ W ρ S, W.H = H ∧ Rl X.K Γ W S ∧ SlotR X.K Γ W ρ σ ∧ PX X.K Γ Wx D (whlL (fun ρ S => evT (cal P fw k) P c ρ S) (fun ρ S => exB (cal P fw k) P fw b ρ S) m ρ S) W, fun σ' H' n => ⟨m, Nat.lt_succ_self m, n⟩, W', ρ, S', rfl, r, hs.mono l, ?_⟩
        dsimp only at h
        generalize exB (cal P fw k) P fw b ρ S' = q at h ⊢
        cases q with
        | next ρ' S'' => exact fun W2 σ2 l2 r2 s2 => ⟨W2, ρ', S'', rfl, r2, s2, PX.le (l.trans l2) h⟩
        | cont ρ' S'' => exact fun W2 σ2 l2 r2 s2 => ⟨W2, ρ', S'', rfl, r2, s2, PX.le (l.trans l2) h⟩
        | brk ρ' S'' => exact fun W2 σ2 l2 r2 s2 => h W2 σ2 (l.trans l2) r2 s2
        | ret v S'' => exact fun W2 v2 l2 r2 d2 => h W2 v2 (l.trans l2) r2 d2
        | ex cc pp ρ' S'' => exact fun W2 d σ2 l2 r2 s2 x => h W2 d σ2 (l.trans l2) r2 s2 x
        | bad => exact h
theorem s_for (c : Cxt Γ P fw M N k sc X Wx) (hp : PassesOwn (model X.prog X.w) X.A X.env X.xe) {t : Tg} {it : It} {b : B} {tg x : Expr} {ys : List Stmt} {p : Pos} (hns : noSet x = true) (hi : PI X tg x (rIt X Γ P fw k Wx it)) (hg : PG X tg (rTg X Γ P fw k t)) (hb : PSs X ys (rB' X Γ P fw k Wx b)) :
    PS X (.For tg x ys [] p) (rC X Γ P fw k Wx (.for_ t it b)) := by
  refine (ps_for hp c.calm hi hg hb (nofold hns)).imp ?_
  rintro D σ H ⟨W, ρ, S, rfl, hr, hs, h⟩
  refine ⟨W, ρ, S, rfl, hr, hs, ?_⟩
  simp only [exC] at h
  generalize evIt (cal P fw k) P it ρ S = q at h ⊢
  cases q with
  | bad => exact h.elim
  | ex cc pp S' => exact fun W' d l r x => h W' d σ l r (hs.mono l) x
  | ok J' S1 =>
    intro W1 J l1 r1 d1
    dsimp only at h
    generalize hf : (fun x ρ S => match asgT (cal P fw k) P t x ρ S with
      | .ok ρ' S2 => exB (cal P fw k) P fw b ρ' S2
      | _ => .bad : PV → Rho → Store → Ev.X) = f at h
    refine ⟨fun i m σ H => m = J'.xs.length - i ∧ ∃ W2 ρ S2, W2.H = H ∧ Le X.K W1 W2 ∧ Rl X.K Γ W2 S2 ∧ SlotR X.K Γ W2 ρ σ ∧ PX X.K Γ Wx D (forL J' f (J'.xs.drop i) ρ S2) W2, ⟨_, rfl, W1, ρ, S1, rfl, .refl, r1, hs.mono l1, by simpa using PX.le l1 h⟩, ?_⟩
    rintro i m σ H ⟨rfl, W2, ρ, S2, rfl, l2, r2, s2, h2⟩
    by_cases hi : i < J'.xs.length
    · right
      have hx : J'.xs[i]? = some J'.xs[i] := List.getElem?_eq_getElem hi
      generalize J'.xs[i] = x at hx
      have hdrop : J'.xs.drop i = x :: J'.xs.drop (i + 1) := by
        rw [List.drop_eq_getElem_cons hi]
        rw [List.getElem?_eq_getElem hi] at hx
        rw [Option.some.inj hx]
      rw [hdrop] at h2
      unfold forL at h2
      split at h2
      · rename_i hok
        obtain ⟨go, yl⟩ := (d1 i W2 S2 l2 r2 hok).1 x hx
        refine ⟨go, fun σ H => ∃ W2 ρ S2, W2.H = H ∧ Le X.K W1 W2 ∧ Rl X.K Γ W2 S2 ∧ SlotR X.K Γ W2 ρ σ ∧ PX X.K Γ Wx D (forL J' f (J'.xs.drop (i + 1)) ρ S2) W2, fun σ' H' n => ⟨J'.xs.length - (i + 1), by omega, rfl, n⟩, fun v H' y => ?_⟩
        obtain ⟨W3, rfl, l3, r3, dx⟩ := yl v H' y
        refine ⟨W3, x, ρ, S2, rfl, r3, s2.mono l3, dx, ?_⟩
        rw [← hf] at h2
        dsimp only at h2
        generalize asgT (cal P fw k) P t x ρ S2 = q at h2 ⊢
        cases q with
        | bad => exact h2
        | ex _ _ _ => exact h2
        | ok ρ' S3 =>
          rintro W4 σ4 l4 r4 ⟨s4, _⟩
          refine ⟨W4, ρ', S3, rfl, r4, s4, ?_⟩
          dsimp only at h2
          have l24 := l3.trans l4
          generalize exB (cal P fw k) P fw b ρ' S3 = q at h2 ⊢
          rw [hf] at h2
          cases q with
          | next ρ' S'' => exact fun W5 σ2 l5 r5 s5 => ⟨W5, ρ', S'', rfl, (l2.trans l24).trans l5, r5, s5, PX.le (l24.trans l5) h2⟩
          | cont ρ' S'' => exact fun W5 σ2 l5 r5 s5 => ⟨W5, ρ', S'', rfl, (l2.trans l24).trans l5, r5, s5, PX.le (l24.trans l5) h2⟩
          | brk ρ' S'' => exact fun W5 σ2 l5 r5 s5 => h2 W5 σ2 (l24.trans l5) r5 s5
          | ret v S'' => exact fun W5 v2 l5 r5 d5 => h2 W5 v2 (l24.trans l5) r5 d5
          | ex cc pp ρ' S'' => exact fun W5 d σ2 l5 r5 s5 x => h2 W5 d σ2 (l24.trans l5) r5 s5 x
          | bad => exact h2
      · exact h2.elim
    · left
      have hdrop : J'.xs.drop i = [] := List.drop_eq_nil_of_le (by omega)
      rw [hdrop] at h2
      unfold forL at h2
      split at h2
      · rename_i hok
        exact ⟨(d1 i W2 S2 l2 r2 hok).2 (by omega), h2 W2 σ .refl r2 s2⟩
      · exact h2.elim
end
end Ev

/-! Part U: every statement; functions; the law. -/
namespace Ev
open PySem PySem.Spec PyProof.Rows L2

section
variable {Γ : Gm} {P : Pg} {fw : Nat} {M : Nm} {N : List Str} {k : Nat} {sc : Scope}
theorem cmp_of {e : E} {x : Expr} (h : corE M N sc e x = true) (hn : noCmp x = false) : ∃ cc elt tg it cond own, e = .comp cc elt tg it cond own := by
  cases x <;> first | (cases hn; done) | skip
  all_goals cases e <;> first | exact ⟨_, _, _, _, _, _, rfl⟩ | (cases h; done)
theorem swPar_inv {ts vs : List Expr} {is : List Nat} (h : swPar sc ts vs is N = true) : (∃ x px y py i j, ts = [.Name x px, .Name y py] ∧ is = [i, j]) ∨ ∃ x px y py z pz i j l, ts = [.Name x px, .Name y py, .Name z pz] ∧ is = [i, j, l] := by
  unfold swPar at h
  split at h
  · exact .inl ⟨_, _, _, _, _, _, rfl, rfl⟩
  · exact .inr ⟨_, _, _, _, _, _, _, _, _, rfl, rfl⟩
  · cases h
theorem sole {t x : Expr} {l : Nat} {env : Env} : swapsWithSole [t] x l env = swapsWith x (some t) l env := by
  unfold swapsWithSole
  rfl
theorem swaps_lc {x t i : Expr} {ifs : List Expr} {scope : Scope} {p py : Pos} {y : Str} {l : Nat} {env : Env} : swapsWith (.ListComp x [⟨t, i, ifs, 0⟩] scope p) (some (.Name y py)) l env =
    pure (env.blockKind == .function && env.kindOf y == some .local && py.line == p.line && !(scope.names.any fun (n, k) => n == y && (k == .local || k == .cell))) := rfl
theorem s_asgName {X : Cx} {Wx : WX} (c : Cxt Γ P fw M N k sc X Wx) (hf : ∀ x, sc.names.lookup x = some .cell → X.fn x = true) {j : Nat} {e : E} {y : Str} {py p : Pos} {x : Expr} (h1 : corTg M N sc sc (.name j) (.Name y py) = true) (h2 : corE M N sc e x = true) : PS X (.Assign [.Name y py] x p) (rC X Γ P fw k Wx (.asg (.name j) e)) := by
  have hg := sndTg (Γ := Γ) (P := P) (fw := fw) (k := k) (.name j) (.Name y py) sc sc h1 X Wx c hf
  have plain : swapsWithSole [.Name y py] x p.line X.env = pure false → PS X (.Assign [.Name y py] x p) (rC X Γ P fw k Wx (.asg (.name j) e)) := fun hs => s_asg hs rfl rfl hg (sndE e x sc h2 X Wx c)
  cases hn : noCmp x with
  | true => exact plain (sole.trans (swaps_no hn))
  | false =>
    obtain ⟨cc, elt, tg, it, cond, own, rfl⟩ := cmp_of h2 hn
    obtain ⟨z, t, i, ifs, scope, pp, rfl, hh⟩ := inv_comp h2
    by_cases hb : (X.env.blockKind == .function && X.env.kindOf y == some .local && py.line == pp.line && !(scope.names.any fun (n, k) => n == y && (k == .local || k == .cell))) = true
    · simp only [Bool.and_eq_true] at hh
      obtain ⟨⟨⟨⟨⟨⟨g1, g2⟩, g3⟩, g4⟩, g5⟩, g6⟩, g7⟩ := hh
      have hyl : X.env.scope.names.lookup y = some .local := by
        simp only [Bool.and_eq_true, beq_iff_eq] at hb
        exact hb.1.1.2
      simp only [corTg, Bool.and_eq_true, decide_eq_true_eq] at h1
      exact s_asgLc c g1 g2 g3 h1.1 hyl (by rw [swaps_lc, hb]) (sndIt it i t sc g4 X Wx c)
        (fun s H C cl fp => sndTg tg t (relab sc scope) scope g5 _ _ (c.blk s H scope C cl fp) (fun x hx => by show (scope.names.lookup x == some .cell) = true; rw [hx]; rfl))
        (fun s H C cl fp => sndCd cond ifs (relab sc scope) g6 _ _ (c.blk s H scope C cl fp)) (fun s H C cl fp => sndE elt z (relab sc scope) g7 _ _ (c.blk s H scope C cl fp))
    · refine plain ?_
      rw [sole, swaps_lc]
      rw [Bool.not_eq_true] at hb
      rw [hb]
mutual
theorem sndC : ∀ (c : C) (x : Stmt), corC M N sc c x = true → ∀ (X : Cx) (Wx : WX), Cxt Γ P fw M N k sc X Wx → (∀ x, sc.names.lookup x = some .cell → X.fn x = true) → PassesOwn (model X.prog X.w) X.A X.env X.xe → sc.kind = .function → PS X x (rC X Γ P fw k Wx c)
  | .asg t e, x, h, X, Wx, c, hf, hp, hk => by
    cases x with
    | Assign tgs y p =>
      rcases tgs with _ | ⟨tg, _ | ⟨_, _⟩⟩ <;> first | (cases h; done) | skip
      simp only [corC, Bool.and_eq_true] at h
      obtain ⟨⟨h1, h2⟩, h3⟩ := h
      cases tg with
      | Name z pz =>
        cases t with
        | name j => exact s_asgName c hf h1 h2
        | tup _ => cases h1
        | sub _ _ => cases h1
      | Tuple ts j pt =>
        refine s_asg (sole.trans (swaps_other fun _ _ z => by cases z)) ?_ rfl (sndTg t _ sc sc h1 X Wx c hf) (sndE e y sc h2 X Wx c)
        by_cases hv : ∃ vs j p, y = .Tuple vs j p
        · obtain ⟨vs, j2, p2, rfl⟩ := hv
          exact swapped_none c.hsc h3
        · exact swapped_tup fun vs j p z => hv ⟨vs, j, p, z⟩
      | Subscript o i ps => exact s_asg (sole.trans (swaps_other fun _ _ z => by cases z)) swapped_sub rfl (sndTg t _ sc sc h1 X Wx c hf) (sndE e y sc h2 X Wx c)
      | _ => cases h3
    | _ => cases h
  | .par is es, x, h, X, Wx, c, hf, hp, hk => by
    cases x with
    | Assign tgs y p =>
      rcases tgs with _ | ⟨tg, _ | ⟨_, _⟩⟩
      · cases h
      · cases tg with
        | Tuple ts j pt =>
          cases y with
          | Tuple vs j2 p2 =>
            simp only [corC, Bool.and_eq_true] at h
            obtain ⟨h1, h2⟩ := h
            have he := sndEs (Γ := Γ) (P := P) (fw := fw) (k := k) es vs sc h2 X Wx c
            rcases swPar_inv h1 with ⟨x, px, y, py, i, j, rfl, rfl⟩ | ⟨x, px, y, py, z, pz, i, j, l, rfl, rfl⟩
            · exact s_par2 c hk h1 he
            · exact s_par3 c hk h1 he
          | _ => cases h
        | _ => cases h
      · cases tg <;> first | (cases h; done) | skip
    | _ => cases h
  | .aug op i e, x, h, X, Wx, c, hf, hp, hk => by
    cases x with
    | AugAssign tg o y p =>
      cases tg with
      | Name z pz =>
        simp only [corC, Bool.and_eq_true, decide_eq_true_eq] at h
        obtain ⟨⟨⟨rfl, h1⟩, h2⟩, h3⟩ := h
        exact s_aug c hf h1 h2 (sndE e y sc h3 X Wx c)
      | _ => cases h
    | _ => cases h
  | .expr e, x, h, X, Wx, c, hf, hp, hk => by
    cases x with
    | Expr y p =>
      simp only [corC, Bool.and_eq_true] at h
      exact s_expr h.1 (sndE e y sc h.2 X Wx c)
    | _ => cases h
  | .ret e, x, h, X, Wx, c, hf, hp, hk => by
    cases x with
    | Return y p =>
      cases y with
      | none => cases h
      | some y => exact s_ret (sndE e y sc h X Wx c)
    | _ => cases h
  | .retN, x, h, X, Wx, c, hf, hp, hk => by
    cases x with
    | Return y p =>
      cases y with
      | none => exact s_retN
      | some y => cases h
    | _ => cases h
  | .ifs d a b, x, h, X, Wx, c, hf, hp, hk => by
    cases x with
    | If y ys zs p =>
      simp only [corC, Bool.and_eq_true] at h
      obtain ⟨⟨⟨h1, h2⟩, h3⟩, h4⟩ := h
      exact s_if (sndT d y sc h1 h2 X Wx c) (sndB a ys h3 X Wx c hf hp hk) (sndB b zs h4 X Wx c hf hp hk)
    | _ => cases h
  | .whl d b, x, h, X, Wx, c, hf, hp, hk => by
    cases x with
    | While y ys zs p =>
      cases zs with
      | nil =>
        simp only [corC, Bool.and_eq_true] at h
        obtain ⟨⟨h1, h2⟩, h3⟩ := h
        exact s_while hp (sndT d y sc h1 h2 X Wx c) (sndB b ys h3 X Wx c hf hp hk)
      | cons _ _ => cases h
    | _ => cases h
  | .for_ t it b, x, h, X, Wx, c, hf, hp, hk => by
    cases x with
    | For tg y ys zs p =>
      cases zs with
      | nil =>
        simp only [corC, Bool.and_eq_true] at h
        obtain ⟨⟨⟨h1, h2⟩, h3⟩, h4⟩ := h
        exact s_for c hp h1 (sndIt it y tg sc h3 X Wx c) (sndTg t tg sc sc h2 X Wx c hf) (sndB b ys h4 X Wx c hf hp hk)
      | cons _ _ => cases h
    | _ => cases h
  | .pass, x, h, X, Wx, c, hf, hp, hk => by cases x <;> first | exact s_pass | cases h
  | .brk, x, h, X, Wx, c, hf, hp, hk => by cases x <;> first | exact s_brk | cases h
  | .cont, x, h, X, Wx, c, hf, hp, hk => by cases x <;> first | exact s_cont | cases h
  | .never, x, h, X, Wx, c, hf, hp, hk => s_never
theorem sndB : ∀ (c : B) (x : List Stmt), corB M N sc c x = true → ∀ (X : Cx) (Wx : WX), Cxt Γ P fw M N k sc X Wx → (∀ x, sc.names.lookup x = some .cell → X.fn x = true) → PassesOwn (model X.prog X.w) X.A X.env X.xe → sc.kind = .function → PSs X x (rB' X Γ P fw k Wx c)
  | .nil, [], h, X, Wx, c, hf, hp, hk => s_bnil
  | .nil, _ :: _, h, X, Wx, c, hf, hp, hk => by cases h
  | .cons a r, [], h, X, Wx, c, hf, hp, hk => by cases h
  | .cons a r, x :: xs, h, X, Wx, c, hf, hp, hk => by
    simp only [corB, Bool.and_eq_true] at h
    exact s_bcons (sndC a x h.1 X Wx c hf hp hk) (sndB r xs h.2 X Wx c hf hp hk)
end
end

/-! ### the functions -/
/-- what stands in the written part: one function of the program -/
structure FnIn (K : PySem.W.Frag) (mg : Str → Option Value) (Γ : Gm) (P : Pg) (M : Nm) (f : Nat) (x : Str) : Prop where
  ex : ∃ (st : Stmt) (N ps : List Str) (b : B) (fa : Addr) (fd : FuncData), Fun K x x st fa fd ∧ FnScope N ps (defScope st) ∧ corB M N (defScope st) b (defBody st) = true ∧ P.fn f = some ⟨ps.length, N.length, b⟩ ∧ mg x = some (.ref fa) ∧ Binds K fd ps [] ∧
    ∀ j, M.dj f j = true → ∃ dvs ds, Binds K fd ps ds ∧ Vals dvs ds ∧ ∀ W, DenL K Γ W (P.dv f j) dvs
/-- the whole of the program's text as the small language has it -/
structure Prg (w : World) (K : PySem.W.Frag) (mg : Str → Option Value) (Γ : Gm) (P : Pg) (M : Nm) : Prop where
  fn : ∀ f x, M.fn f = some x → FnIn K mg Γ P M f x
  dv0 : ∀ f, P.dv f 0 = []
  cn : ∀ i x, M.cn i = some x → ∃ u v, mg x = some u ∧ RelV v u ∧ ∀ W, Den K Γ W (P.cs i) v
  kd : ∀ W i kvs, P.kd i = some kvs → KdOk K w Γ W (Γ.oA i) kvs
  bt : ∀ x, x ∈ bltNames → mg x = none

section
variable {prog : Program} {w : World} {K : PySem.W.Frag} {mg : Str → Option Value} {base : Heap} {Γ : Gm} {P : Pg} {fw : Nat} {M : Nm}
theorem spOf_len {k f : Nat} {ps : List Str} {n : Nat} {b : B} (h : P.fn f = some ⟨ps.length, n, b⟩) : ∀ vs H Q E, spOf K Γ P fw k f vs H Q E → vs.length = ps.length := by
  rintro vs H Q E ⟨W, args, S, _, _, _, ⟨d, hd, e⟩, _⟩
  rw [h] at hd
  cases hd
  exact e
/-- THE FUNCTIONS: each keeps its promise, at each depth -/
theorem fns_ok (T : Prg w K mg Γ P M) : ∀ (k f : Nat) (x : Str), M.fn f = some x → ∀ (st : Stmt) (N ps : List Str) (b : B) (fa : Addr) (fd : FuncData), Fun K x x st fa fd → FnScope N ps (defScope st) → corB M N (defScope st) b (defBody st) = true → P.fn f = some ⟨ps.length, N.length, b⟩ →
    FnOk prog w K mg base (L2.CX prog w) k fa fd ps (spOf K Γ P fw k f)
  | 0, f, x, hx, st, N, ps, b, fa, fd, F, S, hc, hP => ⟨spOf_len hP, fun A outer s H args us vs Q E hr e0 hb r h => by
      obtain ⟨W, as, S', _, _, _, _, h⟩ := h
      exact h.elim⟩
  | k + 1, f, x, hx, st, N, ps, b, fa, fd, F, S, hc, hP => by
    refine F.okX S (spOf_len hP) fun cdv A outer s H vs Q E hr h => ?_
    have C : Cxt Γ P fw M N k (defScope st) (cxOf (L2.CX prog w) prog w K mg base N x (defScope st) fa cdv A outer s H E) (fun cls d _ H => E cls d H) :=
      { hN := rfl
        nd := S.nd
        hsc := rfl
        calm := rfl
        room := hr
        tk := takes_of rfl rfl rfl rfl
        fn := fun g y hy => by
          obtain ⟨st', N', ps', b', fa', fd', F', S', hc', hP', m', b0', bj'⟩ := (T.fn g y hy).ex
          exact ⟨fa', fd', ps', m', F'.kp, fns_ok T k g y hy st' N' ps' b' fa' fd' F' S' hc' hP', b0', ⟨_, hP', rfl⟩, bj'⟩
        dv0 := T.dv0
        cn := T.cn
        kd := T.kd
        bt := T.bt }
    refine ⟨_, sndB b (defBody st) hc _ _ C (fun _ _ => rfl) (passes_of rfl) S.kind, ?_⟩
    obtain ⟨W, args, S0, rfl, hr0, dl, ⟨d, hd, hlen⟩, h⟩ := h
    rw [hP] at hd
    cases hd
    have hl : vs.length = ps.length := hlen
    have hal : args.length = ps.length := by rw [dl.length]; exact hl
    refine ⟨W, args.map some ++ List.replicate (N.length - ps.length) none, S0, rfl, hr0, ?_, ?_⟩
    · refine ⟨?_, fun i v e => ?_⟩
      · unfold L2.start
        rw [List.length_append, List.length_append, List.length_map, List.length_map, List.length_replicate, List.length_replicate, hal, hl]
      · have hi : i < args.length := by
          by_cases hi : i < args.length
          · exact hi
          · rw [List.getElem?_append_right (by simpa using hi), List.getElem?_replicate] at e
            split at e <;> cases e
        rw [List.getElem?_append_left (by simpa using hi), List.getElem?_map] at e
        cases e2 : args[i]? with
        | none => rw [e2] at e; cases e
        | some a =>
          rw [e2] at e
          cases e
          obtain ⟨v', hv, dv⟩ := dl.get e2
          refine ⟨v', ?_, dv⟩
          unfold L2.start
          rw [List.getElem?_append_left (by rw [List.length_map, ← dl.length]; exact hi), List.getElem?_map, hv]
          rfl
    · simp only [cal, hP] at h
      split at h
      · show PX K Γ (fun cls d _ H => E cls d H) { nx := fun _ H' => Q .non H', rt := Q } (exB (cal P fw k) P fw b (args.map some ++ List.replicate (N.length - ps.length) none) S0) W
        generalize exB (cal P fw k) P fw b (args.map some ++ List.replicate (N.length - ps.length) none) S0 = r at h ⊢
        cases r with
        | next ρ S' => exact fun W' σ' l r s => h W' .non l r .non
        | ret v S' => exact fun W' v' l r d => h W' v' l r d
        | brk ρ S' => exact False.elim (id h)
        | cont ρ S' => exact False.elim (id h)
        | ex c p ρ S' => exact fun W' d σ' l r s x => h W' d l r x
        | bad => exact False.elim (id h)
      · rename_i z
        exact absurd hal z
/-- the law's promise: over a script of ints it gives True -/
def spLaw (K : PySem.W.Frag) : Sp := fun vs H Q _ => ∃ (a : Addr) (ns : List Int), vs = [.ref a] ∧ Only H ∧ SqL K H a (ns.map V.int) ∧ ns.length ≤ 63 ∧ (∀ n ∈ ns, Builtin.Int.intBits n ≤ 1048576) ∧ ∀ H', Q (.bl true) H'
theorem law_ok (T : Prg w K mg Γ P M) {k f : Nat} {x : Str} (hx : M.fn f = some x) {st : Stmt} {N : List Str} {b : B} {fa : Addr} {fd : FuncData} (F : Fun K x x st fa fd) (S : FnScope N ["script"] (defScope st)) (hc : corB M N (defScope st) b (defBody st) = true) (hP : P.fn f = some ⟨1, N.length, b⟩)
    (law : ∀ ns : List Int, ns.length ≤ 63 → (∀ n ∈ ns, Builtin.Int.intBits n ≤ 1048576) → ∃ S, cal P fw k f [.fz ns] [] = .ok (.bl true) S) : FnOk prog w K mg base (L2.CX prog w) k fa fd ["script"] (spLaw K) := by
  refine (fns_ok (prog := prog) (fw := fw) T k f x hx st N ["script"] b fa fd F S hc hP).imp ?_
  rintro vs H Q E ⟨a, ns, rfl, hO, ha, hl, hb, q⟩
  refine ⟨⟨[], fun _ => False, fun _ => False, H⟩, [.fz ns], [], rfl, ⟨rfl, List.nodup_nil, fun a z => by simp at z, fun a z => z.elim, fun a z => z.elim, fun n a c z => by simp at z⟩, .cons (.fz (.of hO ha)) .nil, ⟨_, hP, rfl⟩, ?_⟩
  obtain ⟨S', e⟩ := law ns hl hb
  rw [e]
  intro W' b l r d
  cases d
  exact q _
end
end Ev

/-! Part V: the link to the row: what the top has written, and the end. -/
namespace Ev
open PySem PySem.Spec PyProof.Rows L2

section
variable {K : PySem.W.Frag} {mg : Str → Option Value} {Γ : Gm} {P : Pg} {M : Nm} {h : Heap}
theorem fnIn_mk {f : Nat} {x : Str} {st : Stmt} {N ps : List Str} {b : B} {fa : Addr} {oc : Value} {od an : Option Addr} {osl : Array (Option Value)} {kV doc pm cdv ct : Value}
    (S : FnScope N ps (defScope st)) (hc : corB M N (defScope st) b (defBody st) = true) (hP : P.fn f = some ⟨ps.length, N.length, b⟩) (hj : ∀ j, M.dj f j = true → False)
    (hb : ∀ (kV doc pm : Value) (an : Option Addr) (cdv ct : Value) (us : List Value), us.length = ps.length → bindArgs (PySem.W.fnOf x x (defArgs st) (defBody st) (defScope st) .none kV doc pm an cdv ct) ⟨us, []⟩ = pure (ps.zip us))
    (m : mg x = some (.ref fa)) (l : K.lookup fa = some ⟨oc, od, .func (PySem.W.fnOf x x (defArgs st) (defBody st) (defScope st) .none kV doc pm an cdv ct), osl⟩) (c : PySem.W.codeIn K cdv x = true) (k : PySem.W.keepIn K (.ref fa) = true) : FnIn K mg Γ P M f x :=
  ⟨st, N, ps, b, fa, _, fun_mk (st := st) l c k, S, hc, hP, m, (fun_mk (st := st) l c k).binds hb, fun j z => (hj j z).elim⟩
mutual
/-- constants of the top -/
inductive CnV (K : PySem.W.Frag) (Γ : Gm) : PV → Value → Prop
  | non : CnV K Γ .non .none
  | bl (b : Bool) : CnV K Γ (.bl b) (.bool b)
  | int (i : Int) {t : Tok} : CnV K Γ (.int i) (.int i t)
  | str {x : Str} {t : Tok} (s : Codes) : sOf s = x → CnV K Γ (.str s) (.str x t)
  | tup {xs : List PV} {a : Addr} {o : Obj} {its : Array Value} {n : Nat} : K.lookup a = some o → o.cls = .type "tuple" → o.data = .seq its n → its.size ≤ sizeLine → CnL K Γ xs its.toList → CnV K Γ (.tup xs) (.ref a)
  | obj {a : Addr} (i : Nat) : Γ.oA i = a → CnV K Γ (.obj i) (.ref a)
inductive CnL (K : PySem.W.Frag) (Γ : Gm) : List PV → List Value → Prop
  | nil : CnL K Γ [] []
  | cons {x : PV} {u : Value} {xs : List PV} {us : List Value} : CnV K Γ x u → CnL K Γ xs us → CnL K Γ (x :: xs) (u :: us)
end
mutual
theorem CnV.den {W : Wd} : ∀ {x : PV} {u : Value}, CnV K Γ x u → ∃ v, RelV v u ∧ ∀ W, Den K Γ W x v
  | _, _, .non => ⟨.non, rfl, fun W => .non⟩
  | _, _, .bl b => ⟨.bl b, rfl, fun W => .bl b⟩
  | _, _, .int i => ⟨.int i, ⟨_, rfl⟩, fun W => .int i⟩
  | _, _, .str s e => ⟨.str (sOf s), ⟨_, by rw [e]⟩, fun W => .str s⟩
  | _, _, .tup e c d z l => by
    obtain ⟨vs, r, q⟩ := CnL.den (W := W) l
    exact ⟨.ref _, rfl, fun W => .tup (.inr ⟨_, _, _, e, c, d, z, r⟩) (q W)⟩
  | _, _, .obj i e => ⟨.ref _, rfl, fun W => by rw [← e]; exact .obj i⟩
theorem CnL.den {W : Wd} : ∀ {xs : List PV} {us : List Value}, CnL K Γ xs us → ∃ vs, Vals vs us ∧ ∀ W, DenL K Γ W xs vs
  | _, _, .nil => ⟨[], .nil, fun W => .nil⟩
  | _, _, .cons h t => by
    obtain ⟨v, r, q⟩ := CnV.den (W := W) h
    obtain ⟨vs, r', q'⟩ := CnL.den (W := W) t
    exact ⟨v :: vs, .cons r r', fun W => .cons (q W) (q' W)⟩
end
theorem cnIn_mk {x : Str} {c : PV} {u : Value} (m : mg x = some u) (h : CnV K Γ c u) : ∃ u v, mg x = some u ∧ RelV v u ∧ ∀ W, Den K Γ W c v := by
  obtain ⟨v, r, q⟩ := h.den (W := ⟨[], fun _ => False, fun _ => False, fun _ => none⟩)
  exact ⟨u, v, m, r, q⟩
theorem btIn_mk (h : ∀ i (hi : i < bltNames.length), mg (bltNames[i]) = none) : ∀ x, x ∈ bltNames → mg x = none := fun x hx => by
  obtain ⟨i, hi, rfl⟩ := List.getElem_of_mem hx
  exact h i hi
end
/-- THE END of a law's row -/
theorem walk {l : PySem.W.OpenLaw} {q : Program} {loose : List Str} {XP : (Str → Option Value) → Heap → Prop} {YP : World → Heap → Prop} {d : DefRec} {K : Params → PySem.W.Frag} (k : Nat) (hr : Room k callerA) (hn : l.most = some 63) (hdf : d.params.defaults = [])
    (hY : ∀ (w : World) (h : Heap), YP w h → (K w.params).In h)
    (F : ∀ (w : World) (mg : Str → Option Value) (fa : Addr) (h : Heap), (K w.params).In h → h.Ns mainGlobals mg → mg d.name = some (.ref fa) →
      ∃ fd : FuncData, (∀ (s : Shared) (u : Value), BindsTo s fd ⟨[u], []⟩ [("script", u)]) ∧ ∀ base : Heap, (K w.params).In base → base.Ns mainGlobals mg → FnOk l.prog w (K w.params) mg base (L2.CX l.prog w) k fa fd ["script"] (spLaw (K w.params))) :
    PySem.W.WalkO q loose XP YP l.row.toRowW d [] (fun f vs => PySem.call f vs) :=
  L2.walk_ofB (n := 63) (k := k) (x := "script") (CX := fun w => L2.CX l.prog w) (sp := fun w => spLaw (K w.params)) hn (by decide) hdf hr hY F (fun _ _ a ns hl hb hO hS => ⟨a, ns, rfl, hO, hS, hl, hb, fun _ => rfl⟩) fun _ _ _ _ _ z => by
    obtain ⟨_, _, _, _, _, _, _, _, _, _, _, _, z⟩ := z
    exact z
section
variable {prog : Program} {w : World} {K : PySem.W.Frag} {mg : Str → Option Value} {Γ : Gm} {P : Pg} {fw : Nat} {M : Nm}
/-- the law's def -/
theorem lawF (T : Prg w K mg Γ P M) {k f : Nat} {x : Str} {fa : Addr} (hx : M.fn f = some x) {st : Stmt} {N : List Str} {b : B} {oc : Value} {od an : Option Addr} {osl : Array (Option Value)} {kV doc pm cdv ct : Value} (S : FnScope N ["script"] (defScope st)) (hc : corB M N (defScope st) b (defBody st) = true) (hP : P.fn f = some ⟨1, N.length, b⟩)
    (hb : ∀ (kV doc pm : Value) (an : Option Addr) (cdv ct : Value) (u : Value), bindArgs (PySem.W.fnOf x x (defArgs st) (defBody st) (defScope st) .none kV doc pm an cdv ct) ⟨[u], []⟩ = pure [(("script" : Str), u)])
    (l : K.lookup fa = some ⟨oc, od, .func (PySem.W.fnOf x x (defArgs st) (defBody st) (defScope st) .none kV doc pm an cdv ct), osl⟩) (c : PySem.W.codeIn K cdv x = true) (kp : PySem.W.keepIn K (.ref fa) = true)
    (law : ∀ ns : List Int, ns.length ≤ 63 → (∀ n ∈ ns, Builtin.Int.intBits n ≤ 1048576) → ∃ S, cal P fw k f [.fz ns] [] = .ok (.bl true) S) :
    ∃ fd : FuncData, (∀ (s : Shared) (u : Value), BindsTo s fd ⟨[u], []⟩ [("script", u)]) ∧ ∀ base : Heap, K.In base → base.Ns mainGlobals mg → FnOk prog w K mg base (L2.CX prog w) k fa fd ["script"] (spLaw K) :=
  ⟨_, fun s u => .of_eq (hb kV doc pm an cdv ct u), fun base _ _ => law_ok (fw := fw) T hx (fun_mk (st := st) l c kp) S hc hP law⟩
end
end Ev

/-! Part W: the meaning, read by simp; what holds of a result. -/
namespace Ev
open PySem L2

def mif {α : Type} (k : Bool) (A B : R α) : R α := match k with
  | true => A
  | false => B
@[simp] theorem mif_true {α : Type} (A B : R α) : mif true A B = A := rfl
@[simp] theorem mif_false {α : Type} (A B : R α) : mif false A B = B := rfl
theorem mif_eq {α : Type} (k : Bool) (A B : R α) : mif k A B = if k = true then A else B := by cases k <;> rfl
theorem mif_of {α : Type} {k : Bool} {A B : R α} (h : k = true) : mif k A B = A := by rw [h]; rfl
@[simp] theorem mif_and (k q : Bool) (S : Store) : mif k (R.ok (PV.bl q) S) (R.ok (PV.bl k) S) = .ok (PV.bl (k && q)) S := by cases k <;> rfl
@[simp] theorem mif_or (k q : Bool) (S : Store) : mif k (R.ok (PV.bl k) S) (R.ok (PV.bl q) S) = .ok (PV.bl (k || q)) S := by cases k <;> rfl
@[simp] theorem mif_andF (k q : Bool) (S : Store) : mif k (R.ok (PV.bl q) S) (R.ok (PV.bl false) S) = .ok (PV.bl (k && q)) S := by cases k <;> rfl
@[simp] theorem mif_same {α : Type} (k : Bool) (A : R α) : mif k A A = A := by cases k <;> rfl
theorem mif_ok {α : Type} (k : Bool) (a b : α) (S : Store) : mif k (R.ok a S) (R.ok b S) = .ok (if k = true then a else b) S := by cases k <;> rfl
@[simp] theorem mif_int (k : Bool) (a b : Int) (S : Store) : mif k (R.ok (PV.int a) S) (R.ok (PV.int b) S) = .ok (.int (if k = true then a else b)) S := by cases k <;> rfl
@[simp] theorem mif_tup (k : Bool) (a b : List PV) (S : Store) : mif k (R.ok (PV.tup a) S) (R.ok (PV.tup b) S) = .ok (.tup (if k = true then a else b)) S := by cases k <;> rfl
@[simp] theorem mif_str (k : Bool) (a b : Codes) (S : Store) : mif k (R.ok (PV.str a) S) (R.ok (PV.str b) S) = .ok (.str (if k = true then a else b)) S := by cases k <;> rfl
@[simp] theorem mif_mif1 {α : Type} (k : Bool) (A B C : R α) : mif k (mif k A B) C = mif k A C := by cases k <;> rfl
@[simp] theorem mif_mif2 {α : Type} (k : Bool) (A B C : R α) : mif k A (mif k B C) = mif k A C := by cases k <;> rfl
/-- a mark that keeps simp out of what it speaks of -/
inductive Tag {α : Type} (a : α) : Type where
  | mk
def R.bnd {α β : Type} (r : R α) (f : α → Store → R β) (t : Tag f := .mk) : R β := r.bind f
@[simp] theorem bnd_ok {α β : Type} (a : α) (S : Store) (f : α → Store → R β) (t : Tag f) : (R.ok a S).bnd f t = f a S := rfl
@[simp] theorem bnd_bad {α β : Type} (f : α → Store → R β) (t : Tag f) : (R.bad : R α).bnd f t = .bad := rfl
@[simp] theorem mif_bnd {α β : Type} (k : Bool) (A B : R α) (f : α → Store → R β) (t : Tag f) : (mif k A B).bnd f t = mif k (A.bnd f) (B.bnd f) := by cases k <;> rfl
@[simp] theorem bnd_bnd {α β γ : Type} (A : R α) (f : α → Store → R β) (t : Tag f) (g : β → Store → R γ) (u : Tag g) : (A.bnd f t).bnd g u = A.bnd fun a S => (f a S).bnd g := by cases A <;> rfl
noncomputable def cmpLT (J : Its) (f : PV → Store → R (Option PV)) (xs : List PV) (S : Store) (t : Tag f := .mk) : R (List PV) := cmpL J f xs S
noncomputable def forLT (J : Its) (f : PV → Rho → Store → X) (xs : List PV) (ρ : Rho) (S : Store) (t : Tag f := .mk) : X := forL J f xs ρ S
@[simp] theorem opt_mif (k : Bool) {α : Type} (a b : Option α) (S : Store) : opt (if k = true then a else b) S = mif k (opt a S) (opt b S) := by cases k <;> rfl

def xif (k : Bool) (A B : X) : X := match k with
  | true => A
  | false => B
@[simp] theorem xif_true (A B : X) : xif true A B = A := rfl
@[simp] theorem xif_false (A B : X) : xif false A B = B := rfl
@[simp] theorem xif_same (k : Bool) (A : X) : xif k A A = A := by cases k <;> rfl
def X.andThen (x : X) (f : Rho → Store → X) (t : Tag f := .mk) : X := match x with
  | .next ρ S => f ρ S
  | x => x
@[simp] theorem X.at_next (ρ : Rho) (S : Store) (f : Rho → Store → X) (t : Tag f) : (X.next ρ S).andThen f t = f ρ S := rfl
@[simp] theorem X.at_ret (v : PV) (S : Store) (f : Rho → Store → X) (t : Tag f) : (X.ret v S).andThen f t = .ret v S := rfl
@[simp] theorem X.at_brk (ρ : Rho) (S : Store) (f : Rho → Store → X) (t : Tag f) : (X.brk ρ S).andThen f t = .brk ρ S := rfl
@[simp] theorem X.at_cont (ρ : Rho) (S : Store) (f : Rho → Store → X) (t : Tag f) : (X.cont ρ S).andThen f t = .cont ρ S := rfl
@[simp] theorem X.at_bad (f : Rho → Store → X) (t : Tag f) : (X.bad).andThen f t = .bad := rfl
@[simp] theorem X.at_ex (c : Nat) (p : Option (Str × PV)) (ρ : Rho) (S : Store) (f : Rho → Store → X) (t : Tag f) : (X.ex c p ρ S).andThen f t = .ex c p ρ S := rfl
@[simp] theorem xif_at (k : Bool) (A B : X) (f : Rho → Store → X) (t : Tag f) : (xif k A B).andThen f t = xif k (A.andThen f) (B.andThen f) := by cases k <;> rfl
@[simp] theorem X.toR_next (ρ : Rho) (S : Store) : (X.next ρ S).toR = .ok .non S := rfl
@[simp] theorem X.toR_ret (v : PV) (S : Store) : (X.ret v S).toR = .ok v S := rfl
@[simp] theorem X.toR_bad : (X.bad).toR = .bad := rfl
@[simp] theorem X.toR_xif (k : Bool) (A B : X) : (xif k A B).toR = mif k A.toR B.toR := by cases k <;> rfl
def R.toXv (ρ : Rho) (r : R PV) (k : PV → Store → X) (t : Tag k := .mk) : X := r.toX ρ k
@[simp] theorem toX_ok (ρ : Rho) (v : PV) (S : Store) (f : PV → Store → X) (t : Tag f) : (R.ok v S).toXv ρ f t = f v S := rfl
@[simp] theorem toX_bad (ρ : Rho) (f : PV → Store → X) (t : Tag f) : (R.bad).toXv ρ f t = X.bad := rfl
@[simp] theorem toX_mif (k : Bool) (A B : R PV) (ρ : Rho) (f : PV → Store → X) (t : Tag f) : (mif k A B).toXv ρ f t = xif k (A.toXv ρ f) (B.toXv ρ f) := by cases k <;> rfl
@[simp] theorem noex_okW {α : Type} (a : α) (S : Store) : noex (R.ok a S) = .ok a S := rfl
@[simp] theorem noex_mif {α : Type} (k : Bool) (A B : R α) : noex (mif k A B) = mif k (noex A) (noex B) := by cases k <;> rfl
/-- a test's result into a statement -/
def R.toXb (ρ : Rho) (r : R Bool) (k : Bool → Store → X) (t : Tag k := .mk) : X := match r with
  | .ok v S => k v S
  | .ex c p S => .ex c p ρ S
  | .bad => .bad
@[simp] theorem toXb_ok (ρ : Rho) (v : Bool) (S : Store) (f : Bool → Store → X) (t : Tag f) : (R.ok v S).toXb ρ f t = f v S := rfl
@[simp] theorem toXb_mif (k : Bool) (A B : R Bool) (ρ : Rho) (f : Bool → Store → X) (t : Tag f) : (mif k A B).toXb ρ f t = xif k (A.toXb ρ f) (B.toXb ρ f) := by cases k <;> rfl
/-- a target's result into a statement -/
def R.toXr (r : R Rho) : X := match r with
  | .ok ρ S => .next ρ S
  | _ => .bad
@[simp] theorem toXr_ok (ρ : Rho) (S : Store) : (R.ok ρ S).toXr = .next ρ S := rfl
def R.toXi (ρ : Rho) (r : R Its) (k : Its → Store → X) (t : Tag k := .mk) : X := match r with
  | .ok v S => k v S
  | .ex c p S => .ex c p ρ S
  | .bad => .bad
@[simp] theorem toXi_ok (ρ : Rho) (v : Its) (S : Store) (f : Its → Store → X) (t : Tag f) : (R.ok v S).toXi ρ f t = f v S := rfl
@[simp] theorem toXi_mif (k : Bool) (A B : R Its) (ρ : Rho) (f : Its → Store → X) (t : Tag f) : (mif k A B).toXi ρ f t = xif k (A.toXi ρ f) (B.toXi ρ f) := by cases k <;> rfl
def R.toXs (ρ : Rho) (r : R (List PV)) (k : List PV → Store → X) (t : Tag k := .mk) : X := match r with
  | .ok v S => k v S
  | .ex c p S => .ex c p ρ S
  | .bad => .bad
@[simp] theorem toXs_ok (ρ : Rho) (v : List PV) (S : Store) (f : List PV → Store → X) (t : Tag f) : (R.ok v S).toXs ρ f t = f v S := rfl
@[simp] theorem toXs_mif (k : Bool) (A B : R (List PV)) (ρ : Rho) (f : List PV → Store → X) (t : Tag f) : (mif k A B).toXs ρ f t = xif k (A.toXs ρ f) (B.toXs ρ f) := by cases k <;> rfl

/-! ### conditions as Bools -/
def rif {α : Type} (p : Prop) [Decidable p] (A : R α) : R α := if p then A else .bad
theorem rif_pos {α : Type} {p : Prop} [Decidable p] {A : R α} (h : p) : rif p A = A := if_pos h

section
variable (Cl : Nat → List PV → Store → R PV) (P : Pg) (fw : Nat)
def varR (o : Option (Option PV)) (S : Store) : R PV := match o with
  | some (some v) => .ok v S
  | _ => .bad
@[simp] theorem varR_some (v : PV) (S : Store) : varR (some (some v)) S = .ok v S := rfl
@[simp] theorem ev_var (i : Nat) (ρ : Rho) (S : Store) : evE Cl P (.var i) ρ S = varR ρ[i]? S := by simp only [evE]; rfl
@[simp] theorem ev_non (ρ : Rho) (S : Store) : evE Cl P .non ρ S = .ok .non S := by simp only [evE]
@[simp] theorem ev_bl (b : Bool) (ρ : Rho) (S : Store) : evE Cl P (.bl b) ρ S = .ok (.bl b) S := by simp only [evE]
@[simp] theorem ev_int (i : Int) (ρ : Rho) (S : Store) : evE Cl P (.int i) ρ S = .ok (.int i) S := by simp only [evE]
@[simp] theorem ev_str (s : Codes) (ρ : Rho) (S : Store) : evE Cl P (.str s) ρ S = .ok (.str s) S := by simp only [evE]
@[simp] theorem ev_glob (i : Nat) (ρ : Rho) (S : Store) : evE Cl P (.glob i) ρ S = .ok (P.cs i) S := by simp only [evE]
@[simp] theorem ev_bin (op : BOp) (c : Bool) (a b : E) (ρ : Rho) (S : Store) : evE Cl P (.bin op c a b) ρ S = (evE Cl P a ρ S).bnd fun x S1 => (evE Cl P b ρ S1).bnd fun y S2 => binop c op x y S2 := by simp only [evE]; rfl
def negR (x : PV) (S : Store) : R PV := match x with
  | .int i => .ok (.int (-i)) S
  | _ => .bad
@[simp] theorem negR_int (i : Int) (S : Store) : negR (.int i) S = .ok (.int (-i)) S := rfl
@[simp] theorem ev_neg (a : E) (ρ : Rho) (S : Store) : evE Cl P (.neg a) ρ S = (evE Cl P a ρ S).bnd negR := by simp only [evE]; rfl
@[simp] theorem ev_cmp (op : COp) (a b : E) (ρ : Rho) (S : Store) : evE Cl P (.cmp op a b) ρ S = (evE Cl P a ρ S).bnd fun x S1 => (evE Cl P b ρ S1).bnd fun y S2 => opt ((cmpOp P S2 op x y).map .bl) S2 := by simp only [evE]; rfl
@[simp] theorem ev_chain (op op' : COp) (a b c : E) (ρ : Rho) (S : Store) : evE Cl P (.chain op op' a b c) ρ S = (evE Cl P a ρ S).bnd fun x S1 => (evE Cl P b ρ S1).bnd fun y S2 => (opt (cmpOp P S2 op x y) S2).bnd fun k S3 =>
    mif k ((evE Cl P c ρ S3).bnd fun z S4 => opt ((cmpOp P S4 op' y z).map .bl) S4) (.ok (.bl false) S3) := by
  simp only [evE]; rfl
@[simp] theorem ev_din (neg : Bool) (a d : E) (ρ : Rho) (S : Store) : evE Cl P (.din neg a d) ρ S = (evE Cl P a ρ S).bnd fun x S1 => (evE Cl P d ρ S1).bnd fun y S2 => opt ((dinOp S2 x y).map fun b => .bl (if neg then !b else b)) S2 := by simp only [evE]; rfl
@[simp] theorem ev_and (a b : E) (ρ : Rho) (S : Store) : evE Cl P (.and a b) ρ S = (evE Cl P a ρ S).bnd fun x S1 => (opt (tru S1 x) S1).bnd fun k S2 => mif k (evE Cl P b ρ S2) (.ok x S2) := by
  simp only [evE]; rfl
@[simp] theorem ev_or (a b : E) (ρ : Rho) (S : Store) : evE Cl P (.or a b) ρ S = (evE Cl P a ρ S).bnd fun x S1 => (opt (tru S1 x) S1).bnd fun k S2 => mif k (.ok x S2) (evE Cl P b ρ S2) := by
  simp only [evE]; rfl
@[simp] theorem ev_not (a : E) (ρ : Rho) (S : Store) : evE Cl P (.not a) ρ S = (evE Cl P a ρ S).bnd fun x S1 => (opt (tru S1 x) S1).bnd fun k S2 => .ok (.bl (!k)) S2 := by simp only [evE]; rfl
@[simp] theorem ev_ite (c a b : E) (ρ : Rho) (S : Store) : evE Cl P (.ite c a b) ρ S = (evE Cl P c ρ S).bnd fun x S1 => (opt (tru S1 x) S1).bnd fun k S2 => mif k (evE Cl P a ρ S2) (evE Cl P b ρ S2) := by
  simp only [evE]; rfl
@[simp] theorem ev_tup (es : Es) (ρ : Rho) (S : Store) : evE Cl P (.tup es) ρ S = (evEs Cl P es ρ S).bnd fun xs S1 => if xs.length ≤ sizeLine then .ok (.tup xs) S1 else .bad := by simp only [evE]; rfl
@[simp] theorem ev_lst (c : Bool) (es : Es) (ρ : Rho) (S : Store) : evE Cl P (.lst c es) ρ S = (evEs Cl P es ρ S).bnd fun xs S1 => if xs.length ≤ sizeLine then fin c xs S1 else .bad := by simp only [evE]; rfl
@[simp] theorem ev_sub (a i : E) (ρ : Rho) (S : Store) : evE Cl P (.sub a i) ρ S = (evE Cl P a ρ S).bnd fun x S1 => (evE Cl P i ρ S1).bnd fun y S2 => opt (ixOp P S2 x y) S2 := by simp only [evE]; rfl
@[simp] theorem ev_dsub (a i : E) (ρ : Rho) (S : Store) : evE Cl P (.dsub a i) ρ S = (evE Cl P a ρ S).bnd fun x S1 => (evE Cl P i ρ S1).bnd fun y S2 => opt (dixOp S2 x y) S2 := by simp only [evE]; rfl
@[simp] theorem ev_slice (c : Bool) (a : E) (lo hi : Eo) (ρ : Rho) (S : Store) : evE Cl P (.slice c a lo hi) ρ S = (evE Cl P a ρ S).bnd fun x S1 => (evEo Cl P lo ρ S1).bnd fun l S2 => (evEo Cl P hi ρ S2).bnd fun h S3 => slOp c x l h S3 := by simp only [evE]; rfl
@[simp] theorem ev_call (f : Nat) (es : Es) (j : Nat) (ρ : Rho) (S : Store) : evE Cl P (.call f es j) ρ S = (evEs Cl P es ρ S).bnd fun xs S1 => Cl f (xs ++ P.dv f j) S1 := by simp only [evE]; rfl
@[simp] theorem ev_blt (b : Blt) (es : Es) (ρ : Rho) (S : Store) : evE Cl P (.blt b es) ρ S = (evEs Cl P es ρ S).bnd fun xs S1 => bltOp b xs S1 := by simp only [evE]; rfl
@[simp] theorem ev_bltL (b : BltL) (c : Bool) (es : Es) (ρ : Rho) (S : Store) : evE Cl P (.bltL b c es) ρ S = (evEs Cl P es ρ S).bnd fun xs S1 => (opt (bltLOp b xs S1) S1).bnd fun ys S2 => fin c ys S2 := by simp only [evE]; rfl
@[simp] theorem ev_isi (a : E) (t : TyN) (ρ : Rho) (S : Store) : evE Cl P (.isi a t) ρ S = (evE Cl P a ρ S).bnd fun x S1 => opt ((isiOp t x S1).map .bl) S1 := by simp only [evE]; rfl
@[simp] theorem ev_mt (m : Mt) (a : E) (es : Es) (ρ : Rho) (S : Store) : evE Cl P (.mt m a es) ρ S = (evE Cl P a ρ S).bnd fun x S1 => (opt (lstOf S1 x) S1).bnd fun _ S1' => (evEs Cl P es ρ S1').bnd fun xs S2 => mtOp m x xs S2 := by simp only [evE]; rfl
@[simp] theorem ev_comp (c : Bool) (elt : E) (tg : Tg) (it : It) (cond : Eo) (own : List (Str × Nat)) (ρ : Rho) (S : Store) : evE Cl P (.comp c elt tg it cond own) ρ S = (evIt Cl P it ρ S).bnd fun J S1 =>
    (noex (cmpLT J (fun x S2 => (asgT Cl P tg x (wipeR ρ (own.map (·.2))) S2).bnd fun ρ2 S3 => (evCond Cl P cond ρ2 S3).bnd fun k S4 => mif k ((evE Cl P elt ρ2 S4).bnd fun y S5 => .ok (some y) S5) (.ok none S4)) J.xs S1)).bnd fun ys S6 => if ys.length ≤ sizeLine then fin c ys S6 else .bad := by
  simp only [evE]; rfl
@[simp] theorem es_nil (ρ : Rho) (S : Store) : evEs Cl P .nil ρ S = .ok [] S := by simp only [evEs]
@[simp] theorem es_cons (e : E) (r : Es) (ρ : Rho) (S : Store) : evEs Cl P (.cons e r) ρ S = (evE Cl P e ρ S).bnd fun x S1 => (evEs Cl P r ρ S1).bnd fun xs S2 => .ok (x :: xs) S2 := by simp only [evEs]; rfl
@[simp] theorem es_star (e : E) (r : Es) (ρ : Rho) (S : Store) : evEs Cl P (.star e r) ρ S = (evE Cl P e ρ S).bnd fun x S1 => (opt (seqOf S1 x) S1).bnd fun ys S2 => (evEs Cl P r ρ S2).bnd fun xs S3 => .ok (ys ++ xs) S3 := by simp only [evEs]; rfl
def intR (x : PV) (S : Store) : R (Option Int) := match x with
  | .int i => .ok (some i) S
  | _ => .bad
@[simp] theorem intR_int (i : Int) (S : Store) : intR (.int i) S = .ok (some i) S := rfl
@[simp] theorem eo_none (ρ : Rho) (S : Store) : evEo Cl P .none ρ S = .ok none S := by simp only [evEo]
@[simp] theorem eo_some (e : E) (ρ : Rho) (S : Store) : evEo Cl P (.some e) ρ S = (evE Cl P e ρ S).bnd intR := by simp only [evEo]; rfl
@[simp] theorem cd_none (ρ : Rho) (S : Store) : evCond Cl P .none ρ S = .ok true S := by simp only [evCond] <;> rfl
@[simp] theorem cd_some (e : E) (ρ : Rho) (S : Store) : evCond Cl P (.some e) ρ S = (evE Cl P e ρ S).bnd fun x S1 => opt (tru S1 x) S1 := by simp only [evCond] <;> rfl
@[simp] theorem ag_name (i : Nat) (v : PV) (ρ : Rho) (S : Store) (h : i < ρ.length) : asgT Cl P (.name i) v ρ S = .ok (ρ.set i (some v)) S := by simp only [asgT, if_pos h]
@[simp] theorem ag_tup (ts : Tgs) (xs : List PV) (ρ : Rho) (S : Store) : asgT Cl P (.tup ts) (.tup xs) ρ S = asgTs Cl P ts xs ρ S := by simp only [asgT] <;> rfl
@[simp] theorem ag_sub (o i : E) (v : PV) (ρ : Rho) (S : Store) : asgT Cl P (.sub o i) v ρ S = (noex (evE Cl P o ρ S)).bnd fun x S1 => (noex (evE Cl P i ρ S1)).bnd fun y S2 => (setOp x y v S2).bnd fun _ S3 => .ok ρ S3 := by simp only [asgT] <;> rfl
@[simp] theorem ags_nil (ρ : Rho) (S : Store) : asgTs Cl P .nil [] ρ S = .ok ρ S := by simp only [asgTs] <;> rfl
@[simp] theorem ags_cons (t : Tg) (r : Tgs) (v : PV) (vs : List PV) (ρ : Rho) (S : Store) : asgTs Cl P (.cons t r) (v :: vs) ρ S = (asgT Cl P t v ρ S).bnd fun ρ1 S1 => asgTs Cl P r vs ρ1 S1 := by simp only [asgTs] <;> rfl
@[simp] theorem it_seq (e : E) (ρ : Rho) (S : Store) : evIt Cl P (.seq e) ρ S = (evE Cl P e ρ S).bnd fun x S1 => opt (itsOf S1 x) S1 := by simp only [evIt] <;> rfl
def rngR (x : PV) (S : Store) : R Its := match x with
  | .int j => if -(2 ^ 62) ≤ j ∧ j < 2 ^ 62 then .ok ⟨(List.range j.toNat).map fun k => .int ((k : Nat) : Int), []⟩ S else .bad
  | _ => .bad
@[simp] theorem rngR_int (j : Int) (S : Store) : rngR (.int j) S = if -(2 ^ 62) ≤ j ∧ j < 2 ^ 62 then .ok ⟨(List.range j.toNat).map fun k => .int ((k : Nat) : Int), []⟩ S else .bad := rfl
@[simp] theorem it_rng1 (e : E) (ρ : Rho) (S : Store) : evIt Cl P (.rng1 e) ρ S = (evE Cl P e ρ S).bnd rngR := by simp only [evIt]; rfl
def rng2R (x y : PV) (S2 : Store) : R Its := match x, y with
    | .int i, .int j => if (-(2 ^ 62) ≤ i ∧ i < 2 ^ 62) ∧ -(2 ^ 62) ≤ j ∧ j < 2 ^ 62 then .ok ⟨(List.range (j - i).toNat).map fun k => .int (i + (k : Nat)), []⟩ S2 else .bad
    | _, _ => .bad
@[simp] theorem rng2R_int (i j : Int) (S : Store) : rng2R (.int i) (.int j) S = if (-(2 ^ 62) ≤ i ∧ i < 2 ^ 62) ∧ -(2 ^ 62) ≤ j ∧ j < 2 ^ 62 then .ok ⟨(List.range (j - i).toNat).map fun k => .int (i + (k : Nat)), []⟩ S else .bad := rfl
@[simp] theorem it_rng2 (a b : E) (ρ : Rho) (S : Store) : evIt Cl P (.rng2 a b) ρ S = (evE Cl P a ρ S).bnd fun x S1 => (evE Cl P b ρ S1).bnd fun y S2 => rng2R x y S2 := by simp only [evIt]; rfl
@[simp] theorem it_enum (e : E) (ρ : Rho) (S : Store) : evIt Cl P (.enum e) ρ S = (evE Cl P e ρ S).bnd fun x S1 => (opt (itsSq S1 x) S1).bnd fun J S2 => .ok ⟨(List.range J.xs.length).zipWith (fun k v => .tup [.int ((k : Nat) : Int), v]) J.xs, J.g⟩ S2 := by simp only [evIt] <;> rfl
def zipR (x y : PV) (S2 : Store) : R Its := match itsSq S2 x, itsSq S2 y with
    | some J, some J' => if tupK x = tupK y then .ok ⟨J.xs.zipWith (fun u v => .tup [u, v]) J'.xs, J.g ++ J'.g⟩ S2 else .bad
    | _, _ => .bad
@[simp] theorem it_zip (a b : E) (ρ : Rho) (S : Store) : evIt Cl P (.zip a b) ρ S = (evE Cl P a ρ S).bnd fun x S1 => (evE Cl P b ρ S1).bnd fun y S2 => zipR x y S2 := by simp only [evIt]; rfl
@[simp] theorem ev_T (e : E) (ρ : Rho) (S : Store) : evT Cl P e ρ S = (evE Cl P e ρ S).bnd fun x S1 => opt (tru S1 x) S1 := rfl

@[simp] theorem ex_asg (t : Tg) (e : E) (ρ : Rho) (S : Store) : exC Cl P fw (.asg t e) ρ S = (evE Cl P e ρ S).toXv ρ fun v S1 => (asgT Cl P t v ρ S1).toXr := by
  simp only [exC]; congr
def parX (is : List Nat) (vs : List PV) (ρ : Rho) (S : Store) : X := match setAll ρ is vs with
  | some ρ' => .next ρ' S
  | none => .bad
@[simp] theorem parX_2 (i j : Nat) (u v : PV) (ρ : Rho) (S : Store) (hi : i < ρ.length) (hj : j < ρ.length) : parX [i, j] [u, v] ρ S = .next ((ρ.set i (some u)).set j (some v)) S := by
  simp [parX, setAll, hi, hj]
@[simp] theorem parX_3 (i j l : Nat) (u v t : PV) (ρ : Rho) (S : Store) (hi : i < ρ.length) (hj : j < ρ.length) (hl : l < ρ.length) : parX [i, j, l] [u, v, t] ρ S = .next (((ρ.set i (some u)).set j (some v)).set l (some t)) S := by
  simp [parX, setAll, hi, hj, hl]
@[simp] theorem ex_par (is : List Nat) (es : Es) (ρ : Rho) (S : Store) : exC Cl P fw (.par is es) ρ S = (evEs Cl P es ρ S).toXs ρ fun vs S1 => parX is vs ρ S1 := by
  simp only [exC]
  cases evEs Cl P es ρ S <;> rfl
def augX (op : BOp) (i : Nat) (x y : PV) (ρ : Rho) (S : Store) : X := match augOp op x y with
  | some z => .next (ρ.set i (some z)) S
  | none => .bad
@[simp] theorem augX_add (i : Nat) (a b : Int) (ρ : Rho) (S : Store) : augX .add i (.int a) (.int b) ρ S = .next (ρ.set i (some (.int (a + b)))) S := rfl
@[simp] theorem augX_sub (i : Nat) (a b : Int) (ρ : Rho) (S : Store) : augX .sub i (.int a) (.int b) ρ S = .next (ρ.set i (some (.int (a - b)))) S := rfl
def augV (o : Option (Option PV)) (f : PV → X) (t : Tag f := .mk) : X := match o with
  | some (some x) => f x
  | _ => .bad
@[simp] theorem augV_some (v : PV) (f : PV → X) (t : Tag f) : augV (some (some v)) f t = f v := rfl
@[simp] theorem ex_aug (op : BOp) (i : Nat) (e : E) (ρ : Rho) (S : Store) : exC Cl P fw (.aug op i e) ρ S = augV ρ[i]? fun x => (evE Cl P e ρ S).toXv ρ fun y S1 => augX op i x y ρ S1 := by
  simp only [exC]; rfl
@[simp] theorem ex_expr (e : E) (ρ : Rho) (S : Store) : exC Cl P fw (.expr e) ρ S = (evE Cl P e ρ S).toXv ρ fun _ S1 => .next ρ S1 := by simp only [exC] <;> rfl
@[simp] theorem ex_ret (e : E) (ρ : Rho) (S : Store) : exC Cl P fw (.ret e) ρ S = (evE Cl P e ρ S).toXv ρ fun v S1 => .ret v S1 := by simp only [exC] <;> rfl
@[simp] theorem ex_retN (ρ : Rho) (S : Store) : exC Cl P fw .retN ρ S = .ret .non S := by simp only [exC] <;> rfl
@[simp] theorem ex_ifs (c : E) (a b : B) (ρ : Rho) (S : Store) : exC Cl P fw (.ifs c a b) ρ S = ((evE Cl P c ρ S).bnd fun x S1 => opt (tru S1 x) S1).toXb ρ fun k S1 => xif k (exB Cl P fw a ρ S1) (exB Cl P fw b ρ S1) := by
  simp only [exC, evT]
  show _ = R.toXb ρ ((evE Cl P c ρ S).bind fun x S1 => opt (tru S1 x) S1) fun k S1 => xif k (exB Cl P fw a ρ S1) (exB Cl P fw b ρ S1)
  generalize ((evE Cl P c ρ S).bind fun x S1 => opt (tru S1 x) S1) = r
  cases r with
  | ok k S1 => cases k <;> rfl
  | ex => rfl
  | bad => rfl
@[simp] theorem ex_whl (c : E) (b : B) (ρ : Rho) (S : Store) : exC Cl P fw (.whl c b) ρ S = whlL (fun ρ S => evT Cl P c ρ S) (fun ρ S => exB Cl P fw b ρ S) fw ρ S := by simp only [exC] <;> rfl
@[simp] theorem ex_for (t : Tg) (it : It) (b : B) (ρ : Rho) (S : Store) : exC Cl P fw (.for_ t it b) ρ S = (evIt Cl P it ρ S).toXi ρ fun J S1 => forLT J (fun x ρ S => (asgT Cl P t x ρ S).toXr.andThen fun ρ' S2 => exB Cl P fw b ρ' S2) J.xs ρ S1 := by
  simp only [exC]
  cases evIt Cl P it ρ S with
  | ok J S1 =>
    show forL J _ J.xs ρ S1 = forL J _ J.xs ρ S1
    congr
    funext x ρ S
    cases asgT Cl P t x ρ S <;> rfl
  | ex => rfl
  | bad => rfl
@[simp] theorem ex_pass (ρ : Rho) (S : Store) : exC Cl P fw .pass ρ S = .next ρ S := by simp only [exC] <;> rfl
@[simp] theorem ex_brk (ρ : Rho) (S : Store) : exC Cl P fw .brk ρ S = .brk ρ S := by simp only [exC] <;> rfl
@[simp] theorem ex_cont (ρ : Rho) (S : Store) : exC Cl P fw .cont ρ S = .cont ρ S := by simp only [exC] <;> rfl
@[simp] theorem ex_never (ρ : Rho) (S : Store) : exC Cl P fw .never ρ S = .bad := by simp only [exC] <;> rfl
@[simp] theorem ex_nil (ρ : Rho) (S : Store) : exB Cl P fw .nil ρ S = .next ρ S := by simp only [exB]
@[simp] theorem ex_cons (c : C) (r : B) (ρ : Rho) (S : Store) : exB Cl P fw (.cons c r) ρ S = (exC Cl P fw c ρ S).andThen fun ρ' S' => exB Cl P fw r ρ' S' := by
  simp only [exB]
  cases exC Cl P fw c ρ S <;> rfl
end

theorem cal_of {P : Pg} {fw n f : Nat} {d : FnD} (h : P.fn f = some d) {args : List PV} (hl : args.length = d.np) (S : Store) : cal P fw (n + 1) f args S = (exB (cal P fw n) P fw d.body (args.map some ++ List.replicate (d.nl - d.np) none) S).toR := by
  simp only [cal, h, if_pos hl]
end Ev

/-! Part X: what holds of a result; loops; lists of ints. -/
namespace Ev
open PySem L2

/-- the result is a value, and Q holds of it -/
def ok {α : Type} (r : R α) (Q : α → Store → Prop) (t : Tag Q := .mk) : Prop := match r with
  | .ok a S => Q a S
  | _ => False
@[simp] theorem ok_ok {α : Type} (a : α) (S : Store) (Q : α → Store → Prop) (t : Tag Q) : ok (R.ok a S) Q t = Q a S := rfl
@[simp] theorem ok_bind {α β : Type} (r : R α) (f : α → Store → R β) (u : Tag f) (Q : β → Store → Prop) (t : Tag Q) : ok (r.bnd f u) Q t = ok r fun a S => ok (f a S) Q := by cases r <;> rfl
theorem ok_bindR {α β : Type} (r : R α) (f : α → Store → R β) (Q : β → Store → Prop) (t : Tag Q) : ok (r.bind f) Q t = ok r fun a S => ok (f a S) Q := by cases r <;> rfl
@[simp] theorem ok_noex {α : Type} (r : R α) (Q : α → Store → Prop) (t : Tag Q) : ok (noex r) Q t = ok r Q := by cases r <;> rfl
theorem ok_mif {α : Type} (k : Bool) (A B : R α) (Q : α → Store → Prop) (t : Tag Q) : ok (mif k A B) Q t = ((k = true → ok A Q) ∧ (k = false → ok B Q)) := by cases k <;> simp
theorem ok.mono {α : Type} {r : R α} {Q Q' : α → Store → Prop} (h : ok r Q) (i : ∀ a S, Q a S → Q' a S) : ok r Q' := by
  cases r <;> first | exact i _ _ h | exact h
theorem ok.get {α : Type} {r : R α} {Q : α → Store → Prop} (h : ok r Q) : ∃ a S, r = .ok a S ∧ Q a S := by
  cases r with
  | ok a S => exact ⟨a, S, rfl, h⟩
  | ex => exact h.elim
  | bad => exact h.elim
theorem ok.eq {α : Type} {r : R α} {a : α} {S : Store} (h : ok r fun b T => b = a ∧ T = S) : r = .ok a S := by
  obtain ⟨b, T, e, rfl, rfl⟩ := h.get
  exact e
/-- so of a statement's: what holds where it goes on, returns, breaks, continues -/
def okX (x : X) (N : Rho → Store → Prop) (T : PV → Store → Prop) (Bk : Rho → Store → Prop) (Ct : Rho → Store → Prop) (t : Tag (N, T, Bk, Ct) := .mk) : Prop := match x with
  | .next ρ S => N ρ S
  | .ret v S => T v S
  | .brk ρ S => Bk ρ S
  | .cont ρ S => Ct ρ S
  | _ => False
section
variable {N : Rho → Store → Prop} {T : PV → Store → Prop} {Bk Ct : Rho → Store → Prop} (t : Tag (N, T, Bk, Ct))
@[simp] theorem okX_next (ρ : Rho) (S : Store) : okX (.next ρ S) N T Bk Ct t = N ρ S := rfl
@[simp] theorem okX_ret (v : PV) (S : Store) : okX (.ret v S) N T Bk Ct t = T v S := rfl
@[simp] theorem okX_brk (ρ : Rho) (S : Store) : okX (.brk ρ S) N T Bk Ct t = Bk ρ S := rfl
@[simp] theorem okX_cont (ρ : Rho) (S : Store) : okX (.cont ρ S) N T Bk Ct t = Ct ρ S := rfl
@[simp] theorem okX_at (x : X) (f : Rho → Store → X) (u : Tag f) : okX (x.andThen f u) N T Bk Ct t = okX x (fun ρ S => okX (f ρ S) N T Bk Ct) T Bk Ct := by cases x <;> rfl
theorem okX_xif (k : Bool) (A B : X) : okX (xif k A B) N T Bk Ct t = ((k = true → okX A N T Bk Ct) ∧ (k = false → okX B N T Bk Ct)) := by cases k <;> simp
@[simp] theorem okX_toX (r : R PV) (ρ : Rho) (f : PV → Store → X) (u : Tag f) : okX (r.toXv ρ f u) N T Bk Ct t = ok r fun v S => okX (f v S) N T Bk Ct := by cases r <;> rfl
@[simp] theorem okX_toXb (r : R Bool) (ρ : Rho) (f : Bool → Store → X) (u : Tag f) : okX (r.toXb ρ f u) N T Bk Ct t = ok r fun v S => okX (f v S) N T Bk Ct := by cases r <;> rfl
@[simp] theorem okX_toXi (r : R Its) (ρ : Rho) (f : Its → Store → X) (u : Tag f) : okX (r.toXi ρ f u) N T Bk Ct t = ok r fun v S => okX (f v S) N T Bk Ct := by cases r <;> rfl
@[simp] theorem okX_toXs (r : R (List PV)) (ρ : Rho) (f : List PV → Store → X) (u : Tag f) : okX (r.toXs ρ f u) N T Bk Ct t = ok r fun v S => okX (f v S) N T Bk Ct := by cases r <;> rfl
@[simp] theorem okX_toXr (r : R Rho) : okX r.toXr N T Bk Ct t = ok r N := by cases r <;> rfl
theorem okX.mono {x : X} {N' T' Bk' Ct'} (h : okX x N T Bk Ct) (h1 : ∀ ρ S, N ρ S → N' ρ S) (h2 : ∀ ρ S, T ρ S → T' ρ S) (h3 : ∀ ρ S, Bk ρ S → Bk' ρ S) (h4 : ∀ ρ S, Ct ρ S → Ct' ρ S) : okX x N' T' Bk' Ct' := by
  cases x <;> first | exact h1 _ _ h | exact h2 _ _ h | exact h3 _ _ h | exact h4 _ _ h | exact h
end
@[simp] theorem ok_toR (x : X) (Q : PV → Store → Prop) (t : Tag Q) : ok x.toR Q t = okX x (fun _ S => Q .non S) Q (fun _ _ => False) (fun _ _ => False) := by cases x <;> rfl
theorem ok_opt {α : Type} (o : Option α) (S : Store) (Q : α → Store → Prop) (t : Tag Q) : ok (opt o S) Q t = ∃ a, o = some a ∧ Q a S := by
  cases o <;> simp [opt, ok]
theorem cal_ok {P : Pg} {fw n f : Nat} {d : FnD} (h : P.fn f = some d) {args : List PV} (hl : args.length = d.np) {S : Store} {Q : PV → Store → Prop}
    (q : okX (exB (cal P fw n) P fw d.body (args.map some ++ List.replicate (d.nl - d.np) none) S) (fun _ S => Q .non S) Q (fun _ _ => False) (fun _ _ => False)) : ok (cal P fw (n + 1) f args S) Q := by
  rw [cal_of h hl, ok_toR]; exact q

/-! ### loops -/
theorem forL_ok {J : Its} {f : PV → Rho → Store → X} {T : PV → Store → Prop} {Bk Ct : Rho → Store → Prop} {N : Rho → Store → Prop} (Inv : List PV → Rho → Store → Prop)
    (hJ : ∀ r ρ S, Inv r ρ S → J.ok S) (fin : ∀ ρ S, Inv [] ρ S → N ρ S)
    (step : ∀ x r ρ S, Inv (x :: r) ρ S → okX (f x ρ S) (Inv r) T N (Inv r)) : ∀ (xs : List PV) (ρ : Rho) (S : Store), Inv xs ρ S → okX (forL J f xs ρ S) N T Bk Ct
  | [], ρ, S, h => by
    rw [forL, if_pos (hJ _ _ _ h)]
    exact fin _ _ h
  | x :: xs, ρ, S, h => by
    rw [forL, if_pos (hJ _ _ _ h)]
    have q := step _ _ _ _ h
    generalize f x ρ S = r at q
    cases r with
    | next ρ' S' => exact forL_ok Inv hJ fin step xs ρ' S' q
    | cont ρ' S' => exact forL_ok Inv hJ fin step xs ρ' S' q
    | brk ρ' S' => exact q
    | ret v S' => exact q
    | ex c p ρ S => exact q
    | bad => exact q
theorem cmpL_ok {J : Its} {f : PV → Store → R (Option PV)} {Q : List PV → Store → Prop} (Inv : List PV → List PV → Store → Prop)
    (hJ : ∀ r o S, Inv r o S → J.ok S) (fin : ∀ o S, Inv [] o S → Q o S)
    (step : ∀ x r o S, Inv (x :: r) o S → ok (f x S) fun y S' => Inv r (o ++ y.toList) S') (xs : List PV) (S : Store) (h : Inv xs [] S) : ok (cmpL J f xs S) Q := by
  have gen : ∀ (xs o : List PV) (S : Store), Inv xs o S → ok (cmpL J f xs S) fun ys S' => Q (o ++ ys) S' := by
    intro xs
    induction xs with
    | nil =>
      intro o S h
      rw [cmpL, if_pos (hJ _ _ _ h)]
      show Q (o ++ []) S
      rw [List.append_nil]
      exact fin _ _ h
    | cons x xs ih =>
      intro o S h
      rw [cmpL, if_pos (hJ _ _ _ h), ok_bindR]
      refine (step _ _ _ _ h).mono fun y S1 h1 => ?_
      rw [ok_bindR]
      refine (ih _ _ h1).mono fun ys S2 h2 => ?_
      show Q (o ++ (y.toList ++ ys)) S2
      rw [← List.append_assoc]
      exact h2
  exact (gen xs [] S h).mono fun ys S' q => q
theorem forL_okM {α : Type} {J : Its} {f : PV → Rho → Store → X} {T : PV → Store → Prop} {Bk Ct : Rho → Store → Prop} {N : Rho → Store → Prop} (h : α → PV) (Inv : List α → Rho → Store → Prop)
    (hJ : ∀ r ρ S, Inv r ρ S → J.ok S) (fin : ∀ ρ S, Inv [] ρ S → N ρ S)
    (step : ∀ x r ρ S, Inv (x :: r) ρ S → okX (f (h x) ρ S) (Inv r) T N (Inv r)) (xs : List α) (ρ : Rho) (S : Store) (i : Inv xs ρ S) : okX (forL J f (xs.map h) ρ S) N T Bk Ct := by
  refine forL_ok (fun r ρ S => ∃ ys, r = ys.map h ∧ Inv ys ρ S) (fun r ρ S ⟨ys, _, i⟩ => hJ ys ρ S i) ?_ ?_ _ _ _ ⟨xs, rfl, i⟩
  · rintro ρ S ⟨ys, e, i⟩
    cases ys with
    | nil => exact fin _ _ i
    | cons y ys => cases e
  · rintro x r ρ S ⟨ys, e, i⟩
    cases ys with
    | nil => cases e
    | cons y ys =>
      cases e
      exact (step _ _ _ _ i).mono (fun _ _ q => ⟨_, rfl, q⟩) (fun _ _ q => q) (fun _ _ q => q) fun _ _ q => ⟨_, rfl, q⟩
theorem forT_ok {J : Its} {f : PV → Rho → Store → X} {u : Tag f} {T : PV → Store → Prop} {Bk Ct : Rho → Store → Prop} {N : Rho → Store → Prop} {t : Tag (N, T, Bk, Ct)} (Inv : List PV → Rho → Store → Prop)
    (hJ : ∀ r ρ S, Inv r ρ S → J.ok S) (fin : ∀ ρ S, Inv [] ρ S → N ρ S)
    (step : ∀ x r ρ S, Inv (x :: r) ρ S → okX (f x ρ S) (Inv r) T N (Inv r)) (xs : List PV) (ρ : Rho) (S : Store) (i : Inv xs ρ S) : okX (forLT J f xs ρ S u) N T Bk Ct t := forL_ok Inv hJ fin step xs ρ S i
theorem forT_okM {α : Type} {J : Its} {f : PV → Rho → Store → X} {u : Tag f} {T : PV → Store → Prop} {Bk Ct : Rho → Store → Prop} {N : Rho → Store → Prop} {t : Tag (N, T, Bk, Ct)} (h : α → PV) (Inv : List α → Rho → Store → Prop)
    (hJ : ∀ r ρ S, Inv r ρ S → J.ok S) (fin : ∀ ρ S, Inv [] ρ S → N ρ S)
    (step : ∀ x r ρ S, Inv (x :: r) ρ S → okX (f (h x) ρ S) (Inv r) T N (Inv r)) (xs : List α) (ρ : Rho) (S : Store) (i : Inv xs ρ S) : okX (forLT J f (xs.map h) ρ S u) N T Bk Ct t := forL_okM h Inv hJ fin step xs ρ S i
theorem cmpT_ok {J : Its} {f : PV → Store → R (Option PV)} {u : Tag f} {Q : List PV → Store → Prop} {t : Tag Q} (Inv : List PV → List PV → Store → Prop)
    (hJ : ∀ r o S, Inv r o S → J.ok S) (fin : ∀ o S, Inv [] o S → Q o S)
    (step : ∀ x r o S, Inv (x :: r) o S → ok (f x S) fun y S' => Inv r (o ++ y.toList) S') (xs : List PV) (S : Store) (h : Inv xs [] S) : ok (cmpLT J f xs S u) Q t := cmpL_ok Inv hJ fin step xs S h
theorem whlL_ok {c : Rho → Store → R Bool} {f : Rho → Store → X} {N : Rho → Store → Prop} {T : PV → Store → Prop} {Bk Ct : Rho → Store → Prop} (Inv : Nat → Rho → Store → Prop)
    (step : ∀ m ρ S, Inv m ρ S → ok (c ρ S) fun k S1 => if k = true then okX (f ρ S1) (fun ρ' S' => ∃ m' < m, Inv m' ρ' S') T N (fun ρ' S' => ∃ m' < m, Inv m' ρ' S') else N ρ S1) :
    ∀ (n m : Nat) (ρ : Rho) (S : Store), m < n → Inv m ρ S → okX (whlL c f n ρ S) N T Bk Ct
  | 0, m, ρ, S, hm, h => by omega
  | n + 1, m, ρ, S, hm, h => by
    rw [whlL]
    obtain ⟨k, S1, e, q⟩ := (step _ _ _ h).get
    rw [e]
    cases k with
    | false => exact q
    | true =>
      rw [if_pos rfl] at q
      show okX (match f ρ S1 with
      | .next ρ' S' => whlL c f n ρ' S'
      | .cont ρ' S' => whlL c f n ρ' S'
      | .brk ρ' S' => .next ρ' S'
      | r => r) N T Bk Ct
      generalize f ρ S1 = r at q ⊢
      cases r with
      | next ρ' S' => obtain ⟨m', l, i⟩ := q; exact whlL_ok Inv step n m' ρ' S' (by omega) i
      | cont ρ' S' => obtain ⟨m', l, i⟩ := q; exact whlL_ok Inv step n m' ρ' S' (by omega) i
      | brk ρ' S' => exact q
      | ret v S' => exact q
      | ex c p ρ S => exact q
      | bad => exact q

/-! ### comprehensions over a list of a kind -/
open Classical in
noncomputable def cmpM {α : Type} (J : Its) (f : α → Store → R (Option PV)) : List α → Store → R (List PV)
  | [], S => if J.ok S then .ok [] S else .bad
  | x :: xs, S => if J.ok S then (f x S).bind fun o S1 => (cmpM J f xs S1).bind fun ys S2 => .ok (o.toList ++ ys) S2 else .bad
theorem cmpT_map {α : Type} (J : Its) (f : PV → Store → R (Option PV)) (u : Tag f) (h : α → PV) (xs : List α) (S : Store) : cmpLT J f (xs.map h) S u = cmpM J (fun a => f (h a)) xs S := by
  show cmpL J f (xs.map h) S = _
  induction xs generalizing S with
  | nil => rfl
  | cons x xs ih => simp only [List.map_cons, cmpL, cmpM, ih]
theorem cmpM_all {α : Type} {J : Its} {f : α → Store → R (Option PV)} {g : α → Option PV} {xs : List α} {S : Store} (hJ : J.ok S) (h : ∀ x ∈ xs, f x S = .ok (g x) S) : cmpM J f xs S = .ok (xs.filterMap g) S := by
  induction xs with
  | nil => simp [cmpM, hJ]
  | cons x xs ih =>
    rw [cmpM, if_pos hJ, h x (List.mem_cons_self), R.bind_ok, ih fun y hy => h y (List.mem_cons_of_mem _ hy), R.bind_ok, List.filterMap_cons]
    cases g x <;> rfl
theorem cmpM_some {α : Type} {J : Its} {f : α → Store → R (Option PV)} {g : α → PV} {xs : List α} {S : Store} (hJ : J.ok S) (h : ∀ x ∈ xs, f x S = .ok (some (g x)) S) : cmpM J f xs S = .ok (xs.map g) S := by
  rw [cmpM_all (g := fun x => some (g x)) hJ h, List.filterMap_eq_map']
@[simp] theorem cmpM_pure {α : Type} (xs : List α) (zs : List PV) (g : α → PV) (S : Store) : cmpM ⟨zs, []⟩ (fun a S => .ok (some (g a)) S) xs S = .ok (xs.map g) S := cmpM_some (Its.ok_nil _ _ ▸ trivial) fun _ _ => rfl
@[simp] theorem cmpM_filter {α : Type} (xs : List α) (zs : List PV) (p : α → Bool) (g : α → PV) (S : Store) : cmpM ⟨zs, []⟩ (fun a S => mif (p a) (.ok (some (g a)) S) (.ok none S)) xs S = .ok ((xs.filter p).map g) S := by
  rw [cmpM_all (g := fun x => if p x = true then some (g x) else none) (Its.ok_nil _ _ ▸ trivial) fun x _ => by cases p x <;> rfl]
  congr
  induction xs with
  | nil => rfl
  | cons x xs ih =>
    rw [List.filterMap_cons, List.filter_cons]
    cases p x <;> simp [ih]

@[simp] theorem wipeR_nil (ρ : Rho) : wipeR ρ [] = ρ := rfl
@[simp] theorem wipeR_cons (ρ : Rho) (v : Nat) (vs : List Nat) : wipeR ρ (v :: vs) = (wipeR ρ vs).set v none := rfl
theorem cut_len {α : Type} (xs : List α) (lo hi : Option Int) : (cut xs lo hi).length ≤ xs.length := by
  unfold cut
  rw [List.length_take, List.length_drop]
  omega
theorem cut_lenB {α : Type} {xs : List α} {n : Nat} (h : xs.length ≤ n) (lo hi : Option Int) : (cut xs lo hi).length ≤ n := Nat.le_trans (cut_len _ _ _) h
/-! ### words on values -/
def isN (x : PV) : Bool := match x with
  | .non => true
  | _ => false
@[simp] theorem isN_non : isN .non = true := rfl
@[simp] theorem isN_int (i : Int) : isN (.int i) = false := rfl
@[simp] theorem isN_bl (i : Bool) : isN (.bl i) = false := rfl
@[simp] theorem isN_str (i : Codes) : isN (.str i) = false := rfl
@[simp] theorem isN_tup (i : List PV) : isN (.tup i) = false := rfl
@[simp] theorem isN_lv (i : List PV) : isN (.lv i) = false := rfl
@[simp] theorem isN_ref (i : Nat) : isN (.ref i) = false := rfl
section
variable (S : Store) (P : Pg) (c : Bool)
@[simp] theorem its_tup (xs : List PV) : itsOf S (.tup xs) = some ⟨xs, []⟩ := rfl
@[simp] theorem its_lv (xs : List PV) : itsOf S (.lv xs) = some ⟨xs, []⟩ := rfl
@[simp] theorem its_fz (ns : List Int) : itsOf S (.fz ns) = some ⟨ns.map .int, []⟩ := rfl
@[simp] theorem itq_tup (xs : List PV) : itsSq S (.tup xs) = some ⟨xs, []⟩ := rfl
@[simp] theorem itq_lv (xs : List PV) : itsSq S (.lv xs) = some ⟨xs, []⟩ := rfl
def cellL (o : Option Cell) : Option (List PV) := match o with
  | some (.lst xs) => some xs
  | _ => none
@[simp] theorem cellL_lst (xs : List PV) : cellL (some (.lst xs)) = some xs := rfl
def lenC (o : Option Cell) : Option Int := match o with
  | some (.lst xs) => some xs.length
  | some (.dct kvs) => some kvs.length
  | _ => none
@[simp] theorem lenC_lst (xs : List PV) : lenC (some (.lst xs)) = some (xs.length : Int) := rfl
@[simp] theorem lenC_dct (xs : List (Sum Int Codes × PV)) : lenC (some (.dct xs)) = some (xs.length : Int) := rfl
def isiC (t : TyN) (o : Option Cell) : Option Bool := match o with
  | some (.lst _) => some (match t with | .list => true | _ => false)
  | some (.dct _) => some (match t with | .dict => true | _ => false)
  | _ => none
@[simp] theorem isiC_lst (t : TyN) (xs : List PV) : isiC t (some (.lst xs)) = some (match t with | .list => true | _ => false) := rfl
def truC (o : Option Cell) : Option Bool := match o with
    | some (.lst xs) => some (!xs.isEmpty)
    | some (.dct kvs) => some (!kvs.isEmpty)
    | _ => none
@[simp] theorem truC_lst (xs : List PV) : truC (some (.lst xs)) = some (!xs.isEmpty) := rfl
@[simp] theorem tru_ref (n : Nat) : tru S (.ref n) = truC S[n]? := rfl
@[simp] theorem ls_refG (n : Nat) : lstOf S (.ref n) = cellL S[n]? := rfl
@[simp] theorem sq_refG (n : Nat) : seqOf S (.ref n) = cellL S[n]? := rfl
@[simp] theorem ix_refG (n : Nat) (i : Int) : ixOp P S (.ref n) (.int i) = (cellL S[n]?).bind fun xs => atI xs i := by
  simp only [ixOp, sq_refG]; cases cellL S[n]? <;> rfl
@[simp] theorem sl_refG (n : Nat) (lo hi : Option Int) : slOp c (.ref n) lo hi S = (opt (cellL S[n]?) S).bnd fun xs S => fin c (cut xs lo hi) S := by
  simp only [slOp, sq_refG]; cases cellL S[n]? <;> rfl
@[simp] theorem its_refG (n : Nat) : itsOf S (.ref n) = (cellL S[n]?).map fun xs => ⟨xs, [(n, xs)]⟩ := by
  simp only [itsOf, itsSq, cellL]; generalize S[n]? = o; cases o with | none => rfl | some c => cases c <;> rfl
@[simp] theorem itq_refG (n : Nat) : itsSq S (.ref n) = (cellL S[n]?).map fun xs => ⟨xs, [(n, xs)]⟩ := by
  simp only [itsSq, cellL]; generalize S[n]? = o; cases o with | none => rfl | some c => cases c <;> rfl
@[simp] theorem ln_refG (n : Nat) : lenOf S (.ref n) = lenC S[n]? := by
  simp only [lenOf, lenC] <;> (generalize S[n]? = o; cases o with | none => rfl | some c => cases c <;> rfl)
@[simp] theorem isi_refG (t : TyN) (n : Nat) : isiOp t (.ref n) S = isiC t S[n]? := by
  cases t <;> simp only [isiOp, isiC] <;> (generalize S[n]? = o; cases o with | none => rfl | some c => cases c <;> rfl)
def setC (o : Option Cell) (n : Nat) (i v : PV) (S : Store) : R Unit := match o with
  | some (.lst xs) => match i with
      | .int i => (opt (ixN xs.length i) S).bnd fun j S => .ok () (S.set n (.lst (xs.set j v)))
      | _ => .bad
  | some (.dct kvs) => (opt (keyOf i) S).bnd fun k S => if kvs.length < sizeLine then .ok () (S.set n (.dct (dput kvs k v))) else .bad
  | _ => .bad
@[simp] theorem setC_lst (xs : List PV) (n : Nat) (i : Int) (v : PV) : setC (some (.lst xs)) n (.int i) v S = (opt (ixN xs.length i) S).bnd fun j S => .ok () (S.set n (.lst (xs.set j v))) := rfl
@[simp] theorem setC_dct (kvs : List (Sum Int Codes × PV)) (n : Nat) (i v : PV) : setC (some (.dct kvs)) n i v S = (opt (keyOf i) S).bnd fun k S => if kvs.length < sizeLine then .ok () (S.set n (.dct (dput kvs k v))) else .bad := rfl
@[simp] theorem st_refG (n : Nat) (i v : PV) : setOp (.ref n) i v S = setC S[n]? n i v S := by
  simp only [setOp, setC]
  cases S[n]? with
  | none => rfl
  | some c =>
    cases c with
    | lst xs =>
      cases i <;> first | rfl | skip
      rename_i i
      show (match ixN xs.length i with | some j => _ | none => _) = (opt (ixN xs.length i) S).bnd fun j S => .ok () (S.set n (.lst (xs.set j v)))
      cases ixN xs.length i <;> rfl
    | dct kvs =>
      show (match keyOf i with | some j => _ | none => _) = (opt (keyOf i) S).bnd fun k S => if kvs.length < sizeLine then .ok () (S.set n (.dct (dput kvs k v))) else .bad
      cases keyOf i <;> rfl
    | ins c fs => rfl
@[simp] theorem mt_appG (n : Nat) (v : PV) : mtOp .append (.ref n) [v] S = (opt (cellL S[n]?) S).bnd fun xs S => if xs.length < sizeLine then .ok .non (S.set n (.lst (xs ++ [v]))) else .bad := by
  simp only [mtOp, cellL]
  cases S[n]? with
  | none => rfl
  | some c => cases c <;> rfl
theorem its_ref {n : Nat} {xs : List PV} (h : S[n]? = some (.lst xs)) : itsOf S (.ref n) = some ⟨xs, [(n, xs)]⟩ := by simp [itsOf, itsSq, h]
@[simp] theorem tupK_tup (xs : List PV) : tupK (.tup xs) = true := rfl
@[simp] theorem tupK_lv (xs : List PV) : tupK (.lv xs) = false := rfl
@[simp] theorem sq_tup (xs : List PV) : seqOf S (.tup xs) = some xs := rfl
@[simp] theorem sq_lv (xs : List PV) : seqOf S (.lv xs) = some xs := rfl
@[simp] theorem sq_fz (ns : List Int) : seqOf S (.fz ns) = some (ns.map .int) := rfl
theorem sq_ref {n : Nat} {xs : List PV} (h : S[n]? = some (.lst xs)) : seqOf S (.ref n) = some xs := by simp [seqOf, h]
theorem ls_ref {n : Nat} {xs : List PV} (h : S[n]? = some (.lst xs)) : lstOf S (.ref n) = some xs := by simp [lstOf, h]
@[simp] theorem ls_lv (xs : List PV) : lstOf S (.lv xs) = some xs := rfl
@[simp] theorem tru_bl (b : Bool) : tru S (.bl b) = some b := rfl
@[simp] theorem tru_non : tru S .non = some false := rfl
@[simp] theorem tru_int (i : Int) : tru S (.int i) = some (i != 0) := rfl
@[simp] theorem tru_tup (xs : List PV) : tru S (.tup xs) = some (!xs.isEmpty) := rfl
@[simp] theorem tru_lv (xs : List PV) : tru S (.lv xs) = some (!xs.isEmpty) := rfl
@[simp] theorem bo_add (i j : Int) : binop c .add (.int i) (.int j) S = .ok (.int (i + j)) S := rfl
@[simp] theorem bo_sub (i j : Int) : binop c .sub (.int i) (.int j) S = .ok (.int (i - j)) S := rfl
@[simp] theorem bo_mul (i j : Int) : binop c .mul (.int i) (.int j) S = if mulOk i j then .ok (.int (i * j)) S else .bad := rfl
@[simp] theorem bo_fdiv (i j : Int) : binop c .fdiv (.int i) (.int j) S = if 0 < j ∧ j < 18446744073709551616 then .ok (.int (i / j)) S else .bad := rfl
@[simp] theorem bo_mod (i j : Int) : binop c .mod (.int i) (.int j) S = if 0 < j then .ok (.int (i % j)) S else .bad := rfl
@[simp] theorem bo_pow (i j : Int) : binop c .pow (.int i) (.int j) S = if 0 ≤ j ∧ j ≤ 1000000 ∧ i.natAbs < 18446744073709551616 then .ok (.int (i ^ j.toNat)) S else .bad := rfl
@[simp] theorem bo_addT (a b : List PV) : binop c .add (.tup a) (.tup b) S = if a.length + b.length ≤ sizeLine then .ok (.tup (a ++ b)) S else .bad := rfl
@[simp] theorem bo_addL (a b : List PV) : binop c .add (.lv a) (.lv b) S = if a.length + b.length ≤ sizeLine then fin c (a ++ b) S else .bad := rfl
theorem bo_addG {x y : PV} {a b : List PV} (h1 : lstOf S x = some a) (h2 : lstOf S y = some b) : binop c .add x y S = if a.length + b.length ≤ sizeLine then fin c (a ++ b) S else .bad := by
  cases x <;> cases y <;> first | (cases h1; done) | (cases h2; done) | simp only [binop, h1, h2]
@[simp] theorem bo_mulT (a : List PV) (k : Int) : binop c .mul (.tup a) (.int k) S = if 0 ≤ k ∧ k < 9223372036854775808 ∧ a.length * k.toNat ≤ sizeLine then .ok (.tup (List.replicate k.toNat a).flatten) S else .bad := rfl
@[simp] theorem bo_mulL (a : List PV) (k : Int) : binop c .mul (.lv a) (.int k) S = if -(9223372036854775808) ≤ k ∧ k < 9223372036854775808 ∧ a.length * k.toNat ≤ sizeLine then fin c (List.replicate k.toNat a).flatten S else .bad := rfl
theorem bo_mulG {x : PV} {a : List PV} (h : lstOf S x = some a) (k : Int) : binop c .mul x (.int k) S = if -(9223372036854775808) ≤ k ∧ k < 9223372036854775808 ∧ a.length * k.toNat ≤ sizeLine then fin c (List.replicate k.toNat a).flatten S else .bad := by
  cases x <;> first | (cases h; done) | (simp only [binop, h]; rfl)
@[simp] theorem bo_mulR (n : Nat) (k : Int) : binop c .mul (.ref n) (.int k) S = (opt (cellL S[n]?) S).bnd fun a S => if -9223372036854775808 ≤ k ∧ k < 9223372036854775808 ∧ a.length * k.toNat ≤ sizeLine then fin c (List.replicate k.toNat a).flatten S else .bad := by
  simp only [binop, ls_refG]; cases cellL S[n]? <;> rfl
@[simp] theorem bo_addRR (n m : Nat) : binop c .add (.ref n) (.ref m) S = (opt (cellL S[n]?) S).bnd fun a S => (opt (cellL S[m]?) S).bnd fun b S => if a.length + b.length ≤ sizeLine then fin c (a ++ b) S else .bad := by
  simp only [binop, ls_refG]
  cases cellL S[n]? with
  | none => rfl
  | some a =>
    show _ = (opt (cellL S[m]?) S).bnd fun b S => if a.length + b.length ≤ sizeLine then fin c (a ++ b) S else .bad
    cases cellL S[m]? <;> rfl
@[simp] theorem bo_addRL (n : Nat) (b : List PV) : binop c .add (.ref n) (.lv b) S = (opt (cellL S[n]?) S).bnd fun a S => if a.length + b.length ≤ sizeLine then fin c (a ++ b) S else .bad := by
  simp only [binop, ls_refG]; cases cellL S[n]? <;> rfl
@[simp] theorem bo_addLR (m : Nat) (a : List PV) : binop c .add (.lv a) (.ref m) S = (opt (cellL S[m]?) S).bnd fun b S => if a.length + b.length ≤ sizeLine then fin c (a ++ b) S else .bad := by
  simp only [binop, ls_refG]; cases cellL S[m]? <;> rfl
theorem mulOk_l {i j : Int} (h : -(18446744073709551616) < i ∧ i < 18446744073709551616) : mulOk i j := .inl h
theorem mulOk_r {i j : Int} (h : -(18446744073709551616) < j ∧ j < 18446744073709551616) : mulOk i j := .inr h
@[simp] theorem mulOk_iff (i j : Int) : mulOk i j ↔ (-18446744073709551616 < i ∧ i < 18446744073709551616) ∨ (-18446744073709551616 < j ∧ j < 18446744073709551616) := Iff.rfl
@[simp] theorem fin_f (xs : List PV) : fin false xs S = .ok (.lv xs) S := rfl
@[simp] theorem fin_t (xs : List PV) : fin true xs S = .ok (.ref S.length) (S ++ [.lst xs]) := rfl
@[simp] theorem co_lt (i j : Int) : cmpOp P S .lt (.int i) (.int j) = some (decide (i < j)) := rfl
@[simp] theorem co_le (i j : Int) : cmpOp P S .le (.int i) (.int j) = some (decide (i ≤ j)) := rfl
@[simp] theorem co_gt (i j : Int) : cmpOp P S .gt (.int i) (.int j) = some (decide (j < i)) := rfl
@[simp] theorem co_ge (i j : Int) : cmpOp P S .ge (.int i) (.int j) = some (decide (j ≤ i)) := rfl
@[simp] theorem co_eq (x y : PV) : cmpOp P S .eq x y = eqOp S x y := rfl
@[simp] theorem co_ne (x y : PV) : cmpOp P S .ne x y = (eqOp S x y).map (!·) := rfl
@[simp] theorem co_is (x : PV) : cmpOp P S .is x .non = some (isN x) := rfl
@[simp] theorem co_isn (x : PV) : cmpOp P S .isn x .non = some (!isN x) := by cases x <;> rfl
@[simp] theorem co_isin (x y : PV) : cmpOp P S .isin x y = inOp P S x y := rfl
@[simp] theorem co_notin (x y : PV) : cmpOp P S .notin x y = (inOp P S x y).map (!·) := rfl
@[simp] theorem eo_int (i j : Int) : eqOp S (.int i) (.int j) = some (decide (i = j)) := rfl
@[simp] theorem eo_str (i j : Codes) : eqOp S (.str i) (.str j) = some (decide (i = j)) := rfl
@[simp] theorem eo_bl (i j : Bool) : eqOp S (.bl i) (.bl j) = some (decide (i = j)) := rfl
@[simp] theorem ix_tup (xs : List PV) (i : Int) : ixOp P S (.tup xs) (.int i) = atI xs i := rfl
@[simp] theorem ix_lv (xs : List PV) (i : Int) : ixOp P S (.lv xs) (.int i) = atI xs i := rfl
@[simp] theorem ix_fz (ns : List Int) (i : Int) : ixOp P S (.fz ns) (.int i) = atI (ns.map .int) i := rfl
theorem ix_ref {n : Nat} {xs : List PV} (h : S[n]? = some (.lst xs)) (i : Int) : ixOp P S (.ref n) (.int i) = atI xs i := by simp [ixOp, seqOf, h]
@[simp] theorem sl_tup (xs : List PV) (lo hi : Option Int) : slOp c (.tup xs) lo hi S = .ok (.tup (cut xs lo hi)) S := rfl
@[simp] theorem sl_lv (xs : List PV) (lo hi : Option Int) : slOp c (.lv xs) lo hi S = fin c (cut xs lo hi) S := rfl
@[simp] theorem sl_fz (ns : List Int) (lo hi : Option Int) : slOp c (.fz ns) lo hi S = fin c (cut (ns.map .int) lo hi) S := rfl
theorem sl_ref {n : Nat} {xs : List PV} (h : S[n]? = some (.lst xs)) (lo hi : Option Int) : slOp c (.ref n) lo hi S = fin c (cut xs lo hi) S := by simp [slOp, seqOf, h]
@[simp] theorem isi_non (t : TyN) : isiOp t .non S = some false := by cases t <;> rfl
@[simp] theorem isi_bl (t : TyN) (b : Bool) : isiOp t (.bl b) S = some (match t with | .bool => true | .int => true | _ => false) := by cases t <;> rfl
@[simp] theorem isi_int (t : TyN) (b : Int) : isiOp t (.int b) S = some (match t with | .int => true | _ => false) := by cases t <;> rfl
@[simp] theorem isi_str (t : TyN) (b : Codes) : isiOp t (.str b) S = some (match t with | .str => true | _ => false) := by cases t <;> rfl
@[simp] theorem isi_tup (t : TyN) (b : List PV) : isiOp t (.tup b) S = some (match t with | .tuple => true | _ => false) := by cases t <;> rfl
@[simp] theorem isi_lv (t : TyN) (b : List PV) : isiOp t (.lv b) S = some (match t with | .list => true | _ => false) := by cases t <;> rfl
theorem isi_ref (t : TyN) {n : Nat} {xs : List PV} (h : S[n]? = some (.lst xs)) : isiOp t (.ref n) S = some (match t with | .list => true | _ => false) := by cases t <;> simp [isiOp, h]
@[simp] theorem ln_tup (xs : List PV) : lenOf S (.tup xs) = some (xs.length : Int) := rfl
@[simp] theorem ln_lv (xs : List PV) : lenOf S (.lv xs) = some (xs.length : Int) := rfl
@[simp] theorem ln_fz (ns : List Int) : lenOf S (.fz ns) = some (ns.length : Int) := by simp [lenOf]
theorem ln_ref {n : Nat} {xs : List PV} (h : S[n]? = some (.lst xs)) : lenOf S (.ref n) = some (xs.length : Int) := by simp [lenOf, h]
@[simp] theorem ints_map (ns : List Int) : intsOf (ns.map .int) = some ns := by induction ns with
  | nil => rfl
  | cons n ns ih => simp [intsOf, ih]
@[simp] theorem bls_map {α : Type} (xs : List α) (g : α → Bool) : blsOf (xs.map fun a => PV.bl (g a)) = some (xs.map g) := by induction xs with
  | nil => rfl
  | cons n ns ih => simp [blsOf, ih]
@[simp] theorem cmpT_nil (f : PV → Store → R (Option PV)) (u : Tag f) (zs : List PV) : cmpLT ⟨zs, []⟩ f [] S u = .ok [] S := by simp [cmpLT, cmpL]
@[simp] theorem cmpT_cons (f : PV → Store → R (Option PV)) (u : Tag f) (zs : List PV) (x : PV) (xs : List PV) : cmpLT ⟨zs, []⟩ f (x :: xs) S u = (f x S).bnd fun o S1 => (cmpLT ⟨zs, []⟩ f xs S1).bnd fun ys S2 => .ok (o.toList ++ ys) S2 := by
  simp only [cmpLT, cmpL, Its.ok_nil, if_true]; rfl
@[simp] theorem bt_len (x : PV) : bltOp .len [x] S = opt ((lenOf S x).map .int) S := rfl
@[simp] theorem bt_sum (x : PV) : bltOp .sum [x] S = opt (((seqOf S x).bind intsOf).map fun ns => .int ns.sum) S := rfl
@[simp] theorem bt_all (x : PV) : bltOp .all [x] S = opt (((lstOf S x).bind blsOf).map fun bs => .bl (bs.all id)) S := rfl
@[simp] theorem bt_any (x : PV) : bltOp .any [x] S = opt (((lstOf S x).bind blsOf).map fun bs => .bl (bs.any id)) S := rfl
@[simp] theorem bt_max2 (i j : Int) : bltOp .max [.int i, .int j] S = .ok (.int (if j > i then j else i)) S := rfl
@[simp] theorem bt_min2 (i j : Int) : bltOp .min [.int i, .int j] S = .ok (.int (if j < i then j else i)) S := rfl
@[simp] theorem bt_abs (i : Int) : bltOp .abs [.int i] S = .ok (.int (if i < 0 then -i else i)) S := rfl
@[simp] theorem bt_int (i : Int) : bltOp .int [.int i] S = .ok (.int i) S := rfl
@[simp] theorem bt_tuple (x : PV) : bltOp .tuple [x] S = opt ((seqOf S x).map .tup) S := rfl
@[simp] theorem bt_divmod (i j : Int) : bltOp .divmod [.int i, .int j] S = if 0 < j ∧ j < 18446744073709551616 then .ok (.tup [.int (i / j), .int (i % j)]) S else .bad := rfl
@[simp] theorem bl_list (x : PV) : bltLOp .list [x] S = seqOf S x := rfl
@[simp] theorem bl_sorted (x : PV) : bltLOp .sorted [x] S = ((lstOf S x).bind intsOf).map fun ns => (sortI ns).map .int := rfl
theorem st_lst {n : Nat} {xs : List PV} (h : S[n]? = some (.lst xs)) {i : Int} {j : Nat} (e : ixN xs.length i = some j) (v : PV) : setOp (.ref n) (.int i) v S = .ok () (S.set n (.lst (xs.set j v))) := by simp only [setOp, h, e]
theorem mt_app {n : Nat} {xs : List PV} (h : S[n]? = some (.lst xs)) (l : xs.length < sizeLine) (v : PV) : mtOp .append (.ref n) [v] S = .ok .non (S.set n (.lst (xs ++ [v]))) := by simp only [mtOp, h, if_pos l]
end
theorem cut_map {α β : Type} (f : α → β) (xs : List α) (lo hi : Option Int) : cut (xs.map f) lo hi = (cut xs lo hi).map f := by simp [cut, List.map_drop, List.map_take]
theorem cut_fst {α : Type} (a b : List α) : cut (a ++ b) (some 0) (some (a.length : Int)) = a := by
  simp only [cut, HT.sIx_nat]
  have e := HT.sIx_nat (a ++ b).length 0 0
  rw [show ((0 : Nat) : Int) = 0 from rfl] at e
  rw [e]
  simp
theorem cut_fstN {α : Type} (a b : List α) : cut (a ++ b) none (some (a.length : Int)) = a := by
  simp only [cut, HT.sIx_nat, HT.sIx_none]
  simp
theorem cut_sndN {α : Type} (a b : List α) : cut (a ++ b) (some (a.length : Int)) none = b := by
  simp only [cut, HT.sIx_nat, HT.sIx_none]
  simp
theorem cut_snd {α : Type} (a b : List α) {k : Int} (h : k = ((a.length + b.length : Nat) : Int)) : cut (a ++ b) (some (a.length : Int)) (some k) = b := by
  subst h
  simp only [cut, HT.sIx_nat]
  simp
theorem cut_fstK {α : Type} {a b : List α} {k : Int} (h : k = (a.length : Int)) : cut (a ++ b) (some 0) (some k) = a := by subst h; exact cut_fst a b
theorem cut_fstNK {α : Type} {a b : List α} {k : Int} (h : k = (a.length : Int)) : cut (a ++ b) none (some k) = a := by subst h; exact cut_fstN a b
theorem cut_sndNK {α : Type} {a b : List α} {k : Int} (h : k = (a.length : Int)) : cut (a ++ b) (some k) none = b := by subst h; exact cut_sndN a b
theorem cut_sndK {α : Type} {a b : List α} {k k' : Int} (h : k = (a.length : Int)) (h' : k' = (a.length : Int) + b.length) : cut (a ++ b) (some k) (some k') = b := by
  subst h h'
  exact cut_snd a b (by omega)
theorem atI_map {α β : Type} (f : α → β) (xs : List α) (i : Int) : atI (xs.map f) i = (atI xs i).map f := by
  unfold atI
  rw [List.length_map]
  cases ixN xs.length i with
  | none => rfl
  | some j => simp
theorem ixN_nat {n i : Nat} (h : i < n) : ixN n (i : Int) = some i := by
  unfold ixN
  rw [if_pos (by omega), if_pos (by omega), Int.toNat_natCast]
theorem ixN_of {n : Nat} {i : Int} (h0 : 0 ≤ i) (h : i < n) : ixN n i = some i.toNat := by
  unfold ixN
  rw [if_pos h0, if_pos h]
theorem ixN_last {n : Nat} (h : 0 < n) : ixN n (-1) = some (n - 1) := by
  unfold ixN
  rw [if_neg (by omega), if_pos (by omega)]
  congr 1
  omega
theorem atI_of {α : Type} {xs : List α} {i : Int} (h0 : 0 ≤ i) (h : i < xs.length) : atI xs i = some (xs[i.toNat]'(by omega)) := by
  unfold atI
  rw [ixN_of h0 h]
  exact List.getElem?_eq_getElem _
theorem atI_last {α : Type} {xs : List α} (h : 0 < xs.length) : atI xs (-1) = some (xs[xs.length - 1]'(by omega)) := by
  unfold atI
  rw [ixN_last h]
  exact List.getElem?_eq_getElem _
@[simp] theorem atI_c0 {α : Type} (a0 : α) (r : List α) : atI (a0 :: r) 0 = some a0 := atI_of (by decide) (by show (0 : Int) < ((_ : Nat) : Int); simp only [List.length_cons]; omega)
@[simp] theorem atI_c1 {α : Type} (a0 a1 : α) (r : List α) : atI (a0 :: a1 :: r) 1 = some a1 := atI_of (by decide) (by show (1 : Int) < ((_ : Nat) : Int); simp only [List.length_cons]; omega)
@[simp] theorem atI_c2 {α : Type} (a0 a1 a2 : α) (r : List α) : atI (a0 :: a1 :: a2 :: r) 2 = some a2 := atI_of (by decide) (by show (2 : Int) < ((_ : Nat) : Int); simp only [List.length_cons]; omega)
@[simp] theorem atI_c3 {α : Type} (a0 a1 a2 a3 : α) (r : List α) : atI (a0 :: a1 :: a2 :: a3 :: r) 3 = some a3 := atI_of (by decide) (by show (3 : Int) < ((_ : Nat) : Int); simp only [List.length_cons]; omega)
@[simp] theorem atI_c4 {α : Type} (a0 a1 a2 a3 a4 : α) (r : List α) : atI (a0 :: a1 :: a2 :: a3 :: a4 :: r) 4 = some a4 := atI_of (by decide) (by show (4 : Int) < ((_ : Nat) : Int); simp only [List.length_cons]; omega)
@[simp] theorem atI_c5 {α : Type} (a0 a1 a2 a3 a4 a5 : α) (r : List α) : atI (a0 :: a1 :: a2 :: a3 :: a4 :: a5 :: r) 5 = some a5 := atI_of (by decide) (by show (5 : Int) < ((_ : Nat) : Int); simp only [List.length_cons]; omega)
@[simp] theorem atI_c6 {α : Type} (a0 a1 a2 a3 a4 a5 a6 : α) (r : List α) : atI (a0 :: a1 :: a2 :: a3 :: a4 :: a5 :: a6 :: r) 6 = some a6 := atI_of (by decide) (by show (6 : Int) < ((_ : Nat) : Int); simp only [List.length_cons]; omega)
@[simp] theorem atI_c7 {α : Type} (a0 a1 a2 a3 a4 a5 a6 a7 : α) (r : List α) : atI (a0 :: a1 :: a2 :: a3 :: a4 :: a5 :: a6 :: a7 :: r) 7 = some a7 := atI_of (by decide) (by show (7 : Int) < ((_ : Nat) : Int); simp only [List.length_cons]; omega)
@[simp] theorem atI_c8 {α : Type} (a0 a1 a2 a3 a4 a5 a6 a7 a8 : α) (r : List α) : atI (a0 :: a1 :: a2 :: a3 :: a4 :: a5 :: a6 :: a7 :: a8 :: r) 8 = some a8 := atI_of (by decide) (by show (8 : Int) < ((_ : Nat) : Int); simp only [List.length_cons]; omega)
@[simp] theorem atI_c9 {α : Type} (a0 a1 a2 a3 a4 a5 a6 a7 a8 a9 : α) (r : List α) : atI (a0 :: a1 :: a2 :: a3 :: a4 :: a5 :: a6 :: a7 :: a8 :: a9 :: r) 9 = some a9 := atI_of (by decide) (by show (9 : Int) < ((_ : Nat) : Int); simp only [List.length_cons]; omega)
@[simp] theorem ixN_c0 (n : Nat) : ixN (n + 1) 0 = some 0 := ixN_of (by decide) (by show (0 : Int) < _; omega)
@[simp] theorem ixN_c1 (n : Nat) : ixN (n + 2) 1 = some 1 := ixN_of (by decide) (by show (1 : Int) < _; omega)
@[simp] theorem ixN_c2 (n : Nat) : ixN (n + 3) 2 = some 2 := ixN_of (by decide) (by show (2 : Int) < _; omega)
@[simp] theorem ixN_c3 (n : Nat) : ixN (n + 4) 3 = some 3 := ixN_of (by decide) (by show (3 : Int) < _; omega)
@[simp] theorem ixN_c4 (n : Nat) : ixN (n + 5) 4 = some 4 := ixN_of (by decide) (by show (4 : Int) < _; omega)
@[simp] theorem ixN_c5 (n : Nat) : ixN (n + 6) 5 = some 5 := ixN_of (by decide) (by show (5 : Int) < _; omega)
@[simp] theorem ixN_c6 (n : Nat) : ixN (n + 7) 6 = some 6 := ixN_of (by decide) (by show (6 : Int) < _; omega)
@[simp] theorem ixN_c7 (n : Nat) : ixN (n + 8) 7 = some 7 := ixN_of (by decide) (by show (7 : Int) < _; omega)
@[simp] theorem ixN_c8 (n : Nat) : ixN (n + 9) 8 = some 8 := ixN_of (by decide) (by show (8 : Int) < _; omega)
@[simp] theorem ixN_c9 (n : Nat) : ixN (n + 10) 9 = some 9 := ixN_of (by decide) (by show (9 : Int) < _; omega)
@[simp] theorem szN : sizeLine = 16777216 := by decide
theorem szLe {n : Nat} (h : n ≤ 1000000) : n ≤ sizeLine := Nat.le_trans h (by decide)
theorem szLt {n : Nat} (h : n < 1000000) : n < sizeLine := Nat.lt_of_lt_of_le h (by decide)
@[simp] theorem szLit1 : (0 : Nat) ≤ sizeLine := Nat.zero_le _
theorem enum_mem {n : Nat} {xs : List PV} {z : PV} (h : z ∈ (List.range n).zipWith (fun k v => PV.tup [.int ((k : Nat) : Int), v]) xs) : ∃ (k : Nat) (v : PV), v ∈ xs ∧ k < n ∧ z = .tup [.int (k : Int), v] := by
  obtain ⟨i, hi, rfl⟩ := List.getElem_of_mem h
  rw [List.length_zipWith, List.length_range] at hi
  refine ⟨i, xs[i]'(by omega), List.getElem_mem _, by omega, ?_⟩
  simp
theorem zip_self (xs : List PV) : xs.zipWith (fun u v => PV.tup [u, v]) xs = xs.map fun u => .tup [u, u] := by
  induction xs with
  | nil => rfl
  | cons x xs ih => simp [ih]
/-- plain values, tuples within one another at most d deep -/
inductive Pl : Nat → PV → Prop
  | non {d : Nat} : Pl d .non
  | bl {d : Nat} (b : Bool) : Pl d (.bl b)
  | int {d : Nat} (b : Int) : Pl d (.int b)
  | str {d : Nat} (b : Codes) : Pl d (.str b)
  | tup {d : Nat} {xs : List PV} : xs.length ≤ sizeLine → (∀ x ∈ xs, Pl d x) → Pl (d + 1) (.tup xs)
theorem pl_ints {d : Nat} {ns : List Int} (h : ns.length ≤ sizeLine) : Pl (d + 1) (.tup (ns.map .int)) := .tup (by simpa using h) fun x hx => by
  obtain ⟨i, _, rfl⟩ := List.mem_map.mp hx
  exact .int i
theorem cmpT_okM {α : Type} {J : Its} {f : PV → Store → R (Option PV)} {u : Tag f} {Q : List PV → Store → Prop} {t : Tag Q} (h : α → PV) (Inv : List α → List PV → Store → Prop)
    (hJ : ∀ r o S, Inv r o S → J.ok S) (fin : ∀ o S, Inv [] o S → Q o S)
    (step : ∀ x r o S, Inv (x :: r) o S → ok (f (h x) S) fun y S' => Inv r (o ++ y.toList) S') (xs : List α) (S : Store) (i : Inv xs [] S) : ok (cmpLT J f (xs.map h) S u) Q t := by
  refine cmpT_ok (fun r o S => ∃ ys, r = ys.map h ∧ Inv ys o S) (fun r o S ⟨ys, _, i⟩ => hJ ys o S i) ?_ ?_ _ _ ⟨xs, rfl, i⟩
  · rintro o S ⟨ys, e, i⟩
    cases ys with
    | nil => exact fin _ _ i
    | cons y ys => cases e
  · rintro x r o S ⟨ys, e, i⟩
    cases ys with
    | nil => cases e
    | cons y ys =>
      cases e
      exact (step _ _ _ _ i).mono fun _ _ q => ⟨_, rfl, q⟩
theorem bls_rep (j : Nat) : blsOf (List.replicate j (PV.bl true)) = some (List.replicate j true) := by
  induction j with
  | zero => rfl
  | succ j ih => rw [List.replicate_succ, blsOf, ih]; rfl
/-- all([f(x) for x in xs]) where each gives True, whatever the store does -/
theorem all_ok {α : Type} {J : Its} {f : PV → Store → R (Option PV)} {u : Tag f} {Q : List PV → Store → Prop} {t : Tag Q} (h : α → PV) (hJ : J.g = []) (xs : List α) (S : Store) (step : ∀ x ∈ xs, ∀ S, ok (f (h x) S) fun y _ => y = some (.bl true))
    (q : ∀ S', Q (List.replicate xs.length (.bl true)) S') : ok (cmpLT J f (xs.map h) S u) Q t := by
  refine cmpT_okM h (fun r o S' => (∀ x ∈ r, x ∈ xs) ∧ ∃ j, j + r.length = xs.length ∧ o = List.replicate j (.bl true)) (fun _ _ _ _ => by intro p hp; rw [hJ] at hp; cases hp) ?_ ?_ _ _ ⟨fun _ h => h, 0, by simp, rfl⟩
  · rintro o S' ⟨_, j, hj, rfl⟩
    rw [show xs.length = j by simpa using hj.symm] at q
    exact q S'
  · rintro x r o S' ⟨hr, j, hj, rfl⟩
    refine (step x (hr x (List.mem_cons_self)) S').mono fun y S2 e => ⟨fun z hz => hr z (List.mem_cons_of_mem _ hz), j + 1, by simp at hj ⊢; omega, ?_⟩
    rw [e]
    simp [List.replicate_succ']
end Ev

/-! Part Y: what every law has: the well, a draw, a pick. -/
namespace Ev
open PySem L2

/-- a well stands in the cell m -/
def Well (S : Store) (m : Nat) : Prop := ∃ a b c : Int, S[m]? = some (.lst [.int a, .int b, .int c])
/-- from S to S' only the well in m has changed, and new cells have come -/
structure Fr (m : Nat) (S S' : Store) : Prop where
  keep : ∀ i, i ≠ m → i < S.length → S'[i]? = S[i]?
  len : S.length ≤ S'.length
  well : Well S' m
theorem Fr.refl {m : Nat} {S : Store} (h : Well S m) : Fr m S S := ⟨fun _ _ _ => rfl, Nat.le_refl _, h⟩
theorem Fr.trans {m : Nat} {S S' S'' : Store} (h : Fr m S S') (h' : Fr m S' S'') : Fr m S S'' :=
  ⟨fun i e l => (h'.keep i e (Nat.lt_of_lt_of_le l h.len)).trans (h.keep i e l), Nat.le_trans h.len h'.len, h'.well⟩
theorem Fr.get {m n : Nat} {S S' : Store} {c : Cell} (h : Fr m S S') (e : S[n]? = some c) (hn : n ≠ m) : S'[n]? = some c := by
  rw [h.keep n hn (List.getElem?_eq_some_iff.mp e).1, e]
theorem Well.lt {S : Store} {m : Nat} (h : Well S m) : m < S.length := by
  obtain ⟨a, b, c, e⟩ := h
  exact (List.getElem?_eq_some_iff.mp e).1
theorem Fr.set {m : Nat} {S : Store} (h : m < S.length) (a b c : Int) : Fr m S (S.set m (.lst [.int a, .int b, .int c])) :=
  ⟨fun i e l => List.getElem?_set_ne (Ne.symm e), by simp, ⟨a, b, c, by simp [h]⟩⟩
/-- a new cell -/
theorem Fr.new {m : Nat} {S : Store} (h : Well S m) (c : Cell) : Fr m S (S ++ [c]) :=
  ⟨fun i e l => List.getElem?_append_left l, by simp, by
    obtain ⟨x, y, z, e⟩ := h
    exact ⟨x, y, z, by rw [List.getElem?_append_left (List.getElem?_eq_some_iff.mp e).1, e]⟩⟩
theorem new_get (S : Store) (c : Cell) : (S ++ [c])[S.length]? = some c := by simp

theorem Fr.setNew {m r : Nat} {S S' : Store} (h : Fr m S S') (hr : S.length ≤ r) (hm : r ≠ m) (c : Cell) : Fr m S (S'.set r c) :=
  ⟨fun i e l => by rw [List.getElem?_set_ne (by omega)]; exact h.keep i e l, by rw [List.length_set]; exact h.len, by
    obtain ⟨x, y, z, e⟩ := h.well
    exact ⟨x, y, z, by rw [List.getElem?_set_ne hm, e]⟩⟩
theorem Fr.new' {m : Nat} {S S' : Store} (h : Fr m S S') (c : Cell) : Fr m S (S' ++ [c]) := h.trans (Fr.new h.well c)
theorem set_get {S : Store} {r : Nat} {c : Cell} (h : S[r]? = some c) (d : Cell) : (S.set r d)[r]? = some d := by
  have hl := (List.getElem?_eq_some_iff.mp h).1
  simp [hl]
theorem len_flat {α : Type} (k : Nat) (l : List α) : (List.replicate k l).flatten.length = k * l.length := by
  induction k with
  | zero => simp
  | succ k ih => rw [List.replicate_succ, List.flatten_cons, List.length_append, ih, Nat.succ_mul, Nat.add_comm]
theorem map_flat {α β : Type} (f : α → β) (k : Nat) (l : List α) : (List.replicate k (l.map f)).flatten = (List.replicate k l).flatten.map f := by
  induction k with
  | zero => rfl
  | succ k ih => rw [List.replicate_succ, List.flatten_cons, ih, List.replicate_succ, List.flatten_cons, List.map_append]
/-! ### the bodies -/
def drawB (a b c d e g : Int) : B :=
  (.cons (.ifs (.cmp .gt (.sub (.var 0) (.int 0)) (.int 0))
   (.cons (.asg (.tup (.cons (.sub (.var 0) (.int 0)) (.cons (.name 2) .nil))) (.blt .divmod (.cons (.sub (.var 0) (.int 0)) (.cons (.var 1) .nil))))
   (.cons (.ret (.var 2))
   .nil))
   .nil)
  (.cons (.asg (.sub (.var 0) (.int 2)) (.bin .add false (.sub (.var 0) (.int 2)) (.int 1)))
  (.cons (.asg (.name 3) (.bin .mod false (.blt .int (.cons (.bin .add false (.sub (.var 0) (.int 1)) (.bin .mul false (.int a) (.sub (.var 0) (.int 2)))) .nil)) (.int b)))
  (.cons (.asg (.sub (.var 0) (.int 1)) (.bin .mod false (.blt .int (.cons (.bin .add false (.bin .mul false (.var 3) (.bin .add false (.bin .mod false (.blt .int (.cons (.var 3) .nil)) (.int c)) (.int d))) (.bin .mul false (.int e) (.sub (.var 0) (.int 2)))) .nil)) (.int b)))
  (.cons (.ret (.bin .mod false (.blt .int (.cons (.bin .fdiv false (.sub (.var 0) (.int 1)) (.int g)) .nil)) (.var 1)))
  .nil)))))
def pickB (f : Nat) : B :=
  (.cons (.ret (.sub (.var 1) (.call f (.cons (.var 0) (.cons (.blt .len (.cons (.var 1) .nil)) .nil)) 0)))
  .nil)
def wellB (a b : Int) (j : Int) (c d e g h i l q : Int) : B :=
  (.cons (.asg (.name 2) (.bin .add false (.int a) (.bin .mul false (.int b) (.var 1))))
  (.cons (.for_ (.name 3) (.seq (.slice false (.var 0) .none (.some (.int j))))
   (.cons (.asg (.name 2) (.bin .mod false (.blt .int (.cons (.bin .add false (.bin .add false (.bin .mul false (.var 2) (.int c)) (.bin .mod false (.blt .int (.cons (.var 3) .nil)) (.int d))) (.int e)) .nil)) (.int g)))
   .nil))
  (.cons (.asg (.name 4) (.ite (.cmp .lt (.var 1) (.blt .len (.cons (.var 0) .nil))) (.blt .int (.cons (.sub (.var 0) (.var 1)) .nil)) (.int 0)))
  (.cons (.asg (.name 2) (.bin .mod false (.blt .int (.cons (.bin .add false (.bin .add false (.bin .mul false (.var 2) (.int h)) (.bin .mul false (.bin .mod false (.blt .int (.cons (.var 4) .nil)) (.int i)) (.int l))) (.int q)) .nil)) (.int g)))
  (.cons (.ret (.lst true (.cons (.ite (.or (.cmp .lt (.var 4) (.int 0)) (.cmp .ge (.var 4) (.bin .pow false (.int 10) (.int 14)))) (.blt .abs (.cons (.var 4) .nil)) (.int 0)) (.cons (.var 2) (.cons (.int 0) .nil)))))
  .nil)))))

/-- numbers that multiply -/
def Lit (a : Int) : Prop := 0 < a ∧ a < 9223372036854775808
instance (a : Int) : Decidable (Lit a) := inferInstanceAs (Decidable (_ ∧ _))

theorem draw_ok {P : Pg} {fw n f : Nat} {a b c d e g : Int} (h : P.fn f = some ⟨2, 4, drawB a b c d e g⟩) (la : Lit a) (lb : Lit b) (lc : Lit c) (le : Lit e) (lg : Lit g) {S : Store} {m : Nat} (hw : Well S m) {many : Int} (hm : 0 < many ∧ many < 18446744073709551616) {Q : PV → Store → Prop}
    (q : ∀ (x : Int) (S' : Store), 0 ≤ x → x < many → Fr m S S' → Q (.int x) S') : ok (cal P fw (n + 1) f [.ref m, .int many] S) Q := by
  refine cal_ok h rfl ?_
  obtain ⟨x, y, z, e0⟩ := hw
  have hl : m < S.length := (List.getElem?_eq_some_iff.mp e0).1
  have F : ∀ u v t, Fr m S (S.set m (.lst [.int u, .int v, .int t])) := fun u v t => Fr.set hl u v t
  unfold Lit at la lb lc le lg
  have hl' : S[m] = .lst [.int x, .int y, .int z] := by rw [List.getElem?_eq_getElem hl] at e0; exact Option.some.inj e0
  have md : ∀ w : Int, (-18446744073709551616 < w % b ∧ w % b < 18446744073709551616) := fun w => by
    have h1 := Int.emod_nonneg w (show b ≠ 0 by omega)
    have h2 := Int.emod_lt_of_pos w lb.1
    omega
  simp [drawB, atI, ixN, okX_xif, hl, hl', hm, la.1, lb.1, lc.1, le.1, lg.1, show g < 18446744073709551616 by omega, (show -18446744073709551616 < a ∧ a < 18446744073709551616 by omega), (show -18446744073709551616 < e ∧ e < 18446744073709551616 by omega), md]
  exact ⟨fun _ => q _ _ (Int.emod_nonneg _ (by omega)) (Int.emod_lt_of_pos _ hm.1) (F _ _ _), fun _ => q _ _ (Int.emod_nonneg _ (by omega)) (Int.emod_lt_of_pos _ hm.1) (F _ _ _)⟩
/-- a draw, as the laws have it -/
def DrawF (P : Pg) (f : Nat) : Prop := ∃ a b c d e g : Int, P.fn f = some ⟨2, 4, drawB a b c d e g⟩ ∧ Lit a ∧ Lit b ∧ Lit c ∧ Lit e ∧ Lit g
theorem DrawF.ok {P : Pg} {fw n f : Nat} (h : DrawF P f) {S : Store} {m : Nat} (hw : Well S m) {many : Int} (h1 : 0 < many) (h2 : many < 18446744073709551616) {Q : PV → Store → Prop}
    (q : ∀ (x : Int) (S' : Store), 0 ≤ x → x < many → Fr m S S' → Q (.int x) S') : ok (cal P fw (n + 1) f [.ref m, .int many] S) Q := by
  obtain ⟨a, b, c, d, e, g, h, la, lb, lc, le, lg⟩ := h
  exact draw_ok h la lb lc le lg hw ⟨h1, h2⟩ q
/-- a pick of a tuple -/
theorem pickT_ok {P : Pg} {fw n f g : Nat} (h : P.fn g = some ⟨2, 2, pickB f⟩) (hv : P.dv f 0 = []) (hd : DrawF P f) {S : Store} {m : Nat} (hw : Well S m) {xs : List PV} (h1 : 0 < xs.length) (h2 : xs.length ≤ sizeLine) {Q : PV → Store → Prop}
    (q : ∀ (x : PV) (S' : Store), x ∈ xs → Fr m S S' → Q x S') : ok (cal P fw (n + 2) g [.ref m, .tup xs] S) Q := by
  refine cal_ok h rfl ?_
  rw [szN] at h2
  simp [pickB, hv]
  refine hd.ok hw (by omega) (by omega) fun x S' x0 x1 F => ?_
  simp [atI_of x0 x1]
  exact q _ _ (List.getElem_mem _) F
theorem pickL_ok {P : Pg} {fw n f g : Nat} (h : P.fn g = some ⟨2, 2, pickB f⟩) (hv : P.dv f 0 = []) (hd : DrawF P f) {S : Store} {m : Nat} (hw : Well S m) {xs : List PV} (h1 : 0 < xs.length) (h2 : xs.length ≤ sizeLine) {Q : PV → Store → Prop}
    (q : ∀ (x : PV) (S' : Store), x ∈ xs → Fr m S S' → Q x S') : ok (cal P fw (n + 2) g [.ref m, .lv xs] S) Q := by
  refine cal_ok h rfl ?_
  rw [szN] at h2
  simp [pickB, hv]
  refine hd.ok hw (by omega) (by omega) fun x S' x0 x1 F => ?_
  simp [atI_of x0 x1]
  exact q _ _ (List.getElem_mem _) F
theorem pickR_ok {P : Pg} {fw n f g : Nat} (h : P.fn g = some ⟨2, 2, pickB f⟩) (hv : P.dv f 0 = []) (hd : DrawF P f) {S : Store} {m r : Nat} (hw : Well S m) (hr : r ≠ m) {xs : List PV} (hx : S[r]? = some (.lst xs)) (h1 : 0 < xs.length) (h2 : xs.length ≤ sizeLine) {Q : PV → Store → Prop}
    (q : ∀ (x : PV) (S' : Store), x ∈ xs → Fr m S S' → Q x S') : ok (cal P fw (n + 2) g [.ref m, .ref r] S) Q := by
  refine cal_ok h rfl ?_
  rw [szN] at h2
  simp [pickB, hv, hx]
  refine hd.ok hw (by omega) (by omega) fun x S' x0 x1 F => ?_
  simp [F.get hx hr, atI_of x0 x1]
  exact q _ _ (List.getElem_mem _) F
/-- the making of a well -/
theorem well_ok {P : Pg} {fw n f : Nat} {a b : Int} {j : Nat} {c d e g h i l q : Int} (hf : P.fn f = some ⟨2, 5, wellB a b j c d e g h i l q⟩) (lb : Lit b) (lc : Lit c) (ld : Lit d) (lg : Lit g) (lh : Lit h) (li : Lit i) (ll : Lit l) {S : Store} {ns : List Int} {t : Int} (t0 : 0 ≤ t) {Q : PV → Store → Prop}
    (k : ∀ x y z : Int, Q (.ref S.length) (S ++ [.lst [.int x, .int y, .int z]])) : ok (cal P fw (n + 1) f [.fz ns, .int t] S) Q := by
  refine cal_ok hf rfl ?_
  unfold Lit at lb lc ld lg lh li ll
  have md : ∀ w : Int, (-18446744073709551616 < w % g ∧ w % g < 18446744073709551616) := fun w => by
    have h1 := Int.emod_nonneg w (show g ≠ 0 by omega)
    have h2 := Int.emod_lt_of_pos w lg.1
    omega
  simp [wellB, cut_map, lb.1, lc.1, ld.1, lg.1, lh.1, li.1, ll.1, (show -18446744073709551616 < b ∧ b < 18446744073709551616 by omega)]
  refine forT_okM PV.int (fun r ρ S' => S' = S ∧ ∃ (v : Int) (o : Option PV), ρ = [some (.fz ns), some (.int t), some (.int v), o, none]) (fun _ _ _ _ => by simp) ?_ ?_ _ _ _ ⟨rfl, _, _, rfl⟩
  · rintro ρ S' ⟨rfl, v, o, rfl⟩
    have lh' : -18446744073709551616 < h ∧ h < 18446744073709551616 := by omega
    have ll' : -18446744073709551616 < l ∧ l < 18446744073709551616 := by omega
    by_cases ht : t < ns.length
    · have e := atI_of t0 ht
      simp [ht, atI_map, e, lh', ll', li.1, lg.1, ok_mif, k]
    · simp [ht, lh', ll', li.1, lg.1, ok_mif, k]
  · rintro x r ρ S' ⟨rfl, v, o, rfl⟩
    simp [ld.1, lg.1, (show -18446744073709551616 < c ∧ c < 18446744073709551616 by omega)]
/-! ### the laws' own equality -/
def wholeB : B :=
  (.cons (.ret (.and (.isi (.var 0) .int) (.not (.isi (.var 0) .bool))))
  .nil)
def sameB (f g : Nat) : B :=
  (.cons (.ifs (.isi (.var 1) .tuple)
   (.cons (.ret (.and (.isi (.var 0) .tuple) (.and (.cmp .eq (.blt .len (.cons (.var 0) .nil)) (.blt .len (.cons (.var 1) .nil))) (.blt .all (.cons (.comp false (.call f (.cons (.var 2) (.cons (.var 3) .nil)) 0) (.tup (.cons (.name 2) (.cons (.name 3) .nil))) (.zip (.var 0) (.var 1)) .none [("x", 2), ("y", 3)]) .nil)))))
   .nil)
   .nil)
  (.cons (.ifs (.cmp .is (.var 1) (.non))
   (.cons (.ret (.cmp .is (.var 0) (.non)))
   .nil)
   .nil)
  (.cons (.ifs (.isi (.var 1) .bool)
   (.cons (.ret (.and (.isi (.var 0) .bool) (.cmp .eq (.var 0) (.var 1))))
   .nil)
   .nil)
  (.cons (.ifs (.isi (.var 1) .str)
   (.cons (.ret (.and (.isi (.var 0) .str) (.cmp .eq (.var 0) (.var 1))))
   .nil)
   .nil)
  (.cons (.ret (.and (.call g (.cons (.var 0) .nil) 0) (.cmp .eq (.var 0) (.var 1))))
  .nil)))))
theorem same_ok {P : Pg} {fw f g : Nat} (hf : P.fn f = some ⟨2, 4, sameB f g⟩) (hg : P.fn g = some ⟨1, 1, wholeB⟩) (hv : ∀ f, P.dv f 0 = []) : ∀ {d : Nat} {x : PV}, Pl d x → ∀ (n : Nat) (S : Store), cal P fw (n + d + 2) f [x, x] S = .ok (.bl true) S
  | d, _, .non, n, S => by
    rw [cal_of hf rfl]
    simp [sameB]
  | d, _, .bl b, n, S => by
    rw [cal_of hf rfl]
    simp [sameB]
  | d, _, .int i, n, S => by
    have e : ∀ S, cal P fw (n + d + 1) g [.int i] S = .ok (.bl true) S := fun S => by
      rw [cal_of hg rfl]
      simp [wholeB]
    rw [cal_of hf rfl]
    simp [sameB, hv, e]
  | d, _, .str b, n, S => by
    rw [cal_of hf rfl]
    simp [sameB]
  | d + 1, .tup xs, .tup hl h, n, S => by
    have ih : ∀ x ∈ xs, ∀ S, cal P fw (n + d + 2) f [x, x] S = .ok (.bl true) S := fun x hx S => same_ok hf hg hv (h x hx) n S
    rw [szN] at hl
    rw [show n + (d + 1) + 2 = (n + d + 2) + 1 by omega, cal_of hf rfl]
    simp [sameB, hv, zipR, zip_self, cmpT_map]
    rw [cmpM_some (g := fun _ => .bl true) (Its.ok_nil _ _ ▸ trivial) fun x hx => by rw [ih x hx]; rfl]
    have e : (xs.map fun _ => PV.bl true) = xs.map fun a => PV.bl ((fun _ => true) a) := rfl
    simp [hl]
end Ev

namespace Lk
open PySem PySem.Spec PyProof.Rows L2 Ev
def top (i : Nat) : Stmt := PySem.Challenge.pw_halthouse_k80_devices_by_an_own_look.main.body.getD i (.Pass ⟨0, 0, 0, 0⟩)
/-- is_within(value, low, high) : slots 0 value, 1 low, 2 high -/
def b0 : B :=
  (.cons (.ret (.and (.isi (.var 0) .int) (.and (.not (.isi (.var 0) .bool)) (.chain .le .le (.var 1) (.var 0) (.var 2)))))
  .nil)
def n0 : List Str := ["value", "low", "high"]
/-- check_within(value, low, high) : slots 0 value, 1 low, 2 high -/
def b1 : B :=
  (.cons (.ifs (.not (.call 0 (.cons (.var 0) (.cons (.var 1) (.cons (.var 2) .nil))) 0))
   (.cons (.never)
   .nil)
   .nil)
  .nil)
def n1 : List Str := ["value", "low", "high"]
/-- is_whole_number(value) : slots 0 value -/
def b2 : B :=
  (.cons (.ret (.and (.isi (.var 0) .int) (.not (.isi (.var 0) .bool))))
  .nil)
def n2 : List Str := ["value"]
/-- check_device(device) : slots 0 device, 1 index, 2 number -/
def b3 : B :=
  (.cons (.ifs (.or (.not (.isi (.var 0) .tuple)) (.or (.cmp .eq (.bin .mod false (.blt .len (.cons (.var 0) .nil)) (.int 2)) (.int 1)) (.cmp .lt (.blt .len (.cons (.var 0) .nil)) (.bin .mul false (.int 2) (.bin .add false (.glob 0) (.glob 1))))))
   (.cons (.never)
   .nil)
   .nil)
  (.cons (.for_ (.tup (.cons (.name 1) (.cons (.name 2) .nil))) (.enum (.var 0))
   (.cons (.ifs (.not (.call 2 (.cons (.var 2) .nil) 0))
    (.cons (.never)
    .nil)
    .nil)
   .nil))
  .nil))
def n3 : List Str := ["device", "index", "number"]
/-- slot_cells(device, slot) : slots 0 device, 1 slot, 2 many -/
def b4 : B :=
  (.cons (.asg (.name 2) (.bin .fdiv false (.blt .len (.cons (.var 0) .nil)) (.int 2)))
  (.cons (.ret (.slice false (.var 0) (.some (.bin .mul false (.var 1) (.var 2))) (.some (.bin .mul false (.bin .add false (.var 1) (.int 1)) (.var 2)))))
  .nil))
def n4 : List Str := ["device", "slot", "many"]
/-- held_by(device, slot) : slots 0 device, 1 slot, 2 cells, 3 head, 4 count, 5 total, 6 words, 7 tail, 8 word -/
def b5 : B :=
  (.cons (.asg (.name 2) (.call 4 (.cons (.var 0) (.cons (.var 1) .nil)) 0))
  (.cons (.asg (.tup (.cons (.name 3) (.cons (.name 4) (.cons (.name 5) (.cons (.name 6) (.cons (.name 7) .nil)))))) (.tup (.cons (.sub (.var 2) (.int 0)) (.cons (.sub (.var 2) (.int 1)) (.cons (.sub (.var 2) (.int 2)) (.cons (.slice false (.var 2) (.some (.int 3)) (.some (.neg (.int 1)))) (.cons (.sub (.var 2) (.neg (.int 1))) .nil)))))))
  (.cons (.ifs (.or (.cmp .le (.var 3) (.int 0)) (.or (.cmp .ne (.var 3) (.var 7)) (.or (.not (.chain .le .le (.int 0) (.var 4) (.blt .len (.cons (.var 6) .nil)))) (.cmp .ne (.var 5) (.bin .add false (.bin .add false (.var 3) (.var 4)) (.blt .sum (.cons (.var 6) .nil)))))))
   (.cons (.ret (.non))
   .nil)
   .nil)
  (.cons (.ifs (.blt .any (.cons (.comp false (.cmp .ne (.var 8) (.int 0)) (.name 8) (.seq (.slice false (.var 6) (.some (.var 4)) .none)) .none [("word", 8)]) .nil))
   (.cons (.ret (.non))
   .nil)
   .nil)
  (.cons (.ret (.tup (.cons (.var 3) (.cons (.slice false (.var 6) .none (.some (.var 4))) .nil))))
  .nil)))))
def n5 : List Str := ["device", "slot", "cells", "head", "count", "total", "words", "tail", "word"]
/-- current_by(device) : slots 0 device, 1 found, 2 other -/
def b6 : B :=
  (.cons (.par [1, 2] (.cons (.call 5 (.cons (.var 0) (.cons (.int 0) .nil)) 0) (.cons (.call 5 (.cons (.var 0) (.cons (.int 1) .nil)) 0) .nil)))
  (.cons (.ifs (.cmp .is (.var 1) (.non))
   (.cons (.ret (.ite (.cmp .is (.var 2) (.non)) (.non) (.int 1)))
   .nil)
   .nil)
  (.cons (.ret (.ite (.and (.cmp .isn (.var 2) (.non)) (.cmp .gt (.sub (.var 2) (.int 0)) (.sub (.var 1) (.int 0)))) (.int 1) (.int 0)))
  .nil)))
def n6 : List Str := ["device", "found", "other"]
/-- mending_by(device) : slots 0 device, 1 many, 2 slot -/
def b7 : B :=
  (.cons (.asg (.name 1) (.bin .fdiv false (.blt .len (.cons (.var 0) .nil)) (.int 2)))
  (.cons (.ret (.blt .tuple (.cons (.comp false (.tup (.cons (.bin .mul false (.var 2) (.var 1)) (.cons (.int 0) .nil))) (.name 2) (.rng1 (.int 2)) (.some (.and (.cmp .ne (.sub (.var 0) (.bin .mul false (.var 2) (.var 1))) (.int 0)) (.cmp .is (.call 5 (.cons (.var 0) (.cons (.var 2) .nil)) 0) (.non)))) [("slot", 2)]) .nil)))
  .nil))
def n7 : List Str := ["device", "many", "slot"]
/-- put_all(device, writes) : slots 0 device, 1 writes, 2 cells, 3 cell, 4 number -/
def b8 : B :=
  (.cons (.asg (.name 2) (.bltL .list true (.cons (.var 0) .nil)))
  (.cons (.for_ (.tup (.cons (.name 3) (.cons (.name 4) .nil))) (.seq (.var 1))
   (.cons (.asg (.sub (.var 2) (.var 3)) (.var 4))
   .nil))
  (.cons (.ret (.blt .tuple (.cons (.var 2) .nil)))
  .nil)))
def n8 : List Str := ["device", "writes", "cells", "cell", "number"]
/-- blank(width) : slots 0 width -/
def b9 : B :=
  (.cons (.expr (.call 1 (.cons (.var 0) (.cons (.glob 0) (.cons (.glob 2) .nil))) 0))
  (.cons (.ret (.bin .mul false (.tup (.cons (.int 0) .nil)) (.bin .mul false (.int 2) (.bin .add false (.var 0) (.glob 1)))))
  .nil))
def n9 : List Str := ["width"]
/-- held(device, slot) : slots 0 device, 1 slot -/
def b10 : B :=
  (.cons (.expr (.call 3 (.cons (.var 0) .nil) 0))
  (.cons (.expr (.call 1 (.cons (.var 1) (.cons (.int 0) (.cons (.int 1) .nil))) 0))
  (.cons (.ret (.call 5 (.cons (.var 0) (.cons (.var 1) .nil)) 0))
  .nil)))
def n10 : List Str := ["device", "slot"]
/-- current(device) : slots 0 device -/
def b11 : B :=
  (.cons (.expr (.call 3 (.cons (.var 0) .nil) 0))
  (.cons (.ret (.call 6 (.cons (.var 0) .nil) 0))
  .nil))
def n11 : List Str := ["device"]
/-- is_mended(device) : slots 0 device -/
def b12 : B :=
  (.cons (.expr (.call 3 (.cons (.var 0) .nil) 0))
  (.cons (.ret (.cmp .eq (.call 7 (.cons (.var 0) .nil) 0) (.tup .nil)))
  .nil))
def n12 : List Str := ["device"]
/-- mending(device) : slots 0 device -/
def b13 : B :=
  (.cons (.expr (.call 3 (.cons (.var 0) .nil) 0))
  (.cons (.ret (.call 7 (.cons (.var 0) .nil) 0))
  .nil))
def n13 : List Str := ["device"]
/-- mended(device) : slots 0 device -/
def b14 : B :=
  (.cons (.expr (.call 3 (.cons (.var 0) .nil) 0))
  (.cons (.ret (.call 8 (.cons (.var 0) (.cons (.call 7 (.cons (.var 0) .nil) 0) .nil)) 0))
  .nil))
def n14 : List Str := ["device"]
/-- _law_well(script, turn) : slots 0 script, 1 turn, 2 mixed, 3 cell, 4 own -/
def b15 : B :=
  (.cons (.asg (.name 2) (.bin .add false (.int 902611) (.bin .mul false (.int 7129) (.var 1))))
  (.cons (.for_ (.name 3) (.seq (.slice false (.var 0) .none (.some (.int 9))))
   (.cons (.asg (.name 2) (.bin .mod false (.blt .int (.cons (.bin .add false (.bin .add false (.bin .mul false (.var 2) (.int 47123)) (.bin .mod false (.blt .int (.cons (.var 3) .nil)) (.int 2147483587))) (.int 5)) .nil)) (.int 2147483563)))
   .nil))
  (.cons (.asg (.name 4) (.ite (.cmp .lt (.var 1) (.blt .len (.cons (.var 0) .nil))) (.blt .int (.cons (.sub (.var 0) (.var 1)) .nil)) (.int 0)))
  (.cons (.asg (.name 2) (.bin .mod false (.blt .int (.cons (.bin .add false (.bin .add false (.bin .mul false (.var 2) (.int 43)) (.bin .mul false (.bin .mod false (.blt .int (.cons (.var 4) .nil)) (.int 2147483587)) (.int 20011))) (.int 7)) .nil)) (.int 2147483563)))
  (.cons (.ret (.lst true (.cons (.ite (.or (.cmp .lt (.var 4) (.int 0)) (.cmp .ge (.var 4) (.bin .pow false (.int 10) (.int 14)))) (.blt .abs (.cons (.var 4) .nil)) (.int 0)) (.cons (.var 2) (.cons (.int 0) .nil)))))
  .nil)))))
def n15 : List Str := ["script", "turn", "mixed", "cell", "own"]
/-- _law_draw(well, many) : slots 0 well, 1 many, 2 figure, 3 seed -/
def b16 : B :=
  (.cons (.ifs (.cmp .gt (.sub (.var 0) (.int 0)) (.int 0))
   (.cons (.asg (.tup (.cons (.sub (.var 0) (.int 0)) (.cons (.name 2) .nil))) (.blt .divmod (.cons (.sub (.var 0) (.int 0)) (.cons (.var 1) .nil))))
   (.cons (.ret (.var 2))
   .nil))
   .nil)
  (.cons (.asg (.sub (.var 0) (.int 2)) (.bin .add false (.sub (.var 0) (.int 2)) (.int 1)))
  (.cons (.asg (.name 3) (.bin .mod false (.blt .int (.cons (.bin .add false (.sub (.var 0) (.int 1)) (.bin .mul false (.int 60013) (.sub (.var 0) (.int 2)))) .nil)) (.int 2147483563)))
  (.cons (.asg (.sub (.var 0) (.int 1)) (.bin .mod false (.blt .int (.cons (.bin .add false (.bin .mul false (.var 3) (.bin .add false (.bin .mod false (.blt .int (.cons (.var 3) .nil)) (.int 5003)) (.int 40009))) (.bin .mul false (.int 31) (.sub (.var 0) (.int 2)))) .nil)) (.int 2147483563)))
  (.cons (.ret (.bin .mod false (.blt .int (.cons (.bin .fdiv false (.sub (.var 0) (.int 1)) (.int 641)) .nil)) (.var 1)))
  .nil)))))
def n16 : List Str := ["well", "many", "figure", "seed"]
/-- _law_pick(well, some) : slots 0 well, 1 some -/
def b17 : B :=
  (.cons (.ret (.sub (.var 1) (.call 16 (.cons (.var 0) (.cons (.blt .len (.cons (.var 1) .nil)) .nil)) 0)))
  .nil)
def n17 : List Str := ["well", "some"]
/-- _law_is_whole(thing) : slots 0 thing -/
def b18 : B :=
  (.cons (.ret (.and (.isi (.var 0) .int) (.not (.isi (.var 0) .bool))))
  .nil)
def n18 : List Str := ["thing"]
/-- _law_same(told, due) : slots 0 told, 1 due, 2 x, 3 y -/
def b19 : B :=
  (.cons (.ifs (.isi (.var 1) .tuple)
   (.cons (.ret (.and (.isi (.var 0) .tuple) (.and (.cmp .eq (.blt .len (.cons (.var 0) .nil)) (.blt .len (.cons (.var 1) .nil))) (.blt .all (.cons (.comp false (.call 19 (.cons (.var 2) (.cons (.var 3) .nil)) 0) (.tup (.cons (.name 2) (.cons (.name 3) .nil))) (.zip (.var 0) (.var 1)) .none [("x", 2), ("y", 3)]) .nil)))))
   .nil)
   .nil)
  (.cons (.ifs (.cmp .is (.var 1) (.non))
   (.cons (.ret (.cmp .is (.var 0) (.non)))
   .nil)
   .nil)
  (.cons (.ifs (.isi (.var 1) .bool)
   (.cons (.ret (.and (.isi (.var 0) .bool) (.cmp .eq (.var 0) (.var 1))))
   .nil)
   .nil)
  (.cons (.ifs (.isi (.var 1) .str)
   (.cons (.ret (.and (.isi (.var 0) .str) (.cmp .eq (.var 0) (.var 1))))
   .nil)
   .nil)
  (.cons (.ret (.and (.call 18 (.cons (.var 0) .nil) 0) (.cmp .eq (.var 0) (.var 1))))
  .nil)))))
def n19 : List Str := ["told", "due", "x", "y"]
/-- _law_held(cells) : slots 0 cells, 1 head, 2 count, 3 words, 4 word -/
def b20 : B :=
  (.cons (.par [1, 2, 3] (.cons (.sub (.var 0) (.int 0)) (.cons (.sub (.var 0) (.int 1)) (.cons (.slice false (.var 0) (.some (.int 3)) (.some (.neg (.int 1)))) .nil))))
  (.cons (.ifs (.or (.cmp .le (.var 1) (.int 0)) (.or (.cmp .ne (.var 1) (.sub (.var 0) (.neg (.int 1)))) (.not (.chain .le .le (.int 0) (.var 2) (.blt .len (.cons (.var 3) .nil))))))
   (.cons (.ret (.non))
   .nil)
   .nil)
  (.cons (.ifs (.or (.blt .any (.cons (.comp false (.cmp .ne (.var 4) (.int 0)) (.name 4) (.seq (.slice false (.var 3) (.some (.var 2)) .none)) .none [("word", 4)]) .nil)) (.cmp .ne (.sub (.var 0) (.int 2)) (.bin .add false (.bin .add false (.var 1) (.var 2)) (.blt .sum (.cons (.var 3) .nil)))))
   (.cons (.ret (.non))
   .nil)
   .nil)
  (.cons (.ret (.tup (.cons (.var 1) (.cons (.blt .tuple (.cons (.slice false (.var 3) .none (.some (.var 2))) .nil)) .nil))))
  .nil))))
def n20 : List Str := ["cells", "head", "count", "words", "word"]
/-- _law_both(device) : slots 0 device, 1 size -/
def b21 : B :=
  (.cons (.asg (.name 1) (.bin .fdiv false (.blt .len (.cons (.var 0) .nil)) (.int 2)))
  (.cons (.ret (.tup (.cons (.call 20 (.cons (.slice false (.var 0) .none (.some (.var 1))) .nil) 0) (.cons (.call 20 (.cons (.slice false (.var 0) (.some (.var 1)) .none) .nil) 0) .nil))))
  .nil))
def n21 : List Str := ["device", "size"]
/-- _law_now(holds) : slots 0 holds -/
def b22 : B :=
  (.cons (.ifs (.and (.cmp .isn (.sub (.var 0) (.int 1)) (.non)) (.or (.cmp .is (.sub (.var 0) (.int 0)) (.non)) (.cmp .gt (.sub (.sub (.var 0) (.int 1)) (.int 0)) (.sub (.sub (.var 0) (.int 0)) (.int 0)))))
   (.cons (.ret (.int 1))
   .nil)
   .nil)
  (.cons (.ret (.ite (.cmp .is (.sub (.var 0) (.int 0)) (.non)) (.non) (.int 0)))
  .nil))
def n22 : List Str := ["holds"]
/-- _law_clears(device) : slots 0 device, 1 size, 2 holds, 3 at -/
def b23 : B :=
  (.cons (.asg (.tup (.cons (.name 1) (.cons (.name 2) .nil))) (.tup (.cons (.bin .fdiv false (.blt .len (.cons (.var 0) .nil)) (.int 2)) (.cons (.call 21 (.cons (.var 0) .nil) 0) .nil))))
  (.cons (.ret (.blt .tuple (.cons (.comp false (.tup (.cons (.bin .mul false (.var 3) (.var 1)) (.cons (.int 0) .nil))) (.name 3) (.seq (.tup (.cons (.int 0) (.cons (.int 1) .nil)))) (.some (.and (.cmp .is (.sub (.var 2) (.var 3)) (.non)) (.cmp .ne (.sub (.var 0) (.bin .mul false (.var 3) (.var 1))) (.int 0)))) [("at", 3)]) .nil)))
  .nil))
def n23 : List Str := ["device", "size", "holds", "at"]
/-- _law_put(device, writes) : slots 0 device, 1 writes, 2 found, 3 cell, 4 number -/
def b24 : B :=
  (.cons (.asg (.name 2) (.bltL .list true (.cons (.var 0) .nil)))
  (.cons (.for_ (.tup (.cons (.name 3) (.cons (.name 4) .nil))) (.seq (.var 1))
   (.cons (.asg (.sub (.var 2) (.var 3)) (.var 4))
   .nil))
  (.cons (.ret (.blt .tuple (.cons (.var 2) .nil)))
  .nil)))
def n24 : List Str := ["device", "writes", "found", "cell", "number"]
/-- _law_number(well) : slots 0 well -/
def b25 : B :=
  (.cons (.ret (.ite (.cmp .gt (.call 16 (.cons (.var 0) (.cons (.int 4) .nil)) 0) (.int 0)) (.bin .sub false (.call 16 (.cons (.var 0) (.cons (.int 9) .nil)) 0) (.int 3)) (.bin .sub false (.call 16 (.cons (.var 0) (.cons (.bin .pow false (.int 10) (.int 12)) .nil)) 0) (.int 1500007))))
  .nil)
def n25 : List Str := ["well"]
/-- _law_filled(well, wide) : slots 0 well, 1 wide, 2 some, 3 at, 4 count, 5 words, 6 turn -/
def b26 : B :=
  (.cons (.asg (.name 2) (.lst true .nil))
  (.cons (.for_ (.name 3) (.rng1 (.bin .add false (.int 1) (.call 16 (.cons (.var 0) (.cons (.int 6) .nil)) 0)))
   (.cons (.expr (.mt .append (.var 2) (.cons (.call 25 (.cons (.var 0) .nil) 0) .nil)))
   .nil))
  (.cons (.asg (.name 4) (.call 17 (.cons (.var 0) (.cons (.tup (.cons (.int 0) (.cons (.int 1) (.cons (.var 1) (.cons (.bin .sub false (.var 1) (.int 1)) (.cons (.int 5) (.cons (.call 16 (.cons (.var 0) (.cons (.bin .add false (.var 1) (.int 1)) .nil)) 0) .nil))))))) .nil)) 0))
  (.cons (.asg (.name 5) (.slice false (.bin .mul false (.var 2) (.var 1)) .none (.some (.var 4))))
  (.cons (.asg (.name 6) (.bin .add false (.int 1) (.ite (.cmp .gt (.call 16 (.cons (.var 0) (.cons (.int 3) .nil)) 0) (.int 0)) (.call 16 (.cons (.var 0) (.cons (.int 3) .nil)) 0) (.call 16 (.cons (.var 0) (.cons (.int 3000000) .nil)) 0))))
  (.cons (.ret (.bin .add true (.bin .add false (.bin .add false (.lst false (.cons (.var 6) (.cons (.var 4) (.cons (.bin .add false (.bin .add false (.var 6) (.var 4)) (.blt .sum (.cons (.var 5) .nil))) .nil)))) (.var 5)) (.bin .mul false (.lst false (.cons (.int 0) .nil)) (.bin .sub false (.var 1) (.var 4)))) (.lst false (.cons (.var 6) .nil))))
  .nil))))))
def n26 : List Str := ["well", "wide", "some", "at", "count", "words", "turn"]
/-- _law_turned(well, cells) : slots 0 well, 1 cells, 2 size, 3 kind, 4 by, 5 again, 6 spot, 7 old -/
def b27 : B :=
  (.cons (.asg (.name 2) (.blt .len (.cons (.var 1) .nil)))
  (.cons (.asg (.name 3) (.call 16 (.cons (.var 0) (.cons (.int 6) .nil)) 0))
  (.cons (.ifs (.cmp .eq (.var 3) (.int 0))
   (.cons (.asg (.name 4) (.call 17 (.cons (.var 0) (.cons (.tup (.cons (.int 1) (.cons (.neg (.int 1)) .nil))) .nil)) 0))
   (.cons (.asg (.tup (.cons (.sub (.var 1) (.int 1)) (.cons (.sub (.var 1) (.int 2)) .nil))) (.tup (.cons (.bin .add false (.sub (.var 1) (.int 1)) (.var 4)) (.cons (.bin .add false (.sub (.var 1) (.int 2)) (.var 4)) .nil))))
   (.cons (.ret (.var 1))
   .nil)))
   .nil)
  (.cons (.ifs (.cmp .eq (.var 3) (.int 1))
   (.cons (.asg (.name 4) (.ite (.cmp .eq (.call 16 (.cons (.var 0) (.cons (.int 2) .nil)) 0) (.int 0)) (.sub (.var 1) (.int 0)) (.bin .mul false (.int 2) (.sub (.var 1) (.int 0)))))
   (.cons (.asg (.tup (.cons (.sub (.var 1) (.int 0)) (.cons (.sub (.var 1) (.int 2)) (.cons (.sub (.var 1) (.neg (.int 1))) .nil)))) (.tup (.cons (.bin .sub false (.sub (.var 1) (.int 0)) (.var 4)) (.cons (.bin .sub false (.sub (.var 1) (.int 2)) (.var 4)) (.cons (.bin .sub false (.sub (.var 1) (.neg (.int 1))) (.var 4)) .nil)))))
   (.cons (.ret (.var 1))
   .nil)))
   .nil)
  (.cons (.for_ (.name 5) (.rng1 (.ite (.cmp .lt (.var 3) (.int 5)) (.int 1) (.int 2)))
   (.cons (.asg (.name 6) (.call 17 (.cons (.var 0) (.cons (.tup (.cons (.int 0) (.cons (.int 1) (.cons (.int 2) (.cons (.int 3) (.cons (.bin .sub false (.var 2) (.int 2)) (.cons (.bin .sub false (.var 2) (.int 1)) (.cons (.call 16 (.cons (.var 0) (.cons (.var 2) .nil)) 0) .nil)))))))) .nil)) 0))
   (.cons (.asg (.name 7) (.sub (.var 1) (.var 6)))
   (.cons (.asg (.sub (.var 1) (.var 6)) (.call 17 (.cons (.var 0) (.cons (.tup (.cons (.bin .add false (.var 7) (.int 1)) (.cons (.bin .sub false (.var 7) (.int 1)) (.cons (.int 0) (.cons (.bin .sub false (.int 0) (.var 7)) (.cons (.sub (.var 1) (.int 0)) (.cons (.sub (.var 1) (.int 1)) (.cons (.call 25 (.cons (.var 0) .nil) 0) .nil)))))))) .nil)) 0))
   .nil))))
  (.cons (.ret (.var 1))
  .nil))))))
def n27 : List Str := ["well", "cells", "size", "kind", "by", "again", "spot", "old"]
/-- _law_slot(well, wide) : slots 0 well, 1 wide, 2 kind, 3 cells -/
def b28 : B :=
  (.cons (.asg (.name 2) (.call 16 (.cons (.var 0) (.cons (.int 8) .nil)) 0))
  (.cons (.ifs (.cmp .eq (.var 2) (.int 0))
   (.cons (.ret (.bin .mul true (.lst false (.cons (.int 0) .nil)) (.bin .add false (.var 1) (.int 4))))
   .nil)
   .nil)
  (.cons (.asg (.name 3) (.call 26 (.cons (.var 0) (.cons (.var 1) .nil)) 0))
  (.cons (.ret (.ite (.cmp .lt (.var 2) (.int 4)) (.var 3) (.call 27 (.cons (.var 0) (.cons (.var 3) .nil)) 0)))
  .nil))))
def n28 : List Str := ["well", "wide", "kind", "cells"]
/-- _law_is_seen(device) : slots 0 device, 1 holds, 2 writes, 3 told, 4 due -/
def b29 : B :=
  (.cons (.par [1, 2] (.cons (.call 21 (.cons (.var 0) .nil) 0) (.cons (.call 23 (.cons (.var 0) .nil) 0) .nil)))
  (.cons (.asg (.name 3) (.tup (.cons (.call 10 (.cons (.var 0) (.cons (.int 0) .nil)) 0) (.cons (.call 10 (.cons (.var 0) (.cons (.int 1) .nil)) 0) (.cons (.call 11 (.cons (.var 0) .nil) 0) (.cons (.call 12 (.cons (.var 0) .nil) 0) (.cons (.call 13 (.cons (.var 0) .nil) 0) (.cons (.call 14 (.cons (.var 0) .nil) 0) .nil))))))))
  (.cons (.asg (.name 4) (.bin .add false (.var 1) (.tup (.cons (.call 22 (.cons (.var 1) .nil) 0) (.cons (.cmp .eq (.var 2) (.tup .nil)) (.cons (.var 2) (.cons (.call 24 (.cons (.var 0) (.cons (.var 2) .nil)) 0) .nil)))))))
  (.cons (.ret (.call 19 (.cons (.var 3) (.cons (.var 4) .nil)) 0))
  .nil))))
def n29 : List Str := ["device", "holds", "writes", "told", "due"]
/-- _law_right(well) : slots 0 well, 1 wide, 2 one, 3 two, 4 device, 5 empty -/
def b30 : B :=
  (.cons (.asg (.name 1) (.bin .add false (.int 26) (.call 16 (.cons (.var 0) (.cons (.int 7) .nil)) 0)))
  (.cons (.asg (.name 2) (.call 28 (.cons (.var 0) (.cons (.var 1) .nil)) 0))
  (.cons (.asg (.name 3) (.ite (.cmp .eq (.call 16 (.cons (.var 0) (.cons (.int 5) .nil)) 0) (.int 0)) (.bltL .list true (.cons (.var 2) .nil)) (.call 28 (.cons (.var 0) (.cons (.var 1) .nil)) 0)))
  (.cons (.par [4, 5] (.cons (.blt .tuple (.cons (.bin .add false (.var 2) (.var 3)) .nil)) (.cons (.call 9 (.cons (.var 1) .nil) 0) .nil)))
  (.cons (.ifs (.or (.not (.call 29 (.cons (.var 4) .nil) 0)) (.not (.call 29 (.cons (.call 24 (.cons (.var 4) (.cons (.call 23 (.cons (.var 4) .nil) 0) .nil)) 0) .nil) 0)))
   (.cons (.ret (.bl false))
   .nil)
   .nil)
  (.cons (.ret (.and (.call 19 (.cons (.var 5) (.cons (.bin .mul false (.tup (.cons (.int 0) .nil)) (.bin .add false (.bin .mul false (.int 2) (.var 1)) (.int 8))) .nil)) 0) (.call 29 (.cons (.var 5) .nil) 0)))
  .nil))))))
def n30 : List Str := ["well", "wide", "one", "two", "device", "empty"]
/-- law(script) : slots 0 script, 1 turn -/
def b31 : B :=
  (.cons (.ret (.blt .all (.cons (.comp false (.call 30 (.cons (.call 15 (.cons (.var 0) (.cons (.var 1) .nil)) 0) .nil) 0) (.name 1) (.rng1 (.blt .max (.cons (.int 2) (.cons (.blt .min (.cons (.blt .len (.cons (.var 0) .nil)) (.cons (.int 3) .nil))) .nil)))) .none [("turn", 1)]) .nil)))
  .nil)
def n31 : List Str := ["script", "turn"]
def fns : List FnD := [⟨3, 3, b0⟩, ⟨3, 3, b1⟩, ⟨1, 1, b2⟩, ⟨1, 3, b3⟩, ⟨2, 3, b4⟩, ⟨2, 9, b5⟩, ⟨1, 3, b6⟩, ⟨1, 3, b7⟩, ⟨2, 5, b8⟩, ⟨1, 1, b9⟩, ⟨2, 2, b10⟩, ⟨1, 1, b11⟩, ⟨1, 1, b12⟩, ⟨1, 1, b13⟩, ⟨1, 1, b14⟩, ⟨2, 5, b15⟩, ⟨2, 4, b16⟩, ⟨2, 2, b17⟩, ⟨1, 1, b18⟩, ⟨2, 4, b19⟩, ⟨1, 5, b20⟩, ⟨1, 2, b21⟩, ⟨1, 1, b22⟩, ⟨1, 4, b23⟩, ⟨2, 5, b24⟩, ⟨1, 1, b25⟩, ⟨2, 7, b26⟩, ⟨2, 8, b27⟩, ⟨2, 4, b28⟩, ⟨1, 5, b29⟩, ⟨1, 6, b30⟩, ⟨1, 2, b31⟩]
def fnm : List Str := ["is_within", "check_within", "is_whole_number", "check_device", "slot_cells", "held_by", "current_by", "mending_by", "put_all", "blank", "held", "current", "is_mended", "mending", "mended", "_law_well", "_law_draw", "_law_pick", "_law_is_whole", "_law_same", "_law_held", "_law_both", "_law_now", "_law_clears", "_law_put", "_law_number", "_law_filled", "_law_turned", "_law_slot", "_law_is_seen", "_law_right", "law"]
def cns : List PV := [.int 26, .int 4, .int 9000]
def cnm : List Str := ["LEAST_WIDTH", "BESIDE", "MOST_WIDTH"]
def P : Pg := ⟨fun i => fns[i]?, fun i => (cns[i]?).getD .non, fun _ _ => [], fun _ => none⟩
def M : Nm := ⟨fun i => fnm[i]?, fun i => cnm[i]?, fun _ _ => false⟩
@[simp] theorem dv (f j : Nat) : P.dv f j = [] := rfl
@[simp] theorem cs0 : P.cs 0 = .int 26 := rfl
@[simp] theorem cs1 : P.cs 1 = .int 4 := rfl
@[simp] theorem cs2 : P.cs 2 = .int 9000 := rfl
theorem u0 {fw n : Nat} (a0 a1 a2 : PV) (S : Store) : cal P fw (n + 1) 0 [a0, a1, a2] S = (exB (cal P fw n) P fw b0 [some a0, some a1, some a2] S).toR := cal_of (d := ⟨3, 3, b0⟩) rfl rfl S
theorem u1 {fw n : Nat} (a0 a1 a2 : PV) (S : Store) : cal P fw (n + 1) 1 [a0, a1, a2] S = (exB (cal P fw n) P fw b1 [some a0, some a1, some a2] S).toR := cal_of (d := ⟨3, 3, b1⟩) rfl rfl S
theorem u2 {fw n : Nat} (a0 : PV) (S : Store) : cal P fw (n + 1) 2 [a0] S = (exB (cal P fw n) P fw b2 [some a0] S).toR := cal_of (d := ⟨1, 1, b2⟩) rfl rfl S
theorem u3 {fw n : Nat} (a0 : PV) (S : Store) : cal P fw (n + 1) 3 [a0] S = (exB (cal P fw n) P fw b3 [some a0, none, none] S).toR := cal_of (d := ⟨1, 3, b3⟩) rfl rfl S
theorem u4 {fw n : Nat} (a0 a1 : PV) (S : Store) : cal P fw (n + 1) 4 [a0, a1] S = (exB (cal P fw n) P fw b4 [some a0, some a1, none] S).toR := cal_of (d := ⟨2, 3, b4⟩) rfl rfl S
theorem u5 {fw n : Nat} (a0 a1 : PV) (S : Store) : cal P fw (n + 1) 5 [a0, a1] S = (exB (cal P fw n) P fw b5 [some a0, some a1, none, none, none, none, none, none, none] S).toR := cal_of (d := ⟨2, 9, b5⟩) rfl rfl S
theorem u6 {fw n : Nat} (a0 : PV) (S : Store) : cal P fw (n + 1) 6 [a0] S = (exB (cal P fw n) P fw b6 [some a0, none, none] S).toR := cal_of (d := ⟨1, 3, b6⟩) rfl rfl S
theorem u7 {fw n : Nat} (a0 : PV) (S : Store) : cal P fw (n + 1) 7 [a0] S = (exB (cal P fw n) P fw b7 [some a0, none, none] S).toR := cal_of (d := ⟨1, 3, b7⟩) rfl rfl S
theorem u8 {fw n : Nat} (a0 a1 : PV) (S : Store) : cal P fw (n + 1) 8 [a0, a1] S = (exB (cal P fw n) P fw b8 [some a0, some a1, none, none, none] S).toR := cal_of (d := ⟨2, 5, b8⟩) rfl rfl S
theorem u9 {fw n : Nat} (a0 : PV) (S : Store) : cal P fw (n + 1) 9 [a0] S = (exB (cal P fw n) P fw b9 [some a0] S).toR := cal_of (d := ⟨1, 1, b9⟩) rfl rfl S
theorem u10 {fw n : Nat} (a0 a1 : PV) (S : Store) : cal P fw (n + 1) 10 [a0, a1] S = (exB (cal P fw n) P fw b10 [some a0, some a1] S).toR := cal_of (d := ⟨2, 2, b10⟩) rfl rfl S
theorem u11 {fw n : Nat} (a0 : PV) (S : Store) : cal P fw (n + 1) 11 [a0] S = (exB (cal P fw n) P fw b11 [some a0] S).toR := cal_of (d := ⟨1, 1, b11⟩) rfl rfl S
theorem u12 {fw n : Nat} (a0 : PV) (S : Store) : cal P fw (n + 1) 12 [a0] S = (exB (cal P fw n) P fw b12 [some a0] S).toR := cal_of (d := ⟨1, 1, b12⟩) rfl rfl S
theorem u13 {fw n : Nat} (a0 : PV) (S : Store) : cal P fw (n + 1) 13 [a0] S = (exB (cal P fw n) P fw b13 [some a0] S).toR := cal_of (d := ⟨1, 1, b13⟩) rfl rfl S
theorem u14 {fw n : Nat} (a0 : PV) (S : Store) : cal P fw (n + 1) 14 [a0] S = (exB (cal P fw n) P fw b14 [some a0] S).toR := cal_of (d := ⟨1, 1, b14⟩) rfl rfl S
theorem u15 {fw n : Nat} (a0 a1 : PV) (S : Store) : cal P fw (n + 1) 15 [a0, a1] S = (exB (cal P fw n) P fw b15 [some a0, some a1, none, none, none] S).toR := cal_of (d := ⟨2, 5, b15⟩) rfl rfl S
theorem u16 {fw n : Nat} (a0 a1 : PV) (S : Store) : cal P fw (n + 1) 16 [a0, a1] S = (exB (cal P fw n) P fw b16 [some a0, some a1, none, none] S).toR := cal_of (d := ⟨2, 4, b16⟩) rfl rfl S
theorem u17 {fw n : Nat} (a0 a1 : PV) (S : Store) : cal P fw (n + 1) 17 [a0, a1] S = (exB (cal P fw n) P fw b17 [some a0, some a1] S).toR := cal_of (d := ⟨2, 2, b17⟩) rfl rfl S
theorem u18 {fw n : Nat} (a0 : PV) (S : Store) : cal P fw (n + 1) 18 [a0] S = (exB (cal P fw n) P fw b18 [some a0] S).toR := cal_of (d := ⟨1, 1, b18⟩) rfl rfl S
theorem u19 {fw n : Nat} (a0 a1 : PV) (S : Store) : cal P fw (n + 1) 19 [a0, a1] S = (exB (cal P fw n) P fw b19 [some a0, some a1, none, none] S).toR := cal_of (d := ⟨2, 4, b19⟩) rfl rfl S
theorem u20 {fw n : Nat} (a0 : PV) (S : Store) : cal P fw (n + 1) 20 [a0] S = (exB (cal P fw n) P fw b20 [some a0, none, none, none, none] S).toR := cal_of (d := ⟨1, 5, b20⟩) rfl rfl S
theorem u21 {fw n : Nat} (a0 : PV) (S : Store) : cal P fw (n + 1) 21 [a0] S = (exB (cal P fw n) P fw b21 [some a0, none] S).toR := cal_of (d := ⟨1, 2, b21⟩) rfl rfl S
theorem u22 {fw n : Nat} (a0 : PV) (S : Store) : cal P fw (n + 1) 22 [a0] S = (exB (cal P fw n) P fw b22 [some a0] S).toR := cal_of (d := ⟨1, 1, b22⟩) rfl rfl S
theorem u23 {fw n : Nat} (a0 : PV) (S : Store) : cal P fw (n + 1) 23 [a0] S = (exB (cal P fw n) P fw b23 [some a0, none, none, none] S).toR := cal_of (d := ⟨1, 4, b23⟩) rfl rfl S
theorem u24 {fw n : Nat} (a0 a1 : PV) (S : Store) : cal P fw (n + 1) 24 [a0, a1] S = (exB (cal P fw n) P fw b24 [some a0, some a1, none, none, none] S).toR := cal_of (d := ⟨2, 5, b24⟩) rfl rfl S
theorem u25 {fw n : Nat} (a0 : PV) (S : Store) : cal P fw (n + 1) 25 [a0] S = (exB (cal P fw n) P fw b25 [some a0] S).toR := cal_of (d := ⟨1, 1, b25⟩) rfl rfl S
theorem u26 {fw n : Nat} (a0 a1 : PV) (S : Store) : cal P fw (n + 1) 26 [a0, a1] S = (exB (cal P fw n) P fw b26 [some a0, some a1, none, none, none, none, none] S).toR := cal_of (d := ⟨2, 7, b26⟩) rfl rfl S
theorem u27 {fw n : Nat} (a0 a1 : PV) (S : Store) : cal P fw (n + 1) 27 [a0, a1] S = (exB (cal P fw n) P fw b27 [some a0, some a1, none, none, none, none, none, none] S).toR := cal_of (d := ⟨2, 8, b27⟩) rfl rfl S
theorem u28 {fw n : Nat} (a0 a1 : PV) (S : Store) : cal P fw (n + 1) 28 [a0, a1] S = (exB (cal P fw n) P fw b28 [some a0, some a1, none, none] S).toR := cal_of (d := ⟨2, 4, b28⟩) rfl rfl S
theorem u29 {fw n : Nat} (a0 : PV) (S : Store) : cal P fw (n + 1) 29 [a0] S = (exB (cal P fw n) P fw b29 [some a0, none, none, none, none] S).toR := cal_of (d := ⟨1, 5, b29⟩) rfl rfl S
theorem u30 {fw n : Nat} (a0 : PV) (S : Store) : cal P fw (n + 1) 30 [a0] S = (exB (cal P fw n) P fw b30 [some a0, none, none, none, none, none] S).toR := cal_of (d := ⟨1, 6, b30⟩) rfl rfl S
theorem u31 {fw n : Nat} (a0 : PV) (S : Store) : cal P fw (n + 1) 31 [a0] S = (exB (cal P fw n) P fw b31 [some a0, none] S).toR := cal_of (d := ⟨1, 2, b31⟩) rfl rfl S
theorem c0 : corB M n0 (defScope (top 5)) b0 (defBody (top 5)) = true := by decide +kernel
theorem s0 : FnScope n0 ["value", "low", "high"] (defScope (top 5)) := ⟨rfl, rfl, rfl, by decide +kernel, rfl, by decide +kernel, by decide +kernel⟩
theorem c1 : corB M n1 (defScope (top 6)) b1 (defBody (top 6)) = true := by decide +kernel
theorem s1 : FnScope n1 ["value", "low", "high"] (defScope (top 6)) := ⟨rfl, rfl, rfl, by decide +kernel, rfl, by decide +kernel, by decide +kernel⟩
theorem c2 : corB M n2 (defScope (top 11)) b2 (defBody (top 11)) = true := by decide +kernel
theorem s2 : FnScope n2 ["value"] (defScope (top 11)) := ⟨rfl, rfl, rfl, by decide +kernel, rfl, by decide +kernel, by decide +kernel⟩
theorem c3 : corB M n3 (defScope (top 12)) b3 (defBody (top 12)) = true := by decide +kernel
theorem s3 : FnScope n3 ["device"] (defScope (top 12)) := ⟨rfl, rfl, rfl, by decide +kernel, rfl, by decide +kernel, by decide +kernel⟩
theorem c4 : corB M n4 (defScope (top 13)) b4 (defBody (top 13)) = true := by decide +kernel
theorem s4 : FnScope n4 ["device", "slot"] (defScope (top 13)) := ⟨rfl, rfl, rfl, by decide +kernel, rfl, by decide +kernel, by decide +kernel⟩
theorem c5 : corB M n5 (defScope (top 14)) b5 (defBody (top 14)) = true := by decide +kernel
theorem s5 : FnScope n5 ["device", "slot"] (defScope (top 14)) := ⟨rfl, rfl, rfl, by decide +kernel, rfl, by decide +kernel, by decide +kernel⟩
theorem c6 : corB M n6 (defScope (top 15)) b6 (defBody (top 15)) = true := by decide +kernel
theorem s6 : FnScope n6 ["device"] (defScope (top 15)) := ⟨rfl, rfl, rfl, by decide +kernel, rfl, by decide +kernel, by decide +kernel⟩
theorem c7 : corB M n7 (defScope (top 16)) b7 (defBody (top 16)) = true := by decide +kernel
theorem s7 : FnScope n7 ["device"] (defScope (top 16)) := ⟨rfl, rfl, rfl, by decide +kernel, rfl, by decide +kernel, by decide +kernel⟩
theorem c8 : corB M n8 (defScope (top 17)) b8 (defBody (top 17)) = true := by decide +kernel
theorem s8 : FnScope n8 ["device", "writes"] (defScope (top 17)) := ⟨rfl, rfl, rfl, by decide +kernel, rfl, by decide +kernel, by decide +kernel⟩
theorem c9 : corB M n9 (defScope (top 18)) b9 (defBody (top 18)) = true := by decide +kernel
theorem s9 : FnScope n9 ["width"] (defScope (top 18)) := ⟨rfl, rfl, rfl, by decide +kernel, rfl, by decide +kernel, by decide +kernel⟩
theorem c10 : corB M n10 (defScope (top 19)) b10 (defBody (top 19)) = true := by decide +kernel
theorem s10 : FnScope n10 ["device", "slot"] (defScope (top 19)) := ⟨rfl, rfl, rfl, by decide +kernel, rfl, by decide +kernel, by decide +kernel⟩
theorem c11 : corB M n11 (defScope (top 20)) b11 (defBody (top 20)) = true := by decide +kernel
theorem s11 : FnScope n11 ["device"] (defScope (top 20)) := ⟨rfl, rfl, rfl, by decide +kernel, rfl, by decide +kernel, by decide +kernel⟩
theorem c12 : corB M n12 (defScope (top 21)) b12 (defBody (top 21)) = true := by decide +kernel
theorem s12 : FnScope n12 ["device"] (defScope (top 21)) := ⟨rfl, rfl, rfl, by decide +kernel, rfl, by decide +kernel, by decide +kernel⟩
theorem c13 : corB M n13 (defScope (top 22)) b13 (defBody (top 22)) = true := by decide +kernel
theorem s13 : FnScope n13 ["device"] (defScope (top 22)) := ⟨rfl, rfl, rfl, by decide +kernel, rfl, by decide +kernel, by decide +kernel⟩
theorem c14 : corB M n14 (defScope (top 23)) b14 (defBody (top 23)) = true := by decide +kernel
theorem s14 : FnScope n14 ["device"] (defScope (top 23)) := ⟨rfl, rfl, rfl, by decide +kernel, rfl, by decide +kernel, by decide +kernel⟩
theorem c15 : corB M n15 (defScope (top 25)) b15 (defBody (top 25)) = true := by decide +kernel
theorem s15 : FnScope n15 ["script", "turn"] (defScope (top 25)) := ⟨rfl, rfl, rfl, by decide +kernel, rfl, by decide +kernel, by decide +kernel⟩
theorem c16 : corB M n16 (defScope (top 26)) b16 (defBody (top 26)) = true := by decide +kernel
theorem s16 : FnScope n16 ["well", "many"] (defScope (top 26)) := ⟨rfl, rfl, rfl, by decide +kernel, rfl, by decide +kernel, by decide +kernel⟩
theorem c17 : corB M n17 (defScope (top 27)) b17 (defBody (top 27)) = true := by decide +kernel
theorem s17 : FnScope n17 ["well", "some"] (defScope (top 27)) := ⟨rfl, rfl, rfl, by decide +kernel, rfl, by decide +kernel, by decide +kernel⟩
theorem c18 : corB M n18 (defScope (top 28)) b18 (defBody (top 28)) = true := by decide +kernel
theorem s18 : FnScope n18 ["thing"] (defScope (top 28)) := ⟨rfl, rfl, rfl, by decide +kernel, rfl, by decide +kernel, by decide +kernel⟩
theorem c19 : corB M n19 (defScope (top 29)) b19 (defBody (top 29)) = true := by decide +kernel
theorem s19 : FnScope n19 ["told", "due"] (defScope (top 29)) := ⟨rfl, rfl, rfl, by decide +kernel, rfl, by decide +kernel, by decide +kernel⟩
theorem c20 : corB M n20 (defScope (top 30)) b20 (defBody (top 30)) = true := by decide +kernel
theorem s20 : FnScope n20 ["cells"] (defScope (top 30)) := ⟨rfl, rfl, rfl, by decide +kernel, rfl, by decide +kernel, by decide +kernel⟩
theorem c21 : corB M n21 (defScope (top 31)) b21 (defBody (top 31)) = true := by decide +kernel
theorem s21 : FnScope n21 ["device"] (defScope (top 31)) := ⟨rfl, rfl, rfl, by decide +kernel, rfl, by decide +kernel, by decide +kernel⟩
theorem c22 : corB M n22 (defScope (top 32)) b22 (defBody (top 32)) = true := by decide +kernel
theorem s22 : FnScope n22 ["holds"] (defScope (top 32)) := ⟨rfl, rfl, rfl, by decide +kernel, rfl, by decide +kernel, by decide +kernel⟩
theorem c23 : corB M n23 (defScope (top 33)) b23 (defBody (top 33)) = true := by decide +kernel
theorem s23 : FnScope n23 ["device"] (defScope (top 33)) := ⟨rfl, rfl, rfl, by decide +kernel, rfl, by decide +kernel, by decide +kernel⟩
theorem c24 : corB M n24 (defScope (top 34)) b24 (defBody (top 34)) = true := by decide +kernel
theorem s24 : FnScope n24 ["device", "writes"] (defScope (top 34)) := ⟨rfl, rfl, rfl, by decide +kernel, rfl, by decide +kernel, by decide +kernel⟩
theorem c25 : corB M n25 (defScope (top 35)) b25 (defBody (top 35)) = true := by decide +kernel
theorem s25 : FnScope n25 ["well"] (defScope (top 35)) := ⟨rfl, rfl, rfl, by decide +kernel, rfl, by decide +kernel, by decide +kernel⟩
theorem c26 : corB M n26 (defScope (top 36)) b26 (defBody (top 36)) = true := by decide +kernel
theorem s26 : FnScope n26 ["well", "wide"] (defScope (top 36)) := ⟨rfl, rfl, rfl, by decide +kernel, rfl, by decide +kernel, by decide +kernel⟩
theorem c27 : corB M n27 (defScope (top 37)) b27 (defBody (top 37)) = true := by decide +kernel
theorem s27 : FnScope n27 ["well", "cells"] (defScope (top 37)) := ⟨rfl, rfl, rfl, by decide +kernel, rfl, by decide +kernel, by decide +kernel⟩
theorem c28 : corB M n28 (defScope (top 38)) b28 (defBody (top 38)) = true := by decide +kernel
theorem s28 : FnScope n28 ["well", "wide"] (defScope (top 38)) := ⟨rfl, rfl, rfl, by decide +kernel, rfl, by decide +kernel, by decide +kernel⟩
theorem c29 : corB M n29 (defScope (top 39)) b29 (defBody (top 39)) = true := by decide +kernel
theorem s29 : FnScope n29 ["device"] (defScope (top 39)) := ⟨rfl, rfl, rfl, by decide +kernel, rfl, by decide +kernel, by decide +kernel⟩
theorem c30 : corB M n30 (defScope (top 40)) b30 (defBody (top 40)) = true := by decide +kernel
theorem s30 : FnScope n30 ["well"] (defScope (top 40)) := ⟨rfl, rfl, rfl, by decide +kernel, rfl, by decide +kernel, by decide +kernel⟩
theorem c31 : corB M n31 (defScope (top 41)) b31 (defBody (top 41)) = true := by decide +kernel
theorem s31 : FnScope n31 ["script"] (defScope (top 41)) := ⟨rfl, rfl, rfl, by decide +kernel, rfl, by decide +kernel, by decide +kernel⟩
section
variable {K : PySem.W.Frag} {mg : Str → Option Value} {Γ : Gm}
theorem prg {w : World} (F0 : FnIn K mg Γ P M 0 "is_within") (F1 : FnIn K mg Γ P M 1 "check_within") (F2 : FnIn K mg Γ P M 2 "is_whole_number") (F3 : FnIn K mg Γ P M 3 "check_device") (F4 : FnIn K mg Γ P M 4 "slot_cells") (F5 : FnIn K mg Γ P M 5 "held_by") (F6 : FnIn K mg Γ P M 6 "current_by") (F7 : FnIn K mg Γ P M 7 "mending_by") (F8 : FnIn K mg Γ P M 8 "put_all") (F9 : FnIn K mg Γ P M 9 "blank") (F10 : FnIn K mg Γ P M 10 "held") (F11 : FnIn K mg Γ P M 11 "current") (F12 : FnIn K mg Γ P M 12 "is_mended") (F13 : FnIn K mg Γ P M 13 "mending") (F14 : FnIn K mg Γ P M 14 "mended") (F15 : FnIn K mg Γ P M 15 "_law_well") (F16 : FnIn K mg Γ P M 16 "_law_draw") (F17 : FnIn K mg Γ P M 17 "_law_pick") (F18 : FnIn K mg Γ P M 18 "_law_is_whole") (F19 : FnIn K mg Γ P M 19 "_law_same") (F20 : FnIn K mg Γ P M 20 "_law_held") (F21 : FnIn K mg Γ P M 21 "_law_both") (F22 : FnIn K mg Γ P M 22 "_law_now") (F23 : FnIn K mg Γ P M 23 "_law_clears") (F24 : FnIn K mg Γ P M 24 "_law_put") (F25 : FnIn K mg Γ P M 25 "_law_number") (F26 : FnIn K mg Γ P M 26 "_law_filled") (F27 : FnIn K mg Γ P M 27 "_law_turned") (F28 : FnIn K mg Γ P M 28 "_law_slot") (F29 : FnIn K mg Γ P M 29 "_law_is_seen") (F30 : FnIn K mg Γ P M 30 "_law_right") (F31 : FnIn K mg Γ P M 31 "law")
    (C0 : ∃ u v, mg "LEAST_WIDTH" = some u ∧ RelV v u ∧ ∀ W, Den K Γ W (P.cs 0) v) (C1 : ∃ u v, mg "BESIDE" = some u ∧ RelV v u ∧ ∀ W, Den K Γ W (P.cs 1) v) (C2 : ∃ u v, mg "MOST_WIDTH" = some u ∧ RelV v u ∧ ∀ W, Den K Γ W (P.cs 2) v)
    (B0 : mg "len" = none) (B1 : mg "sum" = none) (B2 : mg "all" = none) (B3 : mg "any" = none) (B4 : mg "max" = none) (B5 : mg "min" = none) (B6 : mg "abs" = none) (B7 : mg "int" = none) (B8 : mg "str" = none) (B9 : mg "tuple" = none) (B10 : mg "divmod" = none) (B11 : mg "list" = none) (B12 : mg "sorted" = none) (B13 : mg "isinstance" = none) (B14 : mg "range" = none) (B15 : mg "enumerate" = none) (B16 : mg "zip" = none) (B17 : mg "bool" = none) (B18 : mg "dict" = none) : Prg w K mg Γ P M where
  fn := fun f x e => match f, e with
    | 0, e => by cases e; exact F0
    | 1, e => by cases e; exact F1
    | 2, e => by cases e; exact F2
    | 3, e => by cases e; exact F3
    | 4, e => by cases e; exact F4
    | 5, e => by cases e; exact F5
    | 6, e => by cases e; exact F6
    | 7, e => by cases e; exact F7
    | 8, e => by cases e; exact F8
    | 9, e => by cases e; exact F9
    | 10, e => by cases e; exact F10
    | 11, e => by cases e; exact F11
    | 12, e => by cases e; exact F12
    | 13, e => by cases e; exact F13
    | 14, e => by cases e; exact F14
    | 15, e => by cases e; exact F15
    | 16, e => by cases e; exact F16
    | 17, e => by cases e; exact F17
    | 18, e => by cases e; exact F18
    | 19, e => by cases e; exact F19
    | 20, e => by cases e; exact F20
    | 21, e => by cases e; exact F21
    | 22, e => by cases e; exact F22
    | 23, e => by cases e; exact F23
    | 24, e => by cases e; exact F24
    | 25, e => by cases e; exact F25
    | 26, e => by cases e; exact F26
    | 27, e => by cases e; exact F27
    | 28, e => by cases e; exact F28
    | 29, e => by cases e; exact F29
    | 30, e => by cases e; exact F30
    | 31, e => by cases e; exact F31
    | _ + 32, e => by cases e
  dv0 := fun _ => rfl
  cn := fun i x e => match i, e with
    | 0, e => by cases e; exact C0
    | 1, e => by cases e; exact C1
    | 2, e => by cases e; exact C2
    | _ + 3, e => by cases e
  kd := fun W i kvs e => by cases e
  bt := btIn_mk fun i hi => match i, hi with
    | 0, _ => B0
    | 1, _ => B1
    | 2, _ => B2
    | 3, _ => B3
    | 4, _ => B4
    | 5, _ => B5
    | 6, _ => B6
    | 7, _ => B7
    | 8, _ => B8
    | 9, _ => B9
    | 10, _ => B10
    | 11, _ => B11
    | 12, _ => B12
    | 13, _ => B13
    | 14, _ => B14
    | 15, _ => B15
    | 16, _ => B16
    | 17, _ => B17
    | 18, _ => B18
    | _ + 19, hi => absurd hi (by show ¬ (_ < 19); omega)
end
end Lk

namespace Lk
open PySem L2 Ev
section
variable {fw n : Nat} {S : Store}
/-! ### half a device -/
structure Half where
  (h c t : Int)
  ws : List Int
  e : Int
def Half.l (x : Half) : List Int := x.h :: x.c :: x.t :: (x.ws ++ [x.e])
theorem half_of {l : List Int} (h : 4 ≤ l.length) : ∃ x : Half, l = x.l := by
  rcases l with _ | ⟨a, _ | ⟨b, _ | ⟨c, r⟩⟩⟩ <;> simp at h
  rcases List.eq_nil_or_concat r with rfl | ⟨ws, e, rfl⟩
  · simp at h
  · exact ⟨⟨a, b, c, ws, e⟩, by simp [Half.l]⟩
theorem Half.len (x : Half) : x.l.length = x.ws.length + 4 := by simp [Half.l]
theorem Half.a0 (x : Half) : atI x.l 0 = some x.h := by
  rw [atI_of (by decide) (by rw [x.len]; omega)]; rfl
theorem Half.a1 (x : Half) : atI x.l 1 = some x.c := by
  rw [atI_of (by decide) (by rw [x.len]; omega)]; rfl
theorem Half.a2 (x : Half) : atI x.l 2 = some x.t := by
  rw [atI_of (by decide) (by rw [x.len]; omega)]; rfl
theorem Half.aL (x : Half) : atI x.l (-1) = some x.e := by
  rw [atI_last (by rw [x.len]; omega)]
  simp [Half.l]
theorem Half.w (x : Half) : cut x.l (some 3) (some (-1)) = x.ws := by
  simp only [cut, x.len, HT.sIx]
  rw [if_pos (show (-1 : Int) < 0 by decide), if_neg (show ¬ (3 : Int) < 0 by decide)]
  have e1 : min (Int.toNat 3) (x.ws.length + 4) = 3 := by show min 3 _ = 3; omega
  have e2 : (-1 + ((x.ws.length + 4 : Nat) : Int)).toNat = x.ws.length + 3 := by omega
  rw [e1, e2]
  simp [Half.l]
def Half.ok (x : Half) : Bool := !(decide (x.h ≤ 0) || !decide (x.h = x.e) || !(decide (0 ≤ x.c) && decide (x.c ≤ x.ws.length)) || !decide (x.t = x.h + x.c + x.ws.sum)) && !((cut x.ws (some x.c) none).any fun w => !decide (w = 0))
def Half.v (x : Half) : PV := if x.ok = true then .tup [.int x.h, .tup ((cut x.ws none (some x.c)).map .int)] else .non
theorem f20 (x : Half) (hx : x.ws.length ≤ 100) : cal P fw (n + 1) 20 [.tup (x.l.map .int)] S = .ok x.v S := by
  have hc : ∀ lo hi, (cut x.ws lo hi).length ≤ 16777216 := fun lo hi => cut_lenB (by omega) lo hi
  rw [u20]
  simp [b20, atI_map, x.a0, x.a1, x.a2, x.aL, cut_map, x.w, cmpT_map, hc]
  unfold Half.v Half.ok
  generalize decide (x.h ≤ 0) = p1
  generalize decide (x.h = x.e) = p2
  generalize decide (0 ≤ x.c) = p3
  generalize decide (x.c ≤ (x.ws.length : Int)) = p4
  generalize ((cut x.ws (some x.c) none).any fun a => !decide (a = 0)) = p5
  generalize decide (x.t = x.h + x.c + x.ws.sum) = p6
  cases p1 <;> cases p2 <;> cases p3 <;> cases p4 <;> cases p5 <;> cases p6 <;> rfl
/-! ### the device -/
def dev (x y : Half) : PV := .tup (x.l.map .int ++ y.l.map .int)
structure Dv (x y : Half) : Prop where
  x1 : x.ws.length ≤ 100
  e : y.ws.length = x.ws.length
  x0 : 26 ≤ x.ws.length
section
variable {x y : Half}
theorem half (D : Dv x y) : ((x.l.length : Int) + y.l.length) / 2 = x.l.length := by
  rw [x.len, y.len, D.e]
  omega
theorem Dv.le (D : Dv x y) : (y.l.length : Int) = x.l.length := by
  rw [x.len, y.len, D.e]
theorem Dv.ln (D : Dv x y) : (x.l.length : Int) = x.ws.length + 4 := by
  rw [x.len]; rfl
theorem f4_0 (D : Dv x y) : cal P fw (n + 1) 4 [dev x y, .int 0] S = .ok (.tup (x.l.map .int)) S := by
  rw [u4]
  simp [b4, dev, half D, cut_fstK]
theorem f4_1 (D : Dv x y) : cal P fw (n + 1) 4 [dev x y, .int 1] S = .ok (.tup (y.l.map .int)) S := by
  have h2 : 2 * (x.l.length : Int) = x.l.length + y.l.length := by rw [D.le]; omega
  rw [u4]
  simp [b4, dev, half D, cut_sndK, h2]
theorem f5_x (x : Half) (hx : x.ws.length ≤ 100) {d : PV} {i : Int} (h4 : ∀ S, cal P fw (n + 1) 4 [d, .int i] S = .ok (.tup (x.l.map .int)) S) : cal P fw (n + 2) 5 [d, .int i] S = .ok x.v S := by
  have hc : ∀ lo hi, (cut x.ws lo hi).length ≤ 16777216 := fun lo hi => cut_lenB (by omega) lo hi
  rw [u5]
  simp [b5, h4, atI_map, x.a0, x.a1, x.a2, x.aL, cut_map, x.w, cmpT_map, hc]
  unfold Half.v Half.ok
  generalize decide (x.h ≤ 0) = p1
  generalize decide (x.h = x.e) = p2
  generalize decide (0 ≤ x.c) = p3
  generalize decide (x.c ≤ (x.ws.length : Int)) = p4
  generalize ((cut x.ws (some x.c) none).any fun a => !decide (a = 0)) = p5
  generalize decide (x.t = x.h + x.c + x.ws.sum) = p6
  cases p1 <;> cases p2 <;> cases p3 <;> cases p4 <;> cases p5 <;> cases p6 <;> rfl
theorem f5_0 (D : Dv x y) : cal P fw (n + 2) 5 [dev x y, .int 0] S = .ok x.v S := f5_x x D.x1 fun _ => f4_0 D
theorem f5_1 (D : Dv x y) : cal P fw (n + 2) 5 [dev x y, .int 1] S = .ok y.v S := f5_x y (by rw [D.e]; exact D.x1) fun _ => f4_1 D
/-- the standing half by both -/
def nowV (u v : PV) : PV := match u, v with
  | .non, .non => .non
  | .non, _ => .int 1
  | .tup (.int a :: _), .tup (.int b :: _) => PV.int (if b > a then 1 else 0)
  | _, _ => .int 0
theorem Half.v_cases (x : Half) : x.v = .non ∨ ∃ h ws, x.v = .tup [.int h, .tup ws] := by
  unfold Half.v
  split
  · exact .inr ⟨_, _, rfl⟩
  · exact .inl rfl
theorem f6 (D : Dv x y) : cal P fw (n + 3) 6 [dev x y] S = .ok (nowV x.v y.v) S := by
  rw [u6]
  rcases x.v_cases with e1 | ⟨h, ws, e1⟩ <;> rcases y.v_cases with e2 | ⟨h', ws', e2⟩ <;> simp [b6, f5_0 D, f5_1 D, e1, e2, nowV]
theorem f22 (D : Dv x y) : cal P fw (n + 1) 22 [.tup [x.v, y.v]] S = .ok (nowV x.v y.v) S := by
  rw [u22]
  rcases x.v_cases with e1 | ⟨h, ws, e1⟩ <;> rcases y.v_cases with e2 | ⟨h', ws', e2⟩ <;> simp [b22, e1, e2, nowV]
theorem f21 (D : Dv x y) : cal P fw (n + 2) 21 [dev x y] S = .ok (.tup [x.v, y.v]) S := by
  rw [u21]
  simp [b21, dev, half D, cut_fstNK, cut_sndNK, f20 x D.x1, f20 y (by rw [D.e]; exact D.x1)]
/-- what is to be cleared -/
def Half.q (x : Half) : Bool := !decide (x.h = 0) && isN x.v
def pr (p : Int × Int) : PV := .tup [.int p.1, .int p.2]
def clW (x y : Half) : List (Int × Int) := (if x.q = true then [(0, 0)] else []) ++ (if y.q = true then [((x.l.length : Int), 0)] else [])
def clV (x y : Half) : PV := .tup ((clW x y).map pr)
theorem ex0 (x y : Half) : atI (x.l.map PV.int ++ y.l.map PV.int) 0 = some (.int x.h) := by
  rw [atI_of (by decide) (by simp [x.len]; omega)]
  simp [Half.l]
theorem ey0 (x y : Half) : atI (x.l.map PV.int ++ y.l.map PV.int) (x.l.length : Int) = some (.int y.h) := by
  rw [atI_of (by omega) (by simp [y.len]; omega)]
  simp [List.getElem_append_right]
  rfl
theorem f7 (D : Dv x y) : cal P fw (n + 3) 7 [dev x y] S = .ok (clV x y) S := by
  rw [u7]
  have f0 := fun (n fw : Nat) (S : Store) => f5_0 (n := n) (fw := fw) (S := S) D
  have f1 := fun (n fw : Nat) (S : Store) => f5_1 (n := n) (fw := fw) (S := S) D
  simp only [dev] at f0 f1
  by_cases p1 : x.h = 0 <;> by_cases p2 : y.h = 0 <;> cases p3 : isN x.v <;> cases p4 : isN y.v <;> simp [b7, dev, half D, List.range, List.range.loop, ex0, ey0, f0, f1, p1, p2, p3, p4, clV, clW, Half.q, pr]
theorem f23 (D : Dv x y) : cal P fw (n + 3) 23 [dev x y] S = .ok (clV x y) S := by
  rw [u23]
  have f0 := fun (n fw : Nat) (S : Store) => f21 (n := n) (fw := fw) (S := S) D
  simp only [dev] at f0
  by_cases p1 : x.h = 0 <;> by_cases p2 : y.h = 0 <;> cases p3 : isN x.v <;> cases p4 : isN y.v <;> simp [b23, dev, half D, ex0, ey0, f0, p1, p2, p3, p4, clV, clW, Half.q, pr]
end
/-! ### writing -/
def putM (ds : List Int) : List (Int × Int) → List Int
  | [] => ds
  | p :: r => putM (ds.set p.1.toNat p.2) r
theorem putM_len (ds : List Int) (ws : List (Int × Int)) : (putM ds ws).length = ds.length := by
  induction ws generalizing ds with
  | nil => rfl
  | cons p r ih => rw [putM, ih, List.length_set]
theorem put_ok {f : Nat} (hf : P.fn f = some ⟨2, 5, b8⟩) (ds : List Int) (ws : List (Int × Int)) (hw : ∀ p ∈ ws, 0 ≤ p.1 ∧ p.1 < ds.length) {Q : PV → Store → Prop}
    (q : ∀ S', Q (.tup ((putM ds ws).map .int)) S') : ok (cal P fw (n + 1) f [.tup (ds.map .int), .tup (ws.map pr)] S) Q := by
  refine cal_ok hf rfl ?_
  simp [b8]
  refine forT_okM pr (fun r ρ S' => (∃ o o', ρ = [some (.tup (ds.map .int)), some (.tup (ws.map pr)), some (.ref S.length), o, o']) ∧ (∀ p ∈ r, p ∈ ws) ∧ ∃ es : List Int, es.length = ds.length ∧ S'[S.length]? = some (.lst (es.map .int)) ∧ putM es r = putM ds ws) (fun _ _ _ _ => by simp) ?_ ?_ _ _ _ ⟨⟨_, _, rfl⟩, fun _ h => h, ds, rfl, by simp, rfl⟩
  · rintro ρ S' ⟨⟨o, o', rfl⟩, _, es, he, h1, h2⟩
    simp [h1]
    rw [putM] at h2
    subst h2
    exact q _
  · rintro p r ρ S' ⟨⟨o, o', rfl⟩, hp, es, he, h1, h2⟩
    obtain ⟨h3, h4⟩ := hw p (hp p (List.mem_cons_self))
    rw [← he] at h4
    simp [pr, h1, ixN_of h3 h4]
    refine ⟨fun a b h => hp _ (List.mem_cons_of_mem _ h), es.set p.1.toNat p.2, by simp [he], ?_, h2⟩
    have hl := (List.getElem?_eq_some_iff.mp h1).1
    simp [hl, List.map_set]
/-! ### the functions of the program, asked for a device -/
theorem f0 (v l h : Int) : cal P fw (n + 1) 0 [.int v, .int l, .int h] S = .ok (.bl (decide (l ≤ v) && decide (v ≤ h))) S := by
  rw [u0]
  simp [b0]
theorem f1 {v l h : Int} (h1 : l ≤ v) (h2 : v ≤ h) : cal P fw (n + 2) 1 [.int v, .int l, .int h] S = .ok .non S := by
  rw [u1]
  simp [b1, f0, h1, h2]
theorem f2 (v : Int) : cal P fw (n + 1) 2 [.int v] S = .ok (.bl true) S := by
  rw [u2]
  simp [b2]
theorem f3 {x y : Half} (D : Dv x y) : cal P fw (n + 2) 3 [dev x y] S = .ok .non S := by
  refine ok.eq ?_
  rw [u3]
  have h1 : ¬ ((x.l.length : Int) + y.l.length) % 2 = 1 := by rw [D.le]; omega
  have h2 : ¬ ((x.l.length : Int) + y.l.length) < 60 := by
    have := D.x0
    rw [D.le, x.len]; omega
  simp [b3, dev, h1, h2]
  refine forT_ok (fun r ρ S' => S' = S ∧ (∃ d o o', ρ = [d, o, o']) ∧ ∀ z ∈ r, ∃ i j : Int, z = .tup [.int i, .int j]) (fun _ _ _ _ => by simp) ?_ ?_ _ _ _ ⟨rfl, ⟨_, _, _, rfl⟩, ?_⟩
  · rintro ρ S' ⟨rfl, _⟩
    simp
  · rintro z r ρ S' ⟨rfl, ⟨d, o, o', rfl⟩, h⟩
    obtain ⟨i, j, rfl⟩ := h z (List.mem_cons_self)
    simp [f2]
    exact fun a h' => h a (List.mem_cons_of_mem _ h')
  · intro z hz
    obtain ⟨k, v, hv, _, rfl⟩ := enum_mem hz
    rw [← List.map_append] at hv
    obtain ⟨i, _, rfl⟩ := List.mem_map.mp hv
    exact ⟨_, _, rfl⟩
theorem f9 {w : Int} (h1 : 26 ≤ w) (h2 : w ≤ 100) : cal P fw (n + 3) 9 [.int w] S = .ok (.tup (List.replicate (2 * (w + 4)).toNat (.int 0))) S := by
  rw [u9]
  have e : (2 * (w + 4)).toNat ≤ 16777216 := by omega
  simp [b9, f1 h1 (show w ≤ 9000 by omega), (show 0 ≤ 2 * (w + 4) by omega), (show 2 * (w + 4) < 9223372036854775808 by omega), e]
section
variable {x y : Half}
theorem f10_0 (D : Dv x y) : cal P fw (n + 4) 10 [dev x y, .int 0] S = .ok x.v S := by
  rw [u10]
  simp [b10, f3 D, f1, f5_0 D]
theorem f10_1 (D : Dv x y) : cal P fw (n + 4) 10 [dev x y, .int 1] S = .ok y.v S := by
  rw [u10]
  simp [b10, f3 D, f1, f5_1 D]
theorem f11 (D : Dv x y) : cal P fw (n + 4) 11 [dev x y] S = .ok (nowV x.v y.v) S := by
  rw [u11]
  simp [b11, f3 D, f6 D]
theorem clE (x y : Half) : ∃ b, ∀ S, eqOp S (clV x y) (.tup []) = some b := by
  unfold clV clW
  cases x.q <;> cases y.q
  · exact ⟨true, fun S => rfl⟩
  · exact ⟨false, fun S => rfl⟩
  · exact ⟨false, fun S => rfl⟩
  · exact ⟨false, fun S => rfl⟩
theorem f12 (D : Dv x y) {b : Bool} (hb : ∀ S, eqOp S (clV x y) (.tup []) = some b) : cal P fw (n + 4) 12 [dev x y] S = .ok (.bl b) S := by
  rw [u12]
  simp [b12, f3 D, f7 D, hb]
theorem f13 (D : Dv x y) : cal P fw (n + 4) 13 [dev x y] S = .ok (clV x y) S := by
  rw [u13]
  simp [b13, f3 D, f7 D]
theorem clW_ok (D : Dv x y) : ∀ p ∈ clW x y, 0 ≤ p.1 ∧ p.1 < ((x.l ++ y.l).length : Nat) := by
  intro p hp
  unfold clW at hp
  rw [List.length_append, x.len, y.len]
  rcases List.mem_append.mp hp with h | h <;> split at h <;> simp at h <;> subst h
  · simp
    omega
  · simp [x.len]
    omega
def putD (x y : Half) : List Int := putM (x.l ++ y.l) (clW x y)
theorem f14 (D : Dv x y) {Q : PV → Store → Prop} (q : ∀ S', Q (.tup ((putD x y).map .int)) S') : ok (cal P fw (n + 4) 14 [dev x y] S) Q := by
  rw [u14]
  simp [b14, f3 D, f7 D]
  have h := put_ok (fw := fw) (n := n + 2) (S := S) (f := 8) rfl (x.l ++ y.l) (clW x y) (clW_ok D) (Q := Q) q
  rw [List.map_append] at h
  exact h
theorem f24 (D : Dv x y) {Q : PV → Store → Prop} (q : ∀ S', Q (.tup ((putD x y).map .int)) S') : ok (cal P fw (n + 4) 24 [dev x y, clV x y] S) Q := by
  have h := put_ok (fw := fw) (n := n + 3) (S := S) (f := 24) rfl (x.l ++ y.l) (clW x y) (clW_ok D) (Q := Q) q
  rw [List.map_append] at h
  exact h
theorem Half.pl (hx : x.ws.length ≤ 100) : Pl 2 x.v := by
  unfold Half.v
  split
  · refine .tup (by simp) fun z hz => ?_
    simp at hz
    rcases hz with rfl | rfl
    · exact .int _
    · exact pl_ints (cut_lenB (by rw [szN]; omega) _ _)
  · exact .non
theorem pl_clV (D : Dv x y) : Pl 2 (clV x y) := by
  unfold clV clW
  refine .tup ?_ fun z hz => ?_
  · cases x.q <;> cases y.q <;> simp
  · obtain ⟨p, _, rfl⟩ := List.mem_map.mp hz
    refine .tup (by simp) fun z hz => ?_
    simp at hz
    rcases hz with rfl | rfl <;> exact .int _
theorem pl_now (u v : PV) : Pl 2 (nowV u v) := by
  unfold nowV
  split <;> constructor
end
end
end Lk

namespace Lk
open PySem L2 Ev
section
variable {fw n : Nat} {S : Store}
section
variable {x y : Half}
/-- the whole look at a device -/
theorem f29 (D : Dv x y) {Q : PV → Store → Prop} (q : ∀ S', Q (.bl true) S') : ok (cal P fw (n + 10) 29 [dev x y] S) Q := by
  obtain ⟨b, hb⟩ := clE x y
  have hl : (putD x y).length ≤ sizeLine := by
    rw [szN]
    have h1 := D.x1
    have h2 := D.e
    unfold putD
    rw [putM_len, List.length_append, x.len, y.len]
    omega
  rw [u29]
  simp [b29, f21 D, f23 D, f10_0 D, f10_1 D, f11 D, f12 D hb, f13 D, f22 D]
  refine f14 D fun S1 => ?_
  simp [f22 D, hb]
  refine f24 D fun S2 => ?_
  have e := same_ok (P := P) (fw := fw) (f := 19) (g := 18) rfl rfl (fun _ => rfl) (d := 3) (x := .tup [x.v, y.v, nowV x.v y.v, .bl b, clV x y, .tup ((putD x y).map .int)]) (.tup (by rw [szN]; simp) fun z hz => ?_) (n + 4) S2
  · simp [show n + 9 = n + 4 + 3 + 2 by omega, e]
    exact q S2
  · simp at hz
    rcases hz with rfl | rfl | rfl | rfl | rfl | rfl
    · exact Half.pl D.x1
    · exact Half.pl (by rw [D.e]; exact D.x1)
    · exact pl_now _ _
    · exact .bl _
    · exact pl_clV D
    · exact pl_ints hl
/-- every list of ints of the right length is a device -/
theorem dev_of {l : List Int} {w : Nat} (h : l.length = 2 * (w + 4)) (h1 : 26 ≤ w) (h2 : w ≤ 100) : ∃ x y : Half, Dv x y ∧ PV.tup (l.map .int) = dev x y ∧ x.ws.length = w := by
  obtain ⟨x, hx⟩ := half_of (l := l.take (w + 4)) (by rw [List.length_take]; omega)
  obtain ⟨y, hy⟩ := half_of (l := l.drop (w + 4)) (by rw [List.length_drop]; omega)
  have lx : x.ws.length = w := by
    have e := congrArg List.length hx
    rw [x.len, List.length_take] at e
    omega
  have ly : y.ws.length = w := by
    have e := congrArg List.length hy
    rw [y.len, List.length_drop] at e
    omega
  refine ⟨x, y, ⟨by omega, by omega, by omega⟩, ?_, lx⟩
  unfold dev
  rw [← hx, ← hy, ← List.map_append, List.take_append_drop]
theorem putD_dev (D : Dv x y) : ∃ x' y' : Half, Dv x' y' ∧ PV.tup ((putD x y).map .int) = dev x' y' := by
  obtain ⟨x', y', D', e, _⟩ := dev_of (l := putD x y) (w := x.ws.length) (by unfold putD; rw [putM_len, List.length_append, x.len, y.len, D.e]; omega) D.x0 D.x1
  exact ⟨x', y', D', e⟩
end
/-! ### the law's own making -/
theorem drawF : DrawF P 16 := ⟨_, _, _, _, _, _, rfl, by decide, by decide, by decide, by decide, by decide⟩
theorem f25 {m : Nat} (hw : Well S m) {Q : PV → Store → Prop} (q : ∀ (i : Int) S', Fr m S S' → Q (.int i) S') : ok (cal P fw (n + 2) 25 [.ref m] S) Q := by
  rw [u25]
  simp [b25]
  refine drawF.ok hw (by decide) (by decide) fun i S1 _ _ F1 => ?_
  simp [ok_mif]
  refine ⟨fun _ => drawF.ok F1.well (by decide) (by decide) fun i S2 _ _ F2 => ?_, fun _ => drawF.ok F1.well (by decide) (by decide) fun i S2 _ _ F2 => ?_⟩
  · simp
    exact q _ _ (F1.trans F2)
  · simp
    exact q _ _ (F1.trans F2)
theorem f17 {m : Nat} (hw : Well S m) {xs : List PV} (h1 : 0 < xs.length) (h2 : xs.length ≤ 1000) {Q : PV → Store → Prop} (q : ∀ (x : PV) (S' : Store), x ∈ xs → Fr m S S' → Q x S') : ok (cal P fw (n + 2) 17 [.ref m, .tup xs] S) Q :=
  pickT_ok (g := 17) (f := 16) rfl rfl drawF hw h1 (by rw [szN]; omega) q
end
end Lk

namespace Lk
open PySem L2 Ev
section
variable {fw n : Nat} {S : Store}
theorem f26 {m : Nat} (hw : Well S m) {w : Int} (w0 : 26 ≤ w) (w1 : w ≤ 100) {Q : PV → Store → Prop} (q : ∀ (r : Nat) (l : List Int) (S' : Store), S.length ≤ r → S'[r]? = some (.lst (l.map .int)) → (l.length : Int) = w + 4 → Fr m S S' → Q (.ref r) S') : ok (cal P fw (n + 4) 26 [.ref m, .int w] S) Q := by
  rw [u26]
  simp [b26]
  have hw1 : Well (S ++ [.lst []]) m := (Fr.new hw _).well
  refine drawF.ok hw1 (by decide) (by decide) fun k S1 k0 k1 F1 => ?_
  have hb : -4611686018427387904 ≤ 1 + k ∧ 1 + k < 4611686018427387904 := by omega
  simp [hb]
  have hm : S.length ≠ m := by have := hw.lt; omega
  have F0 : Fr m S S1 := (Fr.new hw _).trans F1
  refine forT_okM (fun (i : Nat) => PV.int (i : Int)) (fun r ρ S' => (∃ o, ρ = [some (.ref m), some (.int w), some (.ref S.length), o, none, none, none]) ∧ Fr m S S' ∧ ∃ l : List Int, l.length + r.length = (1 + k).toNat ∧ S'[S.length]? = some (.lst (l.map .int))) (fun _ _ _ _ => by simp) ?_ ?_ _ _ _ ⟨⟨_, rfl⟩, F0, [], by simp, by rw [F1.get (new_get S _) hm]; rfl⟩
  · rintro ρ S2 ⟨⟨o, rfl⟩, F2, l, hl, hc⟩
    simp at hl
    simp
    refine drawF.ok F2.well (by omega) (by omega) fun j S3 j0 j1 F3 => ?_
    simp
    refine f17 F3.well (by simp) (by simp) fun x S4 hx F4 => ?_
    obtain ⟨c, rfl, c0, c1⟩ : ∃ c : Int, x = .int c ∧ 0 ≤ c ∧ c ≤ w := by
      simp at hx
      rcases hx with rfl | rfl | rfl | rfl | rfl | rfl
      · exact ⟨0, rfl, by omega, by omega⟩
      · exact ⟨1, rfl, by omega, by omega⟩
      · exact ⟨_, rfl, by omega, by omega⟩
      · exact ⟨_, rfl, by omega, by omega⟩
      · exact ⟨5, rfl, by omega, by omega⟩
      · exact ⟨_, rfl, by omega, by omega⟩
    have hc4 := F4.get (F3.get hc hm) hm
    have hl6 : l.length ≤ 6 := by omega
    have hl1 : 1 ≤ l.length := by omega
    have hlen : l.length * w.toNat ≤ 16777216 := Nat.le_trans (Nat.mul_le_mul hl6 (show w.toNat ≤ 100 by omega)) (by omega)
    have hlv : w.toNat ≤ w.toNat * l.length := Nat.le_mul_of_pos_right _ hl1
    have ecut : (cut (List.replicate w.toNat l).flatten none (some c)).length = c.toNat := by
      obtain ⟨d, rfl⟩ : ∃ d : Nat, c = d := ⟨c.toNat, by omega⟩
      simp only [cut, HT.sIx_nat, HT.sIx_none]
      rw [List.length_take, List.length_drop, len_flat]
      omega
    have b1 : -9223372036854775808 ≤ w ∧ w < 9223372036854775808 := by omega
    have b2 : -9223372036854775808 ≤ w - c ∧ w - c < 9223372036854775808 := by omega
    simp [hc4, b1, hlen, map_flat, cut_map, -List.map_flatten, -List.map_replicate]
    refine drawF.ok F4.well (by decide) (by decide) fun t S5 t0 t1 F5 => ?_
    generalize hW : cut (List.replicate w.toNat l).flatten none (some c) = W at ecut ⊢
    have s1 : 3 + W.length ≤ 16777216 := by omega
    have s2 : (w - c).toNat ≤ 16777216 := by omega
    have s3 : W.length + (w - c).toNat ≤ 16777213 := by omega
    have s4 : W.length + (w - c).toNat ≤ 16777212 := by omega
    have s5 : W.length + 1 + 1 + 1 + (w - c).toNat ≤ 16777216 := by omega
    have s6 : W.length + (w - c).toNat + 1 + 1 + 1 + 1 ≤ 16777216 := by omega
    have s7 : W.length + (w - c).toNat + 1 + 1 + 1 ≤ 16777215 := by omega
    have F05 : Fr m S S5 := ((F2.trans F3).trans F4).trans F5
    clear hW hlen hlv hc4 F2 F3 F4 F1 F0 hc hx
    simp [ok_mif]
    refine ⟨fun _ => ?_, fun _ => ?_⟩
    all_goals
      refine drawF.ok F5.well (by decide) (by decide) fun t S6 t0 t1 F6 => ?_
      simp [b2, s1, s2, s3, s4, s5, s6, s7]
      refine q _ ((1 + t) :: c :: (1 + t + c + W.sum) :: (W ++ (List.replicate (w - c).toNat 0 ++ [1 + t]))) _ (F05.trans F6).len (by simp) (by simp; omega) (((F05.trans F6)).new' _)
  · rintro i r ρ S2 ⟨⟨o, rfl⟩, F2, l, hl, hc⟩
    simp at hl
    simp [hc]
    refine f25 (n := n + 1) F2.well fun x S3 F3 => ?_
    have hc3 := F3.get hc hm
    have hlt : l.length < 16777216 := by omega
    simp [hc3, hlt]
    refine ⟨(F2.trans F3).setNew (Nat.le_refl _) hm _, l ++ [x], by simp; omega, ?_⟩
    rw [set_get hc3]
    simp
end
end Lk

namespace Lk
open PySem L2 Ev
section
variable {fw n : Nat} {S : Store}
theorem set_int (l : List Int) (j : Nat) (y : Int) : (l.map PV.int).set j (.int y) = (l.set j y).map .int := (List.map_set).symm
theorem atI_int {l : List Int} {i : Int} (h0 : 0 ≤ i) (h : i < l.length) : ∃ x, atI l i = some x := ⟨_, atI_of h0 h⟩
theorem f27 {S0 : Store} {m r : Nat} (F0 : Fr m S0 S) (h0 : S0.length ≤ r) (hr : r ≠ m) {l : List Int} (hc : S[r]? = some (.lst (l.map .int))) (l0 : 30 ≤ l.length) (l1 : l.length ≤ 1000) {Q : PV → Store → Prop} (q : ∀ (l' : List Int) (S' : Store), S'[r]? = some (.lst (l'.map .int)) → l'.length = l.length → Fr m S0 S' → Q (.ref r) S') : ok (cal P fw (n + 4) 27 [.ref m, .ref r] S) Q := by
  have hw := F0.well
  rw [u27]
  simp [b27, hc]
  refine drawF.ok hw (by decide) (by decide) fun k S1 k0 k1 F1 => ?_
  have hc1 := F1.get hc hr
  obtain ⟨a0, e0⟩ := atI_int (l := l) (i := 0) (by decide) (by omega)
  obtain ⟨a1, e1⟩ := atI_int (l := l) (i := 1) (by decide) (by omega)
  obtain ⟨a2, e2⟩ := atI_int (l := l) (i := 2) (by decide) (by omega)
  obtain ⟨aL, eL⟩ : ∃ x, atI l (-1) = some x := ⟨_, atI_last (by omega)⟩
  have i0 : ixN l.length 0 = some 0 := ixN_of (by decide) (by omega)
  have i1 : ixN l.length 1 = some 1 := ixN_of (by decide) (by omega)
  have i2 : ixN l.length 2 = some 2 := ixN_of (by decide) (by omega)
  have iL : ixN l.length (-1) = some (l.length - 1) := ixN_last (by omega)
  simp [okX_xif]
  refine ⟨fun _ => ?_, fun _ => ⟨fun _ => ?_, fun _ => ?_⟩⟩
  · refine f17 F1.well (by simp) (by simp) fun x S2 hx F2 => ?_
    obtain ⟨c, rfl⟩ : ∃ c : Int, x = .int c := by
      simp at hx
      rcases hx with rfl | rfl <;> exact ⟨_, rfl⟩
    have hc2 := F2.get hc1 hr
    obtain ⟨hl2, hE2⟩ := List.getElem?_eq_some_iff.mp hc2
    simp [hl2, hE2, atI_map, e1, e2, i1, i2, set_int, -List.map_set]
    exact q _ _ (set_get hc2 _) (by simp) (((F0.trans F1).trans F2).setNew h0 hr _)
  · refine drawF.ok F1.well (by decide) (by decide) fun x S2 x0 x1 F2 => ?_
    have hc2 := F2.get hc1 hr
    obtain ⟨hl2, hE2⟩ := List.getElem?_eq_some_iff.mp hc2
    simp [hl2, hE2, atI_map, e0, e2, eL, i0, i2, iL, set_int, -List.map_set]
    exact q _ _ (set_get hc2 _) (by simp) (((F0.trans F1).trans F2).setNew h0 hr _)
  · have hk : ∃ j : Nat, j ≤ 2 ∧ (if k < 5 then (1 : Int) else 2) = j := by
      by_cases h : k < 5
      · exact ⟨1, by omega, by simp [h]⟩
      · exact ⟨2, by omega, by simp [h]⟩
    obtain ⟨j, hj, ej⟩ := hk
    have ej1 : -4611686018427387904 ≤ (if k < 5 then (1 : Int) else 2) ∧ (if k < 5 then (1 : Int) else 2) < 4611686018427387904 := by rw [ej]; omega
    simp [ej1]
    refine forT_okM (fun (i : Nat) => PV.int (i : Int)) (fun _ ρ S' => (∃ o1 o2 o3 o4, ρ = [some (.ref m), some (.ref r), some (.int l.length), some (.int k), o1, o2, o3, o4]) ∧ Fr m S0 S' ∧ ∃ l' : List Int, l'.length = l.length ∧ S'[r]? = some (.lst (l'.map .int))) (fun _ _ _ _ => by simp) ?_ ?_ _ _ _ ⟨⟨_, _, _, _, rfl⟩, F0.trans F1, l, rfl, hc1⟩
    · rintro ρ S2 ⟨⟨o1, o2, o3, o4, rfl⟩, F2, l', hl', hc2⟩
      simp
      exact q _ _ hc2 hl' F2
    · rintro i rr ρ S2 ⟨⟨o1, o2, o3, o4, rfl⟩, F2, l', hl', hc2⟩
      simp
      refine drawF.ok F2.well (by omega) (by omega) fun x S3 x0 x1 F3 => ?_
      simp
      refine f17 F3.well (by simp) (by simp) fun y S4 hy F4 => ?_
      obtain ⟨c, rfl, c0, c1⟩ : ∃ c : Int, y = .int c ∧ 0 ≤ c ∧ c < l'.length := by
        simp at hy
        rcases hy with rfl | rfl | rfl | rfl | rfl | rfl | rfl
        · exact ⟨0, rfl, by omega, by omega⟩
        · exact ⟨1, rfl, by omega, by omega⟩
        · exact ⟨2, rfl, by omega, by omega⟩
        · exact ⟨3, rfl, by omega, by omega⟩
        · exact ⟨_, rfl, by omega, by omega⟩
        · exact ⟨_, rfl, by omega, by omega⟩
        · exact ⟨_, rfl, by omega, by omega⟩
      have hc4 := F4.get (F3.get hc2 hr) hr
      obtain ⟨ac, ec⟩ := atI_int (l := l') c0 c1
      obtain ⟨a0, e0⟩ := atI_int (l := l') (i := 0) (by decide) (by omega)
      obtain ⟨a1, e1⟩ := atI_int (l := l') (i := 1) (by decide) (by omega)
      have ic : ixN l'.length c = some c.toNat := ixN_of c0 c1
      simp [hc4, atI_map, ec, e0, e1]
      refine f25 (n := n + 1) F4.well fun z S5 F5 => ?_
      simp
      refine f17 F5.well (by simp) (by simp) fun w S6 hw6 F6 => ?_
      obtain ⟨b, rfl⟩ : ∃ b : Int, w = .int b := by
        simp at hw6
        rcases hw6 with rfl | rfl | rfl | rfl | rfl | rfl | rfl <;> exact ⟨_, rfl⟩
      have hc6 := F6.get (F5.get hc4 hr) hr
      simp [hc6, ic, set_int, -List.map_set]
      exact ⟨(((((F2.trans F3).trans F4).trans F5).trans F6).setNew h0 hr _), _, (by simp [hl']), set_get hc6 _⟩
theorem f28 {m : Nat} (hw : Well S m) {w : Int} (w0 : 26 ≤ w) (w1 : w ≤ 100) {Q : PV → Store → Prop} (q : ∀ (r : Nat) (l : List Int) (S' : Store), S.length ≤ r → S'[r]? = some (.lst (l.map .int)) → (l.length : Int) = w + 4 → Fr m S S' → Q (.ref r) S') : ok (cal P fw (n + 6) 28 [.ref m, .int w] S) Q := by
  rw [u28]
  simp [b28]
  refine drawF.ok hw (by decide) (by decide) fun k S1 k0 k1 F1 => ?_
  simp [okX_xif]
  refine ⟨fun _ => ?_, fun _ => ?_⟩
  · have b1 : -9223372036854775808 ≤ w + 4 ∧ w + 4 < 9223372036854775808 := by omega
    have b2 : (w + 4).toNat ≤ 16777216 := by omega
    have b3 : w + 4 ≤ 16777216 := by omega
    simp [b1, b2, b3]
    refine q S1.length (List.replicate (w + 4).toNat 0) (S1 ++ [.lst (List.replicate (w + 4).toNat (.int 0))]) F1.len (by simp) (by simp; omega) (F1.new' _)
  · refine f26 (n := n + 1) F1.well w0 w1 fun r l S2 hr hc hl F2 => ?_
    have hrm : r ≠ m := by have := hw.lt; have := F1.len; omega
    simp [okX_xif]
    refine ⟨fun _ => ?_, fun _ => ?_⟩
    · exact q _ _ _ (Nat.le_trans F1.len hr) hc hl (F1.trans F2)
    · refine f27 (n := n + 1) (F1.trans F2) (Nat.le_trans F1.len hr) hrm hc (by omega) (by omega) fun l' S3 hc3 hl3 F3 => ?_
      exact q _ _ _ (Nat.le_trans F1.len hr) hc3 (by rw [hl3]; exact hl) F3
theorem f30 {m : Nat} (hw : Well S m) {Q : PV → Store → Prop} (q : ∀ S', Q (.bl true) S') : ok (cal P fw (n + 13) 30 [.ref m] S) Q := by
  rw [u30]
  simp [b30]
  refine drawF.ok hw (by decide) (by decide) fun k S1 k0 k1 F1 => ?_
  simp
  refine f28 (n := n + 6) F1.well (by omega) (by omega) fun r l S2 hr hc hl F2 => ?_
  have hrm : r ≠ m := by have := F1.well.lt; omega
  simp
  refine drawF.ok F2.well (by decide) (by decide) fun k' S3 k0' k1' F3 => ?_
  have hc3 := F3.get hc hrm
  have d1 : ∀ l2 : List Int, (l2.length : Int) = 26 + k + 4 → ∃ x y : Half, Dv x y ∧ PV.tup (l.map .int ++ l2.map .int) = dev x y := fun l2 h2 => by
    obtain ⟨x, y, D, e, _⟩ := dev_of (l := l ++ l2) (w := (26 + k).toNat) (by rw [List.length_append]; omega) (by omega) (by omega)
    exact ⟨x, y, D, by rw [← e, List.map_append]⟩
  have b1 : 0 ≤ 2 * (26 + k) + 8 ∧ 2 * (26 + k) + 8 < 9223372036854775808 ∧ 2 * (26 + k) + 8 ≤ 16777216 := by omega
  have e2 : 2 * (26 + k + 4) = 2 * (26 + k) + 8 := by omega
  have e3 : (2 * (26 + k) + 8).toNat ≤ sizeLine := by rw [szN]; omega
  have e4 : ∀ S, cal P fw (n + 12) 19 [.tup (List.replicate (2 * (26 + k) + 8).toNat (.int 0)), .tup (List.replicate (2 * (26 + k) + 8).toNat (.int 0))] S = .ok (.bl true) S := fun S => by
    have h := same_ok (P := P) (fw := fw) (f := 19) (g := 18) rfl rfl (fun _ => rfl) (pl_ints (d := 0) (ns := List.replicate (2 * (26 + k) + 8).toNat 0) (by simpa using e3)) (n + 9) S
    rw [List.map_replicate] at h
    exact h
  obtain ⟨x2, y2, D2, e5, _⟩ := dev_of (l := List.replicate (2 * (26 + k) + 8).toNat 0) (w := (26 + k).toNat) (by simp; omega) (by omega) (by omega)
  rw [List.map_replicate] at e5
  have h9 : ∀ S, cal P fw (n + 12) 9 [.int (26 + k)] S = .ok (.tup (List.replicate (2 * (26 + k) + 8).toNat (.int 0))) S := fun S => by
    have h := f9 (n := n + 9) (fw := fw) (S := S) (show 26 ≤ 26 + k by omega) (by omega)
    rw [e2] at h
    exact h
  simp [ok_mif]
  refine ⟨fun _ => ?_, fun _ => ?_⟩
  · have hc5 := (Fr.new F3.well (.lst (l.map .int))).get hc3 hrm
    have s1 : l.length + l.length ≤ 16777216 := by omega
    obtain ⟨x, y, D, e⟩ := d1 l hl
    simp [hc3]
    simp [hc5, s1, h9]
    rw [e]
    refine f29 (n := n + 2) D fun S5 => ?_
    simp [f23 D]
    refine f24 (n := n + 8) D fun S6 => ?_
    obtain ⟨x', y', D', e'⟩ := putD_dev D
    rw [e']
    simp
    refine f29 (n := n + 2) D' fun S7 => ?_
    simp [b1, e2, e4]
    rw [e5]
    exact f29 (n := n + 2) D2 fun S8 => q S8
  · refine f28 (n := n + 6) (F3.well) (by omega) (by omega) fun r2 l2 S4 hr2 hc2 hl2 F4 => ?_
    have hc4 := F4.get hc3 hrm
    have s1 : l.length + l2.length ≤ 16777216 := by omega
    obtain ⟨x, y, D, e⟩ := d1 l2 hl2
    simp [hc4, hc2, s1, h9]
    rw [e]
    refine f29 (n := n + 2) D fun S5 => ?_
    simp [f23 D]
    refine f24 (n := n + 8) D fun S6 => ?_
    obtain ⟨x', y', D', e'⟩ := putD_dev D
    rw [e']
    simp
    refine f29 (n := n + 2) D' fun S7 => ?_
    simp [b1, e2, e4]
    rw [e5]
    exact f29 (n := n + 2) D2 fun S8 => q S8
theorem f31 (ns : List Int) (Q : PV → Store → Prop) (q : ∀ S', Q (.bl true) S') : ok (cal P fw (n + 14) 31 [.fz ns] S) Q := by
  rw [u31]
  simp [b31]
  generalize hc : (if (2 : Int) < if 3 < (ns.length : Int) then 3 else (ns.length : Int) then if 3 < (ns.length : Int) then 3 else (ns.length : Int) else 2) = c
  have c0 : 2 ≤ c ∧ c ≤ 3 := by
    rw [← hc]
    split <;> split <;> omega
  have c1 : -4611686018427387904 ≤ c ∧ c < 4611686018427387904 := by omega
  have c2 : c.toNat ≤ 16777216 := by omega
  simp [c1]
  refine all_ok (fun (k : Nat) => PV.int (k : Int)) rfl _ _ (fun k _ S1 => ?_) fun S2 => ?_
  · simp
    refine well_ok (f := 15) rfl (by decide) (by decide) (by decide) (by decide) (by decide) (by decide) (by decide) (by omega) fun x y z => ?_
    simp
    exact f30 (n := n) ⟨x, y, z, by simp⟩ fun S3 => by simp
  · simp [bls_rep, c2]
    exact q _
theorem law_holds : ∀ ns : List Int, ns.length ≤ 63 → (∀ n ∈ ns, Builtin.Int.intBits n ≤ 1048576) → ∃ S, cal P 1000 40 31 [.fz ns] [] = .ok (.bl true) S := fun ns _ _ => by
  obtain ⟨a, S, e, rfl⟩ := (f31 (fw := 1000) (n := 26) (S := []) ns (fun v _ => v = .bl true) fun _ => rfl).get
  exact ⟨S, e⟩
end
end Lk

namespace Lk
open PySem PySem.Spec PyProof.Rows L2 Ev
section
variable {K : PySem.W.Frag} {mg : Str → Option Value}
theorem fin {prog : Program} {w : World} {fa fa2 : Addr} (Γ : Gm) (m : mg "law" = some (.ref fa2)) (F0 : FnIn K mg Γ P M 0 "is_within") (F1 : FnIn K mg Γ P M 1 "check_within") (F2 : FnIn K mg Γ P M 2 "is_whole_number") (F3 : FnIn K mg Γ P M 3 "check_device") (F4 : FnIn K mg Γ P M 4 "slot_cells") (F5 : FnIn K mg Γ P M 5 "held_by") (F6 : FnIn K mg Γ P M 6 "current_by") (F7 : FnIn K mg Γ P M 7 "mending_by") (F8 : FnIn K mg Γ P M 8 "put_all") (F9 : FnIn K mg Γ P M 9 "blank") (F10 : FnIn K mg Γ P M 10 "held") (F11 : FnIn K mg Γ P M 11 "current") (F12 : FnIn K mg Γ P M 12 "is_mended") (F13 : FnIn K mg Γ P M 13 "mending") (F14 : FnIn K mg Γ P M 14 "mended") (F15 : FnIn K mg Γ P M 15 "_law_well") (F16 : FnIn K mg Γ P M 16 "_law_draw") (F17 : FnIn K mg Γ P M 17 "_law_pick") (F18 : FnIn K mg Γ P M 18 "_law_is_whole") (F19 : FnIn K mg Γ P M 19 "_law_same") (F20 : FnIn K mg Γ P M 20 "_law_held") (F21 : FnIn K mg Γ P M 21 "_law_both") (F22 : FnIn K mg Γ P M 22 "_law_now") (F23 : FnIn K mg Γ P M 23 "_law_clears") (F24 : FnIn K mg Γ P M 24 "_law_put") (F25 : FnIn K mg Γ P M 25 "_law_number") (F26 : FnIn K mg Γ P M 26 "_law_filled") (F27 : FnIn K mg Γ P M 27 "_law_turned") (F28 : FnIn K mg Γ P M 28 "_law_slot") (F29 : FnIn K mg Γ P M 29 "_law_is_seen") (F30 : FnIn K mg Γ P M 30 "_law_right") (F31 : FnIn K mg Γ P M 31 "law")
    (C0 : ∃ u v, mg "LEAST_WIDTH" = some u ∧ RelV v u ∧ ∀ W, Den K Γ W (P.cs 0) v) (C1 : ∃ u v, mg "BESIDE" = some u ∧ RelV v u ∧ ∀ W, Den K Γ W (P.cs 1) v) (C2 : ∃ u v, mg "MOST_WIDTH" = some u ∧ RelV v u ∧ ∀ W, Den K Γ W (P.cs 2) v)
    (B0 : mg "len" = none) (B1 : mg "sum" = none) (B2 : mg "all" = none) (B3 : mg "any" = none) (B4 : mg "max" = none) (B5 : mg "min" = none) (B6 : mg "abs" = none) (B7 : mg "int" = none) (B8 : mg "str" = none) (B9 : mg "tuple" = none) (B10 : mg "divmod" = none) (B11 : mg "list" = none) (B12 : mg "sorted" = none) (B13 : mg "isinstance" = none) (B14 : mg "range" = none) (B15 : mg "enumerate" = none) (B16 : mg "zip" = none) (B17 : mg "bool" = none) (B18 : mg "dict" = none)
    (hfa : mg "law" = some (.ref fa)) {oc : Value} {od an : Option Addr} {osl : Array (Option Value)} {kV doc pm cdv ct : Value}
    (l : K.lookup fa2 = some ⟨oc, od, .func (PySem.W.fnOf "law" "law" (defArgs (top 41)) (defBody (top 41)) (defScope (top 41)) .none kV doc pm an cdv ct), osl⟩) (c : PySem.W.codeIn K cdv "law" = true) (kp : PySem.W.keepIn K (.ref fa2) = true) :
    ∃ fd : FuncData, (∀ (s : Shared) (u : Value), BindsTo s fd ⟨[u], []⟩ [("script", u)]) ∧ ∀ base : Heap, K.In base → base.Ns mainGlobals mg → FnOk prog w K mg base (L2.CX prog w) 40 fa fd ["script"] (spLaw K) := by
  cases hfa.symm.trans m
  exact lawF (fw := 1000) (prg F0 F1 F2 F3 F4 F5 F6 F7 F8 F9 F10 F11 F12 F13 F14 F15 F16 F17 F18 F19 F20 F21 F22 F23 F24 F25 F26 F27 F28 F29 F30 F31 C0 C1 C2 B0 B1 B2 B3 B4 B5 B6 B7 B8 B9 B10 B11 B12 B13 B14 B15 B16 B17 B18) (f := 31) rfl s31 c31 rfl (fun _ _ _ _ _ _ _ => rfl) l c kp law_holds
end
end Lk
open PySem PySem.W PyProof.Rows
set_option maxRecDepth 100000 in
set_option maxHeartbeats 0 in
theorem PySem.Challenge.cw_halthouse_k80_devices_by_an_own_look_holds : PySem.Challenge.rw_halthouse_k80_devices_by_an_own_look.Holds := by
  w_on; o_law; k_head; (case hw => w_witness2)
  k_fill
  refine Ev.walk (l := PySem.Challenge.rw_halthouse_k80_devices_by_an_own_look) 40 ⟨rfl, by decide, by decide⟩ rfl rfl (fun w h Y => PySem.W.kIn_of Y) ?F
  case F =>
    intro w mg fa h KX G hmg
    refine' Lk.fin ⟨fun _ => 0, fun _ => 0⟩ ?m ?F0 ?F1 ?F2 ?F3 ?F4 ?F5 ?F6 ?F7 ?F8 ?F9 ?F10 ?F11 ?F12 ?F13 ?F14 ?F15 ?F16 ?F17 ?F18 ?F19 ?F20 ?F21 ?F22 ?F23 ?F24 ?F25 ?F26 ?F27 ?F28 ?F29 ?F30 ?F31 ?C0 ?C1 ?C2 ?B0 ?B1 ?B2 ?B3 ?B4 ?B5 ?B6 ?B7 ?B8 ?B9 ?B10 ?B11 ?B12 ?B13 ?B14 ?B15 ?B16 ?B17 ?B18 hmg ?l ?c ?k
    (case m => exact PySem.W.mg_of KX G (by k_is))
    (case F0 => refine' Ev.fnIn_mk (st := Lk.top 5) Lk.s0 Lk.c0 rfl (fun _ z => by cases z) (fun _ _ _ _ _ _ us hl => match us, hl with | [_, _, _], _ => rfl) (PySem.W.mg_of KX G ?fa0) ?fl0 ?fc0 ?fk0; (case fa0 => k_is); (case fl0 => k_is); (case fc0 => k_is); (case fk0 => k_is))
    (case F1 => refine' Ev.fnIn_mk (st := Lk.top 6) Lk.s1 Lk.c1 rfl (fun _ z => by cases z) (fun _ _ _ _ _ _ us hl => match us, hl with | [_, _, _], _ => rfl) (PySem.W.mg_of KX G ?fa1) ?fl1 ?fc1 ?fk1; (case fa1 => k_is); (case fl1 => k_is); (case fc1 => k_is); (case fk1 => k_is))
    (case F2 => refine' Ev.fnIn_mk (st := Lk.top 11) Lk.s2 Lk.c2 rfl (fun _ z => by cases z) (fun _ _ _ _ _ _ us hl => match us, hl with | [_], _ => rfl) (PySem.W.mg_of KX G ?fa2) ?fl2 ?fc2 ?fk2; (case fa2 => k_is); (case fl2 => k_is); (case fc2 => k_is); (case fk2 => k_is))
    (case F3 => refine' Ev.fnIn_mk (st := Lk.top 12) Lk.s3 Lk.c3 rfl (fun _ z => by cases z) (fun _ _ _ _ _ _ us hl => match us, hl with | [_], _ => rfl) (PySem.W.mg_of KX G ?fa3) ?fl3 ?fc3 ?fk3; (case fa3 => k_is); (case fl3 => k_is); (case fc3 => k_is); (case fk3 => k_is))
    (case F4 => refine' Ev.fnIn_mk (st := Lk.top 13) Lk.s4 Lk.c4 rfl (fun _ z => by cases z) (fun _ _ _ _ _ _ us hl => match us, hl with | [_, _], _ => rfl) (PySem.W.mg_of KX G ?fa4) ?fl4 ?fc4 ?fk4; (case fa4 => k_is); (case fl4 => k_is); (case fc4 => k_is); (case fk4 => k_is))
    (case F5 => refine' Ev.fnIn_mk (st := Lk.top 14) Lk.s5 Lk.c5 rfl (fun _ z => by cases z) (fun _ _ _ _ _ _ us hl => match us, hl with | [_, _], _ => rfl) (PySem.W.mg_of KX G ?fa5) ?fl5 ?fc5 ?fk5; (case fa5 => k_is); (case fl5 => k_is); (case fc5 => k_is); (case fk5 => k_is))
    (case F6 => refine' Ev.fnIn_mk (st := Lk.top 15) Lk.s6 Lk.c6 rfl (fun _ z => by cases z) (fun _ _ _ _ _ _ us hl => match us, hl with | [_], _ => rfl) (PySem.W.mg_of KX G ?fa6) ?fl6 ?fc6 ?fk6; (case fa6 => k_is); (case fl6 => k_is); (case fc6 => k_is); (case fk6 => k_is))
    (case F7 => refine' Ev.fnIn_mk (st := Lk.top 16) Lk.s7 Lk.c7 rfl (fun _ z => by cases z) (fun _ _ _ _ _ _ us hl => match us, hl with | [_], _ => rfl) (PySem.W.mg_of KX G ?fa7) ?fl7 ?fc7 ?fk7; (case fa7 => k_is); (case fl7 => k_is); (case fc7 => k_is); (case fk7 => k_is))
    (case F8 => refine' Ev.fnIn_mk (st := Lk.top 17) Lk.s8 Lk.c8 rfl (fun _ z => by cases z) (fun _ _ _ _ _ _ us hl => match us, hl with | [_, _], _ => rfl) (PySem.W.mg_of KX G ?fa8) ?fl8 ?fc8 ?fk8; (case fa8 => k_is); (case fl8 => k_is); (case fc8 => k_is); (case fk8 => k_is))
    (case F9 => refine' Ev.fnIn_mk (st := Lk.top 18) Lk.s9 Lk.c9 rfl (fun _ z => by cases z) (fun _ _ _ _ _ _ us hl => match us, hl with | [_], _ => rfl) (PySem.W.mg_of KX G ?fa9) ?fl9 ?fc9 ?fk9; (case fa9 => k_is); (case fl9 => k_is); (case fc9 => k_is); (case fk9 => k_is))
    (case F10 => refine' Ev.fnIn_mk (st := Lk.top 19) Lk.s10 Lk.c10 rfl (fun _ z => by cases z) (fun _ _ _ _ _ _ us hl => match us, hl with | [_, _], _ => rfl) (PySem.W.mg_of KX G ?fa10) ?fl10 ?fc10 ?fk10; (case fa10 => k_is); (case fl10 => k_is); (case fc10 => k_is); (case fk10 => k_is))
    (case F11 => refine' Ev.fnIn_mk (st := Lk.top 20) Lk.s11 Lk.c11 rfl (fun _ z => by cases z) (fun _ _ _ _ _ _ us hl => match us, hl with | [_], _ => rfl) (PySem.W.mg_of KX G ?fa11) ?fl11 ?fc11 ?fk11; (case fa11 => k_is); (case fl11 => k_is); (case fc11 => k_is); (case fk11 => k_is))
    (case F12 => refine' Ev.fnIn_mk (st := Lk.top 21) Lk.s12 Lk.c12 rfl (fun _ z => by cases z) (fun _ _ _ _ _ _ us hl => match us, hl with | [_], _ => rfl) (PySem.W.mg_of KX G ?fa12) ?fl12 ?fc12 ?fk12; (case fa12 => k_is); (case fl12 => k_is); (case fc12 => k_is); (case fk12 => k_is))
    (case F13 => refine' Ev.fnIn_mk (st := Lk.top 22) Lk.s13 Lk.c13 rfl (fun _ z => by cases z) (fun _ _ _ _ _ _ us hl => match us, hl with | [_], _ => rfl) (PySem.W.mg_of KX G ?fa13) ?fl13 ?fc13 ?fk13; (case fa13 => k_is); (case fl13 => k_is); (case fc13 => k_is); (case fk13 => k_is))
    (case F14 => refine' Ev.fnIn_mk (st := Lk.top 23) Lk.s14 Lk.c14 rfl (fun _ z => by cases z) (fun _ _ _ _ _ _ us hl => match us, hl with | [_], _ => rfl) (PySem.W.mg_of KX G ?fa14) ?fl14 ?fc14 ?fk14; (case fa14 => k_is); (case fl14 => k_is); (case fc14 => k_is); (case fk14 => k_is))
    (case F15 => refine' Ev.fnIn_mk (st := Lk.top 25) Lk.s15 Lk.c15 rfl (fun _ z => by cases z) (fun _ _ _ _ _ _ us hl => match us, hl with | [_, _], _ => rfl) (PySem.W.mg_of KX G ?fa15) ?fl15 ?fc15 ?fk15; (case fa15 => k_is); (case fl15 => k_is); (case fc15 => k_is); (case fk15 => k_is))
    (case F16 => refine' Ev.fnIn_mk (st := Lk.top 26) Lk.s16 Lk.c16 rfl (fun _ z => by cases z) (fun _ _ _ _ _ _ us hl => match us, hl with | [_, _], _ => rfl) (PySem.W.mg_of KX G ?fa16) ?fl16 ?fc16 ?fk16; (case fa16 => k_is); (case fl16 => k_is); (case fc16 => k_is); (case fk16 => k_is))
    (case F17 => refine' Ev.fnIn_mk (st := Lk.top 27) Lk.s17 Lk.c17 rfl (fun _ z => by cases z) (fun _ _ _ _ _ _ us hl => match us, hl with | [_, _], _ => rfl) (PySem.W.mg_of KX G ?fa17) ?fl17 ?fc17 ?fk17; (case fa17 => k_is); (case fl17 => k_is); (case fc17 => k_is); (case fk17 => k_is))
    (case F18 => refine' Ev.fnIn_mk (st := Lk.top 28) Lk.s18 Lk.c18 rfl (fun _ z => by cases z) (fun _ _ _ _ _ _ us hl => match us, hl with | [_], _ => rfl) (PySem.W.mg_of KX G ?fa18) ?fl18 ?fc18 ?fk18; (case fa18 => k_is); (case fl18 => k_is); (case fc18 => k_is); (case fk18 => k_is))
    (case F19 => refine' Ev.fnIn_mk (st := Lk.top 29) Lk.s19 Lk.c19 rfl (fun _ z => by cases z) (fun _ _ _ _ _ _ us hl => match us, hl with | [_, _], _ => rfl) (PySem.W.mg_of KX G ?fa19) ?fl19 ?fc19 ?fk19; (case fa19 => k_is); (case fl19 => k_is); (case fc19 => k_is); (case fk19 => k_is))
    (case F20 => refine' Ev.fnIn_mk (st := Lk.top 30) Lk.s20 Lk.c20 rfl (fun _ z => by cases z) (fun _ _ _ _ _ _ us hl => match us, hl with | [_], _ => rfl) (PySem.W.mg_of KX G ?fa20) ?fl20 ?fc20 ?fk20; (case fa20 => k_is); (case fl20 => k_is); (case fc20 => k_is); (case fk20 => k_is))
    (case F21 => refine' Ev.fnIn_mk (st := Lk.top 31) Lk.s21 Lk.c21 rfl (fun _ z => by cases z) (fun _ _ _ _ _ _ us hl => match us, hl with | [_], _ => rfl) (PySem.W.mg_of KX G ?fa21) ?fl21 ?fc21 ?fk21; (case fa21 => k_is); (case fl21 => k_is); (case fc21 => k_is); (case fk21 => k_is))
    (case F22 => refine' Ev.fnIn_mk (st := Lk.top 32) Lk.s22 Lk.c22 rfl (fun _ z => by cases z) (fun _ _ _ _ _ _ us hl => match us, hl with | [_], _ => rfl) (PySem.W.mg_of KX G ?fa22) ?fl22 ?fc22 ?fk22; (case fa22 => k_is); (case fl22 => k_is); (case fc22 => k_is); (case fk22 => k_is))
    (case F23 => refine' Ev.fnIn_mk (st := Lk.top 33) Lk.s23 Lk.c23 rfl (fun _ z => by cases z) (fun _ _ _ _ _ _ us hl => match us, hl with | [_], _ => rfl) (PySem.W.mg_of KX G ?fa23) ?fl23 ?fc23 ?fk23; (case fa23 => k_is); (case fl23 => k_is); (case fc23 => k_is); (case fk23 => k_is))
    (case F24 => refine' Ev.fnIn_mk (st := Lk.top 34) Lk.s24 Lk.c24 rfl (fun _ z => by cases z) (fun _ _ _ _ _ _ us hl => match us, hl with | [_, _], _ => rfl) (PySem.W.mg_of KX G ?fa24) ?fl24 ?fc24 ?fk24; (case fa24 => k_is); (case fl24 => k_is); (case fc24 => k_is); (case fk24 => k_is))
    (case F25 => refine' Ev.fnIn_mk (st := Lk.top 35) Lk.s25 Lk.c25 rfl (fun _ z => by cases z) (fun _ _ _ _ _ _ us hl => match us, hl with | [_], _ => rfl) (PySem.W.mg_of KX G ?fa25) ?fl25 ?fc25 ?fk25; (case fa25 => k_is); (case fl25 => k_is); (case fc25 => k_is); (case fk25 => k_is))
    (case F26 => refine' Ev.fnIn_mk (st := Lk.top 36) Lk.s26 Lk.c26 rfl (fun _ z => by cases z) (fun _ _ _ _ _ _ us hl => match us, hl with | [_, _], _ => rfl) (PySem.W.mg_of KX G ?fa26) ?fl26 ?fc26 ?fk26; (case fa26 => k_is); (case fl26 => k_is); (case fc26 => k_is); (case fk26 => k_is))
    (case F27 => refine' Ev.fnIn_mk (st := Lk.top 37) Lk.s27 Lk.c27 rfl (fun _ z => by cases z) (fun _ _ _ _ _ _ us hl => match us, hl with | [_, _], _ => rfl) (PySem.W.mg_of KX G ?fa27) ?fl27 ?fc27 ?fk27; (case fa27 => k_is); (case fl27 => k_is); (case fc27 => k_is); (case fk27 => k_is))
    (case F28 => refine' Ev.fnIn_mk (st := Lk.top 38) Lk.s28 Lk.c28 rfl (fun _ z => by cases z) (fun _ _ _ _ _ _ us hl => match us, hl with | [_, _], _ => rfl) (PySem.W.mg_of KX G ?fa28) ?fl28 ?fc28 ?fk28; (case fa28 => k_is); (case fl28 => k_is); (case fc28 => k_is); (case fk28 => k_is))
    (case F29 => refine' Ev.fnIn_mk (st := Lk.top 39) Lk.s29 Lk.c29 rfl (fun _ z => by cases z) (fun _ _ _ _ _ _ us hl => match us, hl with | [_], _ => rfl) (PySem.W.mg_of KX G ?fa29) ?fl29 ?fc29 ?fk29; (case fa29 => k_is); (case fl29 => k_is); (case fc29 => k_is); (case fk29 => k_is))
    (case F30 => refine' Ev.fnIn_mk (st := Lk.top 40) Lk.s30 Lk.c30 rfl (fun _ z => by cases z) (fun _ _ _ _ _ _ us hl => match us, hl with | [_], _ => rfl) (PySem.W.mg_of KX G ?fa30) ?fl30 ?fc30 ?fk30; (case fa30 => k_is); (case fl30 => k_is); (case fc30 => k_is); (case fk30 => k_is))
    (case F31 => refine' Ev.fnIn_mk (st := Lk.top 41) Lk.s31 Lk.c31 rfl (fun _ z => by cases z) (fun _ _ _ _ _ _ us hl => match us, hl with | [_], _ => rfl) (PySem.W.mg_of KX G ?fa31) ?fl31 ?fc31 ?fk31; (case fa31 => k_is); (case fl31 => k_is); (case fc31 => k_is); (case fk31 => k_is))
    (case C0 => refine' Ev.cnIn_mk (PySem.W.mg_of KX G ?ca0) ?cv0; (case ca0 => k_is); (case cv0 => exact .int _))
    (case C1 => refine' Ev.cnIn_mk (PySem.W.mg_of KX G ?ca1) ?cv1; (case ca1 => k_is); (case cv1 => exact .int _))
    (case C2 => refine' Ev.cnIn_mk (PySem.W.mg_of KX G ?ca2) ?cv2; (case ca2 => k_is); (case cv2 => exact .int _))
    (case B0 => exact PySem.W.mg_none_of KX G (by k_is))
    (case B1 => exact PySem.W.mg_none_of KX G (by k_is))
    (case B2 => exact PySem.W.mg_none_of KX G (by k_is))
    (case B3 => exact PySem.W.mg_none_of KX G (by k_is))
    (case B4 => exact PySem.W.mg_none_of KX G (by k_is))
    (case B5 => exact PySem.W.mg_none_of KX G (by k_is))
    (case B6 => exact PySem.W.mg_none_of KX G (by k_is))
    (case B7 => exact PySem.W.mg_none_of KX G (by k_is))
    (case B8 => exact PySem.W.mg_none_of KX G (by k_is))
    (case B9 => exact PySem.W.mg_none_of KX G (by k_is))
    (case B10 => exact PySem.W.mg_none_of KX G (by k_is))
    (case B11 => exact PySem.W.mg_none_of KX G (by k_is))
    (case B12 => exact PySem.W.mg_none_of KX G (by k_is))
    (case B13 => exact PySem.W.mg_none_of KX G (by k_is))
    (case B14 => exact PySem.W.mg_none_of KX G (by k_is))
    (case B15 => exact PySem.W.mg_none_of KX G (by k_is))
    (case B16 => exact PySem.W.mg_none_of KX G (by k_is))
    (case B17 => exact PySem.W.mg_none_of KX G (by k_is))
    (case B18 => exact PySem.W.mg_none_of KX G (by k_is))
    (case l => k_is); (case c => k_is); (case k => k_is)
