import PyProof.Rows.All
import Wide.All
import OpenK.AllK
import Wide.FinOn
import HandS.ForMost
import HandS.Exc
import HandS.TryOnly
import HandS.TryMany
import HandS.ExcOwn
import HandS.WordsExc
import HandS.Defaults
import HandS.Deep
import HandS.TupAny
import HandS.Flow
import HandS.HeadHook2
import HandS.Walk
import HandS.IsInst
import HandS.SortInts
import HandS.SortRule
import HandS.Strs
import KE.GoesEnum
import HandS.Head0
import HandS.Head1
import HandS.Head2
import HandS.HeadEnd
import HandS.HeadHook1
import HandS.TupMul
import KE.KStateDown
import PySem.Challenge.RW_ringhouses_k15_codebook
set_option Elab.async false
set_option linter.all false
set_option maxRecDepth 100000
set_option maxHeartbeats 0
/-! M, part 1: data, worlds, steps. -/
namespace M
open PySem L2

abbrev D := PyData
/-- a record of the store -/
def refD (n : Nat) : D := .dict [(.int n, .none)]
/-- a list that is read alone (the script) -/
def scrD (ds : List D) : D := .dict [(.none, .list ds)]

inductive Slot where
  | no
  | val (d : D)
  | own (xs : List D)
abbrev Env := List Slot
structure Rec where
  c : Str
  fs : List (Str × Slot)
abbrev Sto := List Rec
inductive Out (α : Type) where
  | ok (a : α) (s : Sto)
  | exc (c : Str) (s : Sto)
  | bad

/-! ### values and data -/
section
variable (K : PySem.W.Frag) (ι : List Addr) (F : Hp)
mutual
inductive Dr : V → D → Prop
  | non : Dr .non .none
  | bl (b : Bool) : Dr (.bl b) (.bool b)
  | int (i : Int) : Dr (.int i) (.int i)
  | str (x : Str) : Dr (.str x) (.str x)
  | lst {a : Addr} {xs : List V} {ds : List D} : F a = some (.lst xs) → DrAll xs ds → Dr (.ref a) (.list ds)
  | tup {a : Addr} {xs : List V} {ds : List D} : F a = some (.tup xs) → DrAll xs ds → Dr (.ref a) (.tuple ds)
  | robj {a : Addr} {n : Nat} : ι[n]? = some a → Dr (.ref a) (refD n)
  | scr {a : Addr} {xs : List V} {ds : List D} : SqL K F a xs → DrAll xs ds → Dr (.ref a) (scrD ds)
inductive DrAll : List V → List D → Prop
  | nil : DrAll [] []
  | cons {v : V} {vs : List V} {d : D} {ds : List D} : Dr v d → DrAll vs ds → DrAll (v :: vs) (d :: ds)
end
end

def Ex (H H' : Hp) : Prop := ∀ a o, H a = some o → H' a = some o
theorem Ex.refl (H : Hp) : Ex H H := fun _ _ h => h
theorem Ex.trans {H H1 H2 : Hp} (a : Ex H H1) (b : Ex H1 H2) : Ex H H2 := fun x o h => b x o (a x o h)
theorem Ex.new {H : Hp} {p : Addr} {o : HO} (h : H p = none) : Ex H (upd H p o) := fun a u e => by
  rw [upd_ne (ne_of_none e h)]; exact e
theorem Ex.seq {K : PySem.W.Frag} {H H' : Hp} {a : Addr} {xs : List V} (e : Ex H H') (h : SqL K H a xs) : SqL K H' a xs := by
  rcases h with (h | ⟨o, h⟩) | h
  · exact .inl (.inl (e _ _ h))
  · exact .inl (.inr ⟨o, e _ _ h⟩)
  · exact .inr h

section
variable {K : PySem.W.Frag} {ι ι' : List Addr} {F F' : Hp}
mutual
theorem Dr.mono (hι : ι <+: ι') (hF : Ex F F') : ∀ {v : V} {d : D}, Dr K ι F v d → Dr K ι' F' v d
  | _, _, .non => .non
  | _, _, .bl b => .bl b
  | _, _, .int i => .int i
  | _, _, .str x => .str x
  | _, _, .lst h hs => .lst (hF _ _ h) (DrAll.mono hι hF hs)
  | _, _, .tup h hs => .tup (hF _ _ h) (DrAll.mono hι hF hs)
  | _, _, .robj h => .robj (by
      obtain ⟨t, rfl⟩ := hι
      rw [List.getElem?_append_left (List.getElem?_eq_some_iff.mp h).1]; exact h)
  | _, _, .scr h hs => .scr (hF.seq h) (DrAll.mono hι hF hs)
theorem DrAll.mono (hι : ι <+: ι') (hF : Ex F F') : ∀ {vs : List V} {ds : List D}, DrAll K ι F vs ds → DrAll K ι' F' vs ds
  | _, _, .nil => .nil
  | _, _, .cons h hs => .cons (Dr.mono hι hF h) (DrAll.mono hι hF hs)
end
theorem DrAll.length : ∀ {vs : List V} {ds : List D}, DrAll K ι F vs ds → vs.length = ds.length
  | _, _, .nil => rfl
  | _, _, .cons _ h => congrArg (· + 1) (DrAll.length h)
theorem DrAll.get : ∀ {vs : List V} {ds : List D} {i : Nat} {d : D}, DrAll K ι F vs ds → ds[i]? = some d → ∃ v, vs[i]? = some v ∧ Dr K ι F v d
  | _, _, _, _, .nil, e => by simp at e
  | _, _, 0, _, .cons h _, e => by simp at e; subst e; exact ⟨_, rfl, h⟩
  | _, _, i + 1, _, .cons _ h, e => by
    obtain ⟨v, h1, h2⟩ := DrAll.get (i := i) h (by simpa using e)
    exact ⟨v, by simpa using h1, h2⟩
theorem DrAll.getV : ∀ {vs : List V} {ds : List D} {i : Nat} {v : V}, DrAll K ι F vs ds → vs[i]? = some v → ∃ d, ds[i]? = some d ∧ Dr K ι F v d
  | _, _, _, _, .nil, e => by simp at e
  | _, _, 0, _, .cons h _, e => by simp at e; subst e; exact ⟨_, rfl, h⟩
  | _, _, i + 1, _, .cons _ h, e => by
    obtain ⟨v, h1, h2⟩ := DrAll.getV (i := i) h (by simpa using e)
    exact ⟨v, by simpa using h1, h2⟩
theorem DrAll.append : ∀ {vs ws : List V} {ds es : List D}, DrAll K ι F vs ds → DrAll K ι F ws es → DrAll K ι F (vs ++ ws) (ds ++ es)
  | _, _, _, _, .nil, h => h
  | _, _, _, _, .cons h hs, h' => .cons h (DrAll.append hs h')
theorem DrAll.one {v : V} {d : D} (h : Dr K ι F v d) : DrAll K ι F [v] [d] := .cons h .nil
theorem DrAll.take : ∀ {vs : List V} {ds : List D} (n : Nat), DrAll K ι F vs ds → DrAll K ι F (vs.take n) (ds.take n)
  | _, _, 0, _ => .nil
  | _, _, _ + 1, .nil => .nil
  | _, _, n + 1, .cons h hs => .cons h (DrAll.take n hs)
theorem DrAll.drop : ∀ {vs : List V} {ds : List D} (n : Nat), DrAll K ι F vs ds → DrAll K ι F (vs.drop n) (ds.drop n)
  | _, _, 0, h => h
  | _, _, _ + 1, .nil => .nil
  | _, _, n + 1, .cons _ hs => DrAll.drop n hs
theorem DrAll.set : ∀ {vs : List V} {ds : List D} (n : Nat) {v : V} {d : D}, DrAll K ι F vs ds → Dr K ι F v d → DrAll K ι F (vs.set n v) (ds.set n d)
  | _, _, _, _, _, .nil, _ => .nil
  | _, _, 0, _, _, .cons _ hs, h => .cons h hs
  | _, _, n + 1, _, _, .cons h0 hs, h => .cons h0 (DrAll.set n hs h)
theorem DrAll.eraseIdx : ∀ {vs : List V} {ds : List D} (n : Nat), DrAll K ι F vs ds → DrAll K ι F (vs.eraseIdx n) (ds.eraseIdx n)
  | _, _, _, .nil => .nil
  | _, _, 0, .cons _ hs => hs
  | _, _, n + 1, .cons h hs => .cons h (DrAll.eraseIdx n hs)
theorem DrAll.dropLast {vs : List V} {ds : List D} (h : DrAll K ι F vs ds) : DrAll K ι F vs.dropLast ds.dropLast := by
  rw [List.dropLast_eq_take, List.dropLast_eq_take, h.length]; exact h.take _
theorem DrAll.rep {vs : List V} {ds : List D} (h : DrAll K ι F vs ds) : ∀ k : Nat, DrAll K ι F (List.replicate k vs).flatten (List.replicate k ds).flatten
  | 0 => .nil
  | k + 1 => by
    rw [List.replicate_succ, List.replicate_succ, List.flatten_cons, List.flatten_cons]
    exact h.append (DrAll.rep h k)
theorem DrAll.snocInv {ds : List D} {v : V} : ∀ {vs : List V} {d : D}, DrAll K ι F vs ds → Dr K ι F v d → DrAll K ι F (vs ++ [v]) (ds ++ [d]) := fun h h' => h.append (.one h')
end

/-! ### worlds -/
structure Wd where
  ι : List Addr
  F : Hp
  T : Addr → Prop
  H : Hp

structure Step (W W' : Wd) : Prop where
  pre : W.ι <+: W'.ι
  exF : Ex W.F W'.F
  dom : ∀ b, W.H b ≠ none → W'.H b ≠ none
  keep : ∀ b o, W.H b = some o → ¬ W.T b → W'.H b = some o
  newT : ∀ b, W'.T b → W.T b ∨ W.H b = none
  newF : ∀ b, W.F b = none → W.H b ≠ none → ¬ W.T b → W'.F b = none
theorem Step.refl (W : Wd) : Step W W := ⟨List.prefix_refl _, Ex.refl _, fun _ h => h, fun _ _ h _ => h, fun _ h => .inl h, fun _ h _ _ => h⟩
theorem Step.trans {W W1 W2 : Wd} (a : Step W W1) (b : Step W1 W2) : Step W W2 where
  pre := a.pre.trans b.pre
  exF := a.exF.trans b.exF
  dom := fun x h => b.dom x (a.dom x h)
  keep := fun x o h ht => b.keep x o (a.keep x o h ht) fun h1 => (a.newT x h1).elim ht fun h2 => by rw [h] at h2; cases h2
  newT := fun x h => (b.newT x h).elim (a.newT x) fun h1 => .inr (by
    cases e : W.H x with
    | none => rfl
    | some o => exact absurd h1 (a.dom x (by rw [e]; exact fun z => by cases z)))
  newF := fun x h1 h2 h3 => b.newF x (a.newF x h1 h2 h3) (a.dom x h2) fun h4 => (a.newT x h4).elim h3 h2
theorem Step.dr {K : PySem.W.Frag} {W W' : Wd} (s : Step W W') {v : V} {d : D} (h : Dr K W.ι W.F v d) : Dr K W'.ι W'.F v d := h.mono s.pre s.exF
theorem Step.drAll {K : PySem.W.Frag} {W W' : Wd} (s : Step W W') {v : List V} {d : List D} (h : DrAll K W.ι W.F v d) : DrAll K W'.ι W'.F v d := h.mono s.pre s.exF

/-! ### the store -/
/-- a slot of a record: lk its value as it stands, a where its own list stands -/
def SlotR (K : PySem.W.Frag) (W : Wd) (lk : Option V) (a : Addr) : Slot → Prop
  | .no => True
  | .val d => ∃ v, lk = some v ∧ Dr K W.ι W.F v d
  | .own xs => lk = some (.ref a) ∧ W.T a ∧ W.F a = none ∧ ∃ vs, W.H a = some (.lst vs) ∧ DrAll K W.ι W.F vs xs
/-- the object of a record: an instance of its class (c), or a dict (c empty) -/
def RecO (K : PySem.W.Frag) (r : Rec) (fs : List (Str × V)) (o : HO) : Prop :=
  if r.c = "" then o = .dK (fs.map fun p => (.inr p.1, p.2)) else ∃ dx, o = .ins (He.ga K r.c) dx fs
structure RecR (K : PySem.W.Frag) (W : Wd) (r : Rec) (a : Addr) (fa : Str → Addr) : Prop where
  t : W.T a
  f : W.F a = none
  o : ∃ fs o, W.H a = some o ∧ RecO K r fs o ∧ fs.map (·.1) = r.fs.map (·.1) ∧ ∀ x sl, r.fs.lookup x = some sl → SlotR K W (fs.lookup x) (fa x) sl
structure StoreR (K : PySem.W.Frag) (W : Wd) (s : Sto) : Prop where
  len : W.ι.length = s.length
  nd : W.ι.Nodup
  ex : ∃ fa : Nat → Str → Addr, (∀ (n : Nat) r a, s[n]? = some r → W.ι[n]? = some a → RecR K W r a (fa n)) ∧
    ∀ (n : Nat) x xs r (n' : Nat) x' xs' r', s[n]? = some r → r.fs.lookup x = some (.own xs) → s[n']? = some r' → r'.fs.lookup x' = some (.own xs') → fa n x = fa n' x' → n = n' ∧ x = x'

structure Ok (K : PySem.W.Frag) (W : Wd) (s : Sto) : Prop where
  ex : Ex W.F W.H
  td : ∀ b, W.T b → W.H b ≠ none
  st : StoreR K W s

/-- what a new heap leaves of all records: all objects stay -/
theorem StoreR.kept {K : PySem.W.Frag} {W W' : Wd} {s : Sto} (h : StoreR K W s) (hι : W'.ι = W.ι) (hT : ∀ b, W.T b → W'.T b) (hF : Ex W.F W'.F) (hFn : ∀ b, W.T b → W.F b = none → W'.F b = none) (hH : ∀ b o, W.T b → W.H b = some o → W'.H b = some o) : StoreR K W' s := by
  refine ⟨by rw [hι]; exact h.len, by rw [hι]; exact h.nd, ?_⟩
  obtain ⟨fa, h1, h2⟩ := h.ex
  refine ⟨fa, fun n r a e1 e2 => ?_, h2⟩
  rw [hι] at e2
  obtain ⟨t, f, fs, o, ho, hr, hk, hs⟩ := h1 n r a e1 e2
  refine ⟨hT _ t, hFn _ t f, fs, o, hH _ _ t ho, hr, hk, fun x sl e => ?_⟩
  have q := hs x sl e
  cases sl with
  | no => trivial
  | val d =>
    obtain ⟨v, q1, q2⟩ := q
    exact ⟨v, q1, q2.mono (by rw [hι]; exact List.prefix_refl _) hF⟩
  | own xs =>
    obtain ⟨q1, q2, q3, vs, q4, q5⟩ := q
    exact ⟨q1, hT _ q2, hFn _ q2 q3, vs, hH _ _ q2 q4, q5.mono (by rw [hι]; exact List.prefix_refl _) hF⟩

/-! ### the slots of a frame -/
structure EnvR (K : PySem.W.Frag) (W0 W : Wd) (σ : St) (ρ : Env) : Prop where
  len : ρ.length = σ.length
  val : ∀ (i : Nat) d, ρ[i]? = some (.val d) → ∃ v, σ[i]? = some (some v) ∧ Dr K W.ι W.F v d
  own : ∃ oa : Nat → Addr, (∀ (i : Nat) xs, ρ[i]? = some (.own xs) → σ[i]? = some (some (.ref (oa i))) ∧ W0.H (oa i) = none ∧ W.F (oa i) = none ∧ ¬ W.T (oa i) ∧ ∃ vs, W.H (oa i) = some (.lst vs) ∧ DrAll K W.ι W.F vs xs) ∧
    ∀ (i j : Nat) xs ys, ρ[i]? = some (.own xs) → ρ[j]? = some (.own ys) → oa i = oa j → i = j
theorem EnvR.step {K : PySem.W.Frag} {W0 W W' : Wd} {σ : St} {ρ : Env} (h : EnvR K W0 W σ ρ) (s : Step W W') : EnvR K W0 W' σ ρ := by
  refine ⟨h.len, fun i d e => ?_, ?_⟩
  · obtain ⟨v, h1, h2⟩ := h.val i d e
    exact ⟨v, h1, s.dr h2⟩
  · obtain ⟨oa, h1, h2⟩ := h.own
    refine ⟨oa, fun i xs e => ?_, h2⟩
    obtain ⟨q1, q2, q3, q4, vs, q5, q6⟩ := h1 i xs e
    have hne : W.H (oa i) ≠ none := by rw [q5]; exact fun z => by cases z
    exact ⟨q1, q2, s.newF _ q3 hne q4, fun z => (s.newT _ z).elim q4 hne, vs, s.keep _ _ q5 q4, s.drAll q6⟩

/-! ### a new object -/
def Wd.new (W : Wd) (p : Addr) (o : HO) : Wd := { W with H := upd W.H p o }
def Wd.newF (W : Wd) (p : Addr) (o : HO) : Wd := { W with H := upd W.H p o, F := upd W.F p o }
theorem fnone {K : PySem.W.Frag} {W : Wd} {s : Sto} (ok : Ok K W s) {p : Addr} (hp : W.H p = none) : W.F p = none := by
  cases e : W.F p with
  | none => rfl
  | some o => have := ok.ex _ _ e; rw [hp] at this; cases this
theorem tnone {K : PySem.W.Frag} {W : Wd} {s : Sto} (ok : Ok K W s) {p : Addr} (hp : W.H p = none) : ¬ W.T p := fun h => ok.td p h hp
theorem step_new {K : PySem.W.Frag} {W : Wd} {s : Sto} (ok : Ok K W s) {p : Addr} {o : HO} (hp : W.H p = none) : Step W (W.new p o) ∧ Ok K (W.new p o) s := by
  have hx := Ex.new (o := o) hp
  refine ⟨⟨List.prefix_refl _, Ex.refl _, fun b h => ?_, fun b u h _ => hx b u h, fun b h => .inl h, fun b h _ _ => h⟩, ⟨ok.ex.trans hx, fun b h => ?_, ?_⟩⟩
  · cases e : W.H b with
    | none => exact absurd e h
    | some u => show upd W.H p o b ≠ none; rw [hx b u e]; exact fun z => by cases z
  · cases e : W.H b with
    | none => exact absurd e (ok.td b h)
    | some u => show upd W.H p o b ≠ none; rw [hx b u e]; exact fun z => by cases z
  · exact ok.st.kept rfl (fun _ h => h) (Ex.refl _) (fun _ _ h => h) fun b u _ h => hx b u h
theorem step_newF {K : PySem.W.Frag} {W : Wd} {s : Sto} (ok : Ok K W s) {p : Addr} {o : HO} (hp : W.H p = none) : Step W (W.newF p o) ∧ Ok K (W.newF p o) s := by
  have hx := Ex.new (o := o) hp
  have hf := Ex.new (o := o) (fnone ok hp)
  have hn : ∀ b, b ≠ p → W.F b = none → (W.newF p o).F b = none := fun b hb h => by show upd W.F p o b = none; rw [upd_ne hb]; exact h
  refine ⟨⟨List.prefix_refl _, hf, fun b h => ?_, fun b u h _ => hx b u h, fun b h => .inl h, fun b h h2 _ => hn b (fun z => h2 (by rw [z]; exact hp)) h⟩, ⟨fun a u h => ?_, fun b h => ?_, ?_⟩⟩
  · cases e : W.H b with
    | none => exact absurd e h
    | some u => show upd W.H p o b ≠ none; rw [hx b u e]; exact fun z => by cases z
  · show upd W.H p o a = some u
    by_cases ha : a = p
    · subst ha
      have h' : upd W.F a o a = some u := h
      rw [upd_same] at h'
      rw [upd_same]; exact h'
    · have h' : upd W.F p o a = some u := h
      rw [upd_ne ha] at h'
      rw [upd_ne ha]; exact ok.ex _ _ h'
  · cases e : W.H b with
    | none => exact absurd e (ok.td b h)
    | some u => show upd W.H p o b ≠ none; rw [hx b u e]; exact fun z => by cases z
  · refine ok.st.kept rfl (fun _ h => h) hf (fun b ht h => hn b (fun z => ok.td b ht (by rw [z]; exact hp)) h) fun b u _ h => hx b u h
end M

/-! M, part 2: expressions. -/
namespace M
open PySem L2

/-! ### what is said behind an expression -/
abbrev RA := Wd → V → D → Prop
abbrev RB := Wd → Wd → V → D → Prop
def rD (K : PySem.W.Frag) : RA := fun W v d => Dr K W.ι W.F v d
/-- .. or a list of the frame's own -/
def rO (K : PySem.W.Frag) : RA := fun W v d => Dr K W.ι W.F v d ∨ ∃ a xs vs, d = .list xs ∧ v = .ref a ∧ W.H a = some (.lst vs) ∧ ¬ W.T a ∧ DrAll K W.ι W.F vs xs
/-- .. or any list as it stands -/
def rU (K : PySem.W.Frag) : RA := fun W v d => Dr K W.ι W.F v d ∨ ∃ a xs vs, d = .list xs ∧ v = .ref a ∧ W.H a = some (.lst vs) ∧ DrAll K W.ι W.F vs xs
/-- a new list -/
def rN (K : PySem.W.Frag) : RB := fun W W' v d => ∃ p xs vs, d = .list xs ∧ v = .ref p ∧ W.H p = none ∧ W'.H p = some (.lst vs) ∧ W'.F p = none ∧ ¬ W'.T p ∧ DrAll K W'.ι W'.F vs xs
abbrev aft (R : RA) : RB := fun _ W' v d => R W' v d
section
variable {K : PySem.W.Frag} {W W' : Wd} {v : V} {d : D}
theorem rD.o (h : rD K W v d) : rO K W v d := .inl h
theorem rO.u (h : rO K W v d) : rU K W v d := by
  rcases h with h | ⟨a, xs, vs, h1, h2, h3, _, h5⟩
  · exact .inl h
  · exact .inr ⟨a, xs, vs, h1, h2, h3, h5⟩
theorem rD.u (h : rD K W v d) : rU K W v d := .inl h
theorem rN.o (h : rN K W W' v d) : rO K W' v d := by
  obtain ⟨p, xs, vs, h1, h2, h3, h4, h5, h6, h7⟩ := h
  exact .inr ⟨p, xs, vs, h1, h2, h4, h6, h7⟩
theorem rO.step (h : rO K W v d) (s : Step W W') : rO K W' v d := by
  rcases h with h | ⟨a, xs, vs, h1, h2, h3, h4, h5⟩
  · exact .inl (s.dr h)
  · have hne : W.H a ≠ none := by rw [h3]; exact fun z => by cases z
    exact .inr ⟨a, xs, vs, h1, h2, s.keep _ _ h3 h4, fun z => (s.newT _ z).elim h4 hne, s.drAll h5⟩
theorem rD.step (h : rD K W v d) (s : Step W W') : rD K W' v d := s.dr h
end

abbrev XE := Env → Sto → Out D
abbrev XT := Env → Sto → Out Bool
abbrev XA := Env → Sto → Out (List D)
def Out.bind {α β : Type} (x : Out α) (f : α → Sto → Out β) : Out β := match x with
  | .ok a s => f a s
  | .exc c s => .exc c s
  | .bad => .bad
def lift {α : Type} (o : Option α) (s : Sto) : Out α := match o with
  | some d => .ok d s
  | none => .bad
@[simp] theorem bind_ok {α β : Type} (a : α) (s : Sto) (f : α → Sto → Out β) : (Out.ok a s).bind f = f a s := rfl
@[simp] theorem bind_exc {α β : Type} (c : Str) (s : Sto) (f : α → Sto → Out β) : (Out.exc c s : Out α).bind f = .exc c s := rfl
@[simp] theorem bind_bad {α β : Type} (f : α → Sto → Out β) : (Out.bad : Out α).bind f = .bad := rfl
@[simp] theorem lift_some {α : Type} (a : α) (s : Sto) : lift (some a) s = .ok a s := rfl
@[simp] theorem lift_none {α : Type} (s : Sto) : lift (none : Option α) s = .bad := rfl

/-- an outcome o, from W, wished: Q of a value, E of an exception -/
def Post {α : Type} (K : PySem.W.Frag) (W : Wd) (o : Out α) (Q : α → Sto → Wd → Prop) (E : Str → Wd → Prop) : Prop :=
  match o with
  | .ok a s' => ∀ W', Step W W' → Ok K W' s' → Q a s' W'
  | .exc c s' => ∀ W', Step W W' → Ok K W' s' → E c W'
  | .bad => False
def wexc (K : PySem.W.Frag) (Wx : WX) (σ : St) : Str → Wd → Prop := fun c W' => Wx (.ref (He.ga K c)) none σ W'.H
theorem Post.mono {α : Type} {K : PySem.W.Frag} {W : Wd} {o : Out α} {Q Q' : α → Sto → Wd → Prop} {E : Str → Wd → Prop} (h : Post K W o Q E) (hQ : ∀ a s W', Step W W' → Ok K W' s → Q a s W' → Q' a s W') : Post K W o Q' E := by
  cases o with
  | ok a s => exact fun W' st ok => hQ a s W' st ok (h W' st ok)
  | exc c s => exact h
  | bad => exact h
theorem Post.bind {α β : Type} {K : PySem.W.Frag} {W : Wd} {o : Out α} {f : α → Sto → Out β} {Q : β → Sto → Wd → Prop} {E : Str → Wd → Prop} (h : Post K W (o.bind f) Q E) :
    Post K W o (fun a s W' => Post K W' (f a s) Q E) E := by
  cases o with
  | ok a s =>
    intro W' st ok
    have h' : Post K W (f a s) Q E := h
    show Post K W' (f a s) Q E
    cases e : f a s with
    | ok b s2 => rw [e] at h'; exact fun W2 st2 ok2 => h' W2 (st.trans st2) ok2
    | exc c s2 => rw [e] at h'; exact fun W2 st2 ok2 => h' W2 (st.trans st2) ok2
    | bad => rw [e] at h'; exact h'
  | exc c s => exact h
  | bad => exact h
theorem Post.lift {α : Type} {K : PySem.W.Frag} {W : Wd} {s : Sto} {o : Option α} {Q : α → Sto → Wd → Prop} {E : Str → Wd → Prop} (h : Post K W (M.lift o s) Q E) : ∃ a, o = some a ∧ ∀ W', Step W W' → Ok K W' s → Q a s W' := by
  cases o with
  | some a => exact ⟨a, rfl, h⟩
  | none => exact h.elim

def GX (K : PySem.W.Frag) (R : RB) (Wx : WX) (m : XE) : TE := fun σ H Q => ∃ W0 W ρ s, W.H = H ∧ Ok K W s ∧ EnvR K W0 W σ ρ ∧ Post K W (m ρ s) (fun d _ W' => ∀ v, R W W' v d → Q v W'.H) (wexc K Wx σ)
def GT (K : PySem.W.Frag) (Wx : WX) (m : XT) : TT := fun σ H Q => ∃ W0 W ρ s, W.H = H ∧ Ok K W s ∧ EnvR K W0 W σ ρ ∧ Post K W (m ρ s) (fun b _ W' => Q b W'.H) (wexc K Wx σ)
def GA (K : PySem.W.Frag) (Wx : WX) (m : XA) : TA := fun σ H Q => ∃ W0 W ρ s, W.H = H ∧ Ok K W s ∧ EnvR K W0 W σ ρ ∧ Post K W (m ρ s) (fun ds _ W' => ∀ vs, DrAll K W'.ι W'.F vs ds → Q vs W'.H) (wexc K Wx σ)

/-- from a state in hand -/
theorem GX.mk {K : PySem.W.Frag} {R : RB} {Wx : WX} {m : XE} {W0 W : Wd} {ρ : Env} {s : Sto} {σ : St} {Q : VK} (ok : Ok K W s) (e : EnvR K W0 W σ ρ) (h : Post K W (m ρ s) (fun d _ W' => ∀ v, R W W' v d → Q v W'.H) (wexc K Wx σ)) : GX K R Wx m σ W.H Q := ⟨W0, W, ρ, s, rfl, ok, e, h⟩
theorem GT.mk {K : PySem.W.Frag} {Wx : WX} {m : XT} {W0 W : Wd} {ρ : Env} {s : Sto} {σ : St} {Q : Bool → Hp → Prop} (ok : Ok K W s) (e : EnvR K W0 W σ ρ) (h : Post K W (m ρ s) (fun d _ W' => Q d W'.H) (wexc K Wx σ)) : GT K Wx m σ W.H Q := ⟨W0, W, ρ, s, rfl, ok, e, h⟩
theorem GA.mk {K : PySem.W.Frag} {Wx : WX} {m : XA} {W0 W : Wd} {ρ : Env} {s : Sto} {σ : St} {Q : List V → Hp → Prop} (ok : Ok K W s) (e : EnvR K W0 W σ ρ) (h : Post K W (m ρ s) (fun ds _ W' => ∀ vs, DrAll K W'.ι W'.F vs ds → Q vs W'.H) (wexc K Wx σ)) : GA K Wx m σ W.H Q := ⟨W0, W, ρ, s, rfl, ok, e, h⟩

section
variable {X : Cx} {e : Expr} {R R' : RB} {Wx : WX} {m : XE}
theorem peImp {t t' : TE} (h : PE X e t) (i : ∀ σ H Q, t' σ H Q → t σ H Q) : PE X e t' := ⟨fun pins s σ H Q I q => h.run pins s σ H Q I (i σ H Q q)⟩
theorem ptImp {t t' : TT} (h : PT X e t) (i : ∀ σ H Q, t' σ H Q → t σ H Q) : PT X e t' := ⟨fun pins s σ H Q I q => h.run pins s σ H Q I (i σ H Q q)⟩
theorem pwImp {t t' : TT} (h : PW X e t) (i : ∀ σ H Q, t' σ H Q → t σ H Q) : PW X e t' := ⟨fun wh pins s σ H Q I q => h.run wh pins s σ H Q I (i σ H Q q)⟩
theorem paImp {es : List Expr} {t t' : TA} (h : PA X es t) (i : ∀ σ H Q, t' σ H Q → t σ H Q) : PA X es t' := ⟨fun pos pins s σ H Q I q => h.run pos pins s σ H Q I (i σ H Q q)⟩
theorem psImp {st : Stmt} {t t' : TS} (h : PS X st t) (i : ∀ D σ H, t' D σ H → t D σ H) : PS X st t' := ⟨fun pins s σ H D I q => h.run pins s σ H D I (i D σ H q)⟩
theorem pssImp {st : List Stmt} {t t' : TS} (h : PSs X st t) (i : ∀ D σ H, t' D σ H → t D σ H) : PSs X st t' := ⟨fun pins s σ H D I q => h.run pins s σ H D I (i D σ H q)⟩
theorem piImp {tg it : Expr} {t t' : TI} (h : PI X tg it t) (i : ∀ σ H R, t' σ H R → t σ H R) : PI X tg it t' := ⟨fun pins s σ H R I q => h.run pins s σ H R I (i σ H R q)⟩

/-- weaker things said of the value -/
theorem gxWeak (h : PE X e (GX X.K R Wx m)) (i : ∀ W W' v d, R W W' v d → R' W W' v d) : PE X e (GX X.K R' Wx m) := peImp h fun σ H Q ⟨W0, W, ρ, s, e1, ok, en, p⟩ =>
  ⟨W0, W, ρ, s, e1, ok, en, p.mono fun a s W' _ _ q v r => q v (i W W' v a r)⟩
theorem DO (h : PE X e (GX X.K (aft (rD X.K)) Wx m)) : PE X e (GX X.K (aft (rO X.K)) Wx m) := gxWeak h fun _ _ _ _ r => rD.o r
theorem DU (h : PE X e (GX X.K (aft (rD X.K)) Wx m)) : PE X e (GX X.K (aft (rU X.K)) Wx m) := gxWeak h fun _ _ _ _ r => rD.u r
theorem OU (h : PE X e (GX X.K (aft (rO X.K)) Wx m)) : PE X e (GX X.K (aft (rU X.K)) Wx m) := gxWeak h fun _ _ _ _ r => rO.u r
theorem NO (h : PE X e (GX X.K (rN X.K) Wx m)) : PE X e (GX X.K (aft (rO X.K)) Wx m) := gxWeak h fun _ _ _ _ r => rN.o r
theorem NU (h : PE X e (GX X.K (rN X.K) Wx m)) : PE X e (GX X.K (aft (rU X.K)) Wx m) := OU (NO h)
/-- a new list is kept as it is from now on -/
theorem freezeW {K : PySem.W.Frag} {W W' : Wd} {s : Sto} {p : Addr} {vs : List V} {xs : List D} (st : Step W W') (ok : Ok K W' s) (h1 : W.H p = none) (h2 : W'.H p = some (.lst vs)) (h3 : W'.F p = none) (h4 : ¬ W'.T p) (h5 : DrAll K W'.ι W'.F vs xs) :
    Step W { W' with F := upd W'.F p (.lst vs) } ∧ Ok K { W' with F := upd W'.F p (.lst vs) } s ∧ Dr K W'.ι (upd W'.F p (.lst vs)) (.ref p) (.list xs) := by
  have hx : Ex W'.F (upd W'.F p (.lst vs)) := Ex.new h3
  refine ⟨⟨st.pre, st.exF.trans hx, st.dom, st.keep, st.newT, fun b q1 q2 q3 => ?_⟩, ⟨fun a o q => ?_, ok.td, ?_⟩, .lst upd_same (h5.mono (List.prefix_refl _) hx)⟩
  · show upd W'.F p (.lst vs) b = none
    rw [upd_ne (fun z => q2 (by rw [z]; exact h1))]
    exact st.newF b q1 q2 q3
  · have q' : upd W'.F p (.lst vs) a = some o := q
    by_cases ha : a = p
    · subst ha
      rw [upd_same] at q'
      show W'.H a = some o
      rw [h2]; exact q'
    · rw [upd_ne ha] at q'
      exact ok.ex _ _ q'
  · exact ok.st.kept rfl (fun _ h => h) hx (fun b hb q => by show upd W'.F p (.lst vs) b = none; rw [upd_ne (fun z => h4 (by rw [← z]; exact hb))]; exact q) fun _ _ _ h => h
theorem ND (h : PE X e (GX X.K (rN X.K) Wx m)) : PE X e (GX X.K (aft (rD X.K)) Wx m) := peImp h fun σ H Q ⟨W0, W, ρ, s, e1, ok, en, p⟩ =>
  ⟨W0, W, ρ, s, e1, ok, en, by
    cases ho : m ρ s with
    | ok d s' =>
      rw [ho] at p
      intro W' st ok' v ⟨q, xs, vs, h1, h2, h3, h4, h5, h6, h7⟩
      subst h1 h2
      obtain ⟨st2, ok2, dr⟩ := freezeW st ok' h3 h4 h5 h6 h7
      exact p _ st2 ok2 _ dr
    | exc c s' => rw [ho] at p; exact p
    | bad => rw [ho] at p; exact p⟩
end

/-! ### constants and names -/
section
variable {X : Cx} {Wx : WX} {pos : Pos}
def xC (d : D) : XE := fun _ s => .ok d s
theorem post_ok {α : Type} {K : PySem.W.Frag} {W : Wd} {a : α} {s : Sto} {Q : α → Sto → Wd → Prop} {E : Str → Wd → Prop} (ok : Ok K W s) (h : Post K W (.ok a s) Q E) : Q a s W := h W (Step.refl W) ok
theorem gx_c {K : PySem.W.Frag} {v : V} {d : D} (hd : ∀ ι F, Dr K ι F v d) : ∀ σ H Q, GX K (aft (rD K)) Wx (xC d) σ H Q → tC v σ H Q := by
  rintro σ H Q ⟨W0, W, ρ, s, rfl, ok, en, p⟩
  exact post_ok ok p v (hd _ _)
theorem d_int {i : Int} {j} : PE X (.Constant (.int i) j pos) (GX X.K (aft (rD X.K)) Wx (xC (.int i))) := peImp pe_int (gx_c fun _ _ => .int i)
theorem d_bl {b : Bool} {j} : PE X (.Constant (.bool b) j pos) (GX X.K (aft (rD X.K)) Wx (xC (.bool b))) := peImp pe_bl (gx_c fun _ _ => .bl b)
theorem d_non {j} : PE X (.Constant .none j pos) (GX X.K (aft (rD X.K)) Wx (xC .none)) := peImp pe_non (gx_c fun _ _ => .non)
theorem d_str {x : Str} {j} : PE X (.Constant (.str x) j pos) (GX X.K (aft (rD X.K)) Wx (xC (.str x))) := peImp pe_str (gx_c fun _ _ => .str x)
/-- a module's number -/
theorem d_gint {x : Str} {i : Int} (hg : Gl X x) (hm : ∃ t, X.mg x = some (.int i t)) (hd : (x == ("__debug__" : Str)) = false := by decide) : PE X (.Name x pos) (GX X.K (aft (rD X.K)) Wx (xC (.int i))) := by
  obtain ⟨t, hm⟩ := hm
  exact peImp (pe_glob (v := .int i) hg hm ⟨t, rfl⟩ hd) (gx_c fun _ _ => .int i)
/-- a slot that holds data -/
def xV (i : Nat) : XE := fun ρ s => match ρ[i]? with
  | some (.val d) => .ok d s
  | _ => .bad
/-- .. or a list of the frame's own, read at once -/
def xL (i : Nat) : XE := fun ρ s => match ρ[i]? with
  | some (.val d) => .ok d s
  | some (.own xs) => .ok (.list xs) s
  | _ => .bad
theorem gx_v {K : PySem.W.Frag} {i : Nat} : ∀ σ H Q, GX K (aft (rD K)) Wx (xV i) σ H Q → tVar i σ H Q := by
  rintro σ H Q ⟨W0, W, ρ, s, rfl, ok, en, p⟩
  unfold xV at p
  split at p
  · rename_i d e
    obtain ⟨v, h1, h2⟩ := en.val i d e
    exact ⟨v, h1, post_ok ok p v h2⟩
  · exact p.elim
theorem gx_l {K : PySem.W.Frag} {i : Nat} : ∀ σ H Q, GX K (aft (rO K)) Wx (xL i) σ H Q → tVar i σ H Q := by
  rintro σ H Q ⟨W0, W, ρ, s, rfl, ok, en, p⟩
  unfold xL at p
  split at p
  · rename_i d e
    obtain ⟨v, h1, h2⟩ := en.val i d e
    exact ⟨v, h1, post_ok ok p v (.inl h2)⟩
  · rename_i xs e
    obtain ⟨oa, h1, _⟩ := en.own
    obtain ⟨q1, q2, q3, q4, vs, q5, q6⟩ := h1 i xs e
    exact ⟨_, q1, post_ok ok p _ (.inr ⟨_, xs, vs, rfl, rfl, q5, q4, q6⟩)⟩
  · exact p.elim
theorem d_v (i : Nat) {x : Str} (hN : X.N[i]? = some x := by rfl) (hv : Vis X.env.scope x := by first | exact Or.inl rfl | exact Or.inr (Or.inl rfl) | exact Or.inr (Or.inr rfl)) (hd : (x == ("__debug__" : Str)) = false := by decide)
    (hcd : (x == ("__classdict__" : Str)) = false := by decide) : PE X (.Name x pos) (GX X.K (aft (rD X.K)) Wx (xV i)) := peImp (pe_var hN hv hd hcd) gx_v
theorem o_v (i : Nat) {x : Str} (hN : X.N[i]? = some x := by rfl) (hv : Vis X.env.scope x := by first | exact Or.inl rfl | exact Or.inr (Or.inl rfl) | exact Or.inr (Or.inr rfl)) (hd : (x == ("__debug__" : Str)) = false := by decide)
    (hcd : (x == ("__classdict__" : Str)) = false := by decide) : PE X (.Name x pos) (GX X.K (aft (rO X.K)) Wx (xL i)) := peImp (pe_var hN hv hd hcd) gx_l
end

/-! ### argument lists, displays -/
section
variable {X : Cx} {Wx : WX} {pos : Pos}
def aN : XA := fun _ s => .ok [] s
def aC (f : XE) (g : XA) : XA := fun ρ s => (f ρ s).bind fun d s1 => (g ρ s1).bind fun ds s2 => .ok (d :: ds) s2
theorem a_nil : PA X [] (GA X.K Wx aN) := paImp pa_nil fun σ H Q ⟨W0, W, ρ, s, e1, ok, en, p⟩ => by
  subst e1
  exact post_ok ok p [] .nil
theorem ga_cons {K : PySem.W.Frag} {f : XE} {g : XA} : ∀ σ H Q, GA K Wx (aC f g) σ H Q → tCons (GX K (aft (rD K)) Wx f) (GA K Wx g) σ H Q := by
  rintro σ H Q ⟨W0, W, ρ, s, rfl, ok, en, p⟩
  refine GX.mk ok en (Post.mono p.bind fun d s1 W1 st1 ok1 p1 v hv => ?_)
  refine GA.mk ok1 (en.step st1) (Post.mono (Post.bind p1) fun ds s2 W2 st2 ok2 p2 vs hvs => ?_)
  exact post_ok ok2 p2 (v :: vs) (.cons (st2.dr hv) hvs)
theorem a_cons {e : Expr} {es : List Expr} {f : XE} {g : XA} (ha : PE X e (GX X.K (aft (rD X.K)) Wx f)) (hr : PA X es (GA X.K Wx g)) (hs : starEach (e :: es) X.env = (false, eval e X.env) :: starEach es X.env := by rfl) :
    PA X (e :: es) (GA X.K Wx (aC f g)) := paImp (pa_cons ha hr hs) ga_cons
def xTup (g : XA) : XE := fun ρ s => (g ρ s).bind fun ds s1 => if ds.length ≤ sizeLine then .ok (.tuple ds) s1 else .bad
def xLst (g : XA) : XE := fun ρ s => (g ρ s).bind fun ds s1 => if ds.length ≤ sizeLine then .ok (.list ds) s1 else .bad
/-- a new tuple stands -/
theorem new_tup {K : PySem.W.Frag} {W : Wd} {s : Sto} {p : Addr} {vs : List V} {ds : List D} (ok : Ok K W s) (hp : W.H p = none) (h : DrAll K W.ι W.F vs ds) :
    Step W (W.newF p (.tup vs)) ∧ Ok K (W.newF p (.tup vs)) s ∧ Dr K (W.newF p (.tup vs)).ι (W.newF p (.tup vs)).F (.ref p) (.tuple ds) :=
  ⟨(step_newF ok hp).1, (step_newF ok hp).2, .tup upd_same (h.mono (List.prefix_refl _) (Ex.new (fnone ok hp)))⟩
theorem new_lst {K : PySem.W.Frag} {W : Wd} {s : Sto} {p : Addr} {vs : List V} {ds : List D} (ok : Ok K W s) (hp : W.H p = none) (h : DrAll K W.ι W.F vs ds) :
    Step W (W.new p (.lst vs)) ∧ Ok K (W.new p (.lst vs)) s ∧ rN K W (W.new p (.lst vs)) (.ref p) (.list ds) :=
  ⟨(step_new ok hp).1, (step_new ok hp).2, p, ds, vs, rfl, rfl, hp, upd_same, fnone ok hp, tnone ok hp, h⟩
theorem rN.back {K : PySem.W.Frag} {W W1 W2 : Wd} {v : V} {d : D} (st : Step W W1) (h : rN K W1 W2 v d) : rN K W W2 v d := by
  obtain ⟨p, xs, vs, h1, h2, h3, h4⟩ := h
  refine ⟨p, xs, vs, h1, h2, ?_, h4⟩
  cases e : W.H p with
  | none => rfl
  | some o => exact absurd h3 (st.dom p (by rw [e]; exact fun z => by cases z))
theorem d_tup {es : List Expr} {x1} {g : XA} (h : PA X es (GA X.K Wx g)) : PE X (.Tuple es x1 pos) (GX X.K (aft (rD X.K)) Wx (xTup g)) := peImp (pe_tup h) fun σ H Q ⟨W0, W, ρ, s, e1, ok, en, p⟩ => by
  subst e1
  refine GA.mk ok en (Post.mono p.bind fun ds s1 W1 st1 ok1 p1 vs hvs => ?_)
  by_cases hz : ds.length ≤ sizeLine
  · rw [if_pos hz] at p1
    refine ⟨by rw [hvs.length]; exact hz, fun q hq => ?_⟩
    obtain ⟨a1, a2, a3⟩ := new_tup ok1 hq hvs
    exact p1 _ a1 a2 _ a3
  · rw [if_neg hz] at p1; exact p1.elim
theorem n_lst {es : List Expr} {g : XA} (h : PA X es (GA X.K Wx g)) : PE X (.List es pos) (GX X.K (rN X.K) Wx (xLst g)) := peImp (pe_lst h) fun σ H Q ⟨W0, W, ρ, s, e1, ok, en, p⟩ => by
  subst e1
  refine GA.mk ok en (Post.mono p.bind fun ds s1 W1 st1 ok1 p1 vs hvs => ?_)
  by_cases hz : ds.length ≤ sizeLine
  · rw [if_pos hz] at p1
    refine ⟨by rw [hvs.length]; exact hz, fun q hq => ?_⟩
    obtain ⟨a1, a2, a3⟩ := new_lst ok1 hq hvs
    exact p1 _ a1 a2 _ (a3.back st1)
  · rw [if_neg hz] at p1; exact p1.elim
end

/-! ### operators -/
/-- r does g, from data to data, leaving the store -/
def OpD (K : PySem.W.Frag) (R : RB) (r : R2) (g : D → D → Option D) : Prop := ∀ (W : Wd) (s : Sto) (v1 v2 : V) (d1 d2 d : D) (Q : VK), Ok K W s → rU K W v1 d1 → rU K W v2 d2 → g d1 d2 = some d →
  (∀ v W', Step W W' → Ok K W' s → R W W' v d → Q v W'.H) → r v1 v2 W.H Q
def x1 (g : D → Option D) (f : XE) : XE := fun ρ s => (f ρ s).bind fun a s1 => lift (g a) s1
def x2 (g : D → D → Option D) (f1 f2 : XE) : XE := fun ρ s => (f1 ρ s).bind fun a s1 => (f2 ρ s1).bind fun b s2 => lift (g a b) s2
/-- R may be said from further back -/
class Back (R : RB) : Prop where
  back : ∀ {W W1 W2 : Wd} {v : V} {d : D}, Step W W1 → R W1 W2 v d → R W W2 v d
instance (R : RA) : Back (aft R) := ⟨fun _ h => h⟩
instance (K : PySem.W.Frag) : Back (rN K) := ⟨fun st h => h.back st⟩
section
variable {K : PySem.W.Frag} {R : RB} {Wx : WX} {r : R2} {g : D → D → Option D} {f1 f2 : XE}
theorem gx_2 [Back R] (o : OpD K R r g) : ∀ σ H Q, GX K R Wx (x2 g f1 f2) σ H Q → tOp r (GX K (aft (rO K)) Wx f1) (GX K (aft (rU K)) Wx f2) σ H Q := by
  rintro σ H Q ⟨W0, W, ρ, s, rfl, ok, en, p⟩
  refine GX.mk ok en (Post.mono p.bind fun d1 s1 W1 st1 ok1 p1 v1 hv1 => ?_)
  refine GX.mk ok1 (en.step st1) (Post.mono (Post.bind p1) fun d2 s2 W2 st2 ok2 p2 v2 hv2 => ?_)
  obtain ⟨d, e, q⟩ := p2.lift
  exact o W2 s2 v1 v2 d1 d2 d Q ok2 (rO.u (hv1.step st2)) hv2 e fun v W3 st3 ok3 hr => q W3 st3 ok3 v (Back.back (st1.trans st2) hr)
end
section
variable {X : Cx} {Wx : WX} {pos : Pos} {a b c : Expr} {f1 f2 f3 : XE} {R : RB}
theorem g_op [Back R] {op : Operator} {r : R2} {g : D → D → Option D} (ho : OpR X (binaryOp op) r) (o : OpD X.K R r g) (ha : PE X a (GX X.K (aft (rO X.K)) Wx f1)) (hb : PE X b (GX X.K (aft (rU X.K)) Wx f2)) : PE X (.BinOp a op b pos) (GX X.K R Wx (x2 g f1 f2)) :=
  peImp (pe_op ho ha hb) (gx_2 o)
theorem g_cmp [Back R] {op : CmpOp} {r : R2} {g : D → D → Option D} (ho : OpR X (compareOp op) r) (o : OpD X.K R r g) (ha : PE X a (GX X.K (aft (rO X.K)) Wx f1)) (hb : PE X b (GX X.K (aft (rU X.K)) Wx f2)) (hm : behindInMarks op b = false) : PE X (.Compare a [op] [b] pos) (GX X.K R Wx (x2 g f1 f2)) :=
  peImp (pe_cmpR ho ha hb hm) (gx_2 o)
def xB (f : XE) : XT := fun ρ s => (f ρ s).bind fun d s1 => match d with
  | .bool b => .ok b s1
  | _ => .bad
/-- a value that is a bool, as a test -/
theorem gt_b {K : PySem.W.Frag} {f : XE} : ∀ σ H (Q : Bool → Hp → Prop), GT K Wx (xB f) σ H Q → GX K (aft (rD K)) Wx f σ H fun x H1 => ∃ k, x = .bl k ∧ Q k H1 := by
  rintro σ H Q ⟨W0, W, ρ, s, rfl, ok, en, p⟩
  refine GX.mk ok en (Post.mono p.bind fun d1 s1 W1 st1 ok1 p1 v1 hv1 => ?_)
  cases hv1 with
  | bl k => exact ⟨k, rfl, post_ok ok1 p1⟩
  | _ => exact p1.elim
theorem t_cmp {op : CmpOp} {r : R2} {g : D → D → Option D} (ho : OpR X (compareOp op) r) (o : OpD X.K (aft (rD X.K)) r g) (ha : PE X a (GX X.K (aft (rO X.K)) Wx f1)) (hb : PE X b (GX X.K (aft (rU X.K)) Wx f2)) (hm : behindInMarks op b = false) : PT X (.Compare a [op] [b] pos) (GT X.K Wx (xB (x2 g f1 f2))) :=
  ptImp (pt_cmpR ho ha hb hm) fun σ H Q h => gx_2 o σ H _ (gt_b σ H Q h)
theorem t_val {e : Expr} {f : XE} (h : PE X e (GX X.K (aft (rD X.K)) Wx f)) (he : ∀ whole, isTrue e X.env whole = (do let v ← whole; standAt e.pos; holding [v] (truthy v)) := by intro _; rfl) : PT X e (GT X.K Wx (xB f)) :=
  ptImp (pt_val h he) gt_b
/-- a op b op' c -/
def x3 (g g' : D → D → Option D) (f1 f2 f3 : XE) : XE := fun ρ s => (f1 ρ s).bind fun a s1 => (f2 ρ s1).bind fun b s2 => (lift (g a b) s2).bind fun k s3 => match k with
  | .bool true => (f3 ρ s3).bind fun c s4 => lift (g' b c) s4
  | .bool false => .ok (.bool false) s3
  | _ => .bad
theorem gx_3 {K : PySem.W.Frag} {r r' : R2} {g g' : D → D → Option D} (o : OpD K (aft (rD K)) r g) (o' : OpD K (aft (rD K)) r' g') : ∀ σ H Q, GX K (aft (rD K)) Wx (x3 g g' f1 f2 f3) σ H Q → tChain r r' (GX K (aft (rO K)) Wx f1) (GX K (aft (rO K)) Wx f2) (GX K (aft (rU K)) Wx f3) σ H Q := by
  rintro σ H Q ⟨W0, W, ρ, s, rfl, ok, en, p⟩
  refine GX.mk ok en (Post.mono p.bind fun d1 s1 W1 st1 ok1 p1 v1 hv1 => ?_)
  refine GX.mk ok1 (en.step st1) (Post.mono (Post.bind p1) fun d2 s2 W2 st2 ok2 p2 v2 hv2 => ?_)
  obtain ⟨d, e, q⟩ := (Post.bind p2).lift
  refine o W2 s2 v1 v2 d1 d2 d _ ok2 (rO.u (hv1.step st2)) (rO.u hv2) e fun v W3 st3 ok3 hr => ?_
  have q := q W3 st3 ok3
  cases hr with
  | bl k =>
    refine ⟨k, rfl, ?_⟩
    cases k with
    | false => exact post_ok ok3 q _ (.bl false)
    | true =>
      rw [if_pos rfl]
      refine GX.mk ok3 (en.step ((st1.trans st2).trans st3)) (Post.mono (Post.bind q) fun d4 s4 W4 st4 ok4 p4 v4 hv4 => ?_)
      obtain ⟨d5, e5, q5⟩ := p4.lift
      exact o' W4 s4 v2 v4 d2 d4 d5 Q ok4 (rO.u (hv2.step (st3.trans st4))) hv4 e5 fun v W5 st5 ok5 hr5 => q5 W5 st5 ok5 v hr5
  | _ => exact q.elim
end
end M

/-! M, part 3: operators on data. -/
namespace M
open PySem L2
section
variable {K : PySem.W.Frag} {W : Wd} {s : Sto} {v : V}
theorem rU.non (h : rU K W v .none) : v = .non := by
  rcases h with h | ⟨_, _, _, h, _⟩
  · cases h; rfl
  · cases h
theorem rU.int {i : Int} (h : rU K W v (.int i)) : v = .int i := by
  rcases h with h | ⟨_, _, _, h, _⟩
  · cases h; rfl
  · cases h
theorem rU.bl {b : Bool} (h : rU K W v (.bool b)) : v = .bl b := by
  rcases h with h | ⟨_, _, _, h, _⟩
  · cases h; rfl
  · cases h
theorem rU.str {x : Str} (h : rU K W v (.str x)) : v = .str x := by
  rcases h with h | ⟨_, _, _, h, _⟩
  · cases h; rfl
  · cases h
theorem rU.list (ok : Ok K W s) {ds : List D} (h : rU K W v (.list ds)) : ∃ a vs, v = .ref a ∧ W.H a = some (.lst vs) ∧ DrAll K W.ι W.F vs ds := by
  rcases h with h | ⟨a, xs, vs, h1, h2, h3, h4⟩
  · cases h with
    | lst h1 h2 => exact ⟨_, _, rfl, ok.ex _ _ h1, h2⟩
  · cases h1; exact ⟨a, vs, h2, h3, h4⟩
theorem rU.tup (ok : Ok K W s) {ds : List D} (h : rU K W v (.tuple ds)) : ∃ a vs, v = .ref a ∧ W.F a = some (.tup vs) ∧ W.H a = some (.tup vs) ∧ DrAll K W.ι W.F vs ds := by
  rcases h with h | ⟨a, xs, vs, h1, h2, h3, h4⟩
  · cases h with
    | tup h1 h2 => exact ⟨_, _, rfl, h1, ok.ex _ _ h1, h2⟩
  · cases h1
theorem rU.scr (ok : Ok K W s) {ds : List D} (h : rU K W v (scrD ds)) : ∃ a vs, v = .ref a ∧ SqL K W.H a vs ∧ DrAll K W.ι W.F vs ds := by
  rcases h with h | ⟨a, xs, vs, h1, h2, h3, h4⟩
  · cases h with
    | scr h1 h2 => exact ⟨_, _, rfl, ok.ex.seq h1, h2⟩
  · cases h1
/-- data as HandS has it -/
theorem depth_all {ds : List D} {d : D} (h : d ∈ ds) : d.canLay0 = true ∨ True := .inr trivial
mutual
theorem Dr.dp {ι : List Addr} {F H : Hp} (e : Ex F H) : ∀ {v : V} {d : D}, Dr K ι F v d → d.canLay0 = true → Dp K H v d
  | _, _, .non, _ => .non
  | _, _, .bl b, _ => .bl b
  | _, _, .int i, _ => .int i
  | _, _, .str x, _ => .str x
  | _, _, .lst h hs, c => .lst (.inl (.inl (e _ _ h))) (DrAll.dp e hs (by simpa [PyData.canLay0] using c))
  | _, _, .tup h hs, c => .tup (.inl (.inl (e _ _ h))) (DrAll.dp e hs (by simpa [PyData.canLay0] using c))
  | _, _, .robj _, c => by simp [refD, PyData.canLay0] at c
  | _, _, .scr _ _, c => by simp [scrD, PyData.canLay0] at c
theorem DrAll.dp {ι : List Addr} {F H : Hp} (e : Ex F H) : ∀ {vs : List V} {ds : List D}, DrAll K ι F vs ds → PyData.canLayAll0 ds = true → DpAll K H vs ds
  | _, _, .nil, _ => .nil
  | _ :: _, d :: ds, .cons h hs, c => by
    have c' : (PyData.canLay0 d && PyData.canLayAll0 ds) = true := by rw [PyData.canLayAll0] at c; exact c
    rw [Bool.and_eq_true] at c'
    exact .cons (Dr.dp e h c'.1) (DrAll.dp e hs c'.2)
end
theorem rU.dp (ok : Ok K W s) {d : D} (h : rU K W v d) (c : d.canLay0 = true) : Dp K W.H v d := by
  rcases h with h | ⟨a, xs, vs, h1, h2, h3, h4⟩
  · exact h.dp ok.ex c
  · subst h1 h2
    exact .lst (.inl (.inl h3)) (h4.dp ok.ex (by simpa [PyData.canLay0] using c))
theorem lay_of {d : D} (h : SeqAt.shaped d = true) : d.canLay0 = true := SeqAt.canLay_of_shaped h
end

/-! ### == and its like -/
def eqD (a b : D) : Option D := if (SeqAt.shaped a && SeqAt.shaped b) = true then some (.bool (PyData.eqv a b)) else none
def neD (a b : D) : Option D := if (SeqAt.shaped a && SeqAt.shaped b) = true then some (.bool (!PyData.eqv a b)) else none
section
variable {K : PySem.W.Frag}
theorem o_eq : OpD K (aft (rD K)) (rEqD K) eqD := by
  intro W s v1 v2 d1 d2 d Q ok h1 h2 e q
  unfold eqD at e
  split at e
  · rename_i c
    rw [Bool.and_eq_true] at c
    cases e
    exact ⟨d1, d2, h1.dp ok (lay_of c.1), h2.dp ok (lay_of c.2), c.1, c.2, q _ W (Step.refl W) ok (.bl _)⟩
  · cases e
theorem o_ne : OpD K (aft (rD K)) (rNeD K) neD := by
  intro W s v1 v2 d1 d2 d Q ok h1 h2 e q
  unfold neD at e
  split at e
  · rename_i c
    rw [Bool.and_eq_true] at c
    cases e
    exact ⟨d1, d2, h1.dp ok (lay_of c.1), h2.dp ok (lay_of c.2), c.1, c.2, q _ W (Step.refl W) ok (.bl _)⟩
  · cases e

/-! ### ints -/
def i2 (g : Int → Int → D) : D → D → Option D
  | .int i, .int j => some (g i j)
  | _, _ => none
def i2c (C : Int → Int → Bool) (g : Int → Int → D) : D → D → Option D
  | .int i, .int j => if C i j = true then some (g i j) else none
  | _, _ => none
theorem o_i0 {g : Int → Int → V} {g' : Int → Int → D} (hg : ∀ i j ι F, Dr K ι F (g i j) (g' i j)) : OpD K (aft (rD K)) (rI0 g) (i2 g') := by
  intro W s v1 v2 d1 d2 d Q ok h1 h2 e q
  unfold i2 at e
  split at e
  · cases e
    exact ⟨_, _, h1.int, h2.int, q _ W (Step.refl W) ok (hg _ _ _ _)⟩
  · cases e
theorem o_ic {C : Int → Int → Prop} {C' : Int → Int → Bool} {g : Int → Int → V} {g' : Int → Int → D} (hC : ∀ i j, C' i j = true → C i j) (hg : ∀ i j ι F, Dr K ι F (g i j) (g' i j)) : OpD K (aft (rD K)) (rI C g) (i2c C' g') := by
  intro W s v1 v2 d1 d2 d Q ok h1 h2 e q
  unfold i2c at e
  split at e
  · split at e
    · rename_i c
      cases e
      exact ⟨_, _, h1.int, h2.int, hC _ _ c, q _ W (Step.refl W) ok (hg _ _ _ _)⟩
    · cases e
  · cases e
def subD : D → D → Option D := i2 fun i j => .int (i - j)
def modD : D → D → Option D := i2c (fun _ j => decide (0 < j)) fun i j => .int (i % j)
def fdivD : D → D → Option D := i2c (fun _ j => decide (0 < j ∧ j < 1073741824)) fun i j => .int (i / j)
def powD : D → D → Option D := i2c (fun i j => decide (0 ≤ j ∧ j ≤ 1000000 ∧ i.natAbs < 2 ^ 64)) fun i j => .int (i ^ j.toNat)
theorem o_sub : OpD K (aft (rD K)) (rI0 fun i j => .int (i - j)) subD := o_i0 fun _ _ _ _ => .int _
theorem o_mod : OpD K (aft (rD K)) (rI (fun _ j => 0 < j) fun i j => .int (i % j)) modD := o_ic (fun _ _ h => of_decide_eq_true h) fun _ _ _ _ => .int _
theorem o_fdiv : OpD K (aft (rD K)) (rI CDiv fun i j => .int (i / j)) fdivD := o_ic (fun _ _ h => (of_decide_eq_true h : _ ∧ _)) fun _ _ _ _ => .int _
theorem o_pow : OpD K (aft (rD K)) (rI CPow fun i j => .int (i ^ j.toNat)) powD := o_ic (fun _ _ h => (of_decide_eq_true h : _ ∧ _ ∧ _)) fun _ _ _ _ => .int _
def ltD : D → D → Option D := i2 fun i j => .bool (decide (i < j))
def leD : D → D → Option D := i2 fun i j => .bool (decide (i ≤ j))
def gtD : D → D → Option D := i2 fun i j => .bool (decide (j < i))
def geD : D → D → Option D := i2 fun i j => .bool (decide (j ≤ i))
theorem o_lt : OpD K (aft (rD K)) (rI0 fun i j => .bl (decide (i < j))) ltD := o_i0 fun _ _ _ _ => .bl _
theorem o_le : OpD K (aft (rD K)) (rI0 fun i j => .bl (decide (i ≤ j))) leD := o_i0 fun _ _ _ _ => .bl _
theorem o_gt : OpD K (aft (rD K)) (rI0 fun i j => .bl (decide (j < i))) gtD := o_i0 fun _ _ _ _ => .bl _
theorem o_ge : OpD K (aft (rD K)) (rI0 fun i j => .bl (decide (j ≤ i))) geD := o_i0 fun _ _ _ _ => .bl _

/-! ### + and * of any kind -/
def rAddA (K : PySem.W.Frag) : R2 := fun x y H Q => (∃ i j, x = .int i ∧ y = .int j ∧ Q (.int (i + j)) H) ∨ (∃ i j, x = .str i ∧ y = .str j ∧ i.length + j.length ≤ sizeLine ∧ Q (.str (i ++ j)) H) ∨ rCat x y H Q ∨ rCatA K x y H Q
theorem op_addA {X : Cx} : OpR X (binaryOp .Add) (rAddA X.K) := op_add.or (op_add_str.or (op_cat.or op_catA))
def addD : D → D → Option D
  | .int i, .int j => some (.int (i + j))
  | .str x, .str y => if x.length + y.length ≤ sizeLine then some (.str (x ++ y)) else none
  | .list xs, .list ys => if xs.length + ys.length ≤ sizeLine then some (.list (xs ++ ys)) else none
  | .tuple xs, .tuple ys => if xs.length + ys.length ≤ sizeLine then some (.tuple (xs ++ ys)) else none
  | _, _ => none
/-- a new list, kept as it is -/
theorem new_lstF {W : Wd} {s : Sto} {p : Addr} {vs : List V} {ds : List D} (ok : Ok K W s) (hp : W.H p = none) (h : DrAll K W.ι W.F vs ds) :
    Step W (W.newF p (.lst vs)) ∧ Ok K (W.newF p (.lst vs)) s ∧ Dr K (W.newF p (.lst vs)).ι (W.newF p (.lst vs)).F (.ref p) (.list ds) :=
  ⟨(step_newF ok hp).1, (step_newF ok hp).2, .lst upd_same (h.mono (List.prefix_refl _) (Ex.new (fnone ok hp)))⟩
theorem dr_ref_tup {W : Wd} {a : Addr} {vs : List V} {ds : List D} (h1 : W.F a = some (.tup vs)) (h2 : DrAll K W.ι W.F vs ds) : Dr K W.ι W.F (.ref a) (.tuple ds) := .tup h1 h2
theorem DrAll.nil_iff {ι : List Addr} {F : Hp} {vs : List V} {ds : List D} (h : DrAll K ι F vs ds) : vs = [] ↔ ds = [] := by
  cases h <;> simp
theorem o_add : OpD K (aft (rD K)) (rAddA K) addD := by
  intro W s v1 v2 d1 d2 d Q ok h1 h2 e q
  unfold addD at e
  split at e
  · cases e
    exact .inl ⟨_, _, h1.int, h2.int, q _ W (Step.refl W) ok (.int _)⟩
  · split at e
    · rename_i hz
      cases e
      exact .inr (.inl ⟨_, _, h1.str, h2.str, hz, q _ W (Step.refl W) ok (.str _)⟩)
    · cases e
  · split at e
    · rename_i hz
      cases e
      obtain ⟨a, vs, e1, e2, e3⟩ := h1.list ok
      obtain ⟨b, ws, f1, f2, f3⟩ := h2.list ok
      refine .inr (.inr (.inl ⟨a, b, vs, ws, e1, f1, e2, f2, by rw [e3.length, f3.length]; exact hz, fun p hp => ?_⟩))
      obtain ⟨a1, a2, a3⟩ := new_lstF ok hp (e3.append f3)
      exact q _ _ a1 a2 a3
    · cases e
  · split at e
    · rename_i xs ys hz
      cases e
      obtain ⟨a, vs, e1, e0, e2, e3⟩ := h1.tup ok
      obtain ⟨b, ws, f1, f0, f2, f3⟩ := h2.tup ok
      subst e1 f1
      refine .inr (.inr (.inr ⟨a, b, vs, ws, rfl, rfl, SqT.of e2, SqT.of f2, by rw [e3.length, f3.length]; exact hz, fun hn => ?_, fun _ hn => ?_, fun _ _ p hp => ?_⟩))
      · have : xs = [] := e3.nil_iff.mp hn
        subst this
        exact q _ W (Step.refl W) ok (.tup f0 f3)
      · have : ys = [] := f3.nil_iff.mp hn
        subst this
        rw [List.append_nil] at q
        exact q _ W (Step.refl W) ok (.tup e0 e3)
      · obtain ⟨a1, a2, a3⟩ := new_tup ok hp (e3.append f3)
        exact q _ _ a1 a2 a3
    · cases e
  · cases e
/-- xs + ys, for a name that is changed later -/
def catD : D → D → Option D
  | .list xs, .list ys => if xs.length + ys.length ≤ sizeLine then some (.list (xs ++ ys)) else none
  | _, _ => none
theorem o_cat : OpD K (rN K) rCat catD := by
  intro W s v1 v2 d1 d2 d Q ok h1 h2 e q
  unfold catD at e
  split at e
  · split at e
    · rename_i hz
      cases e
      obtain ⟨a, vs, e1, e2, e3⟩ := h1.list ok
      obtain ⟨b, ws, f1, f2, f3⟩ := h2.list ok
      refine ⟨a, b, vs, ws, e1, f1, e2, f2, by rw [e3.length, f3.length]; exact hz, fun p hp => ?_⟩
      obtain ⟨a1, a2, a3⟩ := new_lst ok hp (e3.append f3)
      exact q _ _ a1 a2 a3
    · cases e
  · cases e
def rMulA : R2 := fun x y H Q => rI CMul (fun i j => .int (i * j)) x y H Q ∨ rRep x y H Q
theorem op_mulA {X : Cx} : OpR X (binaryOp .Mult) rMulA := op_mul.or op_rep
def small (i : Int) : Bool := Nat.ble i.natAbs 1000000000000000000
theorem small_iff {i : Int} : small i = true ↔ i.natAbs ≤ 1000000000000000000 := ⟨Nat.le_of_ble_eq_true, Nat.ble_eq_true_of_le⟩
def cMul (i j : Int) : Bool := small i || small j
def repOk (n : Nat) (k : Int) : Bool := small k && Nat.ble (n * k.toNat) sizeLine
theorem cMul_of {i j : Int} (h : cMul i j = true) : (-(2 ^ 64) < i ∧ i < 2 ^ 64) ∨ (-(2 ^ 64) < j ∧ j < 2 ^ 64) := by
  have e : (2 : Int) ^ 64 = 18446744073709551616 := by decide
  unfold cMul at h
  rw [Bool.or_eq_true, small_iff, small_iff] at h
  rw [e]
  omega
theorem repOk_to {n : Nat} {k : Int} (h : repOk n k = true) : -(2 ^ 63) ≤ k ∧ k < 2 ^ 63 ∧ n * k.toNat ≤ sizeLine := by
  have e : (2 : Int) ^ 63 = 9223372036854775808 := by decide
  unfold repOk at h
  rw [Bool.and_eq_true, small_iff] at h
  have h2 := Nat.le_of_ble_eq_true h.2
  rw [e]
  omega
def mulD : D → D → Option D
  | .int i, .int j => if cMul i j = true then some (.int (i * j)) else none
  | .list xs, .int k => if repOk xs.length k = true then some (.list (List.replicate k.toNat xs).flatten) else none
  | _, _ => none
theorem o_mul : OpD K (aft (rD K)) rMulA mulD := by
  intro W s v1 v2 d1 d2 d Q ok h1 h2 e q
  unfold mulD at e
  split at e
  · split at e
    · rename_i hz
      cases e
      exact .inl ⟨_, _, h1.int, h2.int, cMul_of hz, q _ W (Step.refl W) ok (.int _)⟩
    · cases e
  · split at e
    · rename_i xs k hz
      cases e
      obtain ⟨a, vs, e1, e2, e3⟩ := h1.list ok
      have hz' : -(2 ^ 63) ≤ k ∧ k < 2 ^ 63 ∧ xs.length * k.toNat ≤ sizeLine := repOk_to hz
      refine .inr ⟨a, k, vs, e1, h2.int, e2, hz'.1, hz'.2.1, by rw [e3.length]; exact hz'.2.2, fun p hp => ?_⟩
      obtain ⟨a1, a2, a3⟩ := new_lstF ok hp (e3.rep k.toNat)
      exact q _ _ a1 a2 a3
    · cases e
  · cases e
/-- [x] * n, for a name that is changed later -/
def repD : D → D → Option D
  | .list xs, .int k => if repOk xs.length k = true then some (.list (List.replicate k.toNat xs).flatten) else none
  | _, _ => none
theorem o_rep : OpD K (rN K) rRep repD := by
  intro W s v1 v2 d1 d2 d Q ok h1 h2 e q
  unfold repD at e
  split at e
  · split at e
    · rename_i xs k hz
      cases e
      obtain ⟨a, vs, e1, e2, e3⟩ := h1.list ok
      have hz' : -(2 ^ 63) ≤ k ∧ k < 2 ^ 63 ∧ xs.length * k.toNat ≤ sizeLine := repOk_to hz
      refine ⟨a, k, vs, e1, h2.int, e2, hz'.1, hz'.2.1, by rw [e3.length]; exact hz'.2.2, fun p hp => ?_⟩
      obtain ⟨a1, a2, a3⟩ := new_lst ok hp (e3.rep k.toNat)
      exact q _ _ a1 a2 a3
    · cases e
  · cases e

/-! ### in -/
def rInT (K : PySem.W.Frag) : R2 := fun x y H Q => ∃ d ds, Dp K H x d ∧ Dp K H y (.tuple ds) ∧ SeqAt.shaped d = true ∧ SeqAt.shaped (.tuple ds) = true ∧ Q (.bl (ds.any fun z => PyData.eqv z d)) H
def rNiT (K : PySem.W.Frag) : R2 := fun x y H Q => ∃ d ds, Dp K H x d ∧ Dp K H y (.tuple ds) ∧ SeqAt.shaped d = true ∧ SeqAt.shaped (.tuple ds) = true ∧ Q (.bl (!ds.any fun z => PyData.eqv z d)) H
theorem op_inT {X : Cx} (hu : X.A.units + 65 < cLine) : OpR X (compareOp .In) (rInT X.K) := by
  intro pins s σ H x y v u Q I rx ry h
  obtain ⟨d, ds, hd, he, sd, se, q⟩ := h
  obtain ⟨as, r1⟩ := Dp.reads I d x v hd rx
  obtain ⟨bs, r2⟩ := Dp.reads I (.tuple ds) y u he ry
  exact SeqAt.in_tuple_reads r2 r1 (SeqAt.canLay_of_shaped se) (SeqAt.canLay_of_shaped sd) (PyProof.Rows.room_in_shaped sd hu) ⟨.bl _, H, I, rfl, q⟩
theorem op_niT {X : Cx} (hu : X.A.units + 65 < cLine) : OpR X (compareOp .NotIn) (rNiT X.K) := by
  intro pins s σ H x y v u Q I rx ry h
  obtain ⟨d, ds, hd, he, sd, se, q⟩ := h
  obtain ⟨as, r1⟩ := Dp.reads I d x v hd rx
  obtain ⟨bs, r2⟩ := Dp.reads I (.tuple ds) y u he ry
  exact SeqAt.notIn_tuple_reads r2 r1 (SeqAt.canLay_of_shaped se) (SeqAt.canLay_of_shaped sd) (PyProof.Rows.room_in_shaped sd hu) ⟨.bl _, H, I, rfl, q⟩
/-- a sign in a text; a thing in a list, in a tuple -/
def rInA (K : PySem.W.Frag) : R2 := fun x y H Q => (∃ (c : Nat) (z : Str), x = .str ⟨#[c]⟩ ∧ y = .str z ∧ Q (.bl (decide (c ∈ z.cps.toList))) H) ∨ rInD K x y H Q ∨ rInT K x y H Q
def rNiA (K : PySem.W.Frag) : R2 := fun x y H Q => (∃ (c : Nat) (z : Str), x = .str ⟨#[c]⟩ ∧ y = .str z ∧ Q (.bl (!decide (c ∈ z.cps.toList))) H) ∨ rNotInD K x y H Q ∨ rNiT K x y H Q
theorem op_inA {X : Cx} (hu : X.A.units + 65 < cLine) : OpR X (compareOp .In) (rInA X.K) := op_in_sign.or ((op_inD hu).or (op_inT hu))
theorem op_niA {X : Cx} (hu : X.A.units + 65 < cLine) : OpR X (compareOp .NotIn) (rNiA X.K) := op_notIn_sign.or ((op_notInD hu).or (op_niT hu))
def inB : D → D → Option Bool
  | .str ⟨⟨[c]⟩⟩, .str z => some (decide (c ∈ z.cps.toList))
  | d, .list ds => if (SeqAt.shaped d && SeqAt.shaped (.list ds)) = true then some (ds.any fun z => PyData.eqv z d) else none
  | d, .tuple ds => if (SeqAt.shaped d && SeqAt.shaped (.tuple ds)) = true then some (ds.any fun z => PyData.eqv z d) else none
  | _, _ => none
def inD (a b : D) : Option D := (inB a b).map .bool
def niD (a b : D) : Option D := (inB a b).map fun k => .bool (!k)
theorem o_in : OpD K (aft (rD K)) (rInA K) inD := by
  intro W s v1 v2 d1 d2 d Q ok h1 h2 e q
  unfold inD at e
  obtain ⟨k, hk, rfl⟩ := Option.map_eq_some_iff.mp e
  have q' := q (.bl k) W (Step.refl W) ok (.bl k)
  unfold inB at hk
  split at hk
  · cases hk
    exact .inl ⟨_, _, h1.str, h2.str, q'⟩
  · split at hk
    · rename_i c
      rw [Bool.and_eq_true] at c
      cases hk
      exact .inr (.inl ⟨_, _, h1.dp ok (lay_of c.1), h2.dp ok (lay_of c.2), c.1, c.2, q'⟩)
    · cases hk
  · split at hk
    · rename_i c
      rw [Bool.and_eq_true] at c
      cases hk
      exact .inr (.inr ⟨_, _, h1.dp ok (lay_of c.1), h2.dp ok (lay_of c.2), c.1, c.2, q'⟩)
    · cases hk
  · cases hk
theorem o_ni : OpD K (aft (rD K)) (rNiA K) niD := by
  intro W s v1 v2 d1 d2 d Q ok h1 h2 e q
  unfold niD at e
  obtain ⟨k, hk, rfl⟩ := Option.map_eq_some_iff.mp e
  have q' := q (.bl (!k)) W (Step.refl W) ok (.bl (!k))
  unfold inB at hk
  split at hk
  · cases hk
    exact .inl ⟨_, _, h1.str, h2.str, q'⟩
  · split at hk
    · rename_i c
      rw [Bool.and_eq_true] at c
      cases hk
      exact .inr (.inl ⟨_, _, h1.dp ok (lay_of c.1), h2.dp ok (lay_of c.2), c.1, c.2, q'⟩)
    · cases hk
  · split at hk
    · rename_i c
      rw [Bool.and_eq_true] at c
      cases hk
      exact .inr (.inr ⟨_, _, h1.dp ok (lay_of c.1), h2.dp ok (lay_of c.2), c.1, c.2, q'⟩)
    · cases hk
  · cases hk

/-! ### items -/
def rIxA (K : PySem.W.Frag) : R2 := rIx K
def ixD : D → D → Option D
  | .list ds, .int i => atI ds i
  | .tuple ds, .int i => atI ds i
  | .str z, .int i => if z.length ≤ sizeLine then (atI z.cps.toList i).map fun c => .str ⟨#[c]⟩ else none
  | .dict [(.none, .list ds)], .int i => atI ds i
  | _, _ => none
theorem atI_of {ι : List Addr} {F : Hp} {vs : List V} {ds : List D} {i : Int} {d : D} (h : DrAll K ι F vs ds) (e : atI ds i = some d) : ∃ v, atI vs i = some v ∧ Dr K ι F v d := by
  unfold atI at e ⊢
  obtain ⟨j, h1, h2⟩ := Option.bind_eq_some_iff.mp e
  obtain ⟨v, h3, h4⟩ := h.get h2
  exact ⟨v, by rw [h.length, h1]; exact h3, h4⟩
theorem o_ix : OpD K (aft (rD K)) (rIx K) ixD := by
  intro W s v1 v2 d1 d2 d Q ok h1 h2 e q
  unfold ixD at e
  split at e
  · obtain ⟨a, vs, e1, e2, e3⟩ := h1.list ok
    obtain ⟨v, g1, g2⟩ := atI_of e3 e
    exact .inl ⟨a, vs, _, v, e1, h2.int, SqL.of e2, g1, q _ W (Step.refl W) ok g2⟩
  · obtain ⟨a, vs, e1, _, e2, e3⟩ := h1.tup ok
    obtain ⟨v, g1, g2⟩ := atI_of e3 e
    exact .inr (.inl ⟨a, vs, _, v, e1, h2.int, SqT.of e2, g1, q _ W (Step.refl W) ok g2⟩)
  · split at e
    · rename_i hz
      obtain ⟨c, hc, rfl⟩ := Option.map_eq_some_iff.mp e
      exact .inr (.inr ⟨_, _, c, h1.str, h2.int, hz, hc, q _ W (Step.refl W) ok (.str _)⟩)
    · cases e
  · rename_i ds i
    have h1' : rU K W v1 (scrD ds) := h1
    obtain ⟨a, vs, e1, e2, e3⟩ := h1'.scr ok
    obtain ⟨v, g1, g2⟩ := atI_of e3 e
    exact .inl ⟨a, vs, _, v, e1, h2.int, e2, g1, q _ W (Step.refl W) ok g2⟩
  · cases e
end
section
variable {X : Cx} {Wx : WX} {pos : Pos} {a b : Expr} {f1 f2 : XE}
theorem d_ix (ha : PE X a (GX X.K (aft (rO X.K)) Wx f1)) (hb : PE X b (GX X.K (aft (rU X.K)) Wx f2)) (hs : PlainIx b := by exact fun _ _ => rfl) : PE X (.Subscript a b pos) (GX X.K (aft (rD X.K)) Wx (x2 ixD f1 f2)) :=
  peImp (pe_ix ix_seq ha hb hs) (gx_2 o_ix)
end
end M

/-! M, part 4: tests, cuts, calls of built-ins. -/
namespace M
open PySem L2
section
variable {X : Cx} {Wx : WX} {pos : Pos} {a b c : Expr} {rest : List Expr} {f1 f2 f3 : XE} {t u : XT} {R : RB}
/-! ### and, or, not, if -/
def tAnd2 (t u : XT) : XT := fun ρ s => (t ρ s).bind fun k s1 => if k = true then u ρ s1 else .ok false s1
def tOr2 (t u : XT) : XT := fun ρ s => (t ρ s).bind fun k s1 => if k = true then .ok true s1 else u ρ s1
def tNot1 (t : XT) : XT := fun ρ s => (t ρ s).bind fun k s1 => .ok (!k) s1
theorem w_and1 (h : PT X a (GT X.K Wx t)) : PW X (.BoolOp .And [a] pos) (GT X.K Wx t) := pw_and1 h
theorem w_or1 (h : PT X a (GT X.K Wx t)) : PW X (.BoolOp .Or [a] pos) (GT X.K Wx t) := pw_or1 h
theorem w_and (h : PT X a (GT X.K Wx t)) (h2 : PW X (.BoolOp .And (b :: rest) pos) (GT X.K Wx u)) : PW X (.BoolOp .And (a :: b :: rest) pos) (GT X.K Wx (tAnd2 t u)) := pwImp (pw_and h h2) fun σ H Q ⟨W0, W, ρ, s, e1, ok, en, p⟩ => by
  subst e1
  refine GT.mk ok en (Post.mono p.bind fun k s1 W1 st1 ok1 p1 => ?_)
  cases k with
  | true => exact GT.mk ok1 (en.step st1) p1
  | false => exact post_ok ok1 p1
theorem w_or (h : PT X a (GT X.K Wx t)) (h2 : PW X (.BoolOp .Or (b :: rest) pos) (GT X.K Wx u)) : PW X (.BoolOp .Or (a :: b :: rest) pos) (GT X.K Wx (tOr2 t u)) := pwImp (pw_or h h2) fun σ H Q ⟨W0, W, ρ, s, e1, ok, en, p⟩ => by
  subst e1
  refine GT.mk ok en (Post.mono p.bind fun k s1 W1 st1 ok1 p1 => ?_)
  cases k with
  | false => exact GT.mk ok1 (en.step st1) p1
  | true => exact post_ok ok1 p1
theorem t_w (h : PW X a (GT X.K Wx t)) : PT X a (GT X.K Wx t) := h.pt
theorem t_not (h : PT X a (GT X.K Wx t)) : PT X (.UnaryOp .Not a pos) (GT X.K Wx (tNot1 t)) := ptImp (pt_not h) fun σ H Q ⟨W0, W, ρ, s, e1, ok, en, p⟩ => by
  subst e1
  exact GT.mk ok en (Post.mono p.bind fun k s1 W1 st1 ok1 p1 => post_ok ok1 p1)
/-- the same as values -/
def xAnd (f g : XE) : XE := fun ρ s => (f ρ s).bind fun d s1 => match d with
  | .bool true => g ρ s1
  | .bool false => .ok (.bool false) s1
  | _ => .bad
def xOr (f g : XE) : XE := fun ρ s => (f ρ s).bind fun d s1 => match d with
  | .bool false => g ρ s1
  | .bool true => .ok (.bool true) s1
  | _ => .bad
def xNot (f : XE) : XE := fun ρ s => (f ρ s).bind fun d s1 => match d with
  | .bool k => .ok (.bool !k) s1
  | _ => .bad
theorem d_one {op} (h : PE X a (GX X.K R Wx f1)) : PE X (.BoolOp op [a] pos) (GX X.K R Wx f1) := pe_one h
theorem d_and (h : PE X a (GX X.K (aft (rD X.K)) Wx f1)) (h2 : PE X (.BoolOp .And (b :: rest) pos) (GX X.K (aft (rD X.K)) Wx f2)) : PE X (.BoolOp .And (a :: b :: rest) pos) (GX X.K (aft (rD X.K)) Wx (xAnd f1 f2)) := peImp (pe_and h h2) fun σ H Q ⟨W0, W, ρ, s, e1, ok, en, p⟩ => by
  subst e1
  refine GX.mk ok en (Post.mono p.bind fun d1 s1 W1 st1 ok1 p1 v1 hv1 => ?_)
  cases hv1 with
  | bl k =>
    refine ⟨k, rfl, ?_⟩
    cases k with
    | true => rw [if_pos rfl]; exact GX.mk ok1 (en.step st1) p1
    | false => exact post_ok ok1 p1 _ (.bl false)
  | _ => exact p1.elim
theorem d_or (h : PE X a (GX X.K (aft (rD X.K)) Wx f1)) (h2 : PE X (.BoolOp .Or (b :: rest) pos) (GX X.K (aft (rD X.K)) Wx f2)) : PE X (.BoolOp .Or (a :: b :: rest) pos) (GX X.K (aft (rD X.K)) Wx (xOr f1 f2)) := peImp (pe_or h h2) fun σ H Q ⟨W0, W, ρ, s, e1, ok, en, p⟩ => by
  subst e1
  refine GX.mk ok en (Post.mono p.bind fun d1 s1 W1 st1 ok1 p1 v1 hv1 => ?_)
  cases hv1 with
  | bl k =>
    refine ⟨k, rfl, ?_⟩
    cases k with
    | true => rw [if_pos rfl]; exact post_ok ok1 p1 _ (.bl true)
    | false => rw [if_neg Bool.false_ne_true]; exact GX.mk ok1 (en.step st1) p1
  | _ => exact p1.elim
def xTest (t : XT) : XE := fun ρ s => (t ρ s).bind fun k s1 => .ok (.bool k) s1
def xIf (t : XT) (f g : XE) : XE := fun ρ s => (t ρ s).bind fun k s1 => if k = true then f ρ s1 else g ρ s1
theorem d_if [Back R] (h : PT X c (GT X.K Wx t)) (h1 : PE X a (GX X.K R Wx f1)) (h2 : PE X b (GX X.K R Wx f2)) : PE X (.IfExp c a b pos) (GX X.K R Wx (xIf t f1 f2)) := peImp (pe_ifExp h h1 h2) fun σ H Q ⟨W0, W, ρ, s, e1, ok, en, p⟩ => by
  subst e1
  refine GT.mk ok en (Post.mono p.bind fun k s1 W1 st1 ok1 p1 => ?_)
  cases k with
  | true => rw [if_pos rfl]; rw [if_pos rfl] at p1; exact GX.mk ok1 (en.step st1) (p1.mono fun d s2 W2 st2 ok2 q v r => q v (Back.back st1 r))
  | false => rw [if_neg Bool.false_ne_true]; rw [if_neg Bool.false_ne_true] at p1; exact GX.mk ok1 (en.step st1) (p1.mono fun d s2 W2 st2 ok2 q v r => q v (Back.back st1 r))
/-! ### is None -/
def isNb : D → Bool
  | .none => true
  | _ => false
def isND (d : D) : D := .bool (isNb d)
def notND (d : D) : D := .bool (!isNb d)
def x1t (g : D → D) (f : XE) : XE := fun ρ s => (f ρ s).bind fun a s1 => .ok (g a) s1
theorem isN_of {K : PySem.W.Frag} {W : Wd} {v : V} {d : D} (h : rU K W v d) : decide (v = .non) = isNb d := by
  rcases h with h | ⟨a, xs, vs, h1, h2, _⟩
  · cases h <;> simp [refD, scrD, isNb]
  · subst h1 h2; simp [isNb]
theorem d_isN {j pos'} (h : PE X a (GX X.K (aft (rU X.K)) Wx f1)) (hm : behindInMarks .Is (.Constant .none j pos') = false := by first | exact nobehind _ (by decide) (by decide) | rfl) : PE X (.Compare a [.Is] [.Constant .none j pos'] pos) (GX X.K (aft (rD X.K)) Wx (x1t isND f1)) := peImp (pe_cmp (pc_isN h) hm) fun σ H Q ⟨W0, W, ρ, s, e1, ok, en, p⟩ => by
  subst e1
  refine GX.mk ok en (Post.mono p.bind fun d1 s1 W1 st1 ok1 p1 v1 hv1 => ?_)
  rw [isN_of hv1]
  exact post_ok ok1 p1 _ (.bl _)
theorem d_notN {j pos'} (h : PE X a (GX X.K (aft (rU X.K)) Wx f1)) (hm : behindInMarks .IsNot (.Constant .none j pos') = false := by first | exact nobehind _ (by decide) (by decide) | rfl) : PE X (.Compare a [.IsNot] [.Constant .none j pos'] pos) (GX X.K (aft (rD X.K)) Wx (x1t notND f1)) := peImp (pe_cmp (pc_notN h) hm) fun σ H Q ⟨W0, W, ρ, s, e1, ok, en, p⟩ => by
  subst e1
  refine GX.mk ok en (Post.mono p.bind fun d1 s1 W1 st1 ok1 p1 v1 hv1 => ?_)
  rw [isN_of hv1]
  exact post_ok ok1 p1 _ (.bl _)
theorem t_isN {j pos'} (h : PE X a (GX X.K (aft (rU X.K)) Wx f1)) (hm : behindInMarks .Is (.Constant .none j pos') = false := by first | exact nobehind _ (by decide) (by decide) | rfl) : PT X (.Compare a [.Is] [.Constant .none j pos'] pos) (GT X.K Wx (xB (x1t isND f1))) := ptImp (pt_cmp (pc_isN h) hm) fun σ H Q h => by
  obtain ⟨W0, W, ρ, s, e1, ok, en, p⟩ := gt_b σ H Q h
  subst e1
  refine GX.mk ok en (Post.mono p.bind fun d1 s1 W1 st1 ok1 p1 v1 hv1 => ?_)
  rw [isN_of hv1]
  exact post_ok ok1 p1 _ (.bl _)
theorem t_notN {j pos'} (h : PE X a (GX X.K (aft (rU X.K)) Wx f1)) (hm : behindInMarks .IsNot (.Constant .none j pos') = false := by first | exact nobehind _ (by decide) (by decide) | rfl) : PT X (.Compare a [.IsNot] [.Constant .none j pos'] pos) (GT X.K Wx (xB (x1t notND f1))) := ptImp (pt_cmp (pc_notN h) hm) fun σ H Q h => by
  obtain ⟨W0, W, ρ, s, e1, ok, en, p⟩ := gt_b σ H Q h
  subst e1
  refine GX.mk ok en (Post.mono p.bind fun d1 s1 W1 st1 ok1 p1 v1 hv1 => ?_)
  rw [isN_of hv1]
  exact post_ok ok1 p1 _ (.bl _)
/-! ### -x -/
def negD : D → Option D
  | .int i => some (.int (-i))
  | _ => none
theorem d_neg (h : PE X a (GX X.K (aft (rD X.K)) Wx f1)) : PE X (.UnaryOp .USub a pos) (GX X.K (aft (rD X.K)) Wx (x1 negD f1)) := peImp (pe_un un_neg h) fun σ H Q ⟨W0, W, ρ, s, e1, ok, en, p⟩ => by
  subst e1
  refine GX.mk ok en (Post.mono p.bind fun d1 s1 W1 st1 ok1 p1 v1 hv1 => ?_)
  obtain ⟨d, e, q⟩ := p1.lift
  unfold negD at e
  split at e
  · cases e
    exact ⟨_, rU.int (.inl hv1), q W1 (Step.refl _) ok1 _ (.int _)⟩
  · cases e
/-! ### truth -/
def truD : D → Option Bool
  | .none => some false
  | .bool b => some b
  | .int i => some (i != 0)
  | .str x => if x.length ≤ sizeLine then some ((x.length : Int) != 0) else none
  | .list ds => some !ds.isEmpty
  | .tuple ds => some !ds.isEmpty
  | .dict _ => none
def tTru (f : XE) : XT := fun ρ s => (f ρ s).bind fun d s1 => lift (truD d) s1
theorem isEmpty_dr {ι : List Addr} {F : Hp} {K : PySem.W.Frag} {vs : List V} {ds : List D} (h : DrAll K ι F vs ds) : vs.isEmpty = ds.isEmpty := by cases h <;> rfl
theorem tru_of {K : PySem.W.Frag} {W : Wd} {s : Sto} (ok : Ok K W s) {v : V} {d : D} {k : Bool} (h : rU K W v d) (e : truD d = some k) : TruV K v W.H k := by
  cases d with
  | none => rw [rU.non h]; cases e; rfl
  | bool b => rw [rU.bl h]; cases e; rfl
  | int i => rw [rU.int h]; cases e; rfl
  | str x =>
    rw [rU.str h]
    have e' : (if x.length ≤ sizeLine then some ((x.length : Int) != 0) else none) = some k := e
    split at e'
    · rename_i hz
      cases e'; exact ⟨hz, rfl⟩
    · cases e'
  | list ds =>
    obtain ⟨a, vs, rfl, h2, h3⟩ := h.list ok
    cases e
    exact .inl ⟨vs, SqL.of h2, by rw [isEmpty_dr h3]⟩
  | tuple ds =>
    obtain ⟨a, vs, rfl, _, h2, h3⟩ := h.tup ok
    cases e
    exact .inr (.inl ⟨vs, SqT.of h2, by rw [isEmpty_dr h3]⟩)
  | dict _ => cases e
theorem t_tru (h : PE X a (GX X.K (aft (rU X.K)) Wx f1)) (he : ∀ whole, isTrue a X.env whole = (do let v ← whole; standAt a.pos; holding [v] (truthy v)) := by intro _; rfl) : PT X a (GT X.K Wx (tTru f1)) := ptImp (pt_truth h he) fun σ H Q ⟨W0, W, ρ, s, e1, ok, en, p⟩ => by
  subst e1
  refine GX.mk ok en (Post.mono p.bind fun d1 s1 W1 st1 ok1 p1 v1 hv1 => ?_)
  obtain ⟨k, e, q⟩ := p1.lift
  exact ⟨k, tru_of ok1 hv1 e, q W1 (Step.refl _) ok1⟩
/-- not x, by truth, as a value -/
def xNotT (f : XE) : XE := fun ρ s => (f ρ s).bind fun d s1 => (lift (truD d) s1).bind fun k s2 => .ok (.bool !k) s2
theorem d_notT (h : PE X a (GX X.K (aft (rU X.K)) Wx f1)) : PE X (.UnaryOp .Not a pos) (GX X.K (aft (rD X.K)) Wx (xNotT f1)) := peImp (pe_notT h) fun σ H Q ⟨W0, W, ρ, s, e1, ok, en, p⟩ => by
  subst e1
  refine GX.mk ok en (Post.mono p.bind fun d1 s1 W1 st1 ok1 p1 v1 hv1 => ?_)
  obtain ⟨k, e, q⟩ := (Post.bind p1).lift
  exact ⟨k, tru_of ok1 hv1 e, post_ok ok1 (q W1 (Step.refl _) ok1) _ (.bl _)⟩

/-! ### cuts -/
abbrev XO := Env → Sto → Out (Option Int)
def GO (K : PySem.W.Frag) (Wx : WX) (m : XO) : TO := fun σ H Q => ∃ W0 W ρ s, W.H = H ∧ Ok K W s ∧ EnvR K W0 W σ ρ ∧ Post K W (m ρ s) (fun b _ W' => Q b W'.H) (wexc K Wx σ)
theorem GO.mk {K : PySem.W.Frag} {m : XO} {W0 W : Wd} {ρ : Env} {s : Sto} {σ : St} {Q : Option Int → Hp → Prop} (ok : Ok K W s) (e : EnvR K W0 W σ ρ) (h : Post K W (m ρ s) (fun d _ W' => Q d W'.H) (wexc K Wx σ)) : GO K Wx m σ W.H Q := ⟨W0, W, ρ, s, rfl, ok, e, h⟩
def oN : XO := fun _ s => .ok none s
def oS (f : XE) : XO := fun ρ s => (f ρ s).bind fun d s1 => match d with
  | .int i => .ok (some i) s1
  | _ => .bad
theorem poImp {e : Option Expr} {t t' : TO} (h : PO X e t) (i : ∀ σ H Q, t' σ H Q → t σ H Q) : PO X e t' := ⟨fun pins s σ H Q I q => h.run pins s σ H Q I (i σ H Q q)⟩
theorem s_none : PO X none (GO X.K Wx oN) := poImp po_none fun σ H Q ⟨W0, W, ρ, s, e1, ok, en, p⟩ => by
  subst e1
  exact post_ok ok p
theorem s_some (h : PE X a (GX X.K (aft (rD X.K)) Wx f1)) : PO X (some a) (GO X.K Wx (oS f1)) := poImp (po_some h) fun σ H Q ⟨W0, W, ρ, s, e1, ok, en, p⟩ => by
  subst e1
  refine GX.mk ok en (Post.mono p.bind fun d1 s1 W1 st1 ok1 p1 v1 hv1 => ?_)
  cases hv1 with
  | int i => exact ⟨i, rfl, post_ok ok1 p1⟩
  | _ => exact p1.elim
def cutD (ds : List D) (lo hi : Option Int) : List D := (ds.drop (HT.sIx ds.length 0 lo)).take (HT.sIx ds.length ds.length hi - HT.sIx ds.length 0 lo)
def sliD (d : D) (lo hi : Option Int) : Option D := match d with
  | .list ds => some (.list (cutD ds lo hi))
  | .tuple ds => some (.tuple (cutD ds lo hi))
  | .str z => if z.length ≤ sizeLine then some (.str (cutS z lo hi)) else none
  | _ => none
def sliN (d : D) (lo hi : Option Int) : Option D := match d with
  | .list ds => some (.list (cutD ds lo hi))
  | _ => none
def xSl (g : D → Option Int → Option Int → Option D) (f : XE) (l h : XO) : XE := fun ρ s => (f ρ s).bind fun d s1 => (l ρ s1).bind fun i s2 => (h ρ s2).bind fun j s3 => lift (g d i j) s3
theorem cut_dr {K : PySem.W.Frag} {ι : List Addr} {F : Hp} {vs : List V} {ds : List D} {lo hi : Option Int} (h : DrAll K ι F vs ds) : DrAll K ι F (cutV vs lo hi) (cutD ds lo hi) := by
  unfold cutV cutD
  rw [h.length]
  exact (h.drop _).take _
def SlD (K : PySem.W.Frag) (R : RB) (r : V → Option Int → Option Int → Hp → VK → Prop) (g : D → Option Int → Option Int → Option D) : Prop := ∀ (W : Wd) (s : Sto) (v : V) (d d' : D) (i j : Option Int) (Q : VK), Ok K W s → rU K W v d → g d i j = some d' →
  (∀ v W', Step W W' → Ok K W' s → R W W' v d' → Q v W'.H) → r v i j W.H Q
def rSlAll (K : PySem.W.Frag) : V → Option Int → Option Int → Hp → VK → Prop := fun x lo hi H Q => rSlL K x lo hi H Q ∨ rSlA K x lo hi H Q ∨ rSlS x lo hi H Q
theorem sl_all : SlR X (rSlAll X.K) := sl_list.or (sl_tupA.or sl_str)
theorem o_sl {K : PySem.W.Frag} : SlD K (aft (rD K)) (rSlAll K) sliD := by
  intro W s v d d' i j Q ok h e q
  unfold sliD at e
  split at e
  · cases e
    obtain ⟨a, vs, rfl, h2, h3⟩ := h.list ok
    refine .inl ⟨a, vs, rfl, SqL.of h2, fun p hp => ?_⟩
    obtain ⟨a1, a2, a3⟩ := new_lstF ok hp (cut_dr h3)
    exact q _ _ a1 a2 a3
  · cases e
    obtain ⟨a, vs, rfl, h1, h2, h3⟩ := h.tup ok
    refine .inr (.inl ⟨a, vs, rfl, SqT.of h2, fun hw => ?_, fun hw p hp => ?_⟩)
    · refine q _ W (Step.refl W) ok ?_
      have e1 : HT.sIx vs.length 0 i = 0 := hw.1
      have e2 : HT.sIx vs.length vs.length j = vs.length := hw.2
      unfold cutD
      rw [← h3.length, e1, e2, List.drop_zero, Nat.sub_zero, h3.length, List.take_length]
      exact .tup h1 h3
    · obtain ⟨a1, a2, a3⟩ := new_tup ok hp (cut_dr (lo := i) (hi := j) h3)
      exact q _ _ a1 a2 a3
  · split at e
    · rename_i hz
      cases e
      exact .inr (.inr ⟨_, h.str, hz, q _ W (Step.refl W) ok (.str _)⟩)
    · cases e
  · cases e
theorem o_slN {K : PySem.W.Frag} : SlD K (rN K) (rSlL K) sliN := by
  intro W s v d d' i j Q ok h e q
  unfold sliN at e
  split at e
  · cases e
    obtain ⟨a, vs, rfl, h2, h3⟩ := h.list ok
    refine ⟨a, vs, rfl, SqL.of h2, fun p hp => ?_⟩
    obtain ⟨a1, a2, a3⟩ := new_lst ok hp (cut_dr h3)
    exact q _ _ a1 a2 a3
  · cases e
theorem gx_sl {K : PySem.W.Frag} [Back R] {r : V → Option Int → Option Int → Hp → VK → Prop} {g : D → Option Int → Option Int → Option D} {l h : XO} (o : SlD K R r g) : ∀ σ H Q, GX K R Wx (xSl g f1 l h) σ H Q → tSl r (GX K (aft (rO K)) Wx f1) (GO K Wx l) (GO K Wx h) σ H Q := by
  rintro σ H Q ⟨W0, W, ρ, s, rfl, ok, en, p⟩
  refine GX.mk ok en (Post.mono p.bind fun d1 s1 W1 st1 ok1 p1 v1 hv1 => ?_)
  refine GO.mk ok1 (en.step st1) (Post.mono (Post.bind p1) fun i s2 W2 st2 ok2 p2 => ?_)
  refine GO.mk ok2 (en.step (st1.trans st2)) (Post.mono (Post.bind p2) fun j s3 W3 st3 ok3 p3 => ?_)
  obtain ⟨d, e, q⟩ := p3.lift
  exact o W3 s3 v1 d1 d i j Q ok3 (rO.u (hv1.step (st2.trans st3))) e fun v W4 st4 ok4 hr => q W4 st4 ok4 v (Back.back ((st1.trans st2).trans st3) hr)
theorem d_sl {lo hi : Option Expr} {p2 : Pos} {l h : XO} (ha : PE X a (GX X.K (aft (rO X.K)) Wx f1)) (hl : PO X lo (GO X.K Wx l)) (hh : PO X hi (GO X.K Wx h)) : PE X (.Subscript a (.Slice lo hi none p2) pos) (GX X.K (aft (rD X.K)) Wx (xSl sliD f1 l h)) := peImp (pe_slice sl_all ha hl hh) (gx_sl o_sl)
theorem n_sl {lo hi : Option Expr} {p2 : Pos} {l h : XO} (ha : PE X a (GX X.K (aft (rO X.K)) Wx f1)) (hl : PO X lo (GO X.K Wx l)) (hh : PO X hi (GO X.K Wx h)) : PE X (.Subscript a (.Slice lo hi none p2) pos) (GX X.K (rN X.K) Wx (xSl sliN f1 l h)) := peImp (pe_slice sl_list ha hl hh) (gx_sl o_slN)

/-! ### built-ins of one argument, read at once -/
def C1D (K : PySem.W.Frag) (R : RB) (r : List V → Hp → VK → Prop) (g : D → Option D) : Prop := ∀ (W : Wd) (s : Sto) (v : V) (d d' : D) (Q : VK), Ok K W s → rU K W v d → g d = some d' →
  (∀ v W', Step W W' → Ok K W' s → R W W' v d' → Q v W'.H) → r [v] W.H Q
theorem gx_c1 {K : PySem.W.Frag} [Back R] {r : List V → Hp → VK → Prop} {g : D → Option D} (o : C1D K R r g) : ∀ σ H Q, GX K R Wx (x1 g f1) σ H Q → tCB r (tCons (GX K (aft (rU K)) Wx f1) tNil) σ H Q := by
  rintro σ H Q ⟨W0, W, ρ, s, rfl, ok, en, p⟩
  refine GX.mk ok en (Post.mono p.bind fun d1 s1 W1 st1 ok1 p1 v1 hv1 => ?_)
  obtain ⟨d, e, q⟩ := p1.lift
  exact o W1 s1 v1 d1 d Q ok1 hv1 e fun v W4 st4 ok4 hr => q W4 st4 ok4 v (Back.back st1 hr)
theorem d_b1 [Back R] {x : Str} {id : String} {p : Pos} {r : List V → Hp → VK → Prop} {g : D → Option D} (o : C1D X.K R r g) (hc : CallR X (.builtin id) r) (hg : Gl X x) (hm : X.mg x = none) (hv : bootBuiltins x = some (.builtin id)) (ha : PE X a (GX X.K (aft (rU X.K)) Wx f1))
    (hs : starEach (a :: []) X.env = (false, eval a X.env) :: starEach [] X.env := by rfl) (hn : x ≠ "__name__" := by decide) (hd : (x == ("__debug__" : Str)) = false := by decide) : PE X (.Call (.Name x p) [a] [] pos) (GX X.K R Wx (x1 g f1)) :=
  peImp (pe_callB hc hg hm hv (pa_cons ha pa_nil hs) hn hd hs) (gx_c1 o)
theorem d_t1 [Back R] {x : Str} {T : String} {p : Pos} {r : List V → Hp → VK → Prop} {g : D → Option D} (o : C1D X.K R r g) (hc : CallR X (.type T) r) (hg : Gl X x) (hm : X.mg x = none) (hv : bootBuiltins x = some (.type T)) (ha : PE X a (GX X.K (aft (rU X.K)) Wx f1))
    (hs : starEach (a :: []) X.env = (false, eval a X.env) :: starEach [] X.env := by rfl) (hn : x ≠ "__name__" := by decide) (hd : (x == ("__debug__" : Str)) = false := by decide) : PE X (.Call (.Name x p) [a] [] pos) (GX X.K R Wx (x1 g f1)) :=
  peImp (pe_callTy hc hg hm hv (pa_cons ha pa_nil hs) hn hd hs) (gx_c1 o)
def lenD : D → Option D
  | .list ds => some (.int ds.length)
  | .tuple ds => some (.int ds.length)
  | .str x => if x.length ≤ sizeLine then some (.int x.length) else none
  | .dict [(.none, .list ds)] => some (.int ds.length)
  | _ => none
theorem o_len {K : PySem.W.Frag} : C1D K (aft (rD K)) (fun xs H Q => ∃ x n, xs = [x] ∧ LenV K x H n ∧ Q (.int n) H) lenD := by
  intro W s v d d' Q ok h e q
  unfold lenD at e
  split at e
  · rename_i ds
    cases e
    obtain ⟨a, vs, rfl, h2, h3⟩ := h.list ok
    exact ⟨_, ds.length, rfl, .inl ⟨vs, SqL.of h2, h3.length.symm⟩, q _ W (Step.refl W) ok (.int _)⟩
  · rename_i ds
    cases e
    obtain ⟨a, vs, rfl, _, h2, h3⟩ := h.tup ok
    exact ⟨_, ds.length, rfl, .inr ⟨vs, SqT.of h2, h3.length.symm⟩, q _ W (Step.refl W) ok (.int _)⟩
  · split at e
    · rename_i x hz
      cases e
      exact ⟨v, x.length, rfl, by rw [h.str]; exact ⟨hz, rfl⟩, q _ W (Step.refl W) ok (.int _)⟩
    · cases e
  · rename_i ds
    cases e
    obtain ⟨a, vs, rfl, h2, h3⟩ := rU.scr (ds := ds) ok h
    exact ⟨_, ds.length, rfl, .inl ⟨vs, h2, h3.length.symm⟩, q _ W (Step.refl W) ok (.int _)⟩
  · cases e
def tupD : D → Option D
  | .list ds => some (.tuple ds)
  | .tuple ds => some (.tuple ds)
  | _ => none
theorem o_tuple {K : PySem.W.Frag} : C1D K (aft (rD K)) (fun xs H Q => ∃ p ys, xs = [.ref p] ∧ ((SqL K H p ys ∧ ∀ l, H l = none → Q (.ref l) (upd H l (.tup ys))) ∨ (SqT K H p ys ∧ Q (.ref p) H))) tupD := by
  intro W s v d d' Q ok h e q
  unfold tupD at e
  split at e
  · cases e
    obtain ⟨a, vs, rfl, h2, h3⟩ := h.list ok
    refine ⟨a, vs, rfl, .inl ⟨SqL.of h2, fun p hp => ?_⟩⟩
    obtain ⟨a1, a2, a3⟩ := new_tup ok hp h3
    exact q _ _ a1 a2 a3
  · cases e
    obtain ⟨a, vs, rfl, h1, h2, h3⟩ := h.tup ok
    exact ⟨a, vs, rfl, .inr ⟨SqT.of h2, q _ W (Step.refl W) ok (.tup h1 h3)⟩⟩
  · cases e
def lstD : D → Option D
  | .list ds => some (.list ds)
  | .tuple ds => some (.list ds)
  | _ => none
theorem o_list {K : PySem.W.Frag} : C1D K (rN K) (fun xs H Q => ∃ p ys, xs = [.ref p] ∧ (SqL K H p ys ∨ SqT K H p ys) ∧ ∀ l, H l = none → Q (.ref l) (upd H l (.lst ys))) lstD := by
  intro W s v d d' Q ok h e q
  unfold lstD at e
  split at e
  · cases e
    obtain ⟨a, vs, rfl, h2, h3⟩ := h.list ok
    refine ⟨a, vs, rfl, .inl (SqL.of h2), fun p hp => ?_⟩
    obtain ⟨a1, a2, a3⟩ := new_lst ok hp h3
    exact q _ _ a1 a2 a3
  · cases e
    obtain ⟨a, vs, rfl, _, h2, h3⟩ := h.tup ok
    refine ⟨a, vs, rfl, .inr (SqT.of h2), fun p hp => ?_⟩
    obtain ⟨a1, a2, a3⟩ := new_lst ok hp h3
    exact q _ _ a1 a2 a3
  · cases e
def intOfD : D → Option D
  | .int i => some (.int i)
  | .bool k => some (.int (if k then 1 else 0))
  | _ => none
theorem o_int {K : PySem.W.Frag} : C1D K (aft (rD K)) (fun xs H Q => (∃ i, xs = [.int i] ∧ Q (.int i) H) ∨ ∃ k, xs = [.bl k] ∧ Q (.int (if k then 1 else 0)) H) intOfD := by
  intro W s v d d' Q ok h e q
  unfold intOfD at e
  split at e
  · cases e
    exact .inl ⟨_, by rw [h.int], q _ W (Step.refl W) ok (.int _)⟩
  · cases e
    exact .inr ⟨_, by rw [h.bl], q _ W (Step.refl W) ok (.int _)⟩
  · cases e
/-- a list of ints -/
def intsOf : List D → Option (List Int)
  | [] => some []
  | .int i :: r => (intsOf r).map (i :: ·)
  | _ :: _ => none
theorem ints_dr {K : PySem.W.Frag} {ι : List Addr} {F : Hp} : ∀ {vs : List V} {ds : List D} {ns : List Int}, DrAll K ι F vs ds → intsOf ds = some ns → vs = ns.map V.int
  | _, [], _, h, e => by cases e; cases h; rfl
  | _, d :: r, ns, h, e => by
    unfold intsOf at e
    split at e
    · cases ‹_ :: _ = []›
    · rename_i i r' e0
      cases e0
      obtain ⟨ms, e1, rfl⟩ := Option.map_eq_some_iff.mp e
      cases h with
      | cons h1 h2 =>
        cases h1
        rw [ints_dr h2 e1, List.map_cons]
    · cases e
theorem dr_ints {K : PySem.W.Frag} {ι : List Addr} {F : Hp} : ∀ ns : List Int, DrAll K ι F (ns.map V.int) (ns.map PyData.int)
  | [] => .nil
  | n :: r => .cons (.int n) (dr_ints r)
@[simp] theorem intsOf_map : ∀ ns : List Int, intsOf (ns.map PyData.int) = some ns
  | [] => rfl
  | n :: r => by show (intsOf (r.map PyData.int)).map (n :: ·) = _; rw [intsOf_map r]; rfl
end
end M

/-! M, part 5: statements, defs. -/
namespace M
open PySem L2
open PyProof.Rows (envOfC)

inductive Res where
  | next (ρ : Env) (s : Sto)
  | ret (d : D) (s : Sto)
  | exc (c : Str) (ρ : Env) (s : Sto)
  | brk (ρ : Env) (s : Sto)
  | cont (ρ : Env) (s : Sto)
  | bad
abbrev XS := Env → Sto → Res

structure Mon (W W' : Wd) : Prop where
  pre : W.ι <+: W'.ι
  exF : Ex W.F W'.F
theorem Mon.refl (W : Wd) : Mon W W := ⟨List.prefix_refl _, Ex.refl _⟩
theorem Mon.trans {W W1 W2 : Wd} (a : Mon W W1) (b : Mon W1 W2) : Mon W W2 := ⟨a.pre.trans b.pre, a.exF.trans b.exF⟩
theorem Step.mon {W W' : Wd} (s : Step W W') : Mon W W' := ⟨s.pre, s.exF⟩
theorem Mon.dr {K : PySem.W.Frag} {W W' : Wd} (s : Mon W W') {v : V} {d : D} (h : Dr K W.ι W.F v d) : Dr K W'.ι W'.F v d := h.mono s.pre s.exF
theorem Mon.drAll {K : PySem.W.Frag} {W W' : Wd} (s : Mon W W') {v : List V} {d : List D} (h : DrAll K W.ι W.F v d) : DrAll K W'.ι W'.F v d := h.mono s.pre s.exF

/-- a frame's state -/
structure St2 (K : PySem.W.Frag) (W0 W : Wd) (σ : St) (ρ : Env) (s : Sto) : Prop where
  st : Step W0 W
  ok : Ok K W s
  en : EnvR K W0 W σ ρ

def PS (K : PySem.W.Frag) (Wx : WX) (W0 W : Wd) (D : Ends) (r : Res) : Prop :=
  match r with
  | .next ρ s => ∀ σ W', Mon W W' → St2 K W0 W' σ ρ s → D.nx σ W'.H
  | .ret d s => ∀ v W', Step W0 W' → Ok K W' s → Dr K W'.ι W'.F v d → D.rt v W'.H
  | .exc c ρ s => ∀ σ W', Mon W W' → St2 K W0 W' σ ρ s → Wx (.ref (He.ga K c)) none σ W'.H
  | .brk ρ s => ∀ σ W', Mon W W' → St2 K W0 W' σ ρ s → D.bk σ W'.H
  | .cont ρ s => ∀ σ W', Mon W W' → St2 K W0 W' σ ρ s → D.ct σ W'.H
  | .bad => False
theorem PS.later {K : PySem.W.Frag} {Wx : WX} {W0 W W1 : Wd} {D : Ends} {r : Res} (h : PS K Wx W0 W D r) (m : Mon W W1) : PS K Wx W0 W1 D r := by
  cases r with
  | next ρ s => exact fun σ W' m' q => h σ W' (m.trans m') q
  | ret d s => exact h
  | exc c ρ s => exact fun σ W' m' q => h σ W' (m.trans m') q
  | brk ρ s => exact fun σ W' m' q => h σ W' (m.trans m') q
  | cont ρ s => exact fun σ W' m' q => h σ W' (m.trans m') q
  | bad => exact h
def GS (K : PySem.W.Frag) (Wx : WX) (b : XS) : TS := fun D σ H => ∃ W0 W ρ s, W.H = H ∧ St2 K W0 W σ ρ s ∧ PS K Wx W0 W D (b ρ s)
theorem GS.mk {K : PySem.W.Frag} {Wx : WX} {b : XS} {W0 W : Wd} {ρ : Env} {s : Sto} {σ : St} {D : Ends} (h : St2 K W0 W σ ρ s) (p : PS K Wx W0 W D (b ρ s)) : GS K Wx b D σ W.H := ⟨W0, W, ρ, s, rfl, h, p⟩

def stX {α : Type} (f : Env → Sto → Out α) (k : α → XS) : XS := fun ρ s => match f ρ s with
  | .ok d s1 => k d ρ s1
  | .exc c s1 => .exc c ρ s1
  | .bad => .bad
/-- an expression within a statement -/
theorem PS.x {α : Type} {K : PySem.W.Frag} {Wx : WX} {W0 W : Wd} {D : Ends} {f : Env → Sto → Out α} {k : α → XS} {ρ : Env} {s : Sto} {σ : St} (h : St2 K W0 W σ ρ s) (p : PS K Wx W0 W D (stX f k ρ s)) :
    Post K W (f ρ s) (fun d s1 W1 => St2 K W0 W1 σ ρ s1 ∧ PS K Wx W0 W1 D (k d ρ s1)) (wexc K Wx σ) := by
  unfold stX at p
  cases e : f ρ s with
  | ok d s1 =>
    rw [e] at p
    exact fun W1 st1 ok1 => ⟨⟨h.st.trans st1, ok1, h.en.step st1⟩, PS.later p st1.mon⟩
  | exc c s1 =>
    rw [e] at p
    exact fun W1 st1 ok1 => p σ W1 st1.mon ⟨h.st.trans st1, ok1, h.en.step st1⟩
  | bad => rw [e] at p; exact p

/-! ### slots stored -/
theorem get_set {α : Type} {l : List α} {i j : Nat} {x y : α} (h : (l.set i x)[j]? = some y) : (j = i ∧ y = x) ∨ (j ≠ i ∧ l[j]? = some y) := by
  by_cases hij : j = i
  · subst hij
    rw [List.getElem?_set] at h
    simp only [if_true] at h
    split at h
    · exact .inl ⟨rfl, (Option.some.inj h).symm⟩
    · cases h
  · rw [List.getElem?_set_ne (Ne.symm hij)] at h
    exact .inr ⟨hij, h⟩
theorem EnvR.lt {K : PySem.W.Frag} {W0 W : Wd} {σ : St} {ρ : Env} (h : EnvR K W0 W σ ρ) {i : Nat} {x : Slot} (e : ρ[i]? = some x) : i < σ.length := by
  rw [← h.len]; exact (List.getElem?_eq_some_iff.mp e).1
theorem EnvR.set {K : PySem.W.Frag} {W0 W : Wd} {σ : St} {ρ : Env} (h : EnvR K W0 W σ ρ) {i : Nat} {v : V} {d : D} (r : Dr K W.ι W.F v d) : EnvR K W0 W (σ.set i (some v)) (ρ.set i (.val d)) := by
  refine ⟨by rw [List.length_set, List.length_set]; exact h.len, fun j d' e => ?_, ?_⟩
  · rcases get_set e with ⟨rfl, e1⟩ | ⟨hj, e1⟩
    · cases e1
      have hlt : j < ρ.length := by
        have := (List.getElem?_eq_some_iff.mp e).1
        rwa [List.length_set] at this
      exact ⟨v, List.getElem?_set_self (by rw [← h.len]; exact hlt), r⟩
    · obtain ⟨w, q1, q2⟩ := h.val j d' e1
      exact ⟨w, by rw [List.getElem?_set_ne (Ne.symm hj)]; exact q1, q2⟩
  · obtain ⟨oa, h1, h2⟩ := h.own
    refine ⟨oa, fun j xs e => ?_, fun j k xs ys e1 e2 => ?_⟩
    · rcases get_set e with ⟨rfl, e1⟩ | ⟨hj, e1⟩
      · cases e1
      · obtain ⟨q1, q⟩ := h1 j xs e1
        exact ⟨by rw [List.getElem?_set_ne (Ne.symm hj)]; exact q1, q⟩
    · rcases get_set e1 with ⟨rfl, e3⟩ | ⟨_, e3⟩
      · cases e3
      · rcases get_set e2 with ⟨rfl, e4⟩ | ⟨_, e4⟩
        · cases e4
        · exact h2 j k xs ys e3 e4
theorem EnvR.setOwn {K : PySem.W.Frag} {W0 W W' : Wd} {σ : St} {ρ : Env} (h : EnvR K W0 W σ ρ) (st0 : Step W0 W) (st : Step W W') {i : Nat} {p : Addr} {vs : List V} {xs : List D} (h1 : W.H p = none) (h2 : W'.H p = some (.lst vs)) (h3 : W'.F p = none) (h4 : ¬ W'.T p) (h5 : DrAll K W'.ι W'.F vs xs) :
    EnvR K W0 W' (σ.set i (some (.ref p))) (ρ.set i (.own xs)) := by
  have h' := h.step st
  have hw0 : W0.H p = none := by
    cases e : W0.H p with
    | none => rfl
    | some o => exact absurd h1 (st0.dom p (by rw [e]; exact fun z => by cases z))
  refine ⟨by rw [List.length_set, List.length_set]; exact h.len, fun j d' e => ?_, ?_⟩
  · rcases get_set e with ⟨rfl, e1⟩ | ⟨hj, e1⟩
    · cases e1
    · obtain ⟨w, q1, q2⟩ := h'.val j d' e1
      exact ⟨w, by rw [List.getElem?_set_ne (Ne.symm hj)]; exact q1, q2⟩
  · obtain ⟨oa, g1, g2⟩ := h.own
    have np : ∀ (j : Nat) ys, ρ[j]? = some (.own ys) → oa j ≠ p := fun j ys e z => by
      obtain ⟨_, _, _, _, ws, q5, _⟩ := g1 j ys e
      rw [z, h1] at q5; cases q5
    refine ⟨fun j => if j = i then p else oa j, fun j ys e => ?_, fun j k ys zs e1 e2 eq => ?_⟩
    · rcases get_set e with ⟨rfl, e1⟩ | ⟨hj, e1⟩
      · cases e1
        have hlt : j < ρ.length := by
          have := (List.getElem?_eq_some_iff.mp e).1
          rwa [List.length_set] at this
        simp only [if_true]
        exact ⟨List.getElem?_set_self (by rw [← h.len]; exact hlt), hw0, h3, h4, vs, h2, h5⟩
      · obtain ⟨q1, q2, q3, q4, ws, q5, q6⟩ := g1 j ys e1
        have hne : W.H (oa j) ≠ none := by rw [q5]; exact fun z => by cases z
        simp only [if_neg hj]
        exact ⟨by rw [List.getElem?_set_ne (Ne.symm hj)]; exact q1, q2, st.newF _ q3 hne q4, fun z => (st.newT _ z).elim q4 hne, ws, st.keep _ _ q5 q4, st.drAll q6⟩
    · rcases get_set e1 with ⟨rfl, e3⟩ | ⟨hj, e3⟩
      · rcases get_set e2 with ⟨rfl, e4⟩ | ⟨hk, e4⟩
        · rfl
        · simp only [if_true, if_neg hk] at eq
          exact absurd eq.symm (np k zs e4)
      · rcases get_set e2 with ⟨rfl, e4⟩ | ⟨hk, e4⟩
        · simp only [if_true, if_neg hj] at eq
          exact absurd eq (np j ys e3)
        · simp only [if_neg hj, if_neg hk] at eq
          exact g2 j k ys zs e3 e4 eq
/-- a list of the frame's own is changed in its place -/
theorem own_upd {K : PySem.W.Frag} {W0 W : Wd} {σ : St} {ρ : Env} {s : Sto} (h : St2 K W0 W σ ρ s) {i : Nat} {xs : List D} (e : ρ[i]? = some (.own xs)) :
    ∃ a vs, σ[i]? = some (some (.ref a)) ∧ W.H a = some (.lst vs) ∧ ¬ W.T a ∧ DrAll K W.ι W.F vs xs ∧ ∀ vs' xs', DrAll K W.ι W.F vs' xs' → ∃ W', W'.H = upd W.H a (.lst vs') ∧ W'.ι = W.ι ∧ W'.F = W.F ∧ Mon W W' ∧ St2 K W0 W' σ (ρ.set i (.own xs')) s := by
  obtain ⟨oa, h1, h2⟩ := h.en.own
  obtain ⟨q1, q2, q3, q4, vs, q5, q6⟩ := h1 i xs e
  refine ⟨oa i, vs, q1, q5, q4, q6, fun vs' xs' hd => ⟨{ W with H := upd W.H (oa i) (.lst vs') }, rfl, rfl, rfl, ⟨List.prefix_refl _, Ex.refl _⟩, ?_, ?_, ?_⟩⟩
  · have ne : ∀ b, W0.H b ≠ none → b ≠ oa i := fun b hb z => hb (by rw [z]; exact q2)
    refine ⟨h.st.pre, h.st.exF, fun b hb => ?_, fun b o hb ht => ?_, h.st.newT, h.st.newF⟩
    · show upd W.H (oa i) _ b ≠ none
      rw [upd_ne (ne b hb)]; exact h.st.dom b hb
    · show upd W.H (oa i) _ b = some o
      rw [upd_ne (ne b (by rw [hb]; exact fun z => by cases z))]; exact h.st.keep b o hb ht
  · have nt : ∀ b, W.T b → b ≠ oa i := fun b hb z => q4 (by rw [← z]; exact hb)
    refine ⟨fun b o hb => ?_, fun b hb => ?_, ?_⟩
    · show upd W.H (oa i) _ b = some o
      rw [upd_ne (fun z => by rw [z, q3] at hb; cases hb)]; exact h.ok.ex b o hb
    · show upd W.H (oa i) _ b ≠ none
      rw [upd_ne (nt b hb)]; exact h.ok.td b hb
    · exact h.ok.st.kept rfl (fun _ z => z) (Ex.refl _) (fun _ _ z => z) fun b o hb z => by
        show upd W.H (oa i) _ b = some o
        rw [upd_ne (nt b hb)]; exact z
  · refine ⟨by rw [List.length_set]; exact h.en.len, fun j d' e' => ?_, oa, fun j ys e' => ?_, fun j k ys zs e1 e2 eq => ?_⟩
    · rcases get_set e' with ⟨rfl, e1⟩ | ⟨hj, e1⟩
      · cases e1
      · exact h.en.val j d' e1
    · rcases get_set e' with ⟨rfl, e1⟩ | ⟨hj, e1⟩
      · cases e1
        exact ⟨q1, q2, q3, q4, vs', upd_same, hd⟩
      · obtain ⟨p1, p2, p3, p4, ws, p5, p6⟩ := h1 j ys e1
        refine ⟨p1, p2, p3, p4, ws, ?_, p6⟩
        show upd W.H (oa i) _ (oa j) = _
        rw [upd_ne (fun z => hj (h2 j i ys xs e1 e z))]; exact p5
    · rcases get_set e1 with ⟨rfl, e3⟩ | ⟨hj, e3⟩
      · rcases get_set e2 with ⟨rfl, e4⟩ | ⟨hk, e4⟩
        · rfl
        · exact h2 _ _ _ _ e e4 eq
      · rcases get_set e2 with ⟨rfl, e4⟩ | ⟨hk, e4⟩
        · exact h2 _ _ _ _ e3 e eq
        · exact h2 j k ys zs e3 e4 eq
/-- a list of the frame's own is kept as it is from now on -/
def frz (i : Nat) (ρ : Env) : Env := match ρ[i]? with
  | some (.own xs) => ρ.set i (.val (.list xs))
  | _ => ρ
theorem frz_ok {K : PySem.W.Frag} {W0 W : Wd} {σ : St} {ρ : Env} {s : Sto} (h : St2 K W0 W σ ρ s) (i : Nat) : ∃ W', W'.H = W.H ∧ Mon W W' ∧ St2 K W0 W' σ (frz i ρ) s := by
  unfold frz
  split
  · rename_i xs e
    obtain ⟨oa, h1, h2⟩ := h.en.own
    obtain ⟨q1, q2, q3, q4, vs, q5, q6⟩ := h1 i xs e
    have hx : Ex W.F (upd W.F (oa i) (.lst vs)) := Ex.new q3
    have nt : ∀ b, W.T b → b ≠ oa i := fun b hb z => q4 (by rw [← z]; exact hb)
    have nf : ∀ b, b ≠ oa i → W.F b = none → upd W.F (oa i) (.lst vs) b = none := fun b hb z => by rw [upd_ne hb]; exact z
    refine ⟨{ W with F := upd W.F (oa i) (.lst vs) }, rfl, ⟨List.prefix_refl _, hx⟩, ?_, ?_, ?_⟩
    · exact ⟨h.st.pre, h.st.exF.trans hx, h.st.dom, h.st.keep, h.st.newT, fun b p1 p2 p3 => nf b (fun z => p2 (by rw [z]; exact q2)) (h.st.newF b p1 p2 p3)⟩
    · refine ⟨fun b o hb => ?_, h.ok.td, ?_⟩
      · have hb' : upd W.F (oa i) (.lst vs) b = some o := hb
        by_cases z : b = oa i
        · subst z; rw [upd_same] at hb'; show W.H (oa i) = some o; rw [q5]; exact hb'
        · rw [upd_ne z] at hb'; exact h.ok.ex b o hb'
      · exact h.ok.st.kept rfl (fun _ z => z) hx (fun b hb z => nf b (nt b hb) z) fun _ _ _ z => z
    · refine ⟨by rw [List.length_set]; exact h.en.len, fun j d' e' => ?_, oa, fun j ys e' => ?_, fun j k ys zs e1 e2 eq => ?_⟩
      · rcases get_set e' with ⟨rfl, e1⟩ | ⟨hj, e1⟩
        · cases e1
          exact ⟨_, q1, .lst upd_same (q6.mono (List.prefix_refl _) hx)⟩
        · obtain ⟨w, p1, p2⟩ := h.en.val j d' e1
          exact ⟨w, p1, p2.mono (List.prefix_refl _) hx⟩
      · rcases get_set e' with ⟨rfl, e1⟩ | ⟨hj, e1⟩
        · cases e1
        · obtain ⟨p1, p2, p3, p4, ws, p5, p6⟩ := h1 j ys e1
          exact ⟨p1, p2, nf _ (fun z => hj (h2 j i ys xs e1 e z)) p3, p4, ws, p5, p6.mono (List.prefix_refl _) hx⟩
      · rcases get_set e1 with ⟨rfl, e3⟩ | ⟨hj, e3⟩
        · cases e3
        · rcases get_set e2 with ⟨rfl, e4⟩ | ⟨hk, e4⟩
          · cases e4
          · exact h2 j k ys zs e3 e4 eq
  · exact ⟨W, rfl, Mon.refl W, h⟩

/-! ### statements -/
section
variable {X : Cx} {Wx : WX} {pos : Pos} {e : Expr} {f : XE} {b b1 b2 : XS} {st : Stmt} {rest : List Stmt} {t : XT}
/-- ahead of a statement (or a block) lists of the frame's own are kept as they are -/
def sFrz (i : Nat) (b : XS) : XS := fun ρ s => b (frz i ρ) s
theorem gs_frz {K : PySem.W.Frag} {i : Nat} : ∀ D σ H, GS K Wx (sFrz i b) D σ H → GS K Wx b D σ H := by
  rintro D σ H ⟨W0, W, ρ, s, rfl, h, p⟩
  obtain ⟨W', e, m, h'⟩ := frz_ok h i
  rw [← e]
  exact GS.mk h' (PS.later p m)
theorem p_frz (i : Nat) (h : L2.PS X st (GS X.K Wx b)) : L2.PS X st (GS X.K Wx (sFrz i b)) := psImp h gs_frz
theorem pp_frz (i : Nat) (h : PSs X rest (GS X.K Wx b)) : PSs X rest (GS X.K Wx (sFrz i b)) := pssImp h gs_frz
def sNil : XS := fun ρ s => .next ρ s
def sSeq (b1 b2 : XS) : XS := fun ρ s => match b1 ρ s with
  | .next ρ1 s1 => b2 ρ1 s1
  | r => r
theorem pp_nil : PSs X [] (GS X.K Wx sNil) := pssImp pss_nil fun D σ H ⟨W0, W, ρ, s, e1, h, p⟩ => by
  subst e1; exact p σ W (Mon.refl W) h
theorem pp_cons (h1 : L2.PS X st (GS X.K Wx b1)) (h2 : PSs X rest (GS X.K Wx b2)) : PSs X (st :: rest) (GS X.K Wx (sSeq b1 b2)) := pssImp (pss_cons h1 h2) fun D σ H ⟨W0, W, ρ, s, e1, h, p⟩ => by
  subst e1
  refine GS.mk h ?_
  unfold sSeq at p
  cases e : b1 ρ s with
  | next ρ1 s1 => rw [e] at p; exact fun σ' W' m q => GS.mk q (PS.later p m)
  | ret d s1 => rw [e] at p; exact p
  | exc c ρ1 s1 => rw [e] at p; exact p
  | brk ρ1 s1 => rw [e] at p; exact p
  | cont ρ1 s1 => rw [e] at p; exact p
  | bad => rw [e] at p; exact p
theorem pp_one (h : L2.PS X st (GS X.K Wx b)) : PSs X [st] (GS X.K Wx b) := pss_one h
theorem p_pass : L2.PS X (.Pass pos) (GS X.K Wx sNil) := psImp ps_pass fun D σ H ⟨W0, W, ρ, s, e1, h, p⟩ => by
  subst e1; exact p σ W (Mon.refl W) h
def sCont : XS := fun ρ s => .cont ρ s
theorem p_continue : L2.PS X (.Continue pos) (GS X.K Wx sCont) := psImp ps_continue fun D σ H ⟨W0, W, ρ, s, e1, h, p⟩ => by
  subst e1; exact p σ W (Mon.refl W) h
/-- a value dropped -/
def sDrop (f : XE) : XS := stX f fun _ ρ s => .next ρ s
theorem p_expr {R : RB} (h : PE X e (GX X.K R Wx f)) (hs : swapsWith e none pos.line X.env = pure false := by rfl) : L2.PS X (.Expr e pos) (GS X.K Wx (sDrop f)) := psImp (ps_expr h hs) fun D σ H ⟨W0, W, ρ, s, e1, h, p⟩ => by
  subst e1
  exact GX.mk h.ok h.en (Post.mono (PS.x h p) fun d s1 W1 _ _ q v _ => q.2 σ W1 (Mon.refl W1) q.1)
/-- name = value -/
def sSet (i : Nat) (f : XE) : XS := stX f fun d ρ s => .next (ρ.set i (.val d)) s
theorem p_set {i : Nat} {x : Str} {pos' : Pos} (hN : X.N.Nodup) (he : PE X e (GX X.K (aft (rD X.K)) Wx f)) (hi : X.N[i]? = some x := by rfl) (hx : Loc X.env.scope x := by first | exact Or.inl rfl | exact Or.inr rfl) (hs : swapsWith e (some (.Name x pos')) pos.line X.env = pure false := by rfl)
    (hf : X.fn x = true ∨ X.env.scope.names.lookup x = some .local := by first | exact .inl rfl | exact .inr rfl | assumption) : L2.PS X (.Assign [.Name x pos'] e pos) (GS X.K Wx (sSet i f)) := psImp (ps_set hN hi hx he hs hf) fun D σ H ⟨W0, W, ρ, s, e1, h, p⟩ => by
  subst e1
  exact GX.mk h.ok h.en (Post.mono (PS.x h p) fun d s1 W1 _ _ q v hv => q.2 _ W1 (Mon.refl W1) ⟨q.1.st, q.1.ok, q.1.en.set hv⟩)
/-- name = a new list, of the frame's own -/
def ownOf (d : D) (i : Nat) : XS := fun ρ s => match d with
  | .list xs => .next (ρ.set i (.own xs)) s
  | _ => .bad
def sOwn (i : Nat) (f : XE) : XS := stX f fun d => ownOf d i
theorem p_own {i : Nat} {x : Str} {pos' : Pos} (hN : X.N.Nodup) (he : PE X e (GX X.K (rN X.K) Wx f)) (hi : X.N[i]? = some x := by rfl) (hx : Loc X.env.scope x := by first | exact Or.inl rfl | exact Or.inr rfl) (hs : swapsWith e (some (.Name x pos')) pos.line X.env = pure false := by rfl)
    (hf : X.fn x = true ∨ X.env.scope.names.lookup x = some .local := by first | exact .inl rfl | exact .inr rfl | assumption) : L2.PS X (.Assign [.Name x pos'] e pos) (GS X.K Wx (sOwn i f)) := psImp (ps_set hN hi hx he hs hf) fun D σ H ⟨W0, W, ρ, s, e1, h, p⟩ => by
  subst e1
  refine GX.mk h.ok h.en (Post.mono (PS.x h p) fun d s1 W1 st1 ok1 q v hv => ?_)
  obtain ⟨p', xs, vs, h1, h2, h3, h4, h5, h6, h7⟩ := hv
  subst h1 h2
  exact q.2 _ W1 (Mon.refl W1) ⟨q.1.st, q.1.ok, h.en.setOwn h.st st1 h3 h4 h5 h6 h7⟩
def sRet (f : XE) : XS := stX f fun d _ s => .ret d s
theorem p_ret (he : PE X e (GX X.K (aft (rD X.K)) Wx f)) : L2.PS X (.Return (some e) pos) (GS X.K Wx (sRet f)) := psImp (ps_ret he) fun D σ H ⟨W0, W, ρ, s, e1, h, p⟩ => by
  subst e1
  exact GX.mk h.ok h.en (Post.mono (PS.x h p) fun d s1 W1 _ _ q v hv => q.2 v W1 q.1.st q.1.ok hv)
def sRetN : XS := fun _ s => .ret .none s
theorem p_retN : L2.PS X (.Return none pos) (GS X.K Wx sRetN) := psImp ps_retN fun D σ H ⟨W0, W, ρ, s, e1, h, p⟩ => by
  subst e1
  exact p .non W h.st h.ok .non
def sIf (t : XT) (b1 b2 : XS) : XS := stX t fun k => if k = true then b1 else b2
theorem p_if {c : Expr} {l1 l2 : List Stmt} (hc : PT X c (GT X.K Wx t)) (h1 : PSs X l1 (GS X.K Wx b1)) (h2 : PSs X l2 (GS X.K Wx b2)) : L2.PS X (.If c l1 l2 pos) (GS X.K Wx (sIf t b1 b2)) := psImp (ps_if hc h1 h2) fun D σ H ⟨W0, W, ρ, s, e1, h, p⟩ => by
  subst e1
  refine GT.mk h.ok h.en (Post.mono (PS.x h p) fun k s1 W1 _ _ q => ?_)
  obtain ⟨q1, q2⟩ := q
  cases k with
  | true => exact GS.mk q1 q2
  | false => exact GS.mk q1 q2
/-- name += e (ints) -/
def augK (g : Int → Int → Int) (i : Nat) (a : Int) (d : D) : XS := fun ρ s => match d with
  | .int c => .next (ρ.set i (.val (.int (g a c)))) s
  | _ => .bad
def sAug (g : Int → Int → Int) (i : Nat) (f : XE) : XS := fun ρ s => match ρ[i]? with
  | some (.val (.int a)) => stX f (augK g i a) ρ s
  | _ => .bad
theorem gs_aug {K : PySem.W.Frag} {g : Int → Int → Int} {i : Nat} : ∀ D σ H, GS K Wx (sAug g i f) D σ H → tAug i (GX K (aft (rD K)) Wx f) (ipI g) D σ H := by
  rintro D σ H ⟨W0, W, ρ, s, rfl, h, p⟩
  unfold sAug at p
  split at p
  · rename_i a e
    obtain ⟨v, h1, h2⟩ := h.en.val i _ e
    cases h2
    refine ⟨_, h1, GX.mk h.ok h.en (Post.mono (PS.x h p) fun d s1 W1 _ _ q v hv => ?_)⟩
    cases hv with
    | int c => exact ⟨a, c, rfl, rfl, q.2 _ W1 (Mon.refl W1) ⟨q.1.st, q.1.ok, q.1.en.set (.int _)⟩⟩
    | _ => exact q.2.elim
  · exact p.elim
theorem p_augAdd {i : Nat} {x : Str} {pos' : Pos} (hN : X.N.Nodup) (he : PE X e (GX X.K (aft (rD X.K)) Wx f)) (hi : X.N[i]? = some x := by rfl) (hx : Loc X.env.scope x := by first | exact Or.inl rfl | exact Or.inr rfl)
    (hf : X.fn x = true ∨ X.env.scope.names.lookup x = some .local := by first | exact .inl rfl | exact .inr rfl | assumption) : L2.PS X (.AugAssign (.Name x pos') .Add e pos) (GS X.K Wx (sAug (fun a c => a + c) i f)) := psImp (ps_aug hN hi hx he ip_add hf) gs_aug
/-- x.append(e), x a list of the frame's own -/
def appK (i : Nat) (xs : List D) (d : D) : XS := fun ρ s => if xs.length < sizeLine then .next (ρ.set i (.own (xs ++ [d]))) s else .bad
def sApp (i : Nat) (f : XE) : XS := fun ρ s => match ρ[i]? with
  | some (.own xs) => stX f (appK i xs) ρ s
  | _ => .bad
theorem p_app {i : Nat} {x : Str} {p1 p2 : Pos} (he : PE X e (GX X.K (aft (rD X.K)) Wx f)) (hN : X.N[i]? = some x := by rfl) (hv : Vis X.env.scope x := by first | exact Or.inl rfl | exact Or.inr (Or.inl rfl) | exact Or.inr (Or.inr rfl)) (hd : (x == ("__debug__" : Str)) = false := by decide)
    (hcd : (x == ("__classdict__" : Str)) = false := by decide) (hst : starEach (e :: []) X.env = (false, eval e X.env) :: starEach [] X.env := by rfl)
    (hs : swapsWith (.Call (.Attribute (.Name x p1) "append" p2) [e] [] pos) none pos.line X.env = pure false := by rfl)
    (hE : ∀ {r : V → List V → Hp → VK → Prop} {to : TE} {t : TA}, MtR X "list.append" r → PE X (.Name x p1) to → PA X (e :: []) t → PE X (.Call (.Attribute (.Name x p1) "append" p2) [e] [] pos) (tBM X.K "list" r to t) := by
      intro r to t h1 h2 h3; exact pe_bm PySem.F.plainAttrs_list PySem.F.slot_list_append PySem.F.type_list_append h1 h2 h3) :
    L2.PS X (.Expr (.Call (.Attribute (.Name x p1) "append" p2) [e] [] pos) pos) (GS X.K Wx (sApp i f)) := psImp (ps_expr (hE mt_append (pe_var hN hv hd hcd) (pa_cons he pa_nil hst)) hs) fun D σ H ⟨W0, W, ρ, s, e1, h, p⟩ => by
  subst e1
  unfold sApp at p
  split at p
  · rename_i xs e
    obtain ⟨a, vs, h1, h2, _, _, _⟩ := own_upd h e
    refine ⟨_, h1, .inl ⟨rfl, _, SqL.of h2⟩, GX.mk h.ok h.en (Post.mono (PS.x h p) fun d s1 W1 _ _ q v hv => ?_)⟩
    obtain ⟨q1, q2⟩ := q
    obtain ⟨a', vs', g1, g2, g3, g4, g5⟩ := own_upd q1 e
    have ea : a' = a := by rw [h1] at g1; cases g1; rfl
    subst ea
    unfold appK at q2
    split at q2
    · rename_i hz
      refine ⟨_, vs', v, rfl, rfl, g2, by rw [g4.length]; exact hz, ?_⟩
      obtain ⟨W2, k1, _, _, k4, k5⟩ := g5 (vs' ++ [v]) (xs ++ [d]) (g4.append (.one hv))
      rw [← k1]
      exact q2 σ W2 k4 k5
    · exact q2.elim
  · exact p.elim
/-- x.extend(e) -/
def extK (i : Nat) (xs : List D) (d : D) : XS := fun ρ s => match d with
  | .list ys => if xs.length + ys.length ≤ sizeLine then .next (ρ.set i (.own (xs ++ ys))) s else .bad
  | _ => .bad
def sExt (i : Nat) (f : XE) : XS := fun ρ s => match ρ[i]? with
  | some (.own xs) => stX f (extK i xs) ρ s
  | _ => .bad
theorem p_ext {i : Nat} {x : Str} {p1 p2 : Pos} (he : PE X e (GX X.K (aft (rD X.K)) Wx f)) (hN : X.N[i]? = some x := by rfl) (hv : Vis X.env.scope x := by first | exact Or.inl rfl | exact Or.inr (Or.inl rfl) | exact Or.inr (Or.inr rfl)) (hd : (x == ("__debug__" : Str)) = false := by decide)
    (hcd : (x == ("__classdict__" : Str)) = false := by decide) (hst : starEach (e :: []) X.env = (false, eval e X.env) :: starEach [] X.env := by rfl)
    (hs : swapsWith (.Call (.Attribute (.Name x p1) "extend" p2) [e] [] pos) none pos.line X.env = pure false := by rfl)
    (hE : ∀ {r : V → List V → Hp → VK → Prop} {to : TE} {t : TA}, MtR X "list.extend" r → PE X (.Name x p1) to → PA X (e :: []) t → PE X (.Call (.Attribute (.Name x p1) "extend" p2) [e] [] pos) (tBM X.K "list" r to t) := by
      intro r to t h1 h2 h3; exact pe_bm PySem.F.plainAttrs_list PySem.F.slot_list_extend PySem.F.type_list_extend h1 h2 h3) :
    L2.PS X (.Expr (.Call (.Attribute (.Name x p1) "extend" p2) [e] [] pos) pos) (GS X.K Wx (sExt i f)) := psImp (ps_expr (hE mt_extend (pe_var hN hv hd hcd) (pa_cons he pa_nil hst)) hs) fun D σ H ⟨W0, W, ρ, s, e1, h, p⟩ => by
  subst e1
  unfold sExt at p
  split at p
  · rename_i xs e
    obtain ⟨a, vs, h1, h2, _, _, _⟩ := own_upd h e
    refine ⟨_, h1, .inl ⟨rfl, _, SqL.of h2⟩, GX.mk h.ok h.en (Post.mono (PS.x h p) fun d s1 W1 _ _ q v hv => ?_)⟩
    obtain ⟨q1, q2⟩ := q
    obtain ⟨a', vs', g1, g2, g3, g4, g5⟩ := own_upd q1 e
    have ea : a' = a := by rw [h1] at g1; cases g1; rfl
    subst ea
    unfold extK at q2
    split at q2
    · rename_i ys
      split at q2
      · rename_i hz
        cases hv with
        | lst hb hys =>
          refine ⟨_, _, vs', _, rfl, rfl, g2, q1.ok.ex _ _ hb, by rw [g4.length, hys.length]; exact hz, ?_⟩
          obtain ⟨W2, k1, _, _, k4, k5⟩ := g5 _ (xs ++ ys) (g4.append hys)
          rw [← k1]
          exact q2 σ W2 k4 k5
      · exact q2.elim
    · exact q2.elim
  · exact p.elim
/-! ### raise -/
def sRaise (c : Str) : XS := fun ρ s => .exc c ρ s
theorem p_raise {x m : Str} {j : Nat} {p1 p2 p3 pos2 : Pos} (hc : X.calm = true) (tk : Takes X Wx) (q : PySem.W.excIn X.K (He.ga X.K x) He.veBase "ValueError.__new__" = true) (gC : X.mg x = some (.ref (He.ga X.K x))) (kC : PySem.W.keepIn X.K (.ref (He.ga X.K x)) = true)
    (r : Raises X (.ref (He.ga X.K x))) (hg : Gl X x) (hdb : (x == ("__debug__" : Str)) = false := by decide) : L2.PS X (.Raise (some (.Call (.Name x p1) [.Constant (.str m) j p2] [] p3)) none pos2) (GS X.K Wx (sRaise x)) :=
  psImp (ps_raise hc tk (pmk_own PySem.F.excBase_ValueError q gC kC r hg hdb)) fun D σ H ⟨W0, W, ρ, s, e1, h, p⟩ => by
    subst e1
    exact p σ W (Mon.refl W) h
end

/-! ### a def -/
def startD (n : Nat) (ds : List D) : Env := ds.map .val ++ List.replicate (n - ds.length) .no
def runB (b : XS) (n : Nat) (ds : List D) (s : Sto) : Out D := match b (startD n ds) s with
  | .ret d s' => .ok d s'
  | .next _ s' => .ok .none s'
  | .exc c _ s' => .exc c s'
  | _ => .bad
abbrev Fn := List D → Sto → Out D
/-- a def's promise: it does m -/
def spM (K : PySem.W.Frag) (n : Nat) (m : Fn) : Sp := fun vs H Q E => ∃ W s ds, W.H = H ∧ Ok K W s ∧ ds.length = n ∧ DrAll K W.ι W.F vs ds ∧
  Post K W (m ds s) (fun d _ W' => ∀ v, Dr K W'.ι W'.F v d → Q v W'.H) (fun c W' => E (.ref (He.ga K c)) none W'.H)
theorem env_start {K : PySem.W.Frag} {W : Wd} {N : List Str} {vs : List V} {ds : List D} (h : DrAll K W.ι W.F vs ds) : EnvR K W W (L2.start N vs) (startD N.length ds) := by
  unfold L2.start startD
  refine ⟨by simp [h.length], fun i d e => ?_, fun _ => 0, fun i xs e => ?_, fun i j xs ys e => ?_⟩
  · by_cases hi : i < ds.length
    · rw [List.getElem?_append_left (by simpa using hi), List.getElem?_map] at e
      obtain ⟨d', e1, e2⟩ := Option.map_eq_some_iff.mp e
      cases e2
      obtain ⟨v, h1, h2⟩ := h.get e1
      exact ⟨v, by rw [List.getElem?_append_left (by rw [List.length_map, h.length]; exact hi), List.getElem?_map, h1]; rfl, h2⟩
    · rw [List.getElem?_append_right (by simpa using hi), List.getElem?_replicate] at e
      split at e <;> cases e
  · by_cases hi : i < ds.length
    · rw [List.getElem?_append_left (by simpa using hi), List.getElem?_map] at e
      obtain ⟨d', e1, e2⟩ := Option.map_eq_some_iff.mp e
      cases e2
    · rw [List.getElem?_append_right (by simpa using hi), List.getElem?_replicate] at e
      split at e <;> cases e
  · by_cases hi : i < ds.length
    · rw [List.getElem?_append_left (by simpa using hi), List.getElem?_map] at e
      obtain ⟨d', e1, e2⟩ := Option.map_eq_some_iff.mp e
      cases e2
    · rw [List.getElem?_append_right (by simpa using hi), List.getElem?_replicate] at e
      split at e <;> cases e
/-- a def's wish -/
abbrev wE (E : XK) : WX := fun cls d _ H => E cls d H
theorem fn_rule {P : Program} {w : World} {K : PySem.W.Frag} {mg : Str → Option Value} {base : Heap} {x qual : Str} {params : Arguments} {body : List Stmt} {scope : Scope} {f : Addr} {fd : FuncData} {N ps : List Str} {k : Nat} {b : XS}
    (F : FunD K x qual params body scope [] [] f fd) (S : FnScope N ps scope)
    (hb : ∀ (cdv : Value) (A : Around) (outer : List PySem.Env) (s : Shared) (H : Hp) (E : XK), Room k (A.deeper (envOfC qual scope s.heap.objs.size f cdv)) → PSs (cxOf (L2.CX P w) P w K mg base N qual scope f cdv A outer s H E) body (GS K (wE E) b)) :
    FnOk P w K mg base (L2.CX P w) (k + 1) f fd ps (spM K ps.length (runB b N.length)) := by
  refine F.ok S (fun vs H Q E h => ?_) (fun cdv A outer s H vs Q E hr h => ⟨_, hb cdv A outer s H E hr, ?_⟩)
  · obtain ⟨W, s, ds, _, _, hl, hd, _⟩ := h
    rw [hd.length]; exact hl
  · obtain ⟨W, s1, ds, rfl, ok, hl, hd, p⟩ := h
    refine GS.mk (W0 := W) (ρ := startD N.length ds) (s := s1) ⟨Step.refl W, ok, env_start hd⟩ ?_
    unfold runB at p
    cases e : b (startD N.length ds) s1 with
    | next ρ' s' => rw [e] at p; exact fun σ' W' _ q => p W' q.st q.ok .non .non
    | ret d s' => rw [e] at p; exact fun v W' st ok hv => p W' st ok v hv
    | exc c ρ' s' => rw [e] at p; exact fun σ' W' _ q => p W' q.st q.ok
    | brk ρ' s' => rw [e] at p; exact p.elim
    | cont ρ' s' => rw [e] at p; exact p.elim
    | bad => rw [e] at p; exact p.elim
/-- f(..) -/
def xCall (n : Nat) (m : Fn) (g : XA) : XE := fun ρ s => (g ρ s).bind fun ds s1 => if ds.length = n then m ds s1 else .bad
section
variable {X : Cx} {Wx : WX} {g : XA} {n : Nat} {m : Fn}
theorem gx_call {K : PySem.W.Frag} : ∀ σ H Q, GX K (aft (rD K)) Wx (xCall n m g) σ H Q → tCallS (spM K n m) (WE Wx) (GA K Wx g) σ H Q := by
  rintro σ H Q ⟨W0, W, ρ, s, rfl, ok, en, p⟩
  refine GA.mk ok en (Post.mono p.bind fun ds s1 W1 st1 ok1 p1 vs hvs => ?_)
  by_cases hz : ds.length = n
  · rw [if_pos hz] at p1
    exact ⟨W1, s1, ds, rfl, ok1, hz, hvs, p1⟩
  · rw [if_neg hz] at p1; exact p1.elim
theorem d_call {k : Nat} {f : Addr} {fd : FuncData} {ps : List Str} {x : Str} {p pos : Pos} {e : Expr} {es : List Expr} (F : FnOk X.prog X.w X.K X.mg X.base (L2.CX X.prog X.w) k f fd ps (spM X.K n m)) (hr : Room k X.A) (hg : Gl X x) (hm : X.mg x = some (.ref f)) (hk : PySem.W.keepIn X.K (.ref f) = true)
    (hb : Binds X.K fd ps []) (tk : Takes X Wx) (ha : PA X (e :: es) (GA X.K Wx g)) (hdb : (x == ("__debug__" : Str)) = false := by decide) (he : starEach (e :: es) X.env = (false, eval e X.env) :: starEach es X.env := by rfl)
    (hpl : (backTo pos (starEach es X.env)).any (·.1) = false := by rfl) : PE X (.Call (.Name x p) (e :: es) [] pos) (GX X.K (aft (rD X.K)) Wx (xCall n m g)) :=
  peImp (pe_callS F hr hg hm hk hb (fun σ => passAt tk σ) ha hdb he hpl) gx_call
theorem d_call0 {k : Nat} {f : Addr} {fd : FuncData} {ps : List Str} {x : Str} {p pos : Pos} (F : FnOk X.prog X.w X.K X.mg X.base (L2.CX X.prog X.w) k f fd ps (spM X.K 0 m)) (hr : Room k X.A) (hg : Gl X x) (hm : X.mg x = some (.ref f)) (hk : PySem.W.keepIn X.K (.ref f) = true)
    (hb : Binds X.K fd ps []) (tk : Takes X Wx) (hdb : (x == ("__debug__" : Str)) = false := by decide) : PE X (.Call (.Name x p) [] [] pos) (GX X.K (aft (rD X.K)) Wx (xCall 0 m aN)) := by
  refine ⟨fun pins s σ H Q I h => ?_⟩
  refine wpAny_Call_Name_kw (ld_glob I hg hm ?_ hdb)
  refine PySem.W.callWith_K0 I.kIn hk (run_fnS (vs := []) (us := []) F hr hb (E := WE Wx) (passAt tk σ) I .nil ?_)
  obtain ⟨W0, W, ρ, s1, rfl, ok, en, p⟩ := h
  exact ⟨W, s1, [], rfl, ok, rfl, .nil, p⟩
end
end M

/-! M, part 6: what is walked; for, while, comprehensions. -/
namespace M
open PySem L2
open PyProof.Rows (envOfC)

/-- an iterator that gives ds, from W1 on -/
def IterOk (K : PySem.W.Frag) (J : It) (W1 : Wd) (ds : List D) : Prop := ∃ G Y, Walk J ds.length G Y ∧ (∀ W2 s2, Mon W1 W2 → Ok K W2 s2 → G W2.H) ∧
  ∀ i v W2 s2 H', i < ds.length → Mon W1 W2 → Ok K W2 s2 → Y i W2.H v H' → ∃ W3 d, W3.H = H' ∧ Step W2 W3 ∧ Ok K W3 s2 ∧ ds[i]? = some d ∧ Dr K W3.ι W3.F v d
abbrev XI := Env → Sto → Out (List D)
def GI (K : PySem.W.Frag) (Wx : WX) (m : XI) : TI := fun σ H R => ∃ W0 W ρ s, W.H = H ∧ Ok K W s ∧ EnvR K W0 W σ ρ ∧ Post K W (m ρ s) (fun ds _ W' => ∀ J, IterOk K J W' ds → R J W'.H) (wexc K Wx σ)
theorem GI.mk {K : PySem.W.Frag} {Wx : WX} {m : XI} {W0 W : Wd} {ρ : Env} {s : Sto} {σ : St} {R : It → Hp → Prop} (ok : Ok K W s) (e : EnvR K W0 W σ ρ) (h : Post K W (m ρ s) (fun ds _ W' => ∀ J, IterOk K J W' ds → R J W'.H) (wexc K Wx σ)) : GI K Wx m σ W.H R := ⟨W0, W, ρ, s, rfl, ok, e, h⟩
section
variable {K : PySem.W.Frag} {W : Wd} {a : Addr} {vs : List V} {ds : List D}
theorem it_list (h : W.F a = some (.lst vs)) (hd : DrAll K W.ι W.F vs ds) : IterOk K (Itl K a) W ds := by
  refine ⟨_, _, by rw [← hd.length]; exact walk_list (xs := vs), fun W2 s2 m ok => SqL.of (ok.ex _ _ (m.exF _ _ h)), fun i v W2 s2 H' hi m ok y => ?_⟩
  obtain ⟨e1, e2⟩ := y
  obtain ⟨d, h1, h2⟩ := hd.getV e2
  exact ⟨W2, d, e1.symm, Step.refl _, ok, h1, m.dr h2⟩
theorem it_tup (h : W.F a = some (.tup vs)) (hd : DrAll K W.ι W.F vs ds) : IterOk K (Itt K a) W ds := by
  refine ⟨_, _, by rw [← hd.length]; exact walk_tup (xs := vs), fun W2 s2 m ok => SqT.of (ok.ex _ _ (m.exF _ _ h)), fun i v W2 s2 H' hi m ok y => ?_⟩
  obtain ⟨e1, e2⟩ := y
  obtain ⟨d, h1, h2⟩ := hd.getV e2
  exact ⟨W2, d, e1.symm, Step.refl _, ok, h1, m.dr h2⟩
/-- lo, lo + 1, .., n of them -/
def rngD (lo : Int) (n : Nat) : List D := (List.range n).map fun (i : Nat) => PyData.int (lo + (i : Int))
theorem rngD_len (lo : Int) (n : Nat) : (rngD lo n).length = n := by unfold rngD; simp
theorem it_rng {lo : Int} {n : Nat} : IterOk K (Itr lo n) W (rngD lo n) := by
  refine ⟨_, _, by rw [rngD_len]; exact walk_range, fun W2 s2 m ok => trivial, fun i v W2 s2 H' hi m ok y => ?_⟩
  obtain ⟨e1, e2⟩ := y
  subst e2
  rw [rngD_len] at hi
  exact ⟨W2, .int (lo + (i : Int)), e1.symm, Step.refl _, ok, by unfold rngD; simp [hi], .int _⟩
def strD (x : Str) : List D := x.cps.toList.map fun c => .str ⟨#[c]⟩
theorem it_str {x : Str} : IterOk K (Its x) W (strD x) := by
  refine ⟨_, _, by unfold strD; rw [List.length_map, Array.length_toList]; exact walk_str, fun W2 s2 m ok => trivial, fun i v W2 s2 H' hi m ok y => ?_⟩
  obtain ⟨e1, c, e2, e3⟩ := y
  subst e3
  exact ⟨W2, .str ⟨#[c]⟩, e1.symm, Step.refl _, ok, by unfold strD; rw [List.getElem?_map, Array.getElem?_toList, e2]; rfl, .str _⟩
end

section
variable {X : Cx} {Wx : WX} {tg e : Expr} {f : XE} {g : XA} {pos p : Pos}
/-- a list, a tuple that stays -/
def iSeq (f : XE) : XI := fun ρ s => (f ρ s).bind fun d s1 => match d with
  | .list ds => .ok ds s1
  | .tuple ds => .ok ds s1
  | _ => .bad
def iListOnly (f : XE) : XI := fun ρ s => (f ρ s).bind fun d s1 => match d with
  | .list ds => .ok ds s1
  | _ => .bad
def iTupOnly (f : XE) : XI := fun ρ s => (f ρ s).bind fun d s1 => match d with
  | .tuple ds => .ok ds s1
  | _ => .bad
theorem i_list (h : PE X e (GX X.K (aft (rD X.K)) Wx f)) : PI X tg e (GI X.K Wx (iListOnly f)) := piImp (pi_list h) fun σ H R ⟨W0, W, ρ, s, e1, ok, en, q⟩ => by
  subst e1
  refine GX.mk ok en (Post.mono q.bind fun d s1 W1 st1 ok1 q1 v hv => ?_)
  cases hv with
  | lst h1 h2 => exact ⟨_, rfl, ⟨_, SqL.of (ok1.ex _ _ h1)⟩, post_ok ok1 q1 _ (it_list h1 h2)⟩
  | _ => exact q1.elim
theorem i_tup (h : PE X e (GX X.K (aft (rD X.K)) Wx f)) : PI X tg e (GI X.K Wx (iTupOnly f)) := piImp (pi_tup h) fun σ H R ⟨W0, W, ρ, s, e1, ok, en, q⟩ => by
  subst e1
  refine GX.mk ok en (Post.mono q.bind fun d s1 W1 st1 ok1 q1 v hv => ?_)
  cases hv with
  | tup h1 h2 => exact ⟨_, rfl, ⟨_, SqT.of (ok1.ex _ _ h1)⟩, post_ok ok1 q1 _ (it_tup h1 h2)⟩
  | _ => exact q1.elim
def iStrD (f : XE) : XI := fun ρ s => (f ρ s).bind fun d s1 => match d with
  | .str x => .ok (strD x) s1
  | _ => .bad
theorem i_str (h : PE X e (GX X.K (aft (rD X.K)) Wx f)) : PI X tg e (GI X.K Wx (iStrD f)) := piImp (pi_str h) fun σ H R ⟨W0, W, ρ, s, e1, ok, en, q⟩ => by
  subst e1
  refine GX.mk ok en (Post.mono q.bind fun d s1 W1 st1 ok1 q1 v hv => ?_)
  cases hv with
  | str x => exact ⟨x, rfl, post_ok ok1 q1 _ it_str⟩
  | _ => exact q1.elim
def rngOk (i : Int) : Bool := small i
theorem rngOk_to {i : Int} (h : rngOk i = true) : -(2 ^ 62) ≤ i ∧ i < 2 ^ 62 := by
  have e : (2 : Int) ^ 62 = 4611686018427387904 := by decide
  unfold rngOk at h
  rw [small_iff] at h
  rw [e]
  omega
def iR1 (g : XA) : XI := fun ρ s => (g ρ s).bind fun ds s1 => match ds with
  | [.int n] => if rngOk n = true then .ok (rngD 0 n.toNat) s1 else .bad
  | _ => .bad
def iR2 (g : XA) : XI := fun ρ s => (g ρ s).bind fun ds s1 => match ds with
  | [.int i, .int n] => if (rngOk i && rngOk n) = true then .ok (rngD i (n - i).toNat) s1 else .bad
  | _ => .bad
theorem i_r1 {a : Expr} (hg : Gl X "range") (hm : X.mg "range" = none) (ha : PA X [a] (GA X.K Wx g)) (hs : starEach [a] X.env = [(false, eval a X.env)] := by rfl) : PI X tg (.Call (.Name "range" p) [a] [] pos) (GI X.K Wx (iR1 g)) :=
  piImp (pi_range1 hg hm ha hs) fun σ H R ⟨W0, W, ρ, s, e1, ok, en, q⟩ => by
    subst e1
    refine GA.mk ok en (Post.mono q.bind fun ds s1 W1 st1 ok1 q1 vs hvs => ?_)
    split at q1
    · rename_i n
      split at q1
      · rename_i hz
        cases hvs with
        | cons h1 h2 =>
          cases h2
          cases h1
          have hz' : -(2 ^ 62) ≤ n ∧ n < 2 ^ 62 := rngOk_to hz
          exact ⟨n, rfl, hz'.1, hz'.2, post_ok ok1 q1 _ it_rng⟩
      · exact q1.elim
    · exact q1.elim
theorem i_r2 {a b : Expr} (hg : Gl X "range") (hm : X.mg "range" = none) (ha : PA X [a, b] (GA X.K Wx g)) (hs : starEach [a, b] X.env = [(false, eval a X.env), (false, eval b X.env)] := by rfl) (hs2 : starEach [b] X.env = [(false, eval b X.env)] := by rfl) :
    PI X tg (.Call (.Name "range" p) [a, b] [] pos) (GI X.K Wx (iR2 g)) :=
  piImp (pi_range2 hg hm ha hs hs2) fun σ H R ⟨W0, W, ρ, s, e1, ok, en, q⟩ => by
    subst e1
    refine GA.mk ok en (Post.mono q.bind fun ds s1 W1 st1 ok1 q1 vs hvs => ?_)
    split at q1
    · rename_i i n
      split at q1
      · rename_i hz
        rw [Bool.and_eq_true] at hz
        cases hvs with
        | cons h1 h2 =>
          cases h2 with
          | cons h3 h4 =>
            cases h4
            cases h1
            cases h3
            have hz1 : -(2 ^ 62) ≤ i ∧ i < 2 ^ 62 := rngOk_to hz.1
            have hz2 : -(2 ^ 62) ≤ n ∧ n < 2 ^ 62 := rngOk_to hz.2
            exact ⟨i, n, rfl, ⟨hz1.1, hz1.2, hz2.1, hz2.2⟩, post_ok ok1 q1 _ it_rng⟩
      · exact q1.elim
    · exact q1.elim
/-- enumerate(a list) -/
def enumD : Nat → List D → List D
  | _, [] => []
  | n, d :: ds => .tuple [.int (n : Int), d] :: enumD (n + 1) ds
theorem enumD_len : ∀ (n : Nat) (ds : List D), (enumD n ds).length = ds.length
  | _, [] => rfl
  | n, d :: ds => by unfold enumD; rw [List.length_cons, List.length_cons, enumD_len]
theorem enumD_get : ∀ (n : Nat) (ds : List D) (i : Nat), (enumD n ds)[i]? = ds[i]?.map fun d => .tuple [.int ((n + i : Nat) : Int), d]
  | _, [], i => by simp [enumD]
  | n, d :: ds, 0 => by simp [enumD]
  | n, d :: ds, i + 1 => by
    unfold enumD
    rw [List.getElem?_cons_succ, List.getElem?_cons_succ, enumD_get]
    have e : n + 1 + i = n + (i + 1) := by omega
    rw [e]
theorem it_enum {K : PySem.W.Frag} {W : Wd} {a : Addr} {vs : List V} {ds : List D} (h : W.F a = some (.lst vs)) (hd : DrAll K W.ι W.F vs ds) : IterOk K (Ite K a) W (enumD 0 ds) := by
  refine ⟨_, _, by rw [enumD_len, ← hd.length]; exact walk_enum (xs := vs), fun W2 s2 m ok => SqL.of (ok.ex _ _ (m.exF _ _ h)), fun i v W2 s2 H' hi m ok y => ?_⟩
  obtain ⟨T, x, y, rfl, hT, rfl, e1, e2⟩ := y
  cases e1
  obtain ⟨d, h1, h2⟩ := hd.getV e2
  obtain ⟨a1, a2, a3⟩ := new_tup ok hT (.cons (.int (i : Int)) (.one (m.dr h2)))
  exact ⟨_, _, rfl, a1, a2, by rw [enumD_get, h1]; simp, a3⟩
def iEnumD (g : XA) : XI := fun ρ s => (g ρ s).bind fun ds s1 => match ds with
  | [.list ds] => .ok (enumD 0 ds) s1
  | _ => .bad
theorem i_enum {elts : List Expr} {kk : Nat} {tpos : Pos} (hg : Gl X "enumerate") (hm : X.mg "enumerate" = none) (ha : PA X [e] (GA X.K Wx g)) (hs : starEach [e] X.env = [(false, eval e X.env)] := by rfl) :
    PI X (.Tuple elts kk tpos) (.Call (.Name "enumerate" p) [e] [] pos) (GI X.K Wx (iEnumD g)) :=
  piImp (pi_enum hg hm ha hs) fun σ H R ⟨W0, W, ρ, s, e1, ok, en, q⟩ => by
    subst e1
    refine GA.mk ok en (Post.mono q.bind fun ds s1 W1 st1 ok1 q1 vs hvs => ?_)
    split at q1
    · cases hvs with
      | cons h1 h2 =>
        cases h2
        cases h1 with
        | lst h3 h4 => exact ⟨_, _, rfl, SqL.of (ok1.ex _ _ h3), post_ok ok1 q1 _ (it_enum h3 h4)⟩
    · exact q1.elim

/-! ### targets -/
abbrev XG := D → Env → Option Env
/-- names js may be stored -/
def GG (K : PySem.W.Frag) (js : List Nat) (t : XG) : TG := fun v σ H Q => ∃ W0 W ρ s d, W.H = H ∧ Ok K W s ∧ EnvR K W0 W σ ρ ∧ Dr K W.ι W.F v d ∧ ∃ ρ', t d ρ = some ρ' ∧ ∀ σ', EnvR K W0 W σ' ρ' → wipe σ' js = wipe σ js → Q σ' W.H
def gN (i : Nat) : XG := fun d ρ => some (ρ.set i (.val d))
theorem wipe_set {σ : St} {i : Nat} {x : Option V} : ∀ {js : List Nat}, i ∈ js → wipe (σ.set i x) js = wipe σ js
  | [], h => by simp at h
  | j :: js, h => by
    unfold wipe
    by_cases hj : j = i
    · subst hj
      by_cases hm : j ∈ js
      · rw [wipe_set hm]
      · have e : ∀ (js : List Nat) (τ : St), j ∉ js → wipe (τ.set j x) js = (wipe τ js).set j x := by
          intro js
          induction js with
          | nil => intro τ _; rfl
          | cons k ks ih =>
            intro τ hk
            unfold wipe
            rw [ih τ (fun z => hk (List.mem_cons_of_mem _ z)), List.set_comm _ _ (fun z => hk (by rw [z]; exact List.mem_cons_self))]
        rw [e js σ hm, List.set_set]
    · rw [wipe_set ((List.mem_cons.mp h).resolve_left (Ne.symm hj))]
theorem g_name {i : Nat} {x : Str} {js : List Nat} (hN : X.N.Nodup) (hi : X.N[i]? = some x := by rfl) (hx : Loc X.env.scope x := by first | exact Or.inl rfl | exact Or.inr rfl) (hj : i ∈ js := by decide)
    (hf : X.fn x = true ∨ X.env.scope.names.lookup x = some .local := by first | exact .inl rfl | exact .inr rfl | assumption) : PG X (.Name x pos) (GG X.K js (gN i)) := by
  have h := pg_name (X := X) (pos := pos) hN hi hx hf
  refine ⟨fun pins s σ H v u Q I r q => h.run pins s σ H v u Q I r ?_⟩
  obtain ⟨W0, W, ρ, s1, d, rfl, ok, en, dr, ρ', e, k⟩ := q
  cases e
  exact k _ (en.set dr) (wipe_set hj)
/-- several targets, from the left -/
abbrev XGs := List D → Env → Option Env
def GGs (K : PySem.W.Frag) (js : List Nat) (t : XGs) : TGs := fun vs σ H Q => ∃ W0 W ρ s ds, W.H = H ∧ Ok K W s ∧ EnvR K W0 W σ ρ ∧ DrAll K W.ι W.F vs ds ∧ ∃ ρ', t ds ρ = some ρ' ∧ ∀ σ', EnvR K W0 W σ' ρ' → wipe σ' js = wipe σ js → Q σ' W.H
def gsN : XGs := fun ds ρ => match ds with
  | [] => some ρ
  | _ => none
def gsC (t : XG) (u : XGs) : XGs := fun ds ρ => match ds with
  | d :: ds => (t d ρ).bind (u ds)
  | [] => none
theorem g_nil {js : List Nat} : PGs X [] (GGs X.K js gsN) := by
  refine ⟨fun pins s σ H vs us Q I r q => (pgs_nil (X := X)).run pins s σ H vs us Q I r ?_⟩
  obtain ⟨W0, W, ρ, s1, ds, rfl, ok, en, dr, ρ', e, k⟩ := q
  cases dr with
  | nil => cases e; exact ⟨rfl, k _ en rfl⟩
  | cons _ _ => cases e
theorem g_cons {e : Expr} {es : List Expr} {t : XG} {u : XGs} {js : List Nat} (h1 : PG X e (GG X.K js t)) (h2 : PGs X es (GGs X.K js u)) (hs : (assignEach (e :: es) X.env).map (·.2) = assign e X.env :: (assignEach es X.env).map (·.2) := by rfl) : PGs X (e :: es) (GGs X.K js (gsC t u)) := by
  refine ⟨fun pins s σ H vs us Q I r q => (pgs_cons h1 h2 hs).run pins s σ H vs us Q I r ?_⟩
  obtain ⟨W0, W, ρ, s1, ds, rfl, ok, en, dr, ρ', e, k⟩ := q
  cases dr with
  | nil => cases e
  | cons d1 d2 =>
    obtain ⟨ρ1, e1, e2⟩ := Option.bind_eq_some_iff.mp (show (t _ ρ).bind (u _) = some ρ' from e)
    refine ⟨_, _, rfl, W0, W, ρ, s1, _, rfl, ok, en, d1, ρ1, e1, fun σ1 en1 w1 => ?_⟩
    exact ⟨W0, W, ρ1, s1, _, rfl, ok, en1, d2, ρ', e2, fun σ2 en2 w2 => k σ2 en2 (w2.trans w1)⟩
def gT (n : Nat) (u : XGs) : XG := fun d ρ => match d with
  | .tuple ds => if ds.length = n then u ds ρ else none
  | _ => none
theorem g_tup {es : List Expr} {k n : Nat} {u : XGs} {js : List Nat} (hc : X.calm = true) (h : PGs X es (GGs X.K js u)) (hn : (assignEach es X.env).length = n := by rfl) (hst : (assignEach es X.env).findIdx? (·.1) = none := by rfl) : PG X (.Tuple es k pos) (GG X.K js (gT n u)) := by
  refine ⟨fun pins s σ H v w Q I r q => (pg_tup hc h hn hst).run pins s σ H v w Q I r ?_⟩
  obtain ⟨W0, W, ρ, s1, d, rfl, ok, en, dr, ρ', e, k⟩ := q
  unfold gT at e
  cases dr with
  | tup h1 h2 =>
    have e' : (if _ then u _ ρ else none) = some ρ' := e
    split at e'
    · rename_i hz
      exact ⟨_, _, rfl, SqT.of (ok.ex _ _ h1), by rw [h2.length]; exact hz, W0, W, ρ, s1, _, rfl, ok, en, h2, ρ', e', k⟩
    · cases e'
  | _ => cases e

/-! ### for -/
def forL (t : XG) (b : XS) : List D → XS
  | [] => fun ρ s => .next ρ s
  | d :: ds => fun ρ s => match t d ρ with
    | none => .bad
    | some ρ1 => match b ρ1 s with
      | .next ρ2 s2 => forL t b ds ρ2 s2
      | .cont ρ2 s2 => forL t b ds ρ2 s2
      | .brk ρ2 s2 => .next ρ2 s2
      | r => r
def sFor (m : XI) (t : XG) (b : XS) : XS := stX m (forL t b)
theorem PS.next {K : PySem.W.Frag} {W0 W : Wd} {D : Ends} {σ : St} {ρ : Env} {s : Sto} (p : PS K Wx W0 W D (.next ρ s)) (h : St2 K W0 W σ ρ s) : D.nx σ W.H := p σ W (Mon.refl W) h
theorem p_for {iter : Expr} {body : List Stmt} {m : XI} {t : XG} {b : XS} {js : List Nat} (hp : PassesOwn (model X.prog X.w) X.A X.env X.xe) (hc : X.calm = true) (hi : PI X tg iter (GI X.K Wx m)) (hg : PG X tg (GG X.K js t)) (hb : PSs X body (GS X.K Wx b))
    (hs : ∀ x, foldedSetIterable iter X.env x = pure x := by intro _; rfl) : L2.PS X (.For tg iter body [] pos) (GS X.K Wx (sFor m t b)) := psImp (ps_for hp hc hi hg hb hs) fun D σ H ⟨W0, W, ρ, s, e1, h, q⟩ => by
  subst e1
  refine GI.mk h.ok h.en (Post.mono (PS.x h q) fun ds s1 W1 _ _ q1 J hJ => ?_)
  obtain ⟨h1, q1⟩ := q1
  obtain ⟨G, Y, hw, hG, hY⟩ := hJ
  refine for_it hw (fun i σ H => ∃ W2 ρ2 s2, W2.H = H ∧ Mon W1 W2 ∧ St2 X.K W0 W2 σ ρ2 s2 ∧ PS X.K Wx W0 W2 D (forL t b (ds.drop i) ρ2 s2)) ⟨W1, ρ, s1, rfl, Mon.refl _, h1, q1⟩ ?_ ?_ ?_
  · rintro i σ2 H2 _ ⟨W2, ρ2, s2, rfl, m2, h2, _⟩
    exact hG W2 s2 m2 h2.ok
  · rintro i x σ2 H2 H3 hi ⟨W2, ρ2, s2, rfl, m2, h2, q2⟩ hy
    obtain ⟨W3, d, rfl, st3, ok3, hd, dr⟩ := hY i x W2 s2 H3 hi m2 h2.ok hy
    have h3 : St2 X.K W0 W3 σ2 ρ2 s2 := ⟨h2.st.trans st3, ok3, h2.en.step st3⟩
    have q3 := PS.later q2 st3.mon
    have ed : ds.drop i = d :: ds.drop (i + 1) := by
      obtain ⟨hl, e⟩ := List.getElem?_eq_some_iff.mp hd
      rw [List.drop_eq_getElem_cons hl, e]
    rw [ed] at q3
    unfold forL at q3
    cases et : t d ρ2 with
    | none => rw [et] at q3; exact q3.elim
    | some ρ3 =>
      rw [et] at q3
      refine ⟨W0, W3, ρ2, s2, d, rfl, ok3, h3.en, dr, ρ3, et, fun σ3 en3 _ => GS.mk ⟨h3.st, ok3, en3⟩ ?_⟩
      have q3' : PS X.K Wx W0 W3 D (match b ρ3 s2 with | .next ρ2 s2 => forL t b (ds.drop (i + 1)) ρ2 s2 | .cont ρ2 s2 => forL t b (ds.drop (i + 1)) ρ2 s2 | .brk ρ2 s2 => .next ρ2 s2 | r => r) := q3
      have mm := m2.trans st3.mon
      cases eb : b ρ3 s2 with
      | next ρ4 s4 => rw [eb] at q3'; exact fun σ4 W4 m4 h4 => ⟨W4, ρ4, s4, rfl, mm.trans m4, h4, PS.later q3' m4⟩
      | cont ρ4 s4 => rw [eb] at q3'; exact fun σ4 W4 m4 h4 => ⟨W4, ρ4, s4, rfl, mm.trans m4, h4, PS.later q3' m4⟩
      | brk ρ4 s4 => rw [eb] at q3'; exact q3'
      | ret d s4 => rw [eb] at q3'; exact q3'
      | exc c ρ4 s4 => rw [eb] at q3'; exact q3'
      | bad => rw [eb] at q3'; exact q3'
  · rintro σ2 H2 ⟨W2, ρ2, s2, rfl, m2, h2, q2⟩
    rw [List.drop_length] at q2
    exact PS.next q2 h2

/-! ### while -/
def whileN (t : XT) (b : XS) : Nat → XS
  | 0 => fun _ _ => .bad
  | n + 1 => fun ρ s => match t ρ s with
    | .ok true s1 => match b ρ s1 with
      | .next ρ2 s2 => whileN t b n ρ2 s2
      | .cont ρ2 s2 => whileN t b n ρ2 s2
      | .brk ρ2 s2 => .next ρ2 s2
      | r => r
    | .ok false s1 => .next ρ s1
    | .exc c s1 => .exc c ρ s1
    | .bad => .bad
theorem p_while {c : Expr} {body : List Stmt} {t : XT} {b : XS} {n : Nat} (hp : PassesOwn (model X.prog X.w) X.A X.env X.xe) (hc : PT X c (GT X.K Wx t)) (hb : PSs X body (GS X.K Wx b)) : L2.PS X (.While c body [] pos) (GS X.K Wx (whileN t b n)) := psImp (ps_while hp hc hb) fun D σ H ⟨W0, W, ρ, s, e1, h, q⟩ => by
  subst e1
  refine ⟨fun k σ H => ∃ W2 ρ2 s2, W2.H = H ∧ St2 X.K W0 W2 σ ρ2 s2 ∧ PS X.K Wx W0 W2 D (whileN t b k ρ2 s2), ⟨n, W, ρ, s, rfl, h, q⟩, ?_⟩
  rintro k σ2 H2 ⟨W2, ρ2, s2, rfl, h2, q2⟩
  cases k with
  | zero => exact q2.elim
  | succ k =>
    have q3 : PS X.K Wx W0 W2 D (stX t (fun k' ρ s1 => match k' with | true => (match b ρ s1 with | .next ρ2 s2 => whileN t b k ρ2 s2 | .cont ρ2 s2 => whileN t b k ρ2 s2 | .brk ρ2 s2 => .next ρ2 s2 | r => r) | false => .next ρ s1) ρ2 s2) := by
      have q2' : PS X.K Wx W0 W2 D (match t ρ2 s2 with | .ok true s1 => (match b ρ2 s1 with | .next ρ2 s2 => whileN t b k ρ2 s2 | .cont ρ2 s2 => whileN t b k ρ2 s2 | .brk ρ2 s2 => .next ρ2 s2 | r => r) | .ok false s1 => .next ρ2 s1 | .exc c s1 => .exc c ρ2 s1 | .bad => .bad) := q2
      unfold stX
      cases et : t ρ2 s2 with
      | ok k' s1 => rw [et] at q2'; cases k' <;> exact q2'
      | exc c s1 => rw [et] at q2'; exact q2'
      | bad => rw [et] at q2'; exact q2'
    refine GT.mk h2.ok h2.en (Post.mono (PS.x h2 q3) fun k' s3 W3 _ _ q4 => ?_)
    obtain ⟨h3, q4⟩ := q4
    cases k' with
    | false => rw [if_neg Bool.false_ne_true]; exact PS.next q4 h3
    | true =>
      rw [if_pos rfl]
      refine ⟨fun σ H => ∃ W4 ρ4 s4, W4.H = H ∧ St2 X.K W0 W4 σ ρ4 s4 ∧ PS X.K Wx W0 W4 D (whileN t b k ρ4 s4), fun σ' H' h' => ⟨k, Nat.lt_succ_self k, h'⟩, GS.mk h3 ?_⟩
      have q5 : PS X.K Wx W0 W3 D (match b ρ2 s3 with | .next ρ2 s2 => whileN t b k ρ2 s2 | .cont ρ2 s2 => whileN t b k ρ2 s2 | .brk ρ2 s2 => .next ρ2 s2 | r => r) := q4
      cases eb : b ρ2 s3 with
      | next ρ4 s4 => rw [eb] at q5; exact fun σ4 W4 m4 h4 => ⟨W4, ρ4, s4, rfl, h4, PS.later q5 m4⟩
      | cont ρ4 s4 => rw [eb] at q5; exact fun σ4 W4 m4 h4 => ⟨W4, ρ4, s4, rfl, h4, PS.later q5 m4⟩
      | brk ρ4 s4 => rw [eb] at q5; exact q5
      | ret d s4 => rw [eb] at q5; exact q5
      | exc c ρ4 s4 => rw [eb] at q5; exact q5
      | bad => rw [eb] at q5; exact q5
end
end M

/-! M, part 7: comprehensions; more built-ins. -/
namespace M
open PySem L2
open PyProof.Rows (envOfC)

def wipeD (ρ : Env) : List Nat → Env
  | [] => ρ
  | v :: vs => (wipeD ρ vs).set v .no
theorem EnvR.setNo {K : PySem.W.Frag} {W0 W : Wd} {σ : St} {ρ : Env} (h : EnvR K W0 W σ ρ) (i : Nat) : EnvR K W0 W (σ.set i none) (ρ.set i .no) := by
  refine ⟨by rw [List.length_set, List.length_set]; exact h.len, fun j d' e => ?_, ?_⟩
  · rcases get_set e with ⟨rfl, e1⟩ | ⟨hj, e1⟩
    · cases e1
    · obtain ⟨w, q1, q2⟩ := h.val j d' e1
      exact ⟨w, by rw [List.getElem?_set_ne (Ne.symm hj)]; exact q1, q2⟩
  · obtain ⟨oa, h1, h2⟩ := h.own
    refine ⟨oa, fun j xs e => ?_, fun j k xs ys e1 e2 => ?_⟩
    · rcases get_set e with ⟨rfl, e1⟩ | ⟨hj, e1⟩
      · cases e1
      · obtain ⟨q1, q⟩ := h1 j xs e1
        exact ⟨by rw [List.getElem?_set_ne (Ne.symm hj)]; exact q1, q⟩
    · rcases get_set e1 with ⟨rfl, e3⟩ | ⟨_, e3⟩
      · cases e3
      · rcases get_set e2 with ⟨rfl, e4⟩ | ⟨_, e4⟩
        · cases e4
        · exact h2 j k xs ys e3 e4
theorem EnvR.wipe {K : PySem.W.Frag} {W0 W : Wd} {σ : St} {ρ : Env} (h : EnvR K W0 W σ ρ) : ∀ vs : List Nat, EnvR K W0 W (L2.wipe σ vs) (wipeD ρ vs)
  | [] => h
  | v :: vs => (EnvR.wipe h vs).setNo v
theorem wipe_none {σ : St} {j : Nat} : ∀ {vs : List Nat}, j ∈ vs → ∀ x, (L2.wipe σ vs)[j]? = some x → x = none
  | [], h, _, _ => by simp at h
  | v :: vs, h, x, e => by
    unfold L2.wipe at e
    rcases get_set e with ⟨_, e1⟩ | ⟨hj, e1⟩
    · exact e1
    · exact wipe_none ((List.mem_cons.mp h).resolve_left hj) x e1
theorem wipe_get {σ : St} {j : Nat} : ∀ {vs : List Nat}, j ∉ vs → (L2.wipe σ vs)[j]? = σ[j]?
  | [], _ => rfl
  | v :: vs, h => by
    unfold L2.wipe
    rw [List.getElem?_set_ne (fun z => h (by rw [z]; exact List.mem_cons_self))]
    exact wipe_get fun z => h (List.mem_cons_of_mem _ z)
theorem wipe_wipe {σ : St} {vs : List Nat} : L2.wipe (L2.wipe σ vs) vs = L2.wipe σ vs := by
  apply List.ext_getElem?
  intro j
  by_cases hj : j ∈ vs
  · cases e : (L2.wipe σ vs)[j]? with
    | none =>
      rw [List.getElem?_eq_none_iff] at e
      rw [List.getElem?_eq_none_iff, wipe_length]
      exact e
    | some x =>
      have hx := wipe_none hj x e
      subst hx
      obtain ⟨hl, _⟩ := List.getElem?_eq_some_iff.mp e
      have hl2 : j < (L2.wipe (L2.wipe σ vs) vs).length := by rw [wipe_length]; exact hl
      have e2 := List.getElem?_eq_getElem hl2
      rw [e2]
      exact congrArg some (wipe_none hj _ e2)
  · rw [wipe_get hj]

def Out.nx {α : Type} (o : Out α) : Out α := match o with
  | .exc _ _ => .bad
  | o => o
@[simp] theorem nx_ok {α : Type} (a : α) (s : Sto) : (Out.ok a s).nx = .ok a s := rfl
@[simp] theorem nx_exc {α : Type} (c : Str) (s : Sto) : (Out.exc c s : Out α).nx = .bad := rfl
@[simp] theorem nx_bad {α : Type} : (Out.bad : Out α).nx = .bad := rfl
abbrev W0x : WX := fun _ _ _ _ => False
theorem Post.nx {α : Type} {K : PySem.W.Frag} {W : Wd} {o : Out α} {Q : α → Sto → Wd → Prop} {E : Str → Wd → Prop} {E' : Str → Wd → Prop} (h : Post K W o.nx Q E) : Post K W o Q E' := by
  cases o with
  | ok a s => exact h
  | exc c s => exact h.elim
  | bad => exact h
theorem Post.exc {α : Type} {K : PySem.W.Frag} {W : Wd} {o : Out α} {Q : α → Sto → Wd → Prop} {E E' : Str → Wd → Prop} (h : Post K W o Q E) (i : ∀ c W', E c W' → E' c W') : Post K W o Q E' := by
  cases o with
  | ok a s => exact h
  | exc c s => exact fun W' st ok => i c W' (h W' st ok)
  | bad => exact h
def tAll : XT := fun _ s => .ok true s
def compL (t : XG) (c : XT) (e : XE) (vs : List Nat) : List D → List D → Env → Sto → Out (List D)
  | [], acc, _, s => .ok acc s
  | d :: ds, acc, ρ, s => match t d (wipeD ρ vs) with
    | none => .bad
    | some ρ1 => (c ρ1 s).nx.bind fun k s1 => if k = true then (e ρ1 s1).nx.bind fun y s2 => if acc.length < sizeLine then compL t c e vs ds (acc ++ [y]) ρ s2 else .bad else compL t c e vs ds acc ρ s1
def xComp (m : XI) (t : XG) (c : XT) (e : XE) (vs : List Nat) : XE := fun ρ s => (m ρ s).bind fun ds s1 => (compL t c e vs ds [] ρ s1).bind fun ys s2 => .ok (.list ys) s2
/-- a cell that W1 does not know is changed -/
theorem cell_upd {K : PySem.W.Frag} {W1 W2 : Wd} {s : Sto} {p : Addr} {o : HO} (st : Step W1 W2) (ok : Ok K W2 s) (h1 : W1.H p = none) (h3 : W2.F p = none) (h4 : ¬ W2.T p) : Step W1 { W2 with H := upd W2.H p o } ∧ Ok K { W2 with H := upd W2.H p o } s := by
  have nt : ∀ b, W2.T b → b ≠ p := fun b hb z => h4 (by rw [← z]; exact hb)
  refine ⟨⟨st.pre, st.exF, fun b hb => ?_, fun b u hb ht => ?_, st.newT, st.newF⟩, ⟨fun b u hb => ?_, fun b hb => ?_, ?_⟩⟩
  · show upd W2.H p o b ≠ none
    rw [upd_ne (fun z => hb (by rw [z]; exact h1))]; exact st.dom b hb
  · show upd W2.H p o b = some u
    rw [upd_ne (fun z => by rw [z, h1] at hb; cases hb)]; exact st.keep b u hb ht
  · show upd W2.H p o b = some u
    rw [upd_ne (fun z => by rw [z, h3] at hb; cases hb)]; exact ok.ex b u hb
  · show upd W2.H p o b ≠ none
    rw [upd_ne (nt b hb)]; exact ok.td b hb
  · exact ok.st.kept rfl (fun _ z => z) (Ex.refl _) (fun _ _ z => z) fun b u hb z => by
      show upd W2.H p o b = some u
      rw [upd_ne (nt b hb)]; exact z
/-- the base of what is wished stays -/
theorem Post.from {α : Type} {K : PySem.W.Frag} {W W1 : Wd} {o : Out α} {Q : α → Sto → Wd → Prop} {E : Str → Wd → Prop} (h : Post K W o Q E) (st : Step W W1) : Post K W1 o Q E := by
  cases o with
  | ok a s => exact fun W' st' ok => h W' (st.trans st') ok
  | exc c s => exact fun W' st' ok => h W' (st.trans st') ok
  | bad => exact h
theorem Post.bindB {α β : Type} {K : PySem.W.Frag} {W W1 : Wd} {o : Out α} {f : α → Sto → Out β} {Q : β → Sto → Wd → Prop} {E : Str → Wd → Prop} (h : Post K W (o.bind f) Q E) (st : Step W W1) : Post K W1 o (fun a s _ => Post K W (f a s) Q E) E := by
  cases o with
  | ok a s => exact fun W' _ _ => h
  | exc c s => exact fun W' st' ok => h W' (st.trans st') ok
  | bad => exact h
section
variable {X : Cx} {Wx : WX} {pos : Pos}
theorem gx_comp {K : PySem.W.Frag} {m : XI} {t : XG} {c : XT} {e : XE} {vs : List Nat} : ∀ σ H Q, GX K (rN K) Wx (xComp m t c e vs) σ H Q → tLc (GI K Wx m) (GG K vs t) (GT K W0x c) (GX K (aft (rD K)) W0x e) vs σ H Q := by
  rintro σ H Q ⟨W0, W, ρ, s, rfl, ok, en, p⟩
  refine GI.mk ok en (Post.mono p.bind fun ds s1 W1 st1 ok1 p1 J hJ P hP => ?_)
  obtain ⟨G, Y, hw, hG, hY⟩ := hJ
  have hPW : W.H P = none := by
    cases q : W.H P with
    | none => rfl
    | some o => exact absurd hP (st1.dom P (by rw [q]; exact fun z => by cases z))
  have en1 := en.step st1
  refine lc_it hw (fun i H => ∃ W2 s2 accD accV, W2.H = H ∧ Step W1 W2 ∧ Ok K W2 s2 ∧ W2.H P = some (.lst accV) ∧ W2.F P = none ∧ ¬ W2.T P ∧ DrAll K W2.ι W2.F accV accD ∧
      Post K W1 ((compL t c e vs (ds.drop i) accD ρ s2).bind fun ys s2 => .ok (.list ys) s2) (fun d _ W' => ∀ v, rN K W W' v d → Q v W'.H) (wexc K Wx σ)) ?_ ?_ ?_ ?_
  · obtain ⟨a1, a2⟩ := step_new (o := .lst []) ok1 hP
    refine ⟨_, s1, [], [], rfl, a1, a2, upd_same, fnone ok1 hP, tnone ok1 hP, .nil, ?_⟩
    rw [List.drop_zero]
    exact p1
  · rintro i H2 _ ⟨W2, s2, accD, accV, rfl, st2, ok2, _⟩
    exact hG W2 s2 st2.mon ok2
  · rintro i x H2 H3 hi ⟨W2, s2, accD, accV, rfl, st2, ok2, g1, g2, g3, g4, q⟩ hy
    obtain ⟨W3, d, rfl, st3, ok3, hd, dr⟩ := hY i x W2 s2 H3 hi st2.mon ok2 hy
    have ed : ds.drop i = d :: ds.drop (i + 1) := by
      obtain ⟨hl, e⟩ := List.getElem?_eq_some_iff.mp hd
      rw [List.drop_eq_getElem_cons hl, e]
    rw [ed] at q
    unfold compL at q
    have st13 := st2.trans st3
    have en3 := (en1.step st13).wipe vs
    cases et : t d (wipeD ρ vs) with
    | none => rw [et] at q; exact q.elim
    | some ρ1 =>
      rw [et] at q
      refine ⟨W0, W3, wipeD ρ vs, s2, d, rfl, ok3, en3, dr, ρ1, et, fun σ' en' hw' => ⟨hw'.trans wipe_wipe, ?_⟩⟩
      have q1 : Post K W1 (((c ρ1 s2).nx.bind fun k s1 => if k = true then (e ρ1 s1).nx.bind fun y s2 => if accD.length < sizeLine then compL t c e vs (ds.drop (i + 1)) (accD ++ [y]) ρ s2 else .bad else compL t c e vs (ds.drop (i + 1)) accD ρ s1).bind fun ys s2 => .ok (.list ys) s2) (fun d _ W' => ∀ v, rN K W W' v d → Q v W'.H) (wexc K Wx σ) := q
      have hne : W2.H P ≠ none := by rw [g1]; exact fun z => by cases z
      have q2 := Post.bindB q1 (W1 := W3) st13
      have q3 : Post K W3 (c ρ1 s2).nx (fun k s1 _ => Post K W1 ((if k = true then (e ρ1 s1).nx.bind fun y s2 => if accD.length < sizeLine then compL t c e vs (ds.drop (i + 1)) (accD ++ [y]) ρ s2 else .bad else compL t c e vs (ds.drop (i + 1)) accD ρ s1).bind fun ys s2 => .ok (.list ys) s2) (fun d _ W' => ∀ v, rN K W W' v d → Q v W'.H) (wexc K Wx σ)) (wexc K Wx σ) := by
        cases ho : (c ρ1 s2).nx with
        | ok a s => rw [ho] at q1; exact fun W' _ _ => q1
        | exc c s => rw [ho] at q1; exact fun W' st' ok' => q1 W' (st13.trans st') ok'
        | bad => rw [ho] at q1; exact q1
      refine GT.mk ok3 en' (Post.mono (Post.nx q3) fun k s4 W4 st4 ok4 q4 => ?_)
      have st14 := st13.trans st4
      have st24 := st3.trans st4
      have c1 := st24.keep _ _ g1 g3
      have c2 := st24.newF _ g2 hne g3
      have c3 : ¬ W4.T P := fun z => (st24.newT _ z).elim g3 hne
      have c4 := st24.drAll g4
      cases k with
      | false =>
        rw [if_neg Bool.false_ne_true]
        rw [if_neg Bool.false_ne_true] at q4
        exact ⟨W4, s4, accD, accV, rfl, st14, ok4, c1, c2, c3, c4, q4⟩
      | true =>
        rw [if_pos rfl]
        rw [if_pos rfl] at q4
        have q5 : Post K W4 (e ρ1 s4).nx (fun y s5 _ => Post K W1 ((if accD.length < sizeLine then compL t c e vs (ds.drop (i + 1)) (accD ++ [y]) ρ s5 else .bad).bind fun ys s2 => .ok (.list ys) s2) (fun d _ W' => ∀ v, rN K W W' v d → Q v W'.H) (wexc K Wx σ)) (wexc K Wx σ) := by
          cases ho : (e ρ1 s4).nx with
          | ok a s => rw [ho] at q4; exact fun W' _ _ => q4
          | exc c s => rw [ho] at q4; exact fun W' st' ok' => q4 W' (st14.trans st') ok'
          | bad => rw [ho] at q4; exact q4
        refine GX.mk ok4 (en'.step st4) (Post.mono (Post.nx q5) fun y s5 W5 st5 ok5 q6 v hv => ?_)
        have hne4 : W4.H P ≠ none := by rw [c1]; exact fun z => by cases z
        have e1 := st5.keep _ _ c1 c3
        have e2 := st5.newF _ c2 hne4 c3
        have e3 : ¬ W5.T P := fun z => (st5.newT _ z).elim c3 hne4
        have e4 := st5.drAll c4
        by_cases hz : accD.length < sizeLine
        · rw [if_pos hz] at q6
          refine ⟨accV, e1, by rw [e4.length]; exact hz, ?_⟩
          obtain ⟨a1, a2⟩ := cell_upd (o := .lst (accV ++ [v])) (st14.trans st5) ok5 hP e2 e3
          exact ⟨_, s5, accD ++ [y], accV ++ [v], rfl, a1, a2, upd_same, e2, e3, e4.append (.one hv), q6⟩
        · rw [if_neg hz] at q6; exact q6.elim
  · rintro H2 ⟨W2, s2, accD, accV, rfl, st2, ok2, g1, g2, g3, g4, q⟩
    rw [List.drop_length] at q
    exact q W2 st2 ok2 _ ⟨P, accD, accV, rfl, rfl, hPW, g1, g2, g3, g4⟩
theorem gt_all {K : PySem.W.Frag} : ∀ σ H (Q : Bool → Hp → Prop), GT K Wx tAll σ H Q → tYes σ H Q := by
  rintro σ H Q ⟨W0, W, ρ, s, rfl, ok, en, p⟩
  exact post_ok ok p
theorem ptsImp {ifs : List Expr} {t t' : TT} (h : PTs X ifs t) (i : ∀ σ H Q, t' σ H Q → t σ H Q) : PTs X ifs t' := ⟨fun pins s σ H Q I q => h.run pins s σ H Q I (i σ H Q q)⟩
theorem c_nil : PTs X [] (GT X.K Wx tAll) := ptsImp pts_nil gt_all
theorem c_one {c : Expr} {t : XT} (h : PT X c (GT X.K Wx t)) : PTs X [c] (GT X.K Wx t) := pts_one h
theorem n_comp {elt tg iter : Expr} {ifs : List Expr} {scope : Scope} {own : List (Str × Nat)} {m : XI} {t : XG} {c : XT} {e : XE} (hc : X.calm = true) (hN : X.N.Nodup) (hi : PI X tg iter (GI X.K Wx m)) (ok : BlkOk X.N X.env.scope scope own)
    (hg : ∀ (s : Shared) (H : Hp) (C : Addr) (cl : List (Str × Addr)) (fp : List Addr), PG (X.blk s H scope (compEnvC scope cl C X.env) fp) tg (GG X.K (own.map (·.2)) t))
    (ht : ∀ (s : Shared) (H : Hp) (C : Addr) (cl : List (Str × Addr)) (fp : List Addr), PTs (X.blk s H scope (compEnvC scope cl C X.env) fp) ifs (GT X.K W0x c))
    (he : ∀ (s : Shared) (H : Hp) (C : Addr) (cl : List (Str × Addr)) (fp : List Addr), PE (X.blk s H scope (compEnvC scope cl C X.env) fp) elt (GX X.K (aft (rD X.K)) W0x e)) (hs : ∀ x, foldedSetIterable iter X.env x = pure x := by intro _; rfl) :
    PE X (.ListComp elt [⟨tg, iter, ifs, 0⟩] scope pos) (GX X.K (rN X.K) Wx (xComp m t c e (own.map (·.2)))) := peImp (pe_lc hc hN hi ok hg ht he hs) gx_comp
/-- name = [..] -/
theorem p_setComp {i : Nat} {y : Str} {py : Pos} {elt tg iter : Expr} {ifs : List Expr} {scope : Scope} {own : List (Str × Nat)} {spos : Pos} {m : XI} {t : XG} {c : XT} {e : XE} (hc : X.calm = true) (hN : X.N.Nodup)
    (hi : PI X tg iter (GI X.K Wx m)) (ok : BlkOk X.N X.env.scope scope own)
    (hg : ∀ (s : Shared) (H : Hp) (C : Addr) (cl : List (Str × Addr)) (fp : List Addr), PG (X.blk s H scope (compEnvC scope cl C X.env) fp) tg (GG X.K (own.map (·.2)) t))
    (ht : ∀ (s : Shared) (H : Hp) (C : Addr) (cl : List (Str × Addr)) (fp : List Addr), PTs (X.blk s H scope (compEnvC scope cl C X.env) fp) ifs (GT X.K W0x c))
    (he : ∀ (s : Shared) (H : Hp) (C : Addr) (cl : List (Str × Addr)) (fp : List Addr), PE (X.blk s H scope (compEnvC scope cl C X.env) fp) elt (GX X.K (aft (rD X.K)) W0x e))
    (hsw : swapsWith (.ListComp elt [⟨tg, iter, ifs, 0⟩] scope pos) (some (.Name y py)) spos.line X.env = pure true)
    (hy : X.N[i]? = some y := by rfl) (hyl : X.env.scope.names.lookup y = some .local := by rfl) (hs : ∀ x, foldedSetIterable iter X.env x = pure x := by intro _; rfl) :
    L2.PS X (.Assign [.Name y py] (.ListComp elt [⟨tg, iter, ifs, 0⟩] scope pos) spos) (GS X.K Wx (sSet i (xComp m t c e (own.map (·.2))))) := psImp (ps_setLc hc hN hy hyl hsw hi ok hg ht he hs) fun D σ H ⟨W0, W, ρ, s, e1, h, p⟩ => by
  subst e1
  refine gx_comp σ W.H _ (GX.mk h.ok h.en ?_)
  have p0 := PS.x h p
  cases ho : xComp m t c e (own.map (·.2)) ρ s with
  | ok d s1 =>
    rw [ho] at p0
    intro W1 st1 ok1 v hv
    obtain ⟨p', xs, vs, h1, h2, h3, h4, h5, h6, h7⟩ := hv
    subst h1 h2
    obtain ⟨st2, ok2, dr⟩ := freezeW st1 ok1 h3 h4 h5 h6 h7
    obtain ⟨q1, q2⟩ := p0 _ st2 ok2
    exact q2 _ { W1 with F := upd W1.F p' (.lst vs) } (Mon.refl _) ⟨q1.st, q1.ok, q1.en.set dr⟩
  | exc c s1 => rw [ho] at p0; exact p0
  | bad => rw [ho] at p0; exact p0
theorem p_ownComp {i : Nat} {y : Str} {py : Pos} {elt tg iter : Expr} {ifs : List Expr} {scope : Scope} {own : List (Str × Nat)} {spos : Pos} {m : XI} {t : XG} {c : XT} {e : XE} (hc : X.calm = true) (hN : X.N.Nodup)
    (hi : PI X tg iter (GI X.K Wx m)) (ok : BlkOk X.N X.env.scope scope own)
    (hg : ∀ (s : Shared) (H : Hp) (C : Addr) (cl : List (Str × Addr)) (fp : List Addr), PG (X.blk s H scope (compEnvC scope cl C X.env) fp) tg (GG X.K (own.map (·.2)) t))
    (ht : ∀ (s : Shared) (H : Hp) (C : Addr) (cl : List (Str × Addr)) (fp : List Addr), PTs (X.blk s H scope (compEnvC scope cl C X.env) fp) ifs (GT X.K W0x c))
    (he : ∀ (s : Shared) (H : Hp) (C : Addr) (cl : List (Str × Addr)) (fp : List Addr), PE (X.blk s H scope (compEnvC scope cl C X.env) fp) elt (GX X.K (aft (rD X.K)) W0x e))
    (hsw : swapsWith (.ListComp elt [⟨tg, iter, ifs, 0⟩] scope pos) (some (.Name y py)) spos.line X.env = pure true)
    (hy : X.N[i]? = some y := by rfl) (hyl : X.env.scope.names.lookup y = some .local := by rfl) (hs : ∀ x, foldedSetIterable iter X.env x = pure x := by intro _; rfl) :
    L2.PS X (.Assign [.Name y py] (.ListComp elt [⟨tg, iter, ifs, 0⟩] scope pos) spos) (GS X.K Wx (sOwn i (xComp m t c e (own.map (·.2))))) := psImp (ps_setLc hc hN hy hyl hsw hi ok hg ht he hs) fun D σ H ⟨W0, W, ρ, s, e1, h, p⟩ => by
  subst e1
  refine gx_comp σ W.H _ (GX.mk h.ok h.en (Post.mono (PS.x h p) fun d s1 W1 st1 ok1 q v hv => ?_))
  obtain ⟨p', xs, vs, h1, h2, h3, h4, h5, h6, h7⟩ := hv
  subst h1 h2
  exact q.2 _ W1 (Mon.refl W1) ⟨q.1.st, q.1.ok, h.en.setOwn h.st st1 h3 h4 h5 h6 h7⟩
end
end M

/-! M, part 8: more built-ins. -/
namespace M
open PySem L2
section
variable {X : Cx} {Wx : WX} {pos : Pos} {a b : Expr} {f f1 f2 : XE} {g : XA}
theorem bt_isinstance : bootBuiltins "isinstance" = some (.builtin "isinstance") := by decide +kernel
theorem bt_max : bootBuiltins "max" = some (.builtin "max") := by decide +kernel
theorem bt_min : bootBuiltins "min" = some (.builtin "min") := by decide +kernel
theorem bt_sum : bootBuiltins "sum" = some (.builtin "sum") := by decide +kernel
theorem bt_sorted : bootBuiltins "sorted" = some (.builtin "sorted") := by decide +kernel
theorem bt_len : bootBuiltins "len" = some (.builtin "len") := by decide +kernel
theorem bt_tuple : bootBuiltins "tuple" = some (.type "tuple") := by decide +kernel
theorem bt_list : bootBuiltins "list" = some (.type "list") := by decide +kernel
theorem bt_int : bootBuiltins "int" = some (.type "int") := by decide +kernel
theorem bt_str : bootBuiltins "str" = some (.type "str") := by decide +kernel
theorem bt_bool : bootBuiltins "bool" = some (.type "bool") := by decide +kernel
/-! ### isinstance -/
def typD : D → Option String
  | .none => some "NoneType"
  | .bool _ => some "bool"
  | .int _ => some "int"
  | .str _ => some "str"
  | .list _ => some "list"
  | .tuple _ => some "tuple"
  | .dict _ => none
inductive Kd where
  | int | bool | str | tuple | list
def Kd.nm : Kd → String
  | .int => "int"
  | .bool => "bool"
  | .str => "str"
  | .tuple => "tuple"
  | .list => "list"
def isiB : Kd → D → Option Bool
  | _, .dict _ => none
  | .int, .int _ => some true
  | .int, .bool _ => some true
  | .bool, .bool _ => some true
  | .str, .str _ => some true
  | .tuple, .tuple _ => some true
  | .list, .list _ => some true
  | _, _ => some false
def isiD (T : Kd) (d : D) : Option D := (isiB T d).map .bool
theorem isi_kit {T : Kd} {d : D} {k : Bool} (h : isiB T d = some k) : ∃ t, typD d = some t ∧ kitB t T.nm = some k := by
  cases d with
  | dict _ => cases T <;> cases h
  | none => cases T <;> cases h <;> exact ⟨_, rfl, by kernel_rfl⟩
  | bool b => cases T <;> cases h <;> exact ⟨_, rfl, by kernel_rfl⟩
  | int i => cases T <;> cases h <;> exact ⟨_, rfl, by kernel_rfl⟩
  | str x => cases T <;> cases h <;> exact ⟨_, rfl, by kernel_rfl⟩
  | list ds => cases T <;> cases h <;> exact ⟨_, rfl, by kernel_rfl⟩
  | tuple ds => cases T <;> cases h <;> exact ⟨_, rfl, by kernel_rfl⟩
theorem tyx_of {K : PySem.W.Frag} {W : Wd} {s : Sto} (ok : Ok K W s) {v : V} {d : D} {t : String} (h : rU K W v d) (e : typD d = some t) : TyX K W.H v (.type t) := by
  cases d with
  | none => cases e; rw [h.non]; exact .base .non
  | bool b => cases e; rw [h.bl]; exact .base (.bl b)
  | int i => cases e; rw [h.int]; exact .base (.int i)
  | str x => cases e; rw [h.str]; exact .base (.str x)
  | list ds => cases e; obtain ⟨p, vs, rfl, h2, _⟩ := h.list ok; exact .base (.lst h2)
  | tuple ds => cases e; obtain ⟨p, vs, rfl, _, h2, _⟩ := h.tup ok; exact .base (.tup h2)
  | dict _ => cases e
theorem d_isi {T : Str} {T' : Kd} {p p2 : Pos} (hg : Gl X "isinstance") (hm : X.mg "isinstance" = none) (hgT : Gl X T) (hmT : X.mg T = none) (hvT : bootBuiltins T = some (.type T'.nm)) (ha : PE X a (GX X.K (aft (rU X.K)) Wx f))
    (hs : starEach (a :: [.Name T p2]) X.env = (false, eval a X.env) :: starEach [.Name T p2] X.env := by rfl) (hs2 : starEach (.Name T p2 :: []) X.env = (false, eval (.Name T p2) X.env) :: starEach [] X.env := by rfl)
    (hpl : (backTo pos (starEach [.Name T p2] X.env)).any (·.1) = false := by rfl) (hnT : T ≠ "__name__" := by decide) (hdT : (T == ("__debug__" : Str)) = false := by decide) :
    PE X (.Call (.Name "isinstance" p) [a, .Name T p2] [] pos) (GX X.K (aft (rD X.K)) Wx (x1 (isiD T') f)) :=
  peImp (pe_callB call_isi hg hm bt_isinstance (pa_cons ha (pa_cons (pe_bltn (v := .ty T'.nm) hgT hmT hvT rfl hnT hdT) pa_nil hs2) hs) (by decide) (by decide) hs hpl) fun σ H Q ⟨W0, W, ρ, s, e1, ok, en, q⟩ => by
    subst e1
    refine GX.mk ok en (Post.mono q.bind fun d s1 W1 st1 ok1 q1 v hv => ?_)
    obtain ⟨d', e, q2⟩ := q1.lift
    obtain ⟨k, e3, rfl⟩ := Option.map_eq_some_iff.mp (show (isiB T' d).map PyData.bool = some d' from e)
    obtain ⟨t, e1, e2⟩ := isi_kit e3
    exact ⟨v, .ty T'.nm, .type t, .type T'.nm, k, rfl, .ty T'.nm, tyx_of ok1 hv e1, kit_ty e2, q2 W1 (Step.refl _) ok1 _ (.bl k)⟩

/-! ### sorted -/
theorem CallR.or2 {f : Value} {r r' : List V → Hp → VK → Prop} (h : CallR X f r) (h' : CallR X f r') : CallR X f (fun xs H Q => r xs H Q ∨ r' xs H Q) := h.or h'
def pairsOf : List D → Option (List (Int × Int))
  | [] => some []
  | .tuple [.int i, .int j] :: r => (pairsOf r).map ((i, j) :: ·)
  | _ :: _ => none
def pairD (p : Int × Int) : D := .tuple [.int p.1, .int p.2]
def leP (p q : Int × Int) : Bool := decide (p.1 < q.1 ∨ (p.1 = q.1 ∧ p.2 ≤ q.2))
def leI (i j : Int) : Bool := decide (i ≤ j)
def sortedD : D → Option D
  | .list ds => match intsOf ds with
    | some ns => some (.list ((ns.mergeSort leI).map .int))
    | none => (pairsOf ds).map fun ps => .list ((ps.mergeSort leP).map pairD)
  | _ => none
theorem pairs_dr {K : PySem.W.Frag} {ι : List Addr} {F : Hp} : ∀ {vs : List V} {ds : List D} {ps : List (Int × Int)}, DrAll K ι F vs ds → pairsOf ds = some ps → ∃ k : V → Int × Int, vs.map k = ps ∧ ∀ x ∈ vs, ∃ t, x = .ref t ∧ F t = some (.tup [.int (k x).1, .int (k x).2]) := by
  intro vs ds ps h e
  let k : V → Int × Int := fun x => match x with
    | .ref t => (match F t with
      | some (.tup [.int i, .int j]) => (i, j)
      | _ => (0, 0))
    | _ => (0, 0)
  refine ⟨k, ?_⟩
  induction ds generalizing vs ps with
  | nil => cases h; cases e; exact ⟨rfl, fun x hx => by simp at hx⟩
  | cons d r ih =>
    unfold pairsOf at e
    split at e
    · rename_i hcon; cases hcon
    · rename_i i j r' hcon
      cases hcon
      obtain ⟨qs, e1, rfl⟩ := Option.map_eq_some_iff.mp e
      cases h with
      | cons h1 h2 =>
        obtain ⟨i1, i2⟩ := ih h2 e1
        cases h1 with
        | tup h3 h4 =>
          cases h4 with
          | cons h5 h6 =>
            cases h5
            cases h6 with
            | cons h7 h8 =>
              cases h7
              cases h8
              rename_i t
              have hk : k (.ref t) = (i, j) := by
                show (match F t with | some (.tup [.int i, .int j]) => (i, j) | _ => (0, 0)) = (i, j)
                rw [h3]
              refine ⟨by rw [List.map_cons, hk, i1], fun x hx => ?_⟩
              rcases List.mem_cons.mp hx with rfl | hx
              · exact ⟨t, rfl, by rw [hk]; exact h3⟩
              · exact i2 x hx
    · cases e
theorem o_sorted {K : PySem.W.Frag} : C1D K (rN K) (fun xs H Q => rSortedI K xs H Q ∨ rSortedPO K xs H Q) sortedD := by
  intro W s v d d' Q ok h e q
  unfold sortedD at e
  split at e
  · rename_i ds
    obtain ⟨a, vs, rfl, h2, h3⟩ := h.list ok
    split at e
    · rename_i ns hns
      cases e
      have ev := ints_dr h3 hns
      subst ev
      refine .inl ⟨a, ns, rfl, SqL.of h2, fun ns' p hp hs hn => ?_⟩
      have en : ns' = ns.mergeSort leI := by
        refine List.Perm.eq_of_pairwise (le := fun a b : Int => a ≤ b) (fun a b _ _ h1 h2 => Int.le_antisymm h1 h2) hs ?_ (hp.trans (List.mergeSort_perm ns leI).symm)
        have := List.pairwise_mergeSort (le := leI) (fun a b c h1 h2 => by simp only [leI, decide_eq_true_eq] at *; omega) (fun a b => by simp only [leI, Bool.or_eq_true, decide_eq_true_eq]; omega) ns
        exact this.imp fun h => of_decide_eq_true h
      subst en
      obtain ⟨a1, a2, a3⟩ := new_lst ok hn (dr_ints (K := K) (ι := W.ι) (F := W.F) (ns.mergeSort leI))
      exact q _ _ a1 a2 a3
    · obtain ⟨ps, hps, rfl⟩ := Option.map_eq_some_iff.mp e
      obtain ⟨k, k1, k2⟩ := pairs_dr h3 hps
      refine .inr ⟨a, vs, k, rfl, SqL.of h2, fun x hx => ?_, fun ys p hs hb hn => ?_⟩
      · obtain ⟨t, e1, e2⟩ := k2 x hx
        exact ⟨t, e1, ok.ex _ _ e2⟩
      · have hk : ys.map k = ps.mergeSort leP := by
          refine List.Perm.eq_of_pairwise (le := fun p q => leP p q = true) (fun p q _ _ h1 h2 => ?_) ?_ ?_ ?_
          · simp only [leP, decide_eq_true_eq] at h1 h2
            have : p.1 = q.1 ∧ p.2 = q.2 := by omega
            exact Prod.ext this.1 this.2
          · rw [List.pairwise_map]
            exact hs.imp fun {x y} hxy => by
              have z := SrtO.lexB_no.mp hxy
              simp only [leP, decide_eq_true_eq]
              omega
          · exact List.pairwise_mergeSort (le := leP) (fun a b c h1 h2 => by simp only [leP, decide_eq_true_eq] at *; omega) (fun a b => by simp only [leP, Bool.or_eq_true, decide_eq_true_eq]; omega) ps
          · have hp := hb.perm.map k
            rw [k1] at hp
            exact hp.trans (List.mergeSort_perm ps leP).symm
        have hd : DrAll K W.ι W.F ys ((ps.mergeSort leP).map pairD) := by
          rw [← hk]
          have hm : ∀ y ∈ ys, ∃ t, y = V.ref t ∧ W.F t = some (.tup [.int (k y).1, .int (k y).2]) := fun y hy => k2 y (hb.perm.mem_iff.mp hy)
          clear hk hb hs
          induction ys with
          | nil => exact .nil
          | cons y r ih =>
            obtain ⟨t, e1, e2⟩ := hm y List.mem_cons_self
            refine .cons ?_ (ih fun z hz => hm z (List.mem_cons_of_mem _ hz))
            subst e1
            exact .tup e2 (.cons (.int _) (.one (.int _)))
        obtain ⟨a1, a2, a3⟩ := new_lst ok hn hd
        exact q _ _ a1 a2 a3
  · cases e
theorem call_sortedA : CallR X (.builtin "sorted") (fun xs H Q => rSortedI X.K xs H Q ∨ rSortedPO X.K xs H Q) := cr_sortedI.or cr_sortedPO

/-! ### max, min, sum of a list of ints; of two -/
def maxL : List Int → Int
  | [] => 0
  | n :: r => r.foldl max n
def minL : List Int → Int
  | [] => 0
  | n :: r => r.foldl min n
theorem foldl_max_ge : ∀ (r : List Int) (n : Int), n ≤ r.foldl max n ∧ ∀ y ∈ r, y ≤ r.foldl max n
  | [], n => ⟨Int.le_refl _, fun y h => by simp at h⟩
  | m :: r, n => by
    obtain ⟨h1, h2⟩ := foldl_max_ge r (max n m)
    refine ⟨Int.le_trans (Int.le_max_left _ _) h1, fun y hy => ?_⟩
    rcases List.mem_cons.mp hy with rfl | hy
    · exact Int.le_trans (Int.le_max_right _ _) h1
    · exact h2 y hy
theorem foldl_max_mem : ∀ (r : List Int) (n : Int), r.foldl max n = n ∨ r.foldl max n ∈ r
  | [], n => .inl rfl
  | m :: r, n => by
    rcases foldl_max_mem r (max n m) with h | h
    · rw [List.foldl_cons, h]
      rcases Int.le_total n m with q | q
      · rw [Int.max_eq_right q]; exact .inr List.mem_cons_self
      · rw [Int.max_eq_left q]; exact .inl rfl
    · exact .inr (List.mem_cons_of_mem _ h)
theorem foldl_min_le : ∀ (r : List Int) (n : Int), r.foldl min n ≤ n ∧ ∀ y ∈ r, r.foldl min n ≤ y
  | [], n => ⟨Int.le_refl _, fun y h => by simp at h⟩
  | m :: r, n => by
    obtain ⟨h1, h2⟩ := foldl_min_le r (min n m)
    refine ⟨Int.le_trans h1 (Int.min_le_left _ _), fun y hy => ?_⟩
    rcases List.mem_cons.mp hy with rfl | hy
    · exact Int.le_trans h1 (Int.min_le_right _ _)
    · exact h2 y hy
theorem foldl_min_mem : ∀ (r : List Int) (n : Int), r.foldl min n = n ∨ r.foldl min n ∈ r
  | [], n => .inl rfl
  | m :: r, n => by
    rcases foldl_min_mem r (min n m) with h | h
    · rw [List.foldl_cons, h]
      rcases Int.le_total n m with q | q
      · rw [Int.min_eq_left q]; exact .inl rfl
      · rw [Int.min_eq_right q]; exact .inr List.mem_cons_self
    · exact .inr (List.mem_cons_of_mem _ h)
theorem maxL_eq {ns : List Int} {m : Int} (h1 : m ∈ ns) (h2 : ∀ y ∈ ns, y ≤ m) : m = maxL ns := by
  cases ns with
  | nil => simp at h1
  | cons n r =>
    obtain ⟨g1, g2⟩ := foldl_max_ge r n
    refine Int.le_antisymm ?_ ?_
    · rcases List.mem_cons.mp h1 with rfl | h
      · exact g1
      · exact g2 m h
    · rcases foldl_max_mem r n with h | h
      · show r.foldl max n ≤ m; rw [h]; exact h2 n List.mem_cons_self
      · exact h2 _ (List.mem_cons_of_mem _ h)
theorem minL_eq {ns : List Int} {m : Int} (h1 : m ∈ ns) (h2 : ∀ y ∈ ns, m ≤ y) : m = minL ns := by
  cases ns with
  | nil => simp at h1
  | cons n r =>
    obtain ⟨g1, g2⟩ := foldl_min_le r n
    refine Int.le_antisymm ?_ ?_
    · rcases foldl_min_mem r n with h | h
      · show m ≤ r.foldl min n; rw [h]; exact h2 n List.mem_cons_self
      · exact h2 _ (List.mem_cons_of_mem _ h)
    · rcases List.mem_cons.mp h1 with rfl | h
      · exact g1
      · exact g2 m h
def maxD : D → Option D
  | .list ds => (intsOf ds).bind fun ns => if 0 < ns.length then some (.int (maxL ns)) else none
  | _ => none
def minD : D → Option D
  | .list ds => (intsOf ds).bind fun ns => if 0 < ns.length then some (.int (minL ns)) else none
  | _ => none
def sumD : D → Option D
  | .list ds => (intsOf ds).map fun ns => .int ns.sum
  | _ => none
theorem o_max {K : PySem.W.Frag} : C1D K (aft (rD K)) (rMax K) maxD := by
  intro W s v d d' Q ok h e q
  unfold maxD at e
  split at e
  · obtain ⟨ns, h1, h2⟩ := Option.bind_eq_some_iff.mp e
    split at h2
    · rename_i hz
      cases h2
      obtain ⟨a, vs, rfl, g2, g3⟩ := h.list ok
      have ev := ints_dr g3 h1
      subst ev
      exact ⟨a, ns, rfl, SqL.of g2, hz, fun m hm hle => by rw [maxL_eq hm hle]; exact q _ W (Step.refl W) ok (.int _)⟩
    · cases h2
  · cases e
theorem o_min {K : PySem.W.Frag} : C1D K (aft (rD K)) (rMin K) minD := by
  intro W s v d d' Q ok h e q
  unfold minD at e
  split at e
  · obtain ⟨ns, h1, h2⟩ := Option.bind_eq_some_iff.mp e
    split at h2
    · rename_i hz
      cases h2
      obtain ⟨a, vs, rfl, g2, g3⟩ := h.list ok
      have ev := ints_dr g3 h1
      subst ev
      exact ⟨a, ns, rfl, SqL.of g2, hz, fun m hm hle => by rw [minL_eq hm hle]; exact q _ W (Step.refl W) ok (.int _)⟩
    · cases h2
  · cases e
theorem o_sum {K : PySem.W.Frag} : C1D K (aft (rD K)) (rSum K) sumD := by
  intro W s v d d' Q ok h e q
  unfold sumD at e
  split at e
  · obtain ⟨ns, h1, rfl⟩ := Option.map_eq_some_iff.mp e
    obtain ⟨a, vs, rfl, g2, g3⟩ := h.list ok
    have ev := ints_dr g3 h1
    subst ev
    exact ⟨a, ns, rfl, SqL.of g2, q _ W (Step.refl W) ok (.int _)⟩
  · cases e
def b2D (h : Int → Int → Int) (g : XA) : XE := fun ρ s => (g ρ s).bind fun ds s1 => match ds with
  | [.int i, .int j] => .ok (.int (h i j)) s1
  | _ => .bad
theorem d_max2 {p : Pos} (hc : X.calm = true) (hg : Gl X "max") (hm : X.mg "max" = none) (ha : PA X [a, b] (GA X.K Wx g)) (he : starEach (a :: [b]) X.env = (false, eval a X.env) :: starEach [b] X.env := by rfl) (hpl : (backTo pos (starEach [b] X.env)).any (·.1) = false := by rfl) :
    PE X (.Call (.Name "max" p) [a, b] [] pos) (GX X.K (aft (rD X.K)) Wx (b2D (fun i j => if j > i then j else i) g)) := peImp (pe_callB (call_max2 hc) hg hm bt_max ha (by decide) (by decide) he hpl) fun σ H Q ⟨W0, W, ρ, s, e1, ok, en, q⟩ => by
  subst e1
  refine GA.mk ok en (Post.mono q.bind fun ds s1 W1 st1 ok1 q1 vs hvs => ?_)
  split at q1
  · cases hvs with
    | cons h1 h2 =>
      cases h1
      cases h2 with
      | cons h3 h4 => cases h3; cases h4; exact ⟨_, _, rfl, post_ok ok1 q1 _ (.int _)⟩
  · exact q1.elim
theorem d_min2 {p : Pos} (hc : X.calm = true) (hg : Gl X "min") (hm : X.mg "min" = none) (ha : PA X [a, b] (GA X.K Wx g)) (he : starEach (a :: [b]) X.env = (false, eval a X.env) :: starEach [b] X.env := by rfl) (hpl : (backTo pos (starEach [b] X.env)).any (·.1) = false := by rfl) :
    PE X (.Call (.Name "min" p) [a, b] [] pos) (GX X.K (aft (rD X.K)) Wx (b2D (fun i j => if j < i then j else i) g)) := peImp (pe_callB (call_min2 hc) hg hm bt_min ha (by decide) (by decide) he hpl) fun σ H Q ⟨W0, W, ρ, s, e1, ok, en, q⟩ => by
  subst e1
  refine GA.mk ok en (Post.mono q.bind fun ds s1 W1 st1 ok1 q1 vs hvs => ?_)
  split at q1
  · cases hvs with
    | cons h1 h2 =>
      cases h1
      cases h2 with
      | cons h3 h4 => cases h3; cases h4; exact ⟨_, _, rfl, post_ok ok1 q1 _ (.int _)⟩
  · exact q1.elim

/-! ### sep.join(a list of texts) -/
def strsOf : List D → Option (List Str)
  | [] => some []
  | .str x :: r => (strsOf r).map (x :: ·)
  | _ :: _ => none
theorem strs_dr {K : PySem.W.Frag} {ι : List Addr} {F : Hp} : ∀ {vs : List V} {ds : List D} {ns : List Str}, DrAll K ι F vs ds → strsOf ds = some ns → vs = ns.map V.str
  | _, [], _, h, e => by cases e; cases h; rfl
  | _, d :: r, ns, h, e => by
    unfold strsOf at e
    split at e
    · rename_i hcon; cases hcon
    · rename_i i r' e0
      cases e0
      obtain ⟨ms, e1, rfl⟩ := Option.map_eq_some_iff.mp e
      cases h with
      | cons h1 h2 =>
        cases h1
        rw [strs_dr h2 e1, List.map_cons]
    · cases e
theorem dr_strs {K : PySem.W.Frag} {ι : List Addr} {F : Hp} : ∀ ns : List Str, DrAll K ι F (ns.map V.str) (ns.map PyData.str)
  | [] => .nil
  | n :: r => .cons (.str n) (dr_strs r)
@[simp] theorem strsOf_map : ∀ ns : List Str, strsOf (ns.map PyData.str) = some ns
  | [] => rfl
  | n :: r => by show (strsOf (r.map PyData.str)).map (n :: ·) = _; rw [strsOf_map r]; rfl
def joinOk (a : Str) (ys : List Str) : Bool := decide ((ys.map (·.length)).sum + ys.length * a.length ≤ 16777216)
/-- a method of a text, of one argument -/
def xM1 (g : Str → D → Option D) (f1 f2 : XE) : XE := fun ρ s => (f1 ρ s).bind fun d s1 => match d with
  | .str z => (f2 ρ s1).bind fun d2 s2 => lift (g z d2) s2
  | _ => .bad
def M1D (K : PySem.W.Frag) (R : RB) (r : V → List V → Hp → VK → Prop) (g : Str → D → Option D) : Prop := ∀ (W : Wd) (s : Sto) (z : Str) (v : V) (d d' : D) (Q : VK), Ok K W s → rU K W v d → g z d = some d' →
  (∀ v W', Step W W' → Ok K W' s → R W W' v d' → Q v W'.H) → r (.str z) [v] W.H Q
theorem gx_m1 {K : PySem.W.Frag} {R : RB} [Back R] {r : V → List V → Hp → VK → Prop} {g : Str → D → Option D} (o : M1D K R r g) : ∀ σ H Q, GX K R Wx (xM1 g f1 f2) σ H Q → tM1 r (GX K (aft (rD K)) Wx f1) (GX K (aft (rU K)) Wx f2) σ H Q := by
  rintro σ H Q ⟨W0, W, ρ, s, rfl, ok, en, p⟩
  refine GX.mk ok en (Post.mono p.bind fun d1 s1 W1 st1 ok1 p1 v1 hv1 => ?_)
  cases hv1 with
  | str z =>
    refine ⟨⟨z, rfl⟩, GX.mk ok1 (en.step st1) (Post.mono (Post.bind p1) fun d2 s2 W2 st2 ok2 p2 v2 hv2 => ?_)⟩
    obtain ⟨d, e, q⟩ := p2.lift
    exact o W2 s2 z v2 d2 d Q ok2 hv2 e fun v W4 st4 ok4 hr => q W4 st4 ok4 v (Back.back (st1.trans st2) hr)
  | _ => exact p1.elim
def joinD (a : Str) : D → Option D
  | .list ds => (strsOf ds).bind fun ys => if joinOk a ys = true then some (.str (Txt.join a ys)) else none
  | .tuple ds => (strsOf ds).bind fun ys => if joinOk a ys = true then some (.str (Txt.join a ys)) else none
  | _ => none
theorem o_join {K : PySem.W.Frag} : M1D K (aft (rD K)) (fun x xs H Q => ∃ a p, ∃ ys : List Str, x = .str a ∧ xs = [.ref p] ∧ (SqL K H p (ys.map V.str) ∨ SqT K H p (ys.map V.str)) ∧
    (ys.map (·.length)).sum + ys.length * a.length ≤ 16777216 ∧ Q (.str (Txt.join a ys)) H) joinD := by
  intro W s z v d d' Q ok h e q
  unfold joinD at e
  split at e
  · obtain ⟨ys, h1, h2⟩ := Option.bind_eq_some_iff.mp e
    split at h2
    · rename_i hz
      cases h2
      obtain ⟨a, vs, rfl, g2, g3⟩ := h.list ok
      have ev := strs_dr g3 h1
      subst ev
      exact ⟨z, a, ys, rfl, rfl, .inl (SqL.of g2), of_decide_eq_true hz, q _ W (Step.refl W) ok (.str _)⟩
    · cases h2
  · obtain ⟨ys, h1, h2⟩ := Option.bind_eq_some_iff.mp e
    split at h2
    · rename_i hz
      cases h2
      obtain ⟨a, vs, rfl, _, g2, g3⟩ := h.tup ok
      have ev := strs_dr g3 h1
      subst ev
      exact ⟨z, a, ys, rfl, rfl, .inr (SqT.of g2), of_decide_eq_true hz, q _ W (Step.refl W) ok (.str _)⟩
    · cases h2
  · cases e
theorem d_join {apos : Pos} (ho : PE X a (GX X.K (aft (rD X.K)) Wx f1)) (he : PE X b (GX X.K (aft (rU X.K)) Wx f2)) (hs : starEach [b] X.env = [(false, eval b X.env)] := by rfl) (hbase : attributeBase a "join" X.env (eval a X.env) = eval a X.env := by rfl) (hline : (apos.endLine == pos.line) = true := by rfl) :
    PE X (.Call (.Attribute a "join" apos) [b] [] pos) (GX X.K (aft (rD X.K)) Wx (xM1 joinD f1 f2)) := peImp (pe_join ho he hs hbase hline) (gx_m1 o_join)

/-! ### {'a': 1, ..}[x], a written table -/
def dOfV : V → Option D
  | .non => some .none
  | .bl b => some (.bool b)
  | .int i => some (.int i)
  | .str x => some (.str x)
  | _ => none
theorem dr_ofV {K : PySem.W.Frag} {ι : List Addr} {F : Hp} {v : V} {d : D} (h : dOfV v = some d) : Dr K ι F v d := by
  cases v <;> cases h
  · exact .non
  · exact .bl _
  · exact .int _
  · exact .str _
abbrev Tb := List (Str × V)
def tbK (kvs : Tb) : List (Key × V) := kvs.map fun p => (.inr p.1, p.2)
def litD (kvs : Tb) : D → Option D
  | .str x => (valV (mergeK [] (tbK kvs)) (.inr x)).bind dOfV
  | _ => none
def tbR (kvs : Tb) : List (TE × TE) := kvs.map fun p => (tC (.str p.1), tC p.2)
theorem tb_pairs : ∀ (kvs : Tb) (σ : St) (H : Hp) (Q : List (V × V) → Hp → Prop), Q (kvs.map fun p => (V.str p.1, p.2)) H → tPairs (tbR kvs) σ H Q
  | [], _, _, _, h => h
  | p :: r, σ, H, Q, h => tb_pairs r σ H (fun ps H3 => Q ((V.str p.1, p.2) :: ps) H3) h
def xLit (kvs : Tb) (f : XE) : XE := x1 (litD kvs) f
theorem d_lit {keys : List (Option Expr)} {values : List Expr} {p2 : Pos} {kvs : Tb} {k : Nat} (hr : Room k X.A) (h : PPs X p2 keys values (tbR kvs)) (hi : PE X b (GX X.K (aft (rD X.K)) Wx f)) (hs : NoSl b := by exact fun _ _ => rfl)
    (hall : keys.all (·.isSome) = true := by rfl) (hl : keys.length = values.length := by rfl) (h0 : keys ≠ [] := by exact fun z => by cases z) (h15 : keys.length ≤ 15 := by decide) (hk : kvs.length ≤ 15 := by decide) :
    PE X (.Subscript (.Dict keys values p2) b pos) (GX X.K (aft (rD X.K)) Wx (xLit kvs f)) := peImp (pe_dget (hu_of hr) (pe_disp h hall hl h0 h15) hi hs) fun σ H Q ⟨W0, W, ρ, s, e1, ok, en, q⟩ => by
  subst e1
  intro p hp
  refine tb_pairs kvs σ _ _ ⟨upd_same, tbK kvs, ?_, ?_, ?_⟩
  · unfold tbK
    rw [List.map_map]
    rfl
  · unfold tbK
    rw [List.length_map]; exact hk
  · rw [upd_upd]
    obtain ⟨a1, a2⟩ := step_new (o := .dK (mergeK [] (tbK kvs))) ok hp
    refine GX.mk (W := W.new p (.dK (mergeK [] (tbK kvs)))) a2 (en.step a1) (Post.mono (Post.from q.bind a1) fun d s1 W1 st1 ok1 q1 v hv => ?_)
    obtain ⟨d', e, q2⟩ := q1.lift
    have hP := st1.keep p _ upd_same (tnone ok hp)
    cases hv with
    | str x =>
      obtain ⟨v', g1, g2⟩ := Option.bind_eq_some_iff.mp (show (valV (mergeK [] (tbK kvs)) (.inr x)).bind dOfV = some d' from e)
      refine ⟨p, v', rfl, ?_, q2 W1 (Step.refl _) ok1 _ (dr_ofV g2)⟩
      have := DGet.k (k := (.inr x : Key)) hP
      rw [g1] at this
      exact this
    | _ => cases e
end
end M

/-! M, part 9: chains, enumerate of a tuple, the number of different texts. -/
namespace M
open PySem L2
section
variable {X : Cx} {Wx : WX} {pos : Pos} {a b c : Expr} {f1 f2 f3 : XE}
theorem d_chain {op op' : CmpOp} {r r' : R2} {g g' : D → D → Option D} (ho : OpR X (compareOp op) r) (o : OpD X.K (aft (rD X.K)) r g) (ho' : OpR X (compareOp op') r') (o' : OpD X.K (aft (rD X.K)) r' g') (ha : PE X a (GX X.K (aft (rO X.K)) Wx f1)) (hb : PE X b (GX X.K (aft (rO X.K)) Wx f2)) (hc : PE X c (GX X.K (aft (rU X.K)) Wx f3))
    (hm : lastMarks [op, op'] [b, c] = false := by with_unfolding_all rfl) : PE X (.Compare a [op, op'] [b, c] pos) (GX X.K (aft (rD X.K)) Wx (x3 g g' f1 f2 f3)) := peImp (pe_chain ho ho' ha hb hc hm) (gx_3 o o')
theorem t_chain {op op' : CmpOp} {r r' : R2} {g g' : D → D → Option D} (ho : OpR X (compareOp op) r) (o : OpD X.K (aft (rD X.K)) r g) (ho' : OpR X (compareOp op') r') (o' : OpD X.K (aft (rD X.K)) r' g') (ha : PE X a (GX X.K (aft (rO X.K)) Wx f1)) (hb : PE X b (GX X.K (aft (rO X.K)) Wx f2)) (hc : PE X c (GX X.K (aft (rU X.K)) Wx f3))
    (hm : lastMarks [op, op'] [b, c] = false := by with_unfolding_all rfl) : PT X (.Compare a [op, op'] [b, c] pos) (GT X.K Wx (xB (x3 g g' f1 f2 f3))) := ptImp (pt_chain ho ho' ha hb hc hm) fun σ H Q h => gx_3 o o' σ H _ (gt_b σ H Q h)
end

/-! ### enumerate(a tuple) -/
/-- the tuple at a, each item in a new pair -/
def IteT (K : PySem.W.Frag) (a : Addr) : It :=
  ⟨fun i H => ∃ (xs : List V) (x : V), SqT K H a xs ∧ xs[i]? = some x, fun i H v H' => ∃ T x, v = .ref T ∧ H T = none ∧ H' = upd H T (.tup [.int (i : Nat), x]) ∧ ∀ xs, SqT K H a xs → xs[i]? = some x, fun i H => ∃ xs : List V, SqT K H a xs ∧ xs.length ≤ i⟩
theorem turn_enumT {P : Program} {w : World} {K : PySem.W.Frag} {elts : List Expr} {kk : Nat} {tpos : Pos} (a e it : Addr) (hea : e ≠ a) (hia : it ≠ a) :
    Turn P w K (.Tuple elts kk tpos) (IteT K a) [e, it] e (fun i h => (∃ old, IsEnum h e it ((i : Nat) : Int) old) ∧ h.IsTupleIter it a i ∧ e ≠ it) where
  mem := by simp
  obj := fun i h st b hb => by
    obtain ⟨⟨old, he⟩, ⟨o, ho, hc, hd⟩, _⟩ := st
    have e' : b = e ∨ b = it := by simpa using hb
    rcases e' with z | z
    · rw [z]; exact ⟨_, he, fun v q => nomatch q⟩
    · rw [z]; exact ⟨o, ho, fun v q => by rw [hd] at q; cases q⟩
  keep := fun i h h' st k => let ⟨⟨old, he⟩, hi, hne⟩ := st; ⟨⟨old, k e (by simp) _ he⟩, hi.at fun o q => k it (by simp) o q, hne⟩
  item := by
    intro X hP hw hK hc i pins s σ H E I hf st hg
    subst hP hw hK
    obtain ⟨⟨old, he⟩, hit, hne⟩ := st
    obtain ⟨xs, x, hq, hx⟩ := hg
    obtain ⟨its, rv, p, hz⟩ := I.tuple hq
    obtain ⟨u, hu, ru⟩ := rv.get hx
    have hel : e < s.heap.objs.size := Heap.lt_size he
    have hil : it < s.heap.objs.size := by obtain ⟨_, q, _⟩ := hit; exact Heap.lt_size q
    have hhd : X.A.in1.handled = none := by have := I.ok.hd hc; simp [this]
    have p' : s.heap.IsTuple a its.toArray := p
    have hlen : i < its.toArray.size := by
      have := (List.getElem?_eq_some_iff.mp hu).1
      rw [List.size_toArray]; exact this
    refine wpAny_pyNext_enum_itemD (Draws.tuple hhd it a (Ne.symm hia) its.toArray) he ⟨hit, p'⟩ hlen hne (by simp [hne, hea]) fun u' h' tk hP ho st' hT hsz hk => ?_
    have hu' : u' = u := by
      have hu2 : its.toArray[i]? = some u := by simpa using hu
      rw [hu2] at hP; exact (Option.some.inj hP).symm
    subst hu'
    refine ⟨_, rfl, wpAny_letOwnedTupleGo_enum (s := { s with heap := h', toks := tk + 1 }) ho fun h'' he' sb => ?_⟩
    have hT2 : h''.get? s.heap.objs.size = some { cls := .type "tuple", data := .seq #[.int i tk, u'] } := (sb.2 _ (Nat.ne_of_gt hel)).trans hT
    have new : ObjOk X.prog X.w (upd H s.heap.objs.size (.tup [.int (i : Nat), x])) h'' s.heap.objs.size (.tup [.int (i : Nat), x]) :=
      ⟨by show 2 ≤ sizeLine; decide, [.int i tk, u'], .cons ⟨_, rfl⟩ (.cons ru .nil), ⟨_, hT2, rfl, _, rfl⟩⟩
    have I1 : Inv X pins σ (upd H s.heap.objs.size (.tup [.int (i : Nat), x])) { s with heap := h'', toks := tk + 1 } :=
      I.turnedNew (ch := [e, it]) (fun b ob hb q => (sb.2 b (fun z => hb (by simp [z]))).trans (hk b ob (fun z => hb (by simp [z])) (fun z => hb (by simp [z])) q)) hf (Nat.le_refl _) new
    refine ⟨.ref s.heap.objs.size, _, I1, rfl, ⟨_, x, rfl, I.hok.fresh (Nat.le_refl _), rfl, fun ys hy => by rw [I.tuple_inj hy hq]; exact hx⟩, ⟨⟨u', ?_⟩, st'.1.at fun o q => (sb.2 it (Ne.symm hne)).trans q, hne⟩, fun b hb => ?_⟩
    · have e1 : ((i + 1 : Nat) : Int) = (i : Int) + 1 := by omega
      rw [e1]; exact he'
    · have hb' : b < s.heap.objs.size := by
        have e' : b = e ∨ b = it := by simpa using hb
        rcases e' with z | z
        · rw [z]; exact hel
        · rw [z]; exact hil
      rw [upd_ne (Nat.ne_of_lt hb')]
      exact (hf b hb).1
  done := by
    intro X hP hw hK hc i pins s σ H E I hf st hg
    subst hP hw hK
    obtain ⟨⟨old, he⟩, hit, hne⟩ := st
    obtain ⟨xs, hq, hx⟩ := hg
    obtain ⟨its, rv, p, hz⟩ := I.tuple hq
    obtain ⟨f0, f1, f2, f3, f4, f5⟩ := hf it (by simp)
    have hl := rv.length
    have hhd : X.A.in1.handled = none := by have := I.ok.hd hc; simp [this]
    have p' : s.heap.IsTuple a its.toArray := p
    unfold pyNext
    have hT : s.TypeIs (.ref e) "enumerate" := ⟨_, he, rfl⟩
    refine wpAny_bind (wpAny_attempt (wpAny_callSpecial?_slot (name := Str.ofString "__next__") hT PySem.F.slot_enumerate_next
      (wpAny_call_entry PySem.F.slot_enumerate_next hT PySem.F.entry_enumerate_next ?_ (PySem.F.args_enumerate_next_1 _))))
    show wpAny _ _ (field (.ref e) 2 >>= _) _ _ _
    refine wpAny_bind (wpAny_field he rfl (x := .ref it) rfl ?_)
    refine wpAny_bind (wpAny_nextOf_tuple_end hhd hit p' (by simp; omega) fun h' x he' hx' => ?_)
    obtain ⟨o, ho, hc'⟩ := hx'
    refine wpAny_bind (wpAny_isInstance (T := "StopIteration") (b := true) ⟨o, ho, hc'⟩ isSubtype_stop ?_)
    exact wpAny_pure ⟨rfl, I.turned (t' := s.toks) (fun b o hb q => he' b o hb q) f0 f1 f3 f4 f5⟩
  self := fun A i s Q E st h => let ⟨⟨_, he⟩, _⟩ := st; wpAny_pyIter_enum he h

set_option maxHeartbeats 1000000 in
theorem meets_enum1 {v : Value} {o : Obj} {H : Heap → Prop} (B : Begins v o H) :
    Meets (Builtin.«enumerate.__new__» ⟨[.type "enumerate", v], []⟩) (fun _ R s => H s.heap ∧
      R (.ok (.ret (.ref (s.heap.push o).objs.size))) { s with heap := (s.heap.push o).push { cls := .type "enumerate", data := .fields #[.none, .bool false, .ref s.heap.objs.size, rawInt 0, .none, .none] } }) :=
  .of_wp fun prog w A R s h => by
    obtain ⟨hp, g, d, tk, os⟩ := s; obtain ⟨h1, h⟩ := h
    have hsub := sub_enumerate
    have q1 : ∀ {A' : Around} {E : Value → Shared → Prop} {Q : Value → Shared → Prop}, Q (.ref hp.objs.size) ⟨hp.push o, g, d, tk, os⟩ → wpAny (model prog w) A' (pyIter v) Q E ⟨hp, g, d, tk, os⟩ :=
      fun q => B.iter prog w _ _ ⟨hp, g, d, tk, os⟩ _ h1 q
    wp_walk using q1
    refine wpAny_stack_any fun st => wpAny_pure ?_
    split
    · rename_i c _ _ _ _ _
      cases (c == Value.type "enumerate")
      · wp_walk using q1
        exact ⟨_, rfl, h⟩
      · wp_walk using q1
        exact ⟨_, rfl, h⟩
    · wp_walk using q1
      exact ⟨_, rfl, h⟩
theorem call_enum1 {prog : Program} {w : World} {A : Around} {E : Value → Shared → Prop} {s : Shared} {v : Value} {o : Obj} {H : Heap → Prop} {Q : Value → Shared → Prop} (B : Begins v o H) (h1 : H s.heap)
    (h : ∀ h', IsEnum h' (s.heap.objs.size + 1) s.heap.objs.size 0 .none → h'.get? s.heap.objs.size = some o →
      (∀ b o, s.heap.get? b = some o → h'.get? b = some o) → Q (.ref (s.heap.objs.size + 1)) { s with heap := h' }) :
    wpAny (model prog w) A (call (.type "enumerate") [v]) Q E s := by
  refine callType_new PySem.F.called_enumerate (by decide) (PySem.F.typeCall_enumerate_1 _) (PySem.F.newCall_enumerate_1 _) (fun obj => PySem.F.args_object_init_2 obj _) PySem.F.entry_enumerate_new
    (meets_enum1 B) ⟨h1, ?_⟩
  have hz : (s.heap.push o).objs.size = s.heap.objs.size + 1 := Heap.size_push ..
  show _ ∧ _
  rw [hz]
  have he : IsEnum ((s.heap.push o).push { cls := .type "enumerate", data := .fields #[.none, .bool false, .ref s.heap.objs.size, rawInt 0, .none, .none] }) (s.heap.objs.size + 1) s.heap.objs.size 0 .none := by
    have := Heap.get?_push_size (s.heap.push o) (o := { cls := .type "enumerate", data := .fields #[.none, .bool false, .ref s.heap.objs.size, rawInt 0, .none, .none] }) rfl
    rw [hz] at this; exact this
  exact ⟨⟨_, he, rfl⟩, h _ he (Heap.get?_push_of_some _ (Heap.get?_push_size _ B.free)) fun b o x => Heap.get?_push_of_some _ (Heap.get?_push_of_some _ x)⟩
def iEnT (K : PySem.W.Frag) (ta : TA) : TI := fun σ H R => ta σ H fun vs H1 => ∃ a xs, vs = [.ref a] ∧ SqT K H1 a xs ∧ R (IteT K a) H1
theorem pi_enT {X : Cx} {e : Expr} {ta : TA} {p pos tpos : Pos} {elts : List Expr} {kk : Nat} (hg : Gl X "enumerate") (hm : X.mg "enumerate" = none) (ha : PA X [e] ta) (hs : starEach [e] X.env = [(false, eval e X.env)] := by rfl) :
    PI X (.Tuple elts kk tpos) (.Call (.Name "enumerate" p) [e] [] pos) (iEnT X.K ta) := by
  refine ⟨fun pins s σ H R I h => ?_⟩
  refine PyProof.Rows.Call_ (ld_blt I hg hm PyProof.Rows.boot_enumerate (PyProof.Rows.callWith_type1 (thn (ha.run pos pins s σ H _ I h) fun us s1 ⟨vs, H1, I1, r1, q1⟩ => ?_) hs rfl))
  obtain ⟨a, xs, ex, hq, q⟩ := q1
  subst ex
  cases r1 with
  | cons r rr =>
    cases rr
    cases r
    obtain ⟨its, rv, p', hz⟩ := I1.tuple hq
    have hal : a < s1.heap.objs.size := by obtain ⟨o, ho, _⟩ := p'; exact Heap.lt_size ho
    refine call_enum1 (begins_tuple a its.toArray) (show s1.heap.IsTuple a its.toArray from p') fun h' he hit hk => wpAny_pyIter_enum he ?_
    have I2 : Inv X pins σ H1 { s1 with heap := h' } := I1.kept (t' := s1.toks) hk
    refine ⟨s1.heap.objs.size + 1, [s1.heap.objs.size + 1, s1.heap.objs.size], _, _, H1, rfl, I2, turn_enumT a (s1.heap.objs.size + 1) s1.heap.objs.size (Nat.ne_of_gt (Nat.lt_succ_of_lt hal)) (Nat.ne_of_gt hal), ⟨⟨.none, he⟩, ⟨_, hit, rfl, rfl⟩, Nat.succ_ne_self _⟩, fun b hb => ?_, q⟩
    have e' : b = s1.heap.objs.size + 1 ∨ b = s1.heap.objs.size := by simpa using hb
    have hle : s1.heap.objs.size ≤ b := by
      rcases e' with z | z
      · rw [z]; exact Nat.le_add_right _ _
      · rw [z]; exact Nat.le_refl _
    exact I1.fpOk hle (I1.hok.fresh hle)
theorem walk_enT {K : PySem.W.Frag} {a : Addr} {xs : List V} : Walk (IteT K a) xs.length (fun H => SqT K H a xs) (YPair (fun i => some (.int (i : Nat))) (fun i => xs[i]?)) := by
  refine ⟨fun i _ hi q => ⟨xs, xs[i], q, by simp [hi]⟩, fun _ q => ⟨xs, q, Nat.le_refl _⟩, fun i H v H' _ q y => ?_⟩
  obtain ⟨T, x, h1, h2, h3, h4⟩ := y
  exact ⟨T, .int (i : Nat), x, h1, h2, h3, rfl, h4 xs q⟩
theorem it_enT {K : PySem.W.Frag} {W : Wd} {a : Addr} {vs : List V} {ds : List D} (h : W.F a = some (.tup vs)) (hd : DrAll K W.ι W.F vs ds) : IterOk K (IteT K a) W (enumD 0 ds) := by
  refine ⟨_, _, by rw [enumD_len, ← hd.length]; exact walk_enT (xs := vs), fun W2 s2 m ok => SqT.of (ok.ex _ _ (m.exF _ _ h)), fun i v W2 s2 H' hi m ok y => ?_⟩
  obtain ⟨T, x, y, rfl, hT, rfl, e1, e2⟩ := y
  cases e1
  obtain ⟨d, h1, h2⟩ := hd.getV e2
  obtain ⟨a1, a2, a3⟩ := new_tup ok hT (.cons (.int (i : Int)) (.one (m.dr h2)))
  exact ⟨_, _, rfl, a1, a2, by rw [enumD_get, h1]; simp, a3⟩
def iEnTD (g : XA) : XI := fun ρ s => (g ρ s).bind fun ds s1 => match ds with
  | [.tuple ds] => .ok (enumD 0 ds) s1
  | _ => .bad
theorem i_enT {X : Cx} {Wx : WX} {e : Expr} {g : XA} {p pos : Pos} {elts : List Expr} {kk : Nat} {tpos : Pos} (hg : Gl X "enumerate") (hm : X.mg "enumerate" = none) (ha : PA X [e] (GA X.K Wx g)) (hs : starEach [e] X.env = [(false, eval e X.env)] := by rfl) :
    PI X (.Tuple elts kk tpos) (.Call (.Name "enumerate" p) [e] [] pos) (GI X.K Wx (iEnTD g)) :=
  piImp (pi_enT hg hm ha hs) fun σ H R ⟨W0, W, ρ, s, e1, ok, en, q⟩ => by
    subst e1
    refine GA.mk ok en (Post.mono q.bind fun ds s1 W1 st1 ok1 q1 vs hvs => ?_)
    split at q1
    · cases hvs with
      | cons h1 h2 =>
        cases h2
        cases h1 with
        | tup h3 h4 => exact ⟨_, _, rfl, SqT.of (ok1.ex _ _ h3), post_ok ok1 q1 _ (it_enT h3 h4)⟩
    · exact q1.elim

/-! ### len(set(texts)) -/
def stepS (acc : List Str) (x : Str) : List Str := if acc.any (· == x) = true then acc else acc ++ [x]
/-- the different texts of xs, each once -/
def metS (xs : List Str) : List Str := xs.foldl stepS []
theorem stepS_len (acc : List Str) (x : Str) : (stepS acc x).length = if acc.any (· == x) then acc.length else acc.length + 1 := by
  unfold stepS; split <;> simp
theorem stepS_any (acc : List Str) (v k : Str) : (stepS acc v).any (· == k) = (acc.any (· == k) || decide (k = v)) := by
  unfold stepS
  by_cases h : acc.any (· == v) = true
  · rw [if_pos h]
    by_cases e : k = v
    · subst e; rw [h]; simp
    · simp [e]
  · rw [if_neg h, List.any_append]
    by_cases e : k = v
    · subst e; simp
    · have hb : (v == k) = false := by simpa [beq_iff_eq] using (fun h' : v = k => e h'.symm)
      simp [hb, e]
theorem metS_take {xs : List Str} {i : Nat} {x : Str} (h : xs[i]? = some x) : metS (xs.take (i + 1)) = stepS (metS (xs.take i)) x := by
  unfold metS
  rw [List.take_add_one, h]
  simp
theorem metS_le : ∀ xs : List Str, (metS xs).length ≤ xs.length := by
  intro xs
  suffices h : ∀ (xs acc : List Str), (xs.foldl stepS acc).length ≤ acc.length + xs.length by
    have := h xs []
    simpa [metS] using this
  intro xs
  induction xs with
  | nil => intro acc; simp
  | cons x r ih =>
    intro acc
    have h1 := ih (stepS acc x)
    have h2 := stepS_len acc x
    rw [List.foldl_cons, List.length_cons]
    split at h2 <;> omega
section
variable {P : Program} {w : World} {A : Around} {E : Value → Shared → Prop} {s : Shared}
open PyProof.Rows in
/-- the loop of set's update over texts -/
theorem upd_texts {I S : Addr} {fp wr : List Addr} {G : Array GenState → Array GenState → Prop} {n : Nat} {Pv : Nat → Value → Prop} {St : Nat → Shared → Prop} {R : Result → Shared → Prop}
    (W : WalksS P w A.in1 I fp wr G n Pv St) (hSf : S ∉ fp) (xs : List Str) (hn : n = xs.length) (hb : xs.length + 1 < scanBound) (hval : ∀ i v, Pv i v → ∃ z t, xs[i]? = some z ∧ v = .str z t)
    (hR : ∀ s', s'.heap.SetOf (PySem.strKind P w) S (fun k => (metS xs).any (· == k)) (metS xs).length → Moved (S :: wr) G s s' → R (.ok (.ret .none)) s') :
    ∀ (m i : Nat) (s1 : Shared), n - i = m → i ≤ n → St i s1 → (s1 = s ∨ Moved (S :: wr) G s s1) → s1.heap.SetOf (PySem.strKind P w) S (fun k => (metS (xs.take i)).any (· == k)) (metS (xs.take i)).length →
      codeAny (model P w) A (.builtin "set.update.loop" ⟨[.ref S, .ref I], []⟩) R s1 := by
  have hSw : S ∉ wr := fun h => hSf (W.sub _ h)
  have sub : ∀ b ∈ wr, b ∈ S :: wr := fun b h => List.mem_cons_of_mem _ h
  have join : ∀ {a b : Shared}, (a = s ∨ Moved (S :: wr) G s a) → Moved (S :: wr) G a b → Moved (S :: wr) G s b := fun h m => by
    rcases h with h | h
    · rw [← h]; exact m
    · exact Moved.trans W.gtrans h m
  intro m
  induction m with
  | zero =>
    intro i s1 hm hi hst hmv hS
    have e : i = n := by omega
    subst e
    refine codeAny_builtin F.entry_set_update_loop ?_
    rw [Around.under_plainId F.plain_set_update_loop _]
    show wpAny _ A.in1 (pyNext (.ref I) >>= _) _ _ s1
    refine wpAny_bind (W.done s1 _ _ hst fun s' mv => ?_)
    show wpAny _ A.in1 (ret Value.none) _ _ s'
    rw [hn, List.take_length] at hS
    refine wpAny_pure (hR s' ?_ (join hmv (mv.mono sub)))
    obtain ⟨o, es, ep, t, ho, rest⟩ := hS
    exact ⟨o, es, ep, t, mv.heap S _ hSw ho, rest⟩
  | succ m ih =>
    intro i s1 hm hi hst hmv hS
    have hlt : i < n := by omega
    refine codeAny_builtin F.entry_set_update_loop ?_
    rw [Around.under_plainId F.plain_set_update_loop _]
    show wpAny _ A.in1 (pyNext (.ref I) >>= _) _ _ s1
    refine wpAny_bind (W.item i s1 _ _ hlt hst fun v s' hP hst' mv => ?_)
    obtain ⟨z, t, hz, rfl⟩ := hval i v hP
    have hS' : s'.heap.SetOf (PySem.strKind P w) S (fun k => (metS (xs.take i)).any (· == k)) (metS (xs.take i)).length := by
      obtain ⟨o, es, ep, tb, ho, rest⟩ := hS
      exact ⟨o, es, ep, tb, mv.heap S _ hSw ho, rest⟩
    show wpAny _ A.in1 (holding [Value.str z t] (setAdd S (.str z t)) >>= _) _ _ s'
    refine wpAny_bind (wpAny_holding ?_)
    unfold setAdd
    refine wpAny_holding (wpAny_bind ((PySem.strKind P w).pyHash (k := z) (strKind_is _ _ _ _) ?_))
    have room : (metS (xs.take i)).length + 1 < scanBound := by
      have h1 := metS_le (xs.take i)
      rw [List.length_take] at h1
      omega
    refine wpAny_setAddHashed_of (knd := PySem.strKind P w) (s := { s' with toks := s'.toks + 1 }) (strKind_is _ _ _ _) rfl hS' room fun h' sb hS2 => ?_
    refine wpAny_pure ⟨plainId_quiet F.plain_set_update_loop _, ih (i + 1) _ (by omega) hlt (W.frame _ s' _ _ hst' (Nat.le_succ _) fun b hb o e => ?_) (.inr (join hmv ((mv.mono sub).then_heap (Nat.le_succ _) fun b o hb e => ?_))) ?_⟩
    · rw [sb.2 b (fun h : b = S => hSf (by rw [← h]; exact hb))]; exact e
    · rw [sb.2 b (fun h : b = S => hb (by rw [h]; exact List.mem_cons_self))]; exact e
    · exact SetOf_congr hS2 (fun k => by rw [metS_take hz, stepS_any]) (by rw [metS_take hz, stepS_len])

set_option maxHeartbeats 3200000 in
theorem call_setT {l : Addr} {items : Array Value} {xs : List Str} {Q : Value → Shared → Prop} (hh : A.handled = none) (hl : s.heap.IsTuple l items) (hi : PyProof.Rows.StrsAre items.toList xs) (hb : xs.length + 1 < scanBound)
    (h : ∀ (h' : Heap) (tk : Nat), h'.SetOf (PySem.strKind P w) s.heap.objs.size (fun k => (metS xs).any (· == k)) (metS xs).length → (∀ b o, s.heap.get? b = some o → h'.get? b = some o) → Q (.ref s.heap.objs.size) { s with heap := h', toks := tk }) :
    wpAny (model P w) A (call (.type "set") [.ref l]) Q E s := by
  obtain ⟨_, _, hmro⟩ := PySem.F.called_set.mro
  have hmade := PySem.F.called_set.made
  have hsub := PySem.F.called_set.sub
  have h1 := PySem.F.called_set.notType
  have h2 := PySem.F.called_set.canCreate
  have hct := PySem.F.typeCall_set_1 (.ref l)
  refine wpAny_call (codeAny_of_tree ?_)
  show wpAny _ _ (callAny (.type "set") _) _ _ _
  refine wpAny_pure ⟨Code.quiet_builtin _ (by decide +kernel), codeAny_builtin PySem.F.entry_type_call ?_⟩
  rw [Around.under_plain (weight_type_call_type "set" [.ref l] []) rfl]
  repeat (any_goals (first | assumption | wp_step))
  refine codeAny_mono (code_set_new_1 (.ref l) (E := E) (Q₁ := fun obj t => ∃ led : Bool, obj = .ref s.heap.objs.size ∧ t = { s with heap := s.heap.push { cls := .type "set", dict := none, data := .set #[] 0 (.fresh 0 0 led) } }) fun led => ⟨led, rfl, rfl⟩) fun r t hr => ?_
  match r, hr with
  | .ok (.ret obj), hr =>
    obtain ⟨led, rfl, rfl⟩ := hr
    have hS : (s.heap.push { cls := .type "set", dict := none, data := .set #[] 0 (.fresh 0 0 led) }).get? s.heap.objs.size = some { cls := .type "set", dict := none, data := .set #[] 0 (.fresh 0 0 led) } := Heap.get?_push_size _ rfl
    have hT : Shared.TypeIs { s with heap := s.heap.push { cls := .type "set", dict := none, data := .set #[] 0 (.fresh 0 0 led) } } (.ref s.heap.objs.size) "set" := ⟨_, hS, rfl⟩
    have hli := PySem.F.called_set.init.lookup
    have hbi := PySem.F.called_set.init.bind (.ref s.heap.objs.size)
    repeat (any_goals (first | assumption | wp_step))
    refine codeAny_mono (codeAny_call_builtin (R := wants (fun r t => r = .none ∧ ∃ h' tk, t = { s with heap := h', toks := tk } ∧
        h'.SetOf (PySem.strKind P w) s.heap.objs.size (fun k => (metS xs).any (· == k)) (metS xs).length ∧ (∀ b o, s.heap.get? b = some o → h'.get? b = some o)) E) PySem.F.called_set.init.plain PySem.F.entry_set_init (check_set_init_1 hT ?_)) fun r t hr => ?_
    · obtain ⟨⟨oc, od, odt, osl⟩, hol, hcl, nl, hdl⟩ := hl
      simp only at hcl hdl
      subst hcl hdl
      have hlS : l < s.heap.objs.size := Heap.lt_size hol
      have hol' := Heap.get?_push_of_some { cls := .type "set", dict := none, data := .set #[] 0 (.fresh 0 0 led) } hol
      have hl1 : (s.heap.push { cls := .type "set", dict := none, data := .set #[] 0 (.fresh 0 0 led) }).IsTuple l items := ⟨_, hol', rfl, nl, rfl⟩
      have g1 := PySem.F.sub_tuple_set
      have g2 := PySem.F.sub_tuple_frozenset
      have g3 : (Value.type "tuple" == Value.type "dict") = false := by decide
      have hsz1 : (s.heap.push { cls := .type "set", dict := none, data := .set #[] 0 (.fresh 0 0 led) }).objs.size = s.heap.objs.size + 1 := Heap.size_push ..
      unfold Builtin.«set.__init__» noKeywords Builtin.Frozenset.updateFrom
      generalize hPI : pyIter = PI
      wp_walk
      subst hPI
      refine wpAny_pyIter_tuple hl1 ?_
      refine wpAny_bind (wpAny_runValue ?_)
      have hh3 : A.in1.in1.in1.handled = none := by simp [hh]
      have nI : l ≠ (s.heap.push { cls := .type "set", dict := none, data := .set #[] 0 (.fresh 0 0 led) }).objs.size := by rw [hsz1]; exact Nat.ne_of_lt (Nat.lt_succ_of_lt hlS)
      have nS : s.heap.objs.size ∉ [(s.heap.push { cls := .type "set", dict := none, data := .set #[] 0 (.fresh 0 0 led) }).objs.size, l] := by
        rw [hsz1]
        simp only [List.mem_cons, List.not_mem_nil, or_false, not_or]
        exact ⟨Nat.ne_of_lt (Nat.lt_succ_self _), Nat.ne_of_gt hlS⟩
      have hlen : items.size = xs.length := by rw [← PyProof.Rows.StrsAre.len_eq hi, Array.length_toList]
      have hval : ∀ (i : Nat) (v : Value), items[i]? = some v → ∃ z t, xs[i]? = some z ∧ v = .str z t := fun i v hv => by
        obtain ⟨t, e⟩ := SS.strs_at hi i v (by rw [Array.getElem?_toList]; exact hv)
        have hlt : i < xs.length := by rw [← hlen]; exact (Array.getElem?_eq_some_iff.mp hv).1
        refine ⟨xs[i], t, List.getElem?_eq_getElem hlt, ?_⟩
        rw [e, List.getD_eq_getElem?_getD, List.getElem?_eq_getElem hlt]; rfl
      refine upd_texts ((Walks.tuple hh3 _ l nI items).toS) nS xs hlen hb hval (fun s' hS' mv => ?_) (items.size - 0) 0 _ rfl (Nat.zero_le _) ⟨⟨_, Heap.get?_push_size _ rfl, rfl, rfl⟩, hl1.push _⟩ (.inl rfl) ?_
      · obtain ⟨h', g', d', tk', os'⟩ := s'
        have eg : g' = s.gens := mv.gens
        have ed : d' = s.drawn := mv.drawn
        have eo : os' = s.os := mv.os
        subst eg ed eo
        show wpAny _ _ _ _ _ _
        refine wpAny_pure ?_
        show wpAny _ _ (ret Value.none) _ _ _
        refine wpAny_pure ⟨rfl, h', tk', rfl, hS', fun b o e => ?_⟩
        have hb0 : b < s.heap.objs.size := Heap.lt_size e
        refine mv.heap b o ?_ (Heap.get?_push_of_some _ (Heap.get?_push_of_some _ e))
        simp only [List.mem_cons, List.not_mem_nil, or_false, not_or]
        exact ⟨Nat.ne_of_lt hb0, by rw [hsz1]; exact Nat.ne_of_lt (Nat.lt_succ_of_lt hb0)⟩
      · have hg2 := Heap.get?_push_of_some { cls := .type "tuple_iterator", data := .fields #[.ref l, .int 0 0] } hS
        exact PyProof.Rows.SetOf_congr ((PyProof.Rows.setObjOf_fresh (knd := PySem.strKind P w) led).setOf hg2 (by unfold scanBound; omega)) (fun _ => rfl) rfl
    · match r, hr with
      | .ok (.ret r), hr =>
        obtain ⟨rfl, h', tk, rfl, hS', hk⟩ := hr
        repeat (any_goals (first | assumption | wp_step))
        exact h _ _ hS' hk
      | .error e, hr => exact hr
  | .error e, hr => exact hr
end
section
variable {X : Cx} {Wx : WX} {a : Expr} {f : XE}
def rLenSet (K : PySem.W.Frag) : VK → V → Hp → Prop := fun Q x H => ∃ l, ∃ xs : List Str, x = .ref l ∧ SqT K H l (xs.map V.str) ∧ xs.length + 1 < scanBound ∧ Q (.int (metS xs).length) H
theorem pe_lenSetA {ta : TE} {p p2 q pos : Pos} (hc : X.calm = true) (hg : Gl X "len") (hm : X.mg "len" = none) (hg2 : Gl X "set") (hm2 : X.mg "set" = none) (ha : PE X a ta)
    (na : starEach [a] X.env = (false, eval a X.env) :: starEach [] X.env := by rfl) : PE X (.Call (.Name "len" p) [.Call (.Name "set" p2) [a] [] q] [] pos) (fun σ H Q => ta σ H fun x H1 => rLenSet X.K Q x H1) := by
  refine ⟨fun pins s σ H Q I h => ?_⟩
  refine PyProof.Rows.Call_ (ld_blt I hg hm PySem.boot_len ?_)
  refine PyProof.Rows.callWith_builtin1 (PyProof.Rows.args_cons ?_ rfl) rfl rfl
  refine PyProof.Rows.Call_ (ld_blt I hg2 hm2 PyProof.Rows.boot_set ?_)
  refine PyProof.Rows.callWith_type1 (PyProof.Rows.args_cons (thn (ha.run pins s σ H _ I h) fun v s1 ⟨x, H1, I1, r1, q1⟩ => PyProof.Rows.args_nil ?_) na) na rfl
  obtain ⟨l, xs, rfl, hq, h1, q1⟩ := q1
  cases r1
  obtain ⟨its, r, pl, hz⟩ := I1.tuple hq
  refine call_setT (I1.ok.hd hc) (show s1.heap.IsTuple l its.toArray from pl) (by simpa using strsAre_of r) h1 fun h' tk hS hk => PyProof.Rows.args_nil ?_
  obtain ⟨o, es, ep, t, ho, hex, hd, _, _, _, hf, hn⟩ := hS
  have I2 : Inv X pins σ H1 { s1 with heap := h', toks := tk } := I1.kept fun b o e => hk b o e
  have hle := metS_le xs
  have hb : (scanBound : Int) < 2 ^ 63 := by unfold scanBound; decide
  refine call_len_set ho hex hd hf (by rw [hn] <;> omega) ⟨.int (metS xs).length, H1, I2.tok _, ⟨_, by rw [hn]⟩, q1⟩
def lenSetD : D → Option D
  | .tuple ds => (strsOf ds).bind fun ys => if ys.length + 1 < scanBound then some (.int (metS ys).length) else none
  | _ => none
theorem d_lenSet {p p2 q pos : Pos} (hc : X.calm = true) (hg : Gl X "len") (hm : X.mg "len" = none) (hg2 : Gl X "set") (hm2 : X.mg "set" = none) (ha : PE X a (GX X.K (aft (rD X.K)) Wx f))
    (na : starEach [a] X.env = (false, eval a X.env) :: starEach [] X.env := by rfl) : PE X (.Call (.Name "len" p) [.Call (.Name "set" p2) [a] [] q] [] pos) (GX X.K (aft (rD X.K)) Wx (x1 lenSetD f)) :=
  peImp (pe_lenSetA hc hg hm hg2 hm2 ha na) fun σ H Q ⟨W0, W, ρ, s, e1, ok, en, p⟩ => by
    subst e1
    refine GX.mk ok en (Post.mono p.bind fun d s1 W1 st1 ok1 p1 v hv => ?_)
    obtain ⟨d', e, q⟩ := p1.lift
    unfold lenSetD at e
    split at e
    · obtain ⟨ys, h1, h2⟩ := Option.bind_eq_some_iff.mp e
      split at h2
      · rename_i hz
        cases h2
        cases hv with
        | tup g1 g2 =>
          have ev := strs_dr g2 h1
          subst ev
          exact ⟨_, ys, rfl, SqT.of (ok1.ex _ _ g1), hz, q W1 (Step.refl _) ok1 _ (.int _)⟩
      · cases h2
    · cases e
end
end M

/-! M, part 10: what is walked, of any kind; several targets; defs by their names. -/
namespace M
open PySem L2
open PyProof.Rows (envOfC)
section
variable {X : Cx} {Wx : WX} {pos p : Pos} {tg e : Expr} {f : XE} {g : XA}
/-- a list, a tuple, a text -/
def iAny (f : XE) : XI := fun ρ s => (f ρ s).bind fun d s1 => match d with
  | .list ds => .ok ds s1
  | .tuple ds => .ok ds s1
  | .str x => .ok (strD x) s1
  | _ => .bad
theorem pi_or {t1 t2 : TI} (h1 : PI X tg e t1) (h2 : PI X tg e t2) : PI X tg e (fun σ H R => t1 σ H R ∨ t2 σ H R) := ⟨fun pins s σ H R I q => q.elim (h1.run pins s σ H R I) (h2.run pins s σ H R I)⟩
theorem i_any (h : PE X e (GX X.K (aft (rD X.K)) Wx f)) : PI X tg e (GI X.K Wx (iAny f)) := piImp (pi_or (i_list h) (pi_or (i_tup h) (i_str h))) fun σ H R ⟨W0, W, ρ, s, e1, ok, en, q⟩ => by
  unfold iAny at q
  cases ho : f ρ s with
  | ok d s1 =>
    rw [ho] at q
    cases d with
    | list ds => exact .inl ⟨W0, W, ρ, s, e1, ok, en, by unfold iListOnly; rw [ho]; exact q⟩
    | tuple ds => exact .inr (.inl ⟨W0, W, ρ, s, e1, ok, en, by unfold iTupOnly; rw [ho]; exact q⟩)
    | str x => exact .inr (.inr ⟨W0, W, ρ, s, e1, ok, en, by unfold iStrD; rw [ho]; exact q⟩)
    | _ => exact q.elim
  | exc c s1 =>
    rw [ho] at q
    exact .inl ⟨W0, W, ρ, s, e1, ok, en, by unfold iListOnly; rw [ho]; exact q⟩
  | bad => rw [ho] at q; exact q.elim
def iEnA (g : XA) : XI := fun ρ s => (g ρ s).bind fun ds s1 => match ds with
  | [.list ds] => .ok (enumD 0 ds) s1
  | [.tuple ds] => .ok (enumD 0 ds) s1
  | _ => .bad
theorem i_enA {elts : List Expr} {kk : Nat} {tpos : Pos} (hg : Gl X "enumerate") (hm : X.mg "enumerate" = none) (ha : PA X [e] (GA X.K Wx g)) (hs : starEach [e] X.env = [(false, eval e X.env)] := by rfl) :
    PI X (.Tuple elts kk tpos) (.Call (.Name "enumerate" p) [e] [] pos) (GI X.K Wx (iEnA g)) :=
  piImp (pi_or (i_enum hg hm ha hs) (i_enT hg hm ha hs)) fun σ H R ⟨W0, W, ρ, s, e1, ok, en, q⟩ => by
    unfold iEnA at q
    cases ho : g ρ s with
    | ok ds s1 =>
      rw [ho] at q
      have q' : Post X.K W (match ds with | [.list ds] => Out.ok (enumD 0 ds) s1 | [.tuple ds] => .ok (enumD 0 ds) s1 | _ => .bad) (fun ds _ W' => ∀ J, IterOk X.K J W' ds → R J W'.H) (wexc X.K Wx σ) := q
      split at q'
      · exact .inl ⟨W0, W, ρ, s, e1, ok, en, by unfold iEnumD; rw [ho]; exact q'⟩
      · exact .inr ⟨W0, W, ρ, s, e1, ok, en, by unfold iEnTD; rw [ho]; exact q'⟩
      · exact q'.elim
    | exc c s1 =>
      rw [ho] at q
      exact .inl ⟨W0, W, ρ, s, e1, ok, en, by unfold iEnumD; rw [ho]; exact q⟩
    | bad => rw [ho] at q; exact q.elim

/-! ### a target of any kind -/
def toN (o : Option Env) (s : Sto) : Res := match o with
  | some ρ => .next ρ s
  | none => .bad
def sTo (t : XG) (f : XE) : XS := stX f fun d ρ s => toN (t d ρ) s
theorem p_to {js : List Nat} {t : XG} (he : PE X e (GX X.K (aft (rD X.K)) Wx f)) (hg : PG X tg (GG X.K js t)) (hs : swapsWithSole [tg] e pos.line X.env = pure false := by rfl) (hw : swappedStores [tg] e X.env = pure none := by rfl)
    (h1 : (assignEach [tg] X.env).map (·.2) = [assign tg X.env] := by rfl) : L2.PS X (.Assign [tg] e pos) (GS X.K Wx (sTo t f)) := psImp (ps_asg he hg hs hw h1) fun D σ H ⟨W0, W, ρ, s, e1, h, q⟩ => by
  subst e1
  refine GX.mk h.ok h.en (Post.mono (PS.x h q) fun d s1 W1 _ _ q1 v hv => ?_)
  obtain ⟨h1, q1⟩ := q1
  cases et : t d ρ with
  | none => unfold toN at q1; rw [et] at q1; exact q1.elim
  | some ρ' =>
    unfold toN at q1
    rw [et] at q1
    exact ⟨W0, W1, ρ, s1, d, rfl, h1.ok, h1.en, hv, ρ', et, fun σ' en' _ => q1 σ' W1 (Mon.refl W1) ⟨h1.st, h1.ok, en'⟩⟩

theorem hu65 {k : Nat} {A : Around} (hr : Room k A) : A.units + 65 < cLine := by have := hr.un; omega
/-! ### defs by their names -/
def FnIs (P : Program) (w : World) (K : PySem.W.Frag) (mg : Str → Option Value) (base : Heap) (k : Nat) (x : Str) (ps : List Str) (n : Nat) (m : Fn) : Prop :=
  ∃ fd, FnOk P w K mg base (L2.CX P w) k (He.ga K x) fd ps (spM K n m) ∧ mg x = some (.ref (He.ga K x)) ∧ PySem.W.keepIn K (.ref (He.ga K x)) = true ∧ Binds K fd ps [] ∧ (∀ (s : Shared) (us : List Value), us.length = ps.length → BindsTo s fd ⟨us, []⟩ (ps.zip us)) ∧ ∃ oc od osl, K.lookup (He.ga K x) = some ⟨oc, od, .func fd, osl⟩
theorem fn_is {P : Program} {w : World} {K : PySem.W.Frag} {mg : Str → Option Value} {base : Heap} {x qual : Str} {params : Arguments} {body : List Stmt} {scope : Scope} {N ps : List Str} {k n : Nat} {b : XS}
    (F : ∃ fd, FunD K x qual params body scope [] [] (He.ga K x) fd) (g : mg x = some (.ref (He.ga K x))) (S : FnScope N ps scope) (hn : ps.length = n)
    (hbind : ∀ (kV doc pm : Value) (an : Option Addr) (cdv ct : Value) (us : List Value), us.length = ps.length → bindArgs (PySem.W.fnOf x qual params body scope .none kV doc pm an cdv ct) ⟨us, []⟩ = pure (ps.zip us))
    (hb : ∀ (cdv : Value) (A : Around) (outer : List PySem.Env) (s : Shared) (H : Hp) (E : XK), Room k (A.deeper (envOfC qual scope s.heap.objs.size (He.ga K x) cdv)) → PSs (cxOf (L2.CX P w) P w K mg base N qual scope (He.ga K x) cdv A outer s H E) body (GS K (wE E) b)) :
    FnIs P w K mg base (k + 1) x ps n (runB b N.length) := by
  obtain ⟨fd, F⟩ := F
  subst hn
  exact ⟨fd, fn_rule F S hb, g, F.kp, F.bindsN hbind, FunD.bindsA F hbind, by
    obtain ⟨oc, od, _, _, _, _, _, _, _, osl, _, lk, _⟩ := F.ex
    exact ⟨oc, od, osl, lk⟩⟩
theorem FnIs.mono {P : Program} {w : World} {K : PySem.W.Frag} {mg : Str → Option Value} {base : Heap} {j k n : Nat} {x : Str} {ps : List Str} {m : Fn} (F : FnIs P w K mg base j x ps n m) (h : j ≤ k) : FnIs P w K mg base k x ps n m := by
  obtain ⟨fd, F, r⟩ := F
  exact ⟨fd, F.mono h, r⟩
theorem d_fn {j k n : Nat} {x : Str} {ps : List Str} {m : Fn} {es : List Expr} (F : FnIs X.prog X.w X.K X.mg X.base j x ps n m) (hr : Room k X.A) (hj : j ≤ k) (tk : Takes X Wx) (ha : PA X (e :: es) (GA X.K Wx g)) (hg : Gl X x := by rfl) (hdb : (x == ("__debug__" : Str)) = false := by decide) (he : starEach (e :: es) X.env = (false, eval e X.env) :: starEach es X.env := by rfl)
    (hpl : (backTo pos (starEach es X.env)).any (·.1) = false := by rfl) : PE X (.Call (.Name x p) (e :: es) [] pos) (GX X.K (aft (rD X.K)) Wx (xCall n m g)) := by
  obtain ⟨fd, F, h1, h2, h3, _⟩ := F
  exact d_call F (hr.mono hj) hg h1 h2 h3 tk ha hdb he hpl
theorem d_fn0 {j k : Nat} {x : Str} {ps : List Str} {m : Fn} (F : FnIs X.prog X.w X.K X.mg X.base j x ps 0 m) (hr : Room k X.A) (hj : j ≤ k) (tk : Takes X Wx) (hg : Gl X x := by rfl) (hdb : (x == ("__debug__" : Str)) = false := by decide) : PE X (.Call (.Name x p) [] [] pos) (GX X.K (aft (rD X.K)) Wx (xCall 0 m aN)) := by
  obtain ⟨fd, F, h1, h2, h3, _⟩ := F
  exact d_call0 F (hr.mono hj) hg h1 h2 h3 tk hdb
/-- an exception class of one's own -/
structure ExcIs (K : PySem.W.Frag) (mg : Str → Option Value) (x : Str) : Prop where
  q : PySem.W.excIn K (He.ga K x) He.veBase "ValueError.__new__" = true
  g : mg x = some (.ref (He.ga K x))
  k : PySem.W.keepIn K (.ref (He.ga K x)) = true
  s : PySem.W.subIn K (.ref (He.ga K x)) (.type "BaseException") = some true
  t : PySem.W.typeIn K (.ref (He.ga K x)) = some (.type "type")
theorem p_raiseX {x m : Str} {j : Nat} {p1 p2 p3 pos2 : Pos} (c : ExcIs X.K X.mg x) (hc : X.calm = true) (tk : Takes X Wx) (hg : Gl X x := by rfl) (hdb : (x == ("__debug__" : Str)) = false := by decide) : L2.PS X (.Raise (some (.Call (.Name x p1) [.Constant (.str m) j p2] [] p3)) none pos2) (GS X.K Wx (sRaise x)) :=
  p_raise hc tk c.q c.g c.k (raises_own c.s c.t) hg hdb
end
theorem fnis_all {P : Program} {w : World} {K : PySem.W.Frag} {mg : Str → Option Value} {k n : Nat} {x : Str} {ps : List Str} {m : Fn} (b0 : Heap) (F : ∀ base, FnIs P w K mg base k x ps n m) :
    ∃ fd, (∀ (s : Shared) (us : List Value), us.length = ps.length → BindsTo s fd ⟨us, []⟩ (ps.zip us)) ∧ ∀ base, FnOk P w K mg base (L2.CX P w) k (He.ga K x) fd ps (spM K n m) := by
  obtain ⟨fd, _, _, _, _, hb, oc, od, osl, lk⟩ := F b0
  refine ⟨fd, hb, fun base => ?_⟩
  obtain ⟨fd', F', _, _, _, _, oc', od', osl', lk'⟩ := F base
  rw [lk] at lk'
  cases lk'
  exact F'
end M

/-! M, part 11: the end of a law. -/
namespace M
open PySem L2
theorem dr_intsS {K : PySem.W.Frag} {ι : List Addr} {F : Hp} : ∀ ns : List Int, DrAll K ι F (ns.map V.int) (ns.map PyData.int)
  | [] => .nil
  | n :: r => .cons (.int n) (dr_intsS r)
/-- a mirror says True -/
def Says (m : Fn) (ns : List Int) : Prop := ∃ s', m [scrD (ns.map PyData.int)] [] = .ok (.bool true) s'
theorem end_sp {K : PySem.W.Frag} {m : Fn} {H : Hp} {a : Addr} {ns : List Int} (h : Says m ns) (hS : SqL K H a (ns.map V.int)) : spM K 1 m [.ref a] H (fun v _ => v = .bl true) (fun _ _ _ => False) := by
  obtain ⟨s', e⟩ := h
  refine ⟨⟨[], H, fun _ => False, H⟩, [], [scrD (ns.map PyData.int)], rfl, ⟨Ex.refl _, fun _ z => z.elim, rfl, List.nodup_nil, fun _ _ => 0, fun n r a e => ?_, fun n x xs r n' x' xs' r' e => ?_⟩, rfl, .cons (.scr hS (dr_intsS ns)) .nil, ?_⟩
  · simp at e
  · simp at e
  · rw [e]
    intro W' _ _ v hv
    cases hv
    rfl
theorem walk_end {l : PySem.W.OpenLaw} {n k : Nat} {q : Program} {loose : List Str} {XP : (Str → Option Value) → Heap → Prop} {YP : World → Heap → Prop} {d : DefRec} {x : Str}
    (hn : l.most = some n) (hn2 : n ≤ sizeLine) (hdf : d.params.defaults = []) (hr : Room k callerA)
    (F : ∀ (w : World) (mg : Str → Option Value) (fa : Addr) (h : Heap), YP w h → h.Ns mainGlobals mg → mg d.name = some (.ref fa) →
      ∃ (K : PySem.W.Frag) (fd : FuncData) (m : Fn), K.In h ∧ (∀ (s : Shared) (u : Value), BindsTo s fd ⟨[u], []⟩ [(x, u)]) ∧ (∀ ns : List Int, ns.length ≤ n → Says m ns) ∧
        ∀ base : Heap, K.In base → base.Ns mainGlobals mg → FnOk l.prog w K mg base (L2.CX l.prog w) k fa fd [x] (spM K 1 m)) :
    PySem.W.WalkO q loose XP YP l.row.toRowW d [] (fun f vs => PySem.call f vs) := by
  refine Att.attach_call hn hdf fun w s₀ s₁ mg mb fa o pm cd doc a vs ns G Y ho hd hcd hmg hobj hints hlen hg => ?_
  obtain ⟨K, fd, m, KX, hb, hm, hF⟩ := F w mg fa _ Y G.T.g hmg
  refine law_call KX G.T.g G.T.b G.T.builtins G.T.nolimit hg hobj hints (Nat.le_trans hlen hn2) hr hF hb (fun H hO hS => end_sp (hm ns hlen) hS) fun H e s' z => ?_
  obtain ⟨_, _, _, _, _, _, _, _, _, _, _, _, z⟩ := z
  exact z
end M

/-! M, part 13: what is not reached; try; two names at once; more of zip, tuples, lists. -/
namespace M
open PySem L2
section
variable {X : Cx} {Wx : WX} {pos : Pos} {a b e : Expr} {f f1 f2 : XE} {R : RB}
/-! ### not reached -/
def xBad : XE := fun _ _ => .bad
def tBad : XT := fun _ _ => .bad
def sBad : XS := fun _ _ => .bad
theorem d_bad : PE X e (GX X.K R Wx xBad) := ⟨fun pins s σ H Q I h => by
  obtain ⟨_, _, _, _, _, _, _, p⟩ := h
  exact p.elim⟩
theorem d_badD : PE X e (GX X.K (aft (rD X.K)) Wx xBad) := d_bad
theorem t_bad : PT X e (GT X.K Wx tBad) := ⟨fun pins s σ H Q I h => by
  obtain ⟨_, _, _, _, _, _, _, p⟩ := h
  exact p.elim⟩
theorem p_bad {st : Stmt} : L2.PS X st (GS X.K Wx sBad) := ⟨fun pins s σ H D I h => by
  obtain ⟨_, _, _, _, _, _, p⟩ := h
  exact p.elim⟩
theorem pp_bad {st : List Stmt} : PSs X st (GS X.K Wx sBad) := ⟨fun pins s σ H D I h => by
  obtain ⟨_, _, _, _, _, _, p⟩ := h
  exact p.elim⟩
/-! ### try -/
def noX (r : Res) : Res := match r with
  | .exc _ _ _ => .bad
  | r => r
abbrev Hds := List (Str × XS)
def pickH (m : Str → Str → Option Bool) (c : Str) : Hds → Option (Option XS)
  | [] => some none
  | (h, bh) :: r => match m c h with
    | some true => some (some bh)
    | some false => pickH m c r
    | none => none
def sTry (m : Str → Str → Option Bool) (b : XS) (hs : Hds) : XS := fun ρ s => match b ρ s with
  | .exc c ρ1 s1 => (match pickH m c hs with
    | some (some bh) => noX (bh ρ1 s1)
    | some none => .exc c ρ1 s1
    | none => .bad)
  | r => r
def hdsL (K : PySem.W.Frag) (hs : Hds) : List (Value × (Addr → Value → Option Addr → TS)) := hs.map fun p => (.ref (He.ga K p.1), fun _ _ _ => GS K W0x p.2)
def HdsM (X : Cx) (hds : List ExceptHandler) (hs : Hds) : Prop := HdsOk X hds (hdsL X.K hs)
theorem h_nil : HdsM X [] [] := .nil
theorem h_cons {x : Str} {b₀ : Stmt} {suite : List Stmt} {np pos' : Pos} {hds : List ExceptHandler} {bh : XS} {hs : Hds} (gm : X.mg x = some (.ref (He.ga X.K x))) (hsu : ∀ (a : Addr) (pn : List (Addr × Obj)), PSs (X.suite a pn) (b₀ :: suite) (GS X.K W0x bh)) (r : HdsM X hds hs)
    (hg : Gl X x := by rfl) (hdb : (x == ("__debug__" : Str)) = false := by decide) : HdsM X (.ExceptHandler (some (.Name x np)) none (b₀ :: suite) pos' :: hds) ((x, bh) :: hs) :=
  .cons ⟨hg, hdb, .inl gm⟩ (fun a oe cls d pn _ _ => hsu a ((a, oe) :: pn)) r
theorem many_of {K : PySem.W.Frag} {m : Str → Str → Option Bool} {W0 W : Wd} {D : Ends} {c : Str} {ρ : Env} {s : Sto} {σ : St} (hm : ∀ h k, m c h = some k → PySem.W.exmOne K (.ref (He.ga K c)) (.ref (He.ga K h)) = some k) (h2 : St2 K W0 W σ ρ s) : ∀ hs : Hds,
    (match pickH m c hs with | some (some bh) => PS K Wx W0 W D (noX (bh ρ s)) | some none => Wx (.ref (He.ga K c)) none σ W.H | none => False) → wMany K Wx D (hdsL K hs) (.ref (He.ga K c)) none σ W.H
  | [], p => p
  | (h, bh) :: r, p => by
    unfold pickH at p
    cases e : m c h with
    | none => rw [e] at p; exact p.elim
    | some k =>
      rw [e] at p
      refine ⟨k, hm h k e, fun hk a ha => ?_, fun hk => ?_⟩
      · subst hk
        refine GS.mk h2 ?_
        have p' : PS K Wx W0 W D (noX (bh ρ s)) := p
        show PS K W0x W0 W D (bh ρ s)
        cases eb : bh ρ s with
        | exc c' ρ' s' => rw [eb] at p'; exact p'.elim
        | next ρ' s' => rw [eb] at p'; exact p'
        | ret d s' => rw [eb] at p'; exact p'
        | brk ρ' s' => rw [eb] at p'; exact p'
        | cont ρ' s' => rw [eb] at p'; exact p'
        | bad => rw [eb] at p'; exact p'
      · subst hk
        exact many_of hm h2 r p
theorem p_try {body : List Stmt} {h₀ : ExceptHandler} {hds : List ExceptHandler} {bd : XS} {hs : Hds} (m : Str → Str → Option Bool) (hm : ∀ c h k, m c h = some k → PySem.W.exmOne X.K (.ref (He.ga X.K c)) (.ref (He.ga X.K h)) = some k) (tk : Takes X Wx)
    (hb : ∀ (W : WX) (pn : List (Addr × Obj)) (xe : Value → Shared → Prop), Takes (X.tr pn xe) W → PassesOwn (model X.prog X.w) X.A X.env xe → PSs (X.tr pn xe) body (GS X.K W bd)) (hh : HdsM X (h₀ :: hds) hs)
    (hst : X.stack = X.env :: X.outer := by rfl) (hf : X.env.frame = some X.env.locals := by rfl) : L2.PS X (.Try body (h₀ :: hds) [] [] pos) (GS X.K Wx (sTry m bd hs)) := psImp (ps_try_many hst hf tk hb hh) fun D σ H ⟨W0, W, ρ, s, e1, h, p⟩ => by
  subst e1
  refine GS.mk h ?_
  unfold sTry at p
  cases eb : bd ρ s with
  | next ρ1 s1 => rw [eb] at p; exact p
  | ret d s1 => rw [eb] at p; exact p
  | brk ρ1 s1 => rw [eb] at p; exact p
  | cont ρ1 s1 => rw [eb] at p; exact p
  | bad => rw [eb] at p; exact p
  | exc c ρ1 s1 =>
    rw [eb] at p
    intro σ' W' mn h'
    refine many_of (m := m) (hm c) h' hs ?_
    have p' : PS X.K Wx W0 W D (match pickH m c hs with | some (some bh) => noX (bh ρ1 s1) | some none => .exc c ρ1 s1 | none => .bad) := p
    cases ep : pickH m c hs with
    | none => rw [ep] at p'; exact p'.elim
    | some o =>
      rw [ep] at p'
      cases o with
      | none => exact p' σ' W' mn h'
      | some bh => exact PS.later p' mn
/-! ### a, b = x, y -/
def sPar (i j : Nat) (g : XA) : XS := stX g fun ds ρ s => match ds with
  | [d1, d2] => .next ((ρ.set i (.val d1)).set j (.val d2)) s
  | _ => .bad
theorem p_par {i j : Nat} {x y : Str} {px py pt : Pos} {kt k2 pt2} {g : XA} (hc : X.calm = true) (hN : X.N.Nodup) (ha : PA X [a, b] (GA X.K Wx g)) (hi : X.N[i]? = some x := by rfl) (hj : X.N[j]? = some y := by rfl) (hij : i ≠ j := by decide)
    (hx : X.env.scope.names.lookup x = some .local := by rfl) (hy : X.env.scope.names.lookup y = some .local := by rfl)
    (hw : swappedStores [.Tuple [.Name x px, .Name y py] kt pt] (.Tuple [a, b] k2 pt2) X.env = pure (some [x, y]) := by rfl)
    (hs : swapsWithSole [.Tuple [.Name x px, .Name y py] kt pt] (.Tuple [a, b] k2 pt2) pos.line X.env = pure false := by rfl) :
    L2.PS X (.Assign [.Tuple [.Name x px, .Name y py] kt pt] (.Tuple [a, b] k2 pt2) pos) (GS X.K Wx (sPar i j g)) := psImp (ps_par hc hN hi hj hij hx hy ha hw hs) fun D σ H ⟨W0, W, ρ, s, e1, h, p⟩ => by
  subst e1
  refine GA.mk h.ok h.en (Post.mono (PS.x h p) fun ds s1 W1 _ _ q vs hvs => ?_)
  obtain ⟨h1, q⟩ := q
  split at q
  · cases hvs with
    | cons r1 r2 =>
      cases r2 with
      | cons r3 r4 =>
        cases r4
        exact ⟨_, _, rfl, q _ W1 (Mon.refl W1) ⟨h1.st, h1.ok, (h1.en.set r1).set r3⟩⟩
  · exact q.elim
end

/-! ### which classes catch which -/
def AllP {α : Type} (p : α → Prop) : List α → Prop
  | [] => True
  | x :: r => p x ∧ AllP p r
theorem AllP.all {α : Type} {p : α → Prop} : ∀ {l : List α}, AllP p l → ∀ x ∈ l, p x
  | [], _, x, h => by simp at h
  | y :: r, h, x, hx => by
    rcases List.mem_cons.mp hx with rfl | hx
    · exact h.1
    · exact AllP.all h.2 x hx
def exmB (c h : Str) : Bool := c == h || h == "LineError"
def exmOf (names : List Str) (c h : Str) : Option Bool := if c ∈ names ∧ h ∈ names then some (exmB c h) else none
theorem exm_of {K : PySem.W.Frag} {names : List Str} (H : AllP (fun c => AllP (fun h => PySem.W.exmOne K (.ref (He.ga K c)) (.ref (He.ga K h)) = some (exmB c h)) names) names) (c h : Str) (k : Bool) (e : exmOf names c h = some k) :
    PySem.W.exmOne K (.ref (He.ga K c)) (.ref (He.ga K h)) = some k := by
  unfold exmOf at e
  split at e
  · rename_i q
    cases e
    exact (H.all c q.1).all h q.2
  · cases e
end M

/-! M, part 14: zip of a list and a tuple. -/
namespace M
open PySem L2
/-- the list at a and the tuple at b, the items in new pairs -/
def ItzM (K : PySem.W.Frag) (a b : Addr) : It :=
  ⟨fun i H => ∃ (xs ys : List V) (x y : V), SqL K H a xs ∧ SqT K H b ys ∧ xs[i]? = some x ∧ ys[i]? = some y,
    fun i H v H' => ∃ T x y, v = .ref T ∧ H T = none ∧ H' = upd H T (.tup [x, y]) ∧ (∀ xs, SqL K H a xs → xs[i]? = some x) ∧ ∀ ys, SqT K H b ys → ys[i]? = some y,
    fun i H => ∃ xs ys : List V, SqL K H a xs ∧ SqT K H b ys ∧ i ≤ xs.length ∧ i ≤ ys.length ∧ (i = xs.length ∨ i = ys.length)⟩
theorem turn_zipM {P : Program} {w : World} {K : PySem.W.Frag} {elts : List Expr} {kk : Nat} {tpos : Pos} {a b z TI TO i1 i2 : Addr} (S : ZipSep2 z TI TO i1 i2 [i1, a] [i2, b]) (h1a : a ≠ i1) (h2b : b ≠ i2) :
    Turn P w K (.Tuple elts kk tpos) (ItzM K a b) [z, TI, TO, i1, i2] z (fun i h => IsZip h z TI TO .none ∧ IsTupOf2 h TI (.ref i1) (.ref i2) ∧ (∃ x y, IsTupOf2 h TO x y) ∧ h.IsListIter i1 a i ∧ h.IsTupleIter i2 b i) where
  mem := by simp
  obj := fun i h st c hc => by
    obtain ⟨hz, hTI, ⟨x, y, hTO⟩, ⟨o1, e1, _, d1⟩, ⟨o2, e2, _, d2⟩⟩ := st
    have e' : c = z ∨ c = TI ∨ c = TO ∨ c = i1 ∨ c = i2 := by simpa using hc
    rcases e' with q | q | q | q | q
    · rw [q]; exact ⟨_, hz, fun v q => nomatch q⟩
    · rw [q]; exact ⟨_, hTI, fun v q => nomatch q⟩
    · rw [q]; exact ⟨_, hTO, fun v q => nomatch q⟩
    · rw [q]; exact ⟨o1, e1, fun v q => by rw [d1] at q; cases q⟩
    · rw [q]; exact ⟨o2, e2, fun v q => by rw [d2] at q; cases q⟩
  keep := fun i h h' st k => by
    obtain ⟨hz, hTI, ⟨x, y, hTO⟩, h1, h2⟩ := st
    exact ⟨k z (by simp) _ hz, k TI (by simp) _ hTI, ⟨x, y, k TO (by simp) _ hTO⟩, h1.at fun o q => k i1 (by simp) o q, h2.at fun o q => k i2 (by simp) o q⟩
  item := by
    intro X hP hw hK hc i pins s σ H E I hf st hg
    subst hP hw hK
    obtain ⟨hz, hTI, ⟨x0, y0, hTO⟩, h1, h2⟩ := st
    obtain ⟨xs, ys, x, y, hqx, hqy, hx, hy⟩ := hg
    obtain ⟨its, rv, p, _⟩ := I.list hqx
    obtain ⟨its2, rv2, p2, _⟩ := I.tuple hqy
    obtain ⟨u, hu, ru⟩ := rv.get hx
    obtain ⟨u2, hu2, ru2⟩ := rv2.get hy
    have hzl : z < s.heap.objs.size := Heap.lt_size hz
    have hhd : X.A.in1.handled = none := by have := I.ok.hd hc; simp [this]
    have hlt1 : i < its.toArray.size := by rw [List.size_toArray]; exact (List.getElem?_eq_some_iff.mp hu).1
    have hlt2 : i < its2.toArray.size := by rw [List.size_toArray]; exact (List.getElem?_eq_some_iff.mp hu2).1
    have p2' : s.heap.IsTuple b its2.toArray := p2
    refine wpAny_pyNext_zipD2_item S (Draws.list hhd i1 a h1a its.toArray) (Draws.tuple hhd i2 b h2b its2.toArray) hz hTI hTO ⟨h1, p.isList⟩ ⟨h2, p2'⟩ hlt1 hlt2 fun v1 v2 h' tk q1 q2 z' TO' s1 s2 hT hsz hk => ?_
    have e1 : v1 = u := by
      have hq : its.toArray[i]? = some u := by simpa using hu
      rw [hq] at q1
      exact (Option.some.inj q1).symm
    have e2 : v2 = u2 := by
      have hq : its2.toArray[i]? = some u2 := by simpa using hu2
      rw [hq] at q2
      exact (Option.some.inj q2).symm
    subst e1 e2
    refine ⟨_, rfl, wpAny_letOwnedTupleGo_zip (s := { s with heap := h', toks := tk }) z' fun h'' z'' sb => ?_⟩
    have hT2 : h''.get? s.heap.objs.size = some { cls := .type "tuple", data := .seq #[v1, v2] } := (sb.2 _ (Nat.ne_of_gt hzl)).trans hT
    have new : ObjOk X.prog X.w (upd H s.heap.objs.size (.tup [x, y])) h'' s.heap.objs.size (.tup [x, y]) :=
      ⟨by show 2 ≤ sizeLine; decide, [v1, v2], .cons ru (.cons ru2 .nil), ⟨_, hT2, rfl, _, rfl⟩⟩
    have I1 : Inv X pins σ (upd H s.heap.objs.size (.tup [x, y])) { s with heap := h'', toks := tk } :=
      I.turnedNew (ch := [z, TI, TO, i1, i2]) (fun c o hb q => (sb.2 c (fun q' => hb (by simp [q']))).trans (hk c o (fun q' => hb (by simp [q'])) (fun q' => hb (by simp [q'])) (fun q' => hb (by simp [q'])) (fun q' => hb (by simp [q'])) q)) hf (Nat.le_refl _) new
    have i1z : i1 ≠ z := fun q => S.zf1 (by rw [← q]; simp)
    have i2z : i2 ≠ z := fun q => S.zf2 (by rw [← q]; simp)
    refine ⟨.ref s.heap.objs.size, _, I1, rfl, ⟨_, x, y, rfl, I.hok.fresh (Nat.le_refl _), rfl, fun l hl => by rw [I.list_inj hl hqx]; exact hx, fun l hl => by rw [I.tuple_inj hl hqy]; exact hy⟩, ⟨z'', ?_, ⟨v1, v2, ?_⟩, ?_, ?_⟩, fun c hcm => ?_⟩
    · exact (sb.2 _ S.TIz).trans (hk _ _ S.TIz S.TITO S.TIi1 S.TIi2 hTI)
    · exact (sb.2 _ S.TOz).trans TO'
    · exact s1.1.at fun o q => (sb.2 _ i1z).trans q
    · exact s2.1.at fun o q => (sb.2 _ i2z).trans q
    · have hlt : c < s.heap.objs.size := by
        have e' : c = z ∨ c = TI ∨ c = TO ∨ c = i1 ∨ c = i2 := by simpa using hcm
        rcases e' with q | q | q | q | q
        · rw [q]; exact hzl
        · rw [q]; exact Heap.lt_size hTI
        · rw [q]; exact Heap.lt_size hTO
        · rw [q]; obtain ⟨_, e1, _⟩ := h1; exact Heap.lt_size e1
        · rw [q]; obtain ⟨_, e2, _⟩ := h2; exact Heap.lt_size e2
      rw [upd_ne (Nat.ne_of_lt hlt)]
      exact (hf c hcm).1
  done := by
    intro X hP hw hK hc i pins s σ H E I hf st hg
    subst hP hw hK
    obtain ⟨hz, hTI, ⟨x0, y0, hTO⟩, h1, h2⟩ := st
    obtain ⟨xs, ys, hqx, hqy, l1', l2', hend⟩ := hg
    obtain ⟨its, rv, p, _⟩ := I.list hqx
    obtain ⟨its2, rv2, p2, _⟩ := I.tuple hqy
    have l1 := rv.length
    have l2 := rv2.length
    have hhd : X.A.in1.handled = none := by have := I.ok.hd hc; simp [this]
    have p2' : s.heap.IsTuple b its2.toArray := p2
    exact wpAny_pyNext_zipD2_end S (Draws.list hhd i1 a h1a its.toArray) (Draws.tuple hhd i2 b h2b its2.toArray) hz hTI hTO ⟨h1, p.isList⟩ ⟨h2, p2'⟩ (by simp; omega) (by simp; omega) (by simp; omega)
      fun h' tk hk => ⟨rfl, I.turnedL (t' := tk) (ch := [z, TI, TO, i1, i2]) (fun c o hb q => hk c o (fun q' => hb (by simp [q'])) (fun q' => hb (by simp [q'])) (fun q' => hb (by simp [q'])) (fun q' => hb (by simp [q'])) q) hf⟩
  self := fun A i s Q E st h => wpAny_pyIter_zip st.1 h
def iZipM (K : PySem.W.Frag) (ta : TA) : TI := fun σ H R => ta σ H fun vs H1 => ∃ a b xs ys, vs = [.ref a, .ref b] ∧ SqL K H1 a xs ∧ SqT K H1 b ys ∧ R (ItzM K a b) H1
theorem pi_zipM {X : Cx} {e e2 : Expr} {ta : TA} {p pos tpos : Pos} {elts : List Expr} {kk : Nat} (hg : Gl X "zip") (hm : X.mg "zip" = none) (ha : PA X [e, e2] ta)
    (hs : starEach [e, e2] X.env = (false, eval e X.env) :: starEach [e2] X.env := by rfl) (hpl : (backTo pos (starEach [e2] X.env)).any (·.1) = false := by rfl) :
    PI X (.Tuple elts kk tpos) (.Call (.Name "zip" p) [e, e2] [] pos) (iZipM X.K ta) := by
  refine ⟨fun pins s σ H R I h => ?_⟩
  refine PyProof.Rows.Call_ (ld_blt I hg hm PyProof.Rows.boot_zip (PyProof.Rows.callWith_type1 (thn (ha.run pos pins s σ H _ I h) fun us s1 ⟨vs, H1, I1, r1, q1⟩ => ?_) hs hpl))
  obtain ⟨a, b, xs, ys, ex, hqx, hqy, q⟩ := q1
  subst ex
  cases r1 with
  | cons r rr =>
    cases rr with
    | cons r' rr =>
      cases rr
      cases r
      cases r'
      obtain ⟨its, rv, p1, _⟩ := I1.list hqx
      obtain ⟨its2, rv2, p2, _⟩ := I1.tuple hqy
      have la : a < s1.heap.objs.size := p1.lt
      have lb : b < s1.heap.objs.size := by obtain ⟨o, ho, _⟩ := p2; exact Heap.lt_size ho
      refine zip_begins2 (begins_list a its.toArray) (begins_tuple b its2.toArray) p1.isList (show s1.heap.IsTuple b its2.toArray from p2) fun h' hz hTI hTO g1 g2 hsz hk => wpAny_pyIter_zip hz ?_
      have I2 : Inv X pins σ H1 { s1 with heap := h' } := I1.kept (t' := s1.toks) hk
      have S := zip_sep2 (N := s1.heap.objs.size) (fp1 := [a]) (fp2 := [b]) (by simpa using la) (by simpa using lb)
      refine ⟨s1.heap.objs.size + 4, [s1.heap.objs.size + 4, s1.heap.objs.size + 2, s1.heap.objs.size + 3, s1.heap.objs.size, s1.heap.objs.size + 1], _, _, H1, rfl, I2, turn_zipM S (Nat.ne_of_lt la) (Nat.ne_of_lt (Nat.lt_succ_of_lt lb)), ⟨hz, hTI, ⟨_, _, hTO⟩, ⟨_, g1, rfl, rfl⟩, ⟨_, g2, rfl, rfl⟩⟩, fun c hcm => ?_, q⟩
      have e' : c = s1.heap.objs.size + 4 ∨ c = s1.heap.objs.size + 2 ∨ c = s1.heap.objs.size + 3 ∨ c = s1.heap.objs.size ∨ c = s1.heap.objs.size + 1 := by simpa using hcm
      have hle : s1.heap.objs.size ≤ c := by
        rcases e' with z | z | z | z | z
        · rw [z]; exact Nat.le_add_right _ _
        · rw [z]; exact Nat.le_add_right _ _
        · rw [z]; exact Nat.le_add_right _ _
        · rw [z]; exact Nat.le_refl _
        · rw [z]; exact Nat.le_add_right _ _
      exact I1.fpOk hle (I1.hok.fresh hle)
theorem walk_zipM {K : PySem.W.Frag} {a b : Addr} {xs ys : List V} {n : Nat} (hn : n = min xs.length ys.length) : Walk (ItzM K a b) n (fun H => SqL K H a xs ∧ SqT K H b ys) (YPair (fun i => xs[i]?) (fun i => ys[i]?)) := by
  subst hn
  refine ⟨fun i _ hi q => ?_, fun _ q => ⟨xs, ys, q.1, q.2, by omega, by omega, by omega⟩, fun i H v H' _ q y => ?_⟩
  · have h1 : i < xs.length := by omega
    have h2 : i < ys.length := by omega
    exact ⟨xs, ys, xs[i], ys[i], q.1, q.2, by simp [h1], by simp [h2]⟩
  · obtain ⟨T, x, z, h1, h2, h3, h4, h5⟩ := y
    exact ⟨T, x, z, h1, h2, h3, h4 xs q.1, h5 ys q.2⟩
def zipDs (xs ys : List D) : List D := (xs.zip ys).map fun p => .tuple [p.1, p.2]
theorem zipDs_len (xs ys : List D) : (zipDs xs ys).length = min xs.length ys.length := by unfold zipDs; simp
theorem zipDs_get {xs ys : List D} {i : Nat} {x y : D} (h1 : xs[i]? = some x) (h2 : ys[i]? = some y) : (zipDs xs ys)[i]? = some (.tuple [x, y]) := by
  unfold zipDs
  rw [List.getElem?_map, (List.getElem?_zip_eq_some (z := (x, y))).mpr ⟨h1, h2⟩]
  rfl
section
variable {K : PySem.W.Frag} {W : Wd} {a b : Addr} {vs us : List V} {ds es : List D}
theorem it_zipM (h : W.F a = some (.lst vs)) (hd : DrAll K W.ι W.F vs ds) (h' : W.F b = some (.tup us)) (hd' : DrAll K W.ι W.F us es) : IterOk K (ItzM K a b) W (zipDs ds es) := by
  refine ⟨fun H => SqL K H a vs ∧ SqT K H b us, _, by rw [zipDs_len, ← hd.length, ← hd'.length]; exact walk_zipM (xs := vs) (ys := us) rfl, fun W2 s2 m ok => ⟨SqL.of (ok.ex _ _ (m.exF _ _ h)), SqT.of (ok.ex _ _ (m.exF _ _ h'))⟩, fun i v W2 s2 H' hi m ok y => ?_⟩
  obtain ⟨T, x, y, rfl, hT, rfl, e1, e2⟩ := y
  obtain ⟨d1, g1, g2⟩ := hd.getV e1
  obtain ⟨d2, g3, g4⟩ := hd'.getV e2
  obtain ⟨a1, a2, a3⟩ := new_tup ok hT (.cons (m.dr g2) (.one (m.dr g4)))
  exact ⟨_, _, rfl, a1, a2, zipDs_get g1 g3, a3⟩
theorem it_zip (h : W.F a = some (.lst vs)) (hd : DrAll K W.ι W.F vs ds) (h' : W.F b = some (.lst us)) (hd' : DrAll K W.ι W.F us es) : IterOk K (Itz K a b) W (zipDs ds es) := by
  refine ⟨fun H => SqL K H a vs ∧ SqL K H b us, _, by rw [zipDs_len, ← hd.length, ← hd'.length]; exact walk_zip (xs := vs) (ys := us) rfl, fun W2 s2 m ok => ⟨SqL.of (ok.ex _ _ (m.exF _ _ h)), SqL.of (ok.ex _ _ (m.exF _ _ h'))⟩, fun i v W2 s2 H' hi m ok y => ?_⟩
  obtain ⟨T, x, y, rfl, hT, rfl, e1, e2⟩ := y
  obtain ⟨d1, g1, g2⟩ := hd.getV e1
  obtain ⟨d2, g3, g4⟩ := hd'.getV e2
  obtain ⟨a1, a2, a3⟩ := new_tup ok hT (.cons (m.dr g2) (.one (m.dr g4)))
  exact ⟨_, _, rfl, a1, a2, zipDs_get g1 g3, a3⟩
end
section
variable {X : Cx} {Wx : WX} {e e2 : Expr} {g : XA} {p pos tpos : Pos} {elts : List Expr} {kk : Nat}
def iZipD (g : XA) : XI := fun ρ s => (g ρ s).bind fun ds s1 => match ds with
  | [.list xs, .list ys] => .ok (zipDs xs ys) s1
  | [.list xs, .tuple ys] => .ok (zipDs xs ys) s1
  | _ => .bad
theorem i_zip (hg : Gl X "zip") (hm : X.mg "zip" = none) (ha : PA X [e, e2] (GA X.K Wx g)) (hs : starEach [e, e2] X.env = (false, eval e X.env) :: starEach [e2] X.env := by rfl) (hpl : (backTo pos (starEach [e2] X.env)).any (·.1) = false := by rfl) :
    PI X (.Tuple elts kk tpos) (.Call (.Name "zip" p) [e, e2] [] pos) (GI X.K Wx (iZipD g)) :=
  piImp (pi_or (pi_zip hg hm ha hs hpl) (pi_zipM hg hm ha hs hpl)) fun σ H R ⟨W0, W, ρ, s, e1, ok, en, q⟩ => by
    subst e1
    have q0 := q.bind
    cases ho : g ρ s with
    | bad => rw [ho] at q0; exact q0.elim
    | exc c s1 =>
      rw [ho] at q0
      exact .inl (GA.mk ok en (by rw [ho]; exact q0))
    | ok ds s1 =>
      rw [ho] at q0
      by_cases ht : ∃ xs ys, ds = [.list xs, .tuple ys]
      · obtain ⟨xs, ys, rfl⟩ := ht
        refine .inr (GA.mk ok en ?_)
        rw [ho]
        intro W1 st1 ok1 vs hvs
        have q1 := q0 W1 st1 ok1
        cases hvs with
        | cons h1 h2 =>
          cases h2 with
          | cons h3 h4 =>
            cases h4
            cases h1 with
            | lst g1 g2 => cases h3 with
              | tup g3 g4 => exact ⟨_, _, _, _, rfl, SqL.of (ok1.ex _ _ g1), SqT.of (ok1.ex _ _ g3), post_ok ok1 q1 _ (it_zipM g1 g2 g3 g4)⟩
      · refine .inl (GA.mk ok en ?_)
        rw [ho]
        intro W1 st1 ok1 vs hvs
        have q1 : Post X.K W1 (match ds with | [.list xs, .list ys] => Out.ok (zipDs xs ys) s1 | [.list xs, .tuple ys] => .ok (zipDs xs ys) s1 | _ => .bad) (fun ds _ W' => ∀ J, IterOk X.K J W' ds → R J W'.H) (wexc X.K Wx σ) := q0 W1 st1 ok1
        split at q1
        · cases hvs with
          | cons h1 h2 =>
            cases h2 with
            | cons h3 h4 =>
              cases h4
              cases h1 with
              | lst g1 g2 => cases h3 with
                | lst g3 g4 => exact ⟨_, _, _, _, rfl, SqL.of (ok1.ex _ _ g1), SqL.of (ok1.ex _ _ g3), post_ok ok1 q1 _ (it_zip g1 g2 g3 g4)⟩
        · exact absurd ⟨_, _, rfl⟩ ht
        · exact q1.elim
end
end M

/-! M, part 15: sorted of pairs of a number and a text; the place in a list. -/
namespace M
open PySem L2
/-! ### pairs of an int and a text, by the int, then by the text -/
def ltPS (p q : Int × Str) : Bool := if p.1 = q.1 then decide (p.2.cps.toList < q.2.cps.toList) else decide (p.1 < q.1)
theorem ltPS_iff {p q : Int × Str} : ltPS p q = true ↔ p.1 < q.1 ∨ (p.1 = q.1 ∧ p.2.cps.toList < q.2.cps.toList) := by
  unfold ltPS
  by_cases e : p.1 = q.1
  · rw [if_pos e, decide_eq_true_eq]
    exact ⟨fun h => .inr ⟨e, h⟩, fun h => h.elim (fun z => by omega) (·.2)⟩
  · rw [if_neg e, decide_eq_true_eq]
    exact ⟨.inl, fun h => h.elim id fun z => absurd z.1 e⟩
theorem ltPS_no {p q : Int × Str} : ltPS p q = false ↔ ¬ (p.1 < q.1 ∨ (p.1 = q.1 ∧ p.2.cps.toList < q.2.cps.toList)) := by
  rw [← ltPS_iff]
  cases ltPS p q <;> simp
theorem swo_PS {α : Type} (k : α → Int × Str) : SrtO.Swo fun v u => ltPS (k v) (k u) := by
  refine ⟨fun x y h => ?_, fun x y z h1 h2 => ?_⟩
  · refine ltPS_no.mpr ?_
    rcases ltPS_iff.mp h with q | ⟨q1, q2⟩
    · rintro (z | ⟨z, _⟩) <;> omega
    · rintro (z | ⟨_, z⟩)
      · omega
      · exact List.lt_irrefl _ (List.lt_trans q2 z)
  · -- y ≤ .. : h1 says not y < x, h2 not z < y
    have a := ltPS_no.mp h1
    have b := ltPS_no.mp h2
    refine ltPS_no.mpr ?_
    rintro (q | ⟨q1, q2⟩)
    · rcases Int.lt_trichotomy (k y).1 (k x).1 with w | w | w
      · exact a (.inl w)
      · exact b (.inl (by omega))
      · exact b (.inl (by omega))
    · rcases Int.lt_trichotomy (k y).1 (k x).1 with w | w | w
      · exact a (.inl w)
      · have a' : ¬ (k y).2.cps.toList < (k x).2.cps.toList := fun z => a (.inr ⟨w, z⟩)
        have b' : ¬ (k z).2.cps.toList < (k y).2.cps.toList := fun z => b (.inr ⟨by omega, z⟩)
        exact (List.le_trans (show (k x).2.cps.toList ≤ (k y).2.cps.toList from a') (show (k y).2.cps.toList ≤ (k z).2.cps.toList from b')) q2
      · exact b (.inl (by omega))
def IsPS (h : Heap) (v : Value) (p : Int × Str) : Prop := ∃ a o t u n, v = .ref a ∧ h.get? a = some o ∧ o.cls = .type "tuple" ∧ o.data = .seq #[.int p.1 t, .str p.2 u] n
theorem IsPS.keeps {h h' : Heap} {v : Value} {p : Int × Str} (x : IsPS h v p) (k : ∀ b o, h.get? b = some o → o.cls = .type "tuple" → h'.get? b = some o) : IsPS h' v p := by
  obtain ⟨a, o, t, u, n, e, ho, hc, hd⟩ := x
  exact ⟨a, o, t, u, n, e, k _ _ ho hc, hc, hd⟩
section
variable {prog : Program} {w : World} {A : Around} {E : Value → Shared → Prop} {s : Shared}
open SrtO Srt PyProof.Rows in
theorem ps_cmp {vs : List Value} {k : Value → Int × Str} (hp : ∀ v ∈ vs, IsPS s.heap v (k v)) : Cmp prog w A s (tuples' true) (fun p => p.1 ∈ vs) (lt2 fun v u => ltPS (k v) (k u)) := by
  intro p q hm hm'
  have h1 := hp _ hm
  have h2 := hp _ hm'
  show wpAny (model prog w) A (keyLt' (tuples' true) p.1 q.1) (fun r s' => s' = s ∧ r = ltPS (k p.1) (k q.1)) (fun _ _ => False) s
  unfold ltPS
  generalize k p.1 = x at h1 ⊢
  generalize k q.1 = y at h2 ⊢
  obtain ⟨a, o, t, u, n, e, ho, hc, hd⟩ := h1
  obtain ⟨a', o', t', u', n', e', ho', hc', hd'⟩ := h2
  rw [e, e']
  refine PySem.W.kat_lt ho hd ho' hd' ?_
  show PySem.W.KatLex prog w A true (decide (2 < 2)) _ [(.int x.1 t, .int y.1 t'), (.str x.2 u, .str y.2 u')] 0 s
  refine PySem.W.kat_cons (SeqAt.EqAt.int_int x.1 t y.1 t' prog w _ _ ?_)
  refine PySem.W.kat_go (fun e1 => ?_) (fun e1 => ?_)
  · have ex : x.1 = y.1 := by simpa using e1
    refine PySem.W.kat_yes (PySem.W.kat_cons (SeqAt.EqAt.str_str x.2 u y.2 u' prog w _ _ ?_))
    refine PySem.W.kat_go (fun e2 => ?_) (fun e2 => ?_)
    · have ey : x.2 = y.2 := by simpa using e2
      have e3 : (if x.1 = y.1 then decide (x.2.cps.toList < y.2.cps.toList) else decide (x.1 < y.1)) = false := by
        rw [if_pos ex, ey]
        exact decide_eq_false (List.lt_irrefl _)
      exact PySem.W.kat_yes (PySem.W.kat_nil ⟨rfl, e3.symm⟩)
    · have e3 : (if x.1 = y.1 then decide (x.2.cps.toList < y.2.cps.toList) else decide (x.1 < y.1)) = decide (x.2.cps.toList < y.2.cps.toList) := if_pos ex
      refine PySem.W.kat_no (PySem.W.kat_one _ _ (PyProof.Rows.lt_str ?_))
      exact (show s = s ∧ decide (x.2.cps.toList < y.2.cps.toList) = (if x.1 = y.1 then decide (x.2.cps.toList < y.2.cps.toList) else decide (x.1 < y.1)) from ⟨rfl, e3.symm⟩)
  · have ex : ¬ x.1 = y.1 := by simpa using e1
    have e3 : (if x.1 = y.1 then decide (x.2.cps.toList < y.2.cps.toList) else decide (x.1 < y.1)) = decide (x.1 < y.1) := if_neg ex
    exact PySem.W.kat_no (oneLt_int ⟨rfl, e3.symm⟩)
theorem ps_firsts {h : Heap} {k : Value → Int × Str} : ∀ {vs : List Value}, (∀ v ∈ vs, IsPS h v (k v)) → ∃ fs : List Value, PySem.W.KatTups h vs fs ∧ fs.length = vs.length ∧ ∀ f ∈ fs, ∃ x t, f = Value.int x t
  | [], _ => ⟨[], PySem.W.KatTups.nil, rfl, fun _ hm => by simp at hm⟩
  | v :: vs, hp => by
    obtain ⟨fs, h1, h2, h3⟩ := ps_firsts (vs := vs) fun v' hm => hp v' (List.mem_cons_of_mem _ hm)
    obtain ⟨a, o, t, u, n, e, ho, hc, hd⟩ := hp v List.mem_cons_self
    subst e
    refine ⟨.int (k (.ref a)).1 t :: fs, PySem.W.KatTups.cons ho hc hd rfl h1, by rw [List.length_cons, List.length_cons, h2], fun f hm => ?_⟩
    rcases List.mem_cons.mp hm with rfl | hm
    · exact ⟨_, t, rfl⟩
    · exact h3 f hm
open SrtO Srt PyProof.Rows in
theorem sorted_PS {l : Addr} {vs : List Value} {k : Value → Int × Str} {Q : Value → Shared → Prop} (hl : s.heap.IsList l vs.toArray) (hz : vs.length ≤ sizeLine) (hp : ∀ v ∈ vs, IsPS s.heap v (k v))
    (h : ∀ (h' : Heap) (d : Addr) (out : List Value), Srtd (fun v u => ltPS (k v) (k u)) out → Stb (fun v u => ltPS (k v) (k u)) out vs → (∀ b o, s.heap.get? b = some o → h'.get? b = some o) → s.heap.objs.size ≤ d → (∃ n, h'.get? d = some (seqObj "list" out.toArray n)) → Q (.ref d) { s with heap := h' }) :
    wpAny (model prog w) A (call (.builtin "sorted") [.ref l]) Q E s := by
  refine sorted_ord (swo_PS k) hl hz (fun h2 h₁ a ha kk => ?_) fun out hs hb => ?_
  · intro h' keep
    have hp' : ∀ v ∈ vs, IsPS h' v (k v) := fun v hm => ((hp v hm).keeps fun b o e _ => (kk b o e).2).keeps fun b o e c => keep b o (fun z => by
      subst z
      have e' : some o = some (seqObj "list" vs.toArray 0) := e.symm.trans ha
      cases e'
      exact absurd (Value.type.inj c) (by decide)) e
    obtain ⟨fs, h1, h2', h3⟩ := ps_firsts hp'
    refine ⟨tuples' true, fun Q E hq => ?_, ps_cmp hp'⟩
    refine PySem.W.kat_kind (T := .type "int") h1 (by omega) (fun f hm => ?_) (by rfl) ?_
    · obtain ⟨x, t, rfl⟩ := h3 f hm
      exact PySem.W.Looks.now
    · have e : (Value.type "int" != Value.type "tuple") = true := by decide
      rw [e]
      exact hq
  · exact h _ _ out hs hb (fun b o e => sortedAll_old e) (Nat.le_succ _) (sortedAll_at s.heap vs out.toArray)
end
def rSortedPS (K : PySem.W.Frag) : List V → Hp → VK → Prop := fun vs H Q => ∃ (a : Addr) (xs : List V) (k : V → Int × Str), vs = [V.ref a] ∧ SqL K H a xs ∧ (∀ x ∈ xs, ∃ t, x = V.ref t ∧ H t = some (.tup [.int (k x).1, .str (k x).2])) ∧
  ∀ ys p, SrtO.Srtd (fun x y => ltPS (k x) (k y)) ys → SrtO.Stb (fun x y => ltPS (k x) (k y)) ys xs → H p = none → Q (.ref p) (upd H p (.lst ys))
theorem cr_sortedPS {X : Cx} : CallR X (.builtin "sorted") (rSortedPS X.K) := by
  intro pins s σ H vs us Q I r h
  obtain ⟨a, xs, k, rfl, hs, hx, q⟩ := h
  obtain ⟨its, rv, hl, hz⟩ := I.list hs
  obtain ⟨u, rfl, ru⟩ := vals1 r
  obtain rfl : u = Value.ref a := ru
  obtain ⟨e1, e2⟩ := refs_back rv fun x m => by
    obtain ⟨t, e, _⟩ := hx x m
    exact ⟨t, e⟩
  refine sorted_PS (k := fun u => k (backV u)) hl.isList (by rw [← rv.length]; exact hz) (fun v hv => ?_) fun h' d out h1 h2 kp hd hn => ?_
  · obtain ⟨t, rfl⟩ := e2 v hv
    have hm : V.ref t ∈ xs := by rw [e1]; exact List.mem_map.mpr ⟨_, hv, rfl⟩
    obtain ⟨t', e, ht⟩ := hx _ hm
    cases e
    obtain ⟨_, its2, r2, o, ho, hc, n, hd⟩ := I.hok _ _ ht
    obtain ⟨u1, u2, rfl, ri, rj⟩ := vals2 r2
    obtain ⟨t1, rfl⟩ := ri
    obtain ⟨t2, rfl⟩ := rj
    exact ⟨t, o, t1, t2, n, rfl, ho, hc, hd⟩
  · have h3 : ∀ u ∈ out, ∃ a, u = Value.ref a := fun u hu => e2 u (h2.perm.mem_iff.mp hu)
    obtain ⟨n, hn⟩ := hn
    have hb : SrtO.Stb (fun x y => ltPS (k x) (k y)) (out.map backV) xs := by
      rw [e1]
      exact SrtO.Stb.map (swo_PS k) backV h2
    refine ⟨.ref d, upd H d (.lst (out.map backV)), I.laid (t' := s.toks) kp hd ⟨?_, out, n, vals_back h3, hn⟩, rfl, q _ d (SrtO.srtd_map h1) hb (I.hok.fresh hd)⟩
    rw [hb.len]
    exact hz

/-! as data -/
def pairsPS : List D → Option (List (Int × Str))
  | [] => some []
  | .tuple [.int i, .str z] :: r => (pairsPS r).map ((i, z) :: ·)
  | _ :: _ => none
def psD (p : Int × Str) : D := .tuple [.int p.1, .str p.2]
def lePS (p q : Int × Str) : Bool := !ltPS q p
def sortedPSD : D → Option D
  | .list ds => (pairsPS ds).map fun (ps : List (Int × Str)) => .list ((ps.mergeSort lePS).map psD)
  | _ => none
theorem psD_dr {K : PySem.W.Frag} {ι : List Addr} {F : Hp} : ∀ {vs : List V} {ds : List D} {ps : List (Int × Str)}, DrAll K ι F vs ds → pairsPS ds = some ps → ∃ k : V → Int × Str, vs.map k = ps ∧ ∀ x ∈ vs, ∃ t, x = .ref t ∧ F t = some (.tup [.int (k x).1, .str (k x).2]) := by
  intro vs ds ps h e
  let k : V → Int × Str := fun x => match x with
    | .ref t => (match F t with
      | some (.tup [.int i, .str z]) => (i, z)
      | _ => (0, Str.empty))
    | _ => (0, Str.empty)
  refine ⟨k, ?_⟩
  induction ds generalizing vs ps with
  | nil => cases h; cases e; exact ⟨rfl, fun x hx => by simp at hx⟩
  | cons d r ih =>
    unfold pairsPS at e
    split at e
    · rename_i hcon; cases hcon
    · rename_i i z r' hcon
      cases hcon
      obtain ⟨qs, e1, rfl⟩ := Option.map_eq_some_iff.mp e
      cases h with
      | cons h1 h2 =>
        obtain ⟨i1, i2⟩ := ih h2 e1
        cases h1 with
        | tup h3 h4 =>
          cases h4 with
          | cons h5 h6 =>
            cases h5
            cases h6 with
            | cons h7 h8 =>
              cases h7
              cases h8
              rename_i t
              have hk : k (.ref t) = (i, z) := by
                show (match F t with | some (.tup [.int i, .str z]) => (i, z) | _ => (0, Str.empty)) = (i, z)
                rw [h3]
              refine ⟨by rw [List.map_cons, hk, i1], fun x hx => ?_⟩
              rcases List.mem_cons.mp hx with rfl | hx
              · exact ⟨t, rfl, by rw [hk]; exact h3⟩
              · exact i2 x hx
    · cases e
theorem lePS_tr (a b c : Int × Str) (h1 : lePS a b = true) (h2 : lePS b c = true) : lePS a c = true := by
  unfold lePS at *
  rw [Bool.not_eq_true'] at *
  exact (swo_PS (fun p : Int × Str => p)).tr _ _ _ h1 h2
theorem lePS_tot (a b : Int × Str) : (lePS a b || lePS b a) = true := by
  unfold lePS
  cases e : ltPS b a with
  | false => rfl
  | true => rw [(swo_PS (fun p : Int × Str => p)).asym _ _ e]; rfl
theorem str_ext {x y : Str} (h : x.cps.toList = y.cps.toList) : x = y := by
  cases x; cases y; exact congrArg Str.mk (Array.ext' h)
theorem lePS_anti {p q : Int × Str} (h1 : lePS p q = true) (h2 : lePS q p = true) : p = q := by
  unfold lePS at *
  rw [Bool.not_eq_true'] at *
  have a := ltPS_no.mp h1
  have b := ltPS_no.mp h2
  have e : p.1 = q.1 := by
    rcases Int.lt_trichotomy p.1 q.1 with w | w | w
    · exact absurd (.inl w) b
    · exact w
    · exact absurd (.inl w) a
  have a' : ¬ q.2.cps.toList < p.2.cps.toList := fun z => a (.inr ⟨e.symm, z⟩)
  have b' : ¬ p.2.cps.toList < q.2.cps.toList := fun z => b (.inr ⟨e, z⟩)
  exact Prod.ext e (str_ext (List.le_antisymm (show p.2.cps.toList ≤ q.2.cps.toList from a') (show q.2.cps.toList ≤ p.2.cps.toList from b')))
theorem sortPS_is {l l' : List (Int × Str)} (hp : l.Perm l') (hs : l'.Pairwise fun p q => lePS p q = true) : l.mergeSort lePS = l' :=
  List.Perm.eq_of_pairwise (le := fun p q => lePS p q = true) (fun p q _ _ h1 h2 => lePS_anti h1 h2) (List.pairwise_mergeSort (le := lePS) lePS_tr lePS_tot l) hs ((List.mergeSort_perm l lePS).trans hp)
theorem o_sortedPS {K : PySem.W.Frag} : C1D K (rN K) (rSortedPS K) sortedPSD := by
  intro W s v d d' Q ok h e q
  unfold sortedPSD at e
  split at e
  · rename_i ds
    obtain ⟨a, vs, rfl, h2, h3⟩ := h.list ok
    obtain ⟨ps, hps, rfl⟩ := Option.map_eq_some_iff.mp e
    obtain ⟨k, k1, k2⟩ := psD_dr h3 hps
    refine ⟨a, vs, k, rfl, SqL.of h2, fun x hx => ?_, fun ys p hs hb hn => ?_⟩
    · obtain ⟨t, e1, e2⟩ := k2 x hx
      exact ⟨t, e1, ok.ex _ _ e2⟩
    · have hk : ps.mergeSort lePS = ys.map k := by
        refine sortPS_is ?_ ?_
        · have hp := hb.perm.map k
          rw [k1] at hp
          exact hp.symm
        · rw [List.pairwise_map]
          exact hs.imp fun {x y} hxy => by unfold lePS; rw [Bool.not_eq_true']; exact hxy
      have hd : DrAll K W.ι W.F ys ((ps.mergeSort lePS).map psD) := by
        rw [hk]
        have hm : ∀ y ∈ ys, ∃ t, y = V.ref t ∧ W.F t = some (.tup [.int (k y).1, .str (k y).2]) := fun y hy => k2 y (hb.perm.mem_iff.mp hy)
        clear hk hb hs
        induction ys with
        | nil => exact .nil
        | cons y r ih =>
          obtain ⟨t, e1, e2⟩ := hm y List.mem_cons_self
          refine .cons ?_ (ih fun z hz => hm z (List.mem_cons_of_mem _ hz))
          subst e1
          exact .tup e2 (.cons (.int _) (.one (.str _)))
      obtain ⟨a1, a2, a3⟩ := new_lst ok hn hd
      exact q _ _ a1 a2 a3
  · cases e
/-! ### the place of a thing in a list -/
def idxL (d : D) : List D → Option Nat
  | [] => none
  | z :: r => if PyData.eqv z d = true then some 0 else (idxL d r).map (· + 1)
theorem idxL_spec {d : D} : ∀ {ds : List D} {j : Nat}, idxL d ds = some j → ∃ z, ds[j]? = some z ∧ PyData.eqv z d = true ∧ ∀ (m : Nat) (z' : D), m < j → ds[m]? = some z' → PyData.eqv z' d = false
  | z :: r, j, e => by
    unfold idxL at e
    split at e
    · rename_i h
      cases e
      exact ⟨z, rfl, h, fun m z' hm => absurd hm (Nat.not_lt_zero m)⟩
    · rename_i h
      obtain ⟨i, e1, rfl⟩ := Option.map_eq_some_iff.mp e
      obtain ⟨y, h1, h2, h3⟩ := idxL_spec e1
      refine ⟨y, by simpa using h1, h2, fun m z' hm hz => ?_⟩
      cases m with
      | zero => simp at hz; subst hz; simpa using h
      | succ m => exact h3 m z' (by omega) (by simpa using hz)
def idxD : D → D → Option D
  | .list ds, d => if (SeqAt.shaped (.list ds) && SeqAt.shaped d) = true then (idxL d ds).map fun j : Nat => .int (j : Int) else none
  | _, _ => none
def xIdx (f1 f2 : XE) : XE := fun ρ s => (f1 ρ s).bind fun d s1 => match d with
  | .list ds => (f2 ρ s1).bind fun b s2 => lift (idxD (.list ds) b) s2
  | _ => .bad
section
variable {X : Cx} {Wx : WX} {pos : Pos} {o e : Expr} {f1 f2 : XE} {k : Nat}
theorem d_index {p2 : Pos} (hr : Room k X.A) (ho : PE X o (GX X.K (aft (rD X.K)) Wx f1)) (he : PE X e (GX X.K (aft (rD X.K)) Wx f2)) (hst : starEach (e :: []) X.env = (false, eval e X.env) :: starEach [] X.env := by rfl)
    (hE : ∀ {r : V → List V → Hp → VK → Prop} {to : TE} {t : TA}, MtR X "list.index" r → PE X o to → PA X (e :: []) t → PE X (.Call (.Attribute o "index" p2) [e] [] pos) (tBM X.K "list" r to t) := by
      intro r to t h1 h2 h3; exact pe_bm PySem.F.plainAttrs_list PySem.F.slot_list_index PySem.F.type_list_index h1 h2 h3) :
    PE X (.Call (.Attribute o "index" p2) [e] [] pos) (GX X.K (aft (rD X.K)) Wx (xIdx f1 f2)) := peImp (hE (mt_indexD (hu65 hr)) ho (pa_cons he pa_nil hst)) fun σ H Q ⟨W0, W, ρ, s, e1, ok, en, p⟩ => by
  subst e1
  refine GX.mk ok en (Post.mono p.bind fun d1 s1 W1 st1 ok1 p1 v1 hv1 => ?_)
  cases hv1 with
  | lst h1 h2 =>
    rename_i a xs ds
    refine ⟨.inl ⟨rfl, _, SqL.of (ok1.ex _ _ h1)⟩, GX.mk ok1 (en.step st1) (Post.mono (Post.bind p1) fun d2 s2 W2 st2 ok2 p2 v2 hv2 => ?_)⟩
    obtain ⟨d, e, q⟩ := p2.lift
    have e' : (if (SeqAt.shaped (.list ds) && SeqAt.shaped d2) = true then (idxL d2 ds).map fun j : Nat => PyData.int (j : Int) else none) = some d := e
    split at e'
    · rename_i c
      rw [Bool.and_eq_true] at c
      obtain ⟨j, e1, rfl⟩ := Option.map_eq_some_iff.mp e'
      obtain ⟨z, g1, g2, g3⟩ := idxL_spec e1
      have hl : rU X.K W2 (.ref a) (.list ds) := .inl (st2.dr (.lst h1 h2))
      exact ⟨a, v2, d2, ds, j, z, rfl, rfl, hl.dp ok2 (lay_of c.1), (rD.u hv2).dp ok2 (lay_of c.2), c.1, c.2, g1, g2, g3, q W2 (Step.refl _) ok2 _ (.int _)⟩
    · cases e'
  | _ => exact p1.elim
end

/-! ### a tuple some times -/
def mulTD : D → D → Option D
  | .tuple xs, .int k => if (Nat.ble 2 k.toNat && Nat.ble k.toNat 1000 && Nat.ble xs.length 1000 && !xs.isEmpty) = true then some (.tuple (List.replicate k.toNat xs).flatten) else none
  | _, _ => none
theorem o_repT {K : PySem.W.Frag} : OpD K (aft (rD K)) (rRepT K) mulTD := by
  intro W s v1 v2 d1 d2 d Q ok h1 h2 e q
  unfold mulTD at e
  split at e
  · split at e
    · rename_i xs k hz
      cases e
      simp only [Bool.and_eq_true, Bool.not_eq_true'] at hz
      obtain ⟨⟨⟨z1, z2⟩, z3⟩, z4⟩ := hz
      have z1 := Nat.le_of_ble_eq_true z1
      have z2 := Nat.le_of_ble_eq_true z2
      have z3 := Nat.le_of_ble_eq_true z3
      obtain ⟨a, vs, rfl, e1, e2, e3⟩ := h1.tup ok
      refine ⟨a, k, vs, rfl, h2.int, SqT.of e2, fun hn => ?_, by omega, by omega, by rw [e3.length]; exact z3, fun p hp => ?_⟩
      · have : xs = [] := e3.nil_iff.mp hn
        subst this
        simp at z4
      · obtain ⟨a1, a2, a3⟩ := new_tup ok hp (e3.rep k.toNat)
        exact q _ _ a1 a2 a3
    · cases e
  · cases e
end M

/-! M, part 12: mirrors reckoned. -/
namespace M
open PySem L2
section
variable {α : Type} {ρ : Env} {s : Sto} {d : D}
@[simp] theorem xC_e : xC d ρ s = .ok d s := rfl
@[simp] theorem xV_e {i : Nat} : xV i ρ s = (match ρ[i]? with | some (.val d) => .ok d s | _ => .bad) := rfl
@[simp] theorem xL_e {i : Nat} : xL i ρ s = (match ρ[i]? with | some (.val d) => .ok d s | some (.own xs) => .ok (.list xs) s | _ => .bad) := rfl
@[simp] theorem aN_e : aN ρ s = .ok [] s := rfl
@[simp] theorem aC_e {f : XE} {g : XA} : aC f g ρ s = ((f ρ s).bind fun d s1 => (g ρ s1).bind fun ds s2 => .ok (d :: ds) s2) := rfl
@[simp] theorem x1_e {g : D → Option D} {f : XE} : x1 g f ρ s = ((f ρ s).bind fun a s1 => lift (g a) s1) := rfl
@[simp] theorem x2_e {g : D → D → Option D} {f1 f2 : XE} : x2 g f1 f2 ρ s = ((f1 ρ s).bind fun a s1 => (f2 ρ s1).bind fun b s2 => lift (g a b) s2) := rfl
@[simp] theorem x3_e {g g' : D → D → Option D} {f1 f2 f3 : XE} : x3 g g' f1 f2 f3 ρ s = ((f1 ρ s).bind fun a s1 => (f2 ρ s1).bind fun b s2 => (lift (g a b) s2).bind fun k s3 => match k with
  | .bool true => (f3 ρ s3).bind fun c s4 => lift (g' b c) s4
  | .bool false => .ok (.bool false) s3
  | _ => .bad) := rfl
@[simp] theorem xB_e {f : XE} : xB f ρ s = ((f ρ s).bind fun d s1 => match d with | .bool b => .ok b s1 | _ => .bad) := rfl
@[simp] theorem tTru_e {f : XE} : tTru f ρ s = ((f ρ s).bind fun d s1 => lift (truD d) s1) := rfl
@[simp] theorem tAnd2_e {t u : XT} : tAnd2 t u ρ s = ((t ρ s).bind fun k s1 => if k = true then u ρ s1 else .ok false s1) := rfl
@[simp] theorem tOr2_e {t u : XT} : tOr2 t u ρ s = ((t ρ s).bind fun k s1 => if k = true then .ok true s1 else u ρ s1) := rfl
@[simp] theorem tNot1_e {t : XT} : tNot1 t ρ s = ((t ρ s).bind fun k s1 => .ok (!k) s1) := rfl
@[simp] theorem xAnd_e {f g : XE} : xAnd f g ρ s = ((f ρ s).bind fun d s1 => match d with | .bool true => g ρ s1 | .bool false => .ok (.bool false) s1 | _ => .bad) := rfl
@[simp] theorem xOr_e {f g : XE} : xOr f g ρ s = ((f ρ s).bind fun d s1 => match d with | .bool false => g ρ s1 | .bool true => .ok (.bool true) s1 | _ => .bad) := rfl
@[simp] theorem xIf_e {t : XT} {f g : XE} : xIf t f g ρ s = ((t ρ s).bind fun k s1 => if k = true then f ρ s1 else g ρ s1) := rfl
@[simp] theorem xNotT_e {f : XE} : xNotT f ρ s = ((f ρ s).bind fun d s1 => (lift (truD d) s1).bind fun k s2 => .ok (.bool !k) s2) := rfl
@[simp] theorem x1t_e {g : D → D} {f : XE} : x1t g f ρ s = ((f ρ s).bind fun a s1 => .ok (g a) s1) := rfl
@[simp] theorem oN_e : oN ρ s = .ok none s := rfl
@[simp] theorem oS_e {f : XE} : oS f ρ s = ((f ρ s).bind fun d s1 => match d with | .int i => .ok (some i) s1 | _ => .bad) := rfl
@[simp] theorem xSl_e {g : D → Option Int → Option Int → Option D} {f : XE} {l h : XO} : xSl g f l h ρ s = ((f ρ s).bind fun d s1 => (l ρ s1).bind fun i s2 => (h ρ s2).bind fun j s3 => lift (g d i j) s3) := rfl
@[simp] theorem xTup_e {g : XA} : xTup g ρ s = ((g ρ s).bind fun ds s1 => if ds.length ≤ sizeLine then .ok (.tuple ds) s1 else .bad) := rfl
@[simp] theorem xLst_e {g : XA} : xLst g ρ s = ((g ρ s).bind fun ds s1 => if ds.length ≤ sizeLine then .ok (.list ds) s1 else .bad) := rfl
@[simp] theorem xM1_e {g : Str → D → Option D} {f1 f2 : XE} : xM1 g f1 f2 ρ s = ((f1 ρ s).bind fun d s1 => match d with | .str z => (f2 ρ s1).bind fun d2 s2 => lift (g z d2) s2 | _ => .bad) := rfl
@[simp] theorem b2D_e {h : Int → Int → Int} {g : XA} : b2D h g ρ s = ((g ρ s).bind fun ds s1 => match ds with | [.int i, .int j] => .ok (.int (h i j)) s1 | _ => .bad) := rfl
@[simp] theorem xLit_e {kvs : Tb} {f : XE} : xLit kvs f ρ s = ((f ρ s).bind fun a s1 => lift (litD kvs a) s1) := rfl
@[simp] theorem xCall_e {n : Nat} {m : Fn} {g : XA} : xCall n m g ρ s = ((g ρ s).bind fun ds s1 => if ds.length = n then m ds s1 else .bad) := rfl
@[simp] theorem xComp_e {m : XI} {t : XG} {c : XT} {e : XE} {vs : List Nat} : xComp m t c e vs ρ s = ((m ρ s).bind fun ds s1 => (compL t c e vs ds [] ρ s1).bind fun ys s2 => .ok (.list ys) s2) := rfl
@[simp] theorem iAny_e {f : XE} : iAny f ρ s = ((f ρ s).bind fun d s1 => match d with | .list ds => .ok ds s1 | .tuple ds => .ok ds s1 | .str x => .ok (strD x) s1 | _ => .bad) := rfl
@[simp] theorem iR1_e {g : XA} : iR1 g ρ s = ((g ρ s).bind fun ds s1 => match ds with | [.int n] => if rngOk n = true then .ok (rngD 0 n.toNat) s1 else .bad | _ => .bad) := rfl
@[simp] theorem iR2_e {g : XA} : iR2 g ρ s = ((g ρ s).bind fun ds s1 => match ds with | [.int i, .int n] => if (rngOk i && rngOk n) = true then .ok (rngD i (n - i).toNat) s1 else .bad | _ => .bad) := rfl
@[simp] theorem iEnA_e {g : XA} : iEnA g ρ s = ((g ρ s).bind fun ds s1 => match ds with | [.list ds] => .ok (enumD 0 ds) s1 | [.tuple ds] => .ok (enumD 0 ds) s1 | _ => .bad) := rfl
@[simp] theorem gN_e {i : Nat} : gN i d ρ = some (ρ.set i (.val d)) := rfl
@[simp] theorem gsN_e : gsN [] ρ = some ρ := rfl
@[simp] theorem gsC_e {t : XG} {u : XGs} {ds : List D} : gsC t u (d :: ds) ρ = (t d ρ).bind (u ds) := rfl
@[simp] theorem gT_e {n : Nat} {u : XGs} {ds : List D} : gT n u (.tuple ds) ρ = if ds.length = n then u ds ρ else none := rfl
@[simp] theorem tAll_e : tAll ρ s = .ok true s := rfl
/-! statements -/
@[simp] theorem sNil_e : sNil ρ s = .next ρ s := rfl
@[simp] theorem sCont_e : sCont ρ s = .cont ρ s := rfl
@[simp] theorem sSeq_e {b1 b2 : XS} : sSeq b1 b2 ρ s = (match b1 ρ s with | .next ρ1 s1 => b2 ρ1 s1 | r => r) := rfl
@[simp] theorem stX_e {f : Env → Sto → Out α} {k : α → XS} : stX f k ρ s = (match f ρ s with | .ok d s1 => k d ρ s1 | .exc c s1 => .exc c ρ s1 | .bad => .bad) := rfl
@[simp] theorem sDrop_e {f : XE} : sDrop f ρ s = stX f (fun _ ρ s => .next ρ s) ρ s := rfl
@[simp] theorem sSet_e {i : Nat} {f : XE} : sSet i f ρ s = stX f (fun d ρ s => .next (ρ.set i (.val d)) s) ρ s := rfl
@[simp] theorem sOwn_e {i : Nat} {f : XE} : sOwn i f ρ s = stX f (fun d => ownOf d i) ρ s := rfl
@[simp] theorem ownOf_e {i : Nat} {xs : List D} : ownOf (.list xs) i ρ s = .next (ρ.set i (.own xs)) s := rfl
@[simp] theorem sRet_e {f : XE} : sRet f ρ s = stX f (fun d _ s => .ret d s) ρ s := rfl
@[simp] theorem sRetN_e : sRetN ρ s = .ret .none s := rfl
@[simp] theorem sIf_e {t : XT} {b1 b2 : XS} : sIf t b1 b2 ρ s = (match t ρ s with | .ok k s1 => (if k = true then b1 ρ s1 else b2 ρ s1) | .exc c s1 => .exc c ρ s1 | .bad => .bad) := by
  simp only [sIf, stX]
  cases t ρ s with
  | ok k s1 => cases k <;> rfl
  | _ => rfl
@[simp] theorem sAug_e {g : Int → Int → Int} {i : Nat} {f : XE} : sAug g i f ρ s = (match ρ[i]? with | some (.val (.int a)) => stX f (augK g i a) ρ s | _ => .bad) := rfl
@[simp] theorem augK_e {g : Int → Int → Int} {i : Nat} {a c : Int} : augK g i a (.int c) ρ s = .next (ρ.set i (.val (.int (g a c)))) s := rfl
@[simp] theorem sApp_e {i : Nat} {f : XE} : sApp i f ρ s = (match ρ[i]? with | some (.own xs) => stX f (appK i xs) ρ s | _ => .bad) := rfl
@[simp] theorem appK_e {i : Nat} {xs : List D} : appK i xs d ρ s = (if xs.length < sizeLine then .next (ρ.set i (.own (xs ++ [d]))) s else .bad) := rfl
@[simp] theorem sExt_e {i : Nat} {f : XE} : sExt i f ρ s = (match ρ[i]? with | some (.own xs) => stX f (extK i xs) ρ s | _ => .bad) := rfl
@[simp] theorem extK_e {i : Nat} {xs ys : List D} : extK i xs (.list ys) ρ s = (if xs.length + ys.length ≤ sizeLine then .next (ρ.set i (.own (xs ++ ys))) s else .bad) := rfl
@[simp] theorem sRaise_e {c : Str} : sRaise c ρ s = .exc c ρ s := rfl
@[simp] theorem sFrz_e {i : Nat} {b : XS} : sFrz i b ρ s = b (frz i ρ) s := rfl
@[simp] theorem frz_e {i : Nat} : frz i ρ = (match ρ[i]? with | some (.own xs) => ρ.set i (.val (.list xs)) | _ => ρ) := rfl
@[simp] theorem sFor_e {m : XI} {t : XG} {b : XS} : sFor m t b ρ s = stX m (forL t b) ρ s := rfl
@[simp] theorem sTo_e {t : XG} {f : XE} : sTo t f ρ s = stX f (fun d ρ s => toN (t d ρ) s) ρ s := rfl
@[simp] theorem toN_e : toN (some ρ) s = .next ρ s := rfl
@[simp] theorem runB_e {b : XS} {n : Nat} {ds : List D} : runB b n ds s = (match b (startD n ds) s with | .ret d s' => .ok d s' | .next _ s' => .ok .none s' | .exc c _ s' => .exc c s' | _ => .bad) := rfl
@[simp] theorem startD_e {n : Nat} {ds : List D} : startD n ds = ds.map .val ++ List.replicate (n - ds.length) .no := rfl
/-! operators -/
@[simp] theorem i2_e {g : Int → Int → D} {i j : Int} : i2 g (.int i) (.int j) = some (g i j) := rfl
@[simp] theorem subD_e {i j : Int} : subD (.int i) (.int j) = some (.int (i - j)) := rfl
@[simp] theorem modD_e {i j : Int} : modD (.int i) (.int j) = if 0 < j then some (.int (i % j)) else none := by
  show (if decide (0 < j) = true then some (PyData.int (i % j)) else none) = _
  simp only [decide_eq_true_eq]
@[simp] theorem fdivD_e {i j : Int} : fdivD (.int i) (.int j) = if 0 < j ∧ j < 1073741824 then some (.int (i / j)) else none := by
  show (if decide (0 < j ∧ j < 1073741824) = true then some (PyData.int (i / j)) else none) = _
  simp only [decide_eq_true_eq]
@[simp] theorem powD_e {i j : Int} : powD (.int i) (.int j) = if 0 ≤ j ∧ j ≤ 1000000 ∧ i.natAbs < 2 ^ 64 then some (.int (i ^ j.toNat)) else none := by
  show (if decide (0 ≤ j ∧ j ≤ 1000000 ∧ i.natAbs < 2 ^ 64) = true then some (PyData.int (i ^ j.toNat)) else none) = _
  simp only [decide_eq_true_eq]
@[simp] theorem ltD_e {i j : Int} : ltD (.int i) (.int j) = some (.bool (decide (i < j))) := rfl
@[simp] theorem leD_e {i j : Int} : leD (.int i) (.int j) = some (.bool (decide (i ≤ j))) := rfl
@[simp] theorem gtD_e {i j : Int} : gtD (.int i) (.int j) = some (.bool (decide (j < i))) := rfl
@[simp] theorem geD_e {i j : Int} : geD (.int i) (.int j) = some (.bool (decide (j ≤ i))) := rfl
@[simp] theorem addD_i {i j : Int} : addD (.int i) (.int j) = some (.int (i + j)) := rfl
@[simp] theorem addD_l {xs ys : List D} : addD (.list xs) (.list ys) = if xs.length + ys.length ≤ sizeLine then some (.list (xs ++ ys)) else none := rfl
@[simp] theorem addD_t {xs ys : List D} : addD (.tuple xs) (.tuple ys) = if xs.length + ys.length ≤ sizeLine then some (.tuple (xs ++ ys)) else none := rfl
@[simp] theorem mulD_i {i j : Int} : mulD (.int i) (.int j) = if cMul i j = true then some (.int (i * j)) else none := rfl
@[simp] theorem mulD_l {xs : List D} {k : Int} : mulD (.list xs) (.int k) = if repOk xs.length k = true then some (.list (List.replicate k.toNat xs).flatten) else none := rfl
@[simp] theorem ixD_l {ds : List D} {i : Int} : ixD (.list ds) (.int i) = atI ds i := rfl
@[simp] theorem ixD_t {ds : List D} {i : Int} : ixD (.tuple ds) (.int i) = atI ds i := rfl
@[simp] theorem negD_e {i : Int} : negD (.int i) = some (.int (-i)) := rfl
@[simp] theorem truD_b {b : Bool} : truD (.bool b) = some b := rfl
@[simp] theorem truD_i {i : Int} : truD (.int i) = some (i != 0) := rfl
@[simp] theorem truD_l {ds : List D} : truD (.list ds) = some !ds.isEmpty := rfl
@[simp] theorem truD_t {ds : List D} : truD (.tuple ds) = some !ds.isEmpty := rfl
@[simp] theorem truD_n : truD .none = some false := rfl
@[simp] theorem lenD_l {ds : List D} : lenD (.list ds) = some (.int ds.length) := rfl
@[simp] theorem lenD_t {ds : List D} : lenD (.tuple ds) = some (.int ds.length) := rfl
@[simp] theorem tupD_l {ds : List D} : tupD (.list ds) = some (.tuple ds) := rfl
@[simp] theorem tupD_t {ds : List D} : tupD (.tuple ds) = some (.tuple ds) := rfl
@[simp] theorem sliD_l {ds : List D} {lo hi : Option Int} : sliD (.list ds) lo hi = some (.list (cutD ds lo hi)) := rfl
@[simp] theorem sliD_t {ds : List D} {lo hi : Option Int} : sliD (.tuple ds) lo hi = some (.tuple (cutD ds lo hi)) := rfl
end
/-! ### loops -/
/-- a loop that goes from state to state -/
theorem forL_all {α : Type} (env : α → Env) (step : α → D → α) {t : XG} {b : XS} {s : Sto} : ∀ (ds : List D) (a : α), (∀ a d, d ∈ ds → ∃ ρ1, t d (env a) = some ρ1 ∧ b ρ1 s = .next (env (step a d)) s) → forL t b ds (env a) s = .next (env (ds.foldl step a)) s
  | [], a, _ => rfl
  | d :: ds, a, h => by
    obtain ⟨ρ1, e1, e2⟩ := h a d List.mem_cons_self
    unfold forL
    rw [e1]
    show (match b ρ1 s with | .next ρ2 s2 => forL t b ds ρ2 s2 | .cont ρ2 s2 => forL t b ds ρ2 s2 | .brk ρ2 s2 => .next ρ2 s2 | r => r) = _
    rw [e2]
    exact forL_all env step ds (step a d) fun a d hd => h a d (List.mem_cons_of_mem _ hd)
theorem compL_all {t : XG} {c : XT} {e : XE} {vs : List Nat} {ρ : Env} {s : Sto} (p : D → Bool) (f : D → D) : ∀ (ds acc : List D), (∀ d, d ∈ ds → ∃ ρ1, t d (wipeD ρ vs) = some ρ1 ∧ c ρ1 s = .ok (p d) s ∧ (p d = true → e ρ1 s = .ok (f d) s)) → acc.length + ds.length ≤ sizeLine →
    compL t c e vs ds acc ρ s = .ok (acc ++ (ds.filter p).map f) s
  | [], acc, _, _ => by simp [compL]
  | d :: ds, acc, h, hz => by
    obtain ⟨ρ1, e1, e2, e3⟩ := h d List.mem_cons_self
    have ih := fun acc hz => compL_all p f ds acc (fun d hd => h d (List.mem_cons_of_mem _ hd)) hz
    have hz' : acc.length + (ds.length + 1) ≤ sizeLine := by simpa using hz
    unfold compL
    rw [e1]
    simp only [e2, nx_ok, bind_ok]
    by_cases hp : p d = true
    · rw [if_pos hp, e3 hp]
      simp only [nx_ok, bind_ok]
      rw [if_pos (by omega), ih _ (by simp; omega), List.filter_cons, if_pos hp]
      simp
    · rw [if_neg hp, ih _ (by omega), List.filter_cons, if_neg hp]
theorem whileN_all (env : Nat → Env) {t : XT} {b : XS} {s : Sto} : ∀ (k n i : Nat), k < n → (∀ j, i ≤ j → j < i + k → t (env j) s = .ok true s ∧ b (env j) s = .next (env (j + 1)) s) → t (env (i + k)) s = .ok false s → whileN t b n (env i) s = .next (env (i + k)) s
  | 0, n + 1, i, _, _, hf => by
    unfold whileN
    have hf' : t (env i) s = .ok false s := hf
    rw [hf']; rfl
  | k + 1, n + 1, i, hn, h, hf => by
    obtain ⟨h1, h2⟩ := h i (Nat.le_refl _) (by omega)
    unfold whileN
    rw [h1]
    show (match b (env i) s with | .next ρ2 s2 => whileN t b n ρ2 s2 | .cont ρ2 s2 => whileN t b n ρ2 s2 | .brk ρ2 s2 => .next ρ2 s2 | r => r) = _
    rw [h2]
    have e : i + (k + 1) = i + 1 + k := by omega
    rw [e] at hf ⊢
    exact whileN_all env k n (i + 1) (by omega) (fun j h3 h4 => h j (by omega) (by omega)) hf
/-! isinstance -/
@[simp] theorem isi_none_int : isiD .int .none = some (.bool false) := rfl
@[simp] theorem isi_none_bool : isiD .bool .none = some (.bool false) := rfl
@[simp] theorem isi_none_str : isiD .str .none = some (.bool false) := rfl
@[simp] theorem isi_none_tuple : isiD .tuple .none = some (.bool false) := rfl
@[simp] theorem isi_none_list : isiD .list .none = some (.bool false) := rfl
@[simp] theorem isi_bool_int {b : Bool} : isiD .int (.bool b) = some (.bool true) := rfl
@[simp] theorem isi_bool_bool {b : Bool} : isiD .bool (.bool b) = some (.bool true) := rfl
@[simp] theorem isi_bool_str {b : Bool} : isiD .str (.bool b) = some (.bool false) := rfl
@[simp] theorem isi_bool_tuple {b : Bool} : isiD .tuple (.bool b) = some (.bool false) := rfl
@[simp] theorem isi_bool_list {b : Bool} : isiD .list (.bool b) = some (.bool false) := rfl
@[simp] theorem isi_int_int {i : Int} : isiD .int (.int i) = some (.bool true) := rfl
@[simp] theorem isi_int_bool {i : Int} : isiD .bool (.int i) = some (.bool false) := rfl
@[simp] theorem isi_int_str {i : Int} : isiD .str (.int i) = some (.bool false) := rfl
@[simp] theorem isi_int_tuple {i : Int} : isiD .tuple (.int i) = some (.bool false) := rfl
@[simp] theorem isi_int_list {i : Int} : isiD .list (.int i) = some (.bool false) := rfl
@[simp] theorem isi_str_int {x : Str} : isiD .int (.str x) = some (.bool false) := rfl
@[simp] theorem isi_str_bool {x : Str} : isiD .bool (.str x) = some (.bool false) := rfl
@[simp] theorem isi_str_str {x : Str} : isiD .str (.str x) = some (.bool true) := rfl
@[simp] theorem isi_str_tuple {x : Str} : isiD .tuple (.str x) = some (.bool false) := rfl
@[simp] theorem isi_str_list {x : Str} : isiD .list (.str x) = some (.bool false) := rfl
@[simp] theorem isi_list_int {ds : List D} : isiD .int (.list ds) = some (.bool false) := rfl
@[simp] theorem isi_list_bool {ds : List D} : isiD .bool (.list ds) = some (.bool false) := rfl
@[simp] theorem isi_list_str {ds : List D} : isiD .str (.list ds) = some (.bool false) := rfl
@[simp] theorem isi_list_tuple {ds : List D} : isiD .tuple (.list ds) = some (.bool false) := rfl
@[simp] theorem isi_list_list {ds : List D} : isiD .list (.list ds) = some (.bool true) := rfl
@[simp] theorem isi_tuple_int {ds : List D} : isiD .int (.tuple ds) = some (.bool false) := rfl
@[simp] theorem isi_tuple_bool {ds : List D} : isiD .bool (.tuple ds) = some (.bool false) := rfl
@[simp] theorem isi_tuple_str {ds : List D} : isiD .str (.tuple ds) = some (.bool false) := rfl
@[simp] theorem isi_tuple_tuple {ds : List D} : isiD .tuple (.tuple ds) = some (.bool true) := rfl
@[simp] theorem isi_tuple_list {ds : List D} : isiD .list (.tuple ds) = some (.bool false) := rfl
/-! ### kinds of data: == is equality within one kind -/
inductive Ty where
  | int | bool | str | non
  | list (t : Ty)
  | tup (ts : List Ty)
mutual
inductive HasTy : Ty → D → Prop
  | int (i : Int) : HasTy .int (.int i)
  | bool (b : Bool) : HasTy .bool (.bool b)
  | str (x : Str) (h : PyData.strOk x = true) : HasTy .str (.str x)
  | non : HasTy .non .none
  | list {t : Ty} {ds : List D} : HasL t ds → HasTy (.list t) (.list ds)
  | tup {ts : List Ty} {ds : List D} : HasT ts ds → HasTy (.tup ts) (.tuple ds)
inductive HasL : Ty → List D → Prop
  | nil {t : Ty} : HasL t []
  | cons {t : Ty} {d : D} {ds : List D} : HasTy t d → HasL t ds → HasL t (d :: ds)
inductive HasT : List Ty → List D → Prop
  | nil : HasT [] []
  | cons {t : Ty} {ts : List Ty} {d : D} {ds : List D} : HasTy t d → HasT ts ds → HasT (t :: ts) (d :: ds)
end
mutual
def Ty.dep : Ty → Nat
  | .list t => t.dep + 1
  | .tup ts => depL ts + 1
  | _ => 0
def depL : List Ty → Nat
  | [] => 0
  | t :: ts => max t.dep (depL ts)
end
mutual
theorem HasTy.lay : ∀ {t : Ty} {d : D}, HasTy t d → d.canLay0 = true ∧ d.depth ≤ t.dep
  | _, _, .int i => ⟨by simp [PyData.canLay0], by simp [PyData.depth]⟩
  | _, _, .bool b => ⟨by simp [PyData.canLay0], by simp [PyData.depth]⟩
  | _, _, .str x h => ⟨by simpa [PyData.canLay0] using h, by simp [PyData.depth]⟩
  | _, _, .non => ⟨by simp [PyData.canLay0], by simp [PyData.depth]⟩
  | _, _, .list h => ⟨by simpa [PyData.canLay0] using (HasL.lay h).1, by have := (HasL.lay h).2; simp only [PyData.depth, Ty.dep]; omega⟩
  | _, _, .tup h => ⟨by simpa [PyData.canLay0] using (HasT.lay h).1, by have := (HasT.lay h).2; simp only [PyData.depth, Ty.dep]; omega⟩
theorem HasL.lay : ∀ {t : Ty} {ds : List D}, HasL t ds → PyData.canLayAll0 ds = true ∧ PyData.depthAll ds ≤ t.dep
  | _, _, .nil => ⟨by simp [PyData.canLayAll0], by simp [PyData.depthAll]⟩
  | _, _, .cons h hs => ⟨by simp [PyData.canLayAll0, (HasTy.lay h).1, (HasL.lay hs).1], by have := (HasTy.lay h).2; have := (HasL.lay hs).2; simp only [PyData.depthAll]; omega⟩
theorem HasT.lay : ∀ {t : List Ty} {ds : List D}, HasT t ds → PyData.canLayAll0 ds = true ∧ PyData.depthAll ds ≤ depL t
  | _, _, .nil => ⟨by simp [PyData.canLayAll0], by simp [PyData.depthAll]⟩
  | _, _, .cons h hs => ⟨by simp [PyData.canLayAll0, (HasTy.lay h).1, (HasT.lay hs).1], by have := (HasTy.lay h).2; have := (HasT.lay hs).2; simp only [PyData.depthAll, depL]; omega⟩
end
theorem HasTy.shaped {t : Ty} {d : D} (h : HasTy t d) (hd : t.dep ≤ 64) : SeqAt.shaped d = true := by
  unfold SeqAt.shaped
  obtain ⟨h1, h2⟩ := h.lay
  rw [h1, Bool.true_and, decide_eq_true_eq]
  omega
mutual
theorem HasTy.eqv : ∀ {t : Ty} {a b : D}, HasTy t a → HasTy t b → (PyData.eqv a b = true ↔ a = b)
  | _, _, _, .int i, .int j => by simp [PyData.eqv]
  | _, _, _, .bool i, .bool j => by simp [PyData.eqv]
  | _, _, _, .str i _, .str j _ => by simp [PyData.eqv]
  | _, _, _, .non, .non => by simp [PyData.eqv]
  | _, _, _, .list h, .list h' => by simp [PyData.eqv, HasL.eqv h h']
  | _, _, _, .tup h, .tup h' => by simp [PyData.eqv, HasT.eqv h h']
theorem HasL.eqv : ∀ {t : Ty} {a b : List D}, HasL t a → HasL t b → (PyData.eqvAll a b = true ↔ a = b)
  | _, _, _, .nil, .nil => by simp [PyData.eqvAll]
  | _, _, _, .nil, .cons _ _ => by simp [PyData.eqvAll]
  | _, _, _, .cons _ _, .nil => by simp [PyData.eqvAll]
  | _, _, _, .cons h hs, .cons h' hs' => by simp [PyData.eqvAll, HasTy.eqv h h', HasL.eqv hs hs']
theorem HasT.eqv : ∀ {t : List Ty} {a b : List D}, HasT t a → HasT t b → (PyData.eqvAll a b = true ↔ a = b)
  | _, _, _, .nil, .nil => by simp [PyData.eqvAll]
  | _, _, _, .cons h hs, .cons h' hs' => by simp [PyData.eqvAll, HasTy.eqv h h', HasT.eqv hs hs']
end
noncomputable instance (a b : D) : Decidable (a = b) := Classical.propDecidable _
theorem eqD_ty {t : Ty} {a b : D} (ha : HasTy t a) (hb : HasTy t b) (hd : t.dep ≤ 64) {k : Bool} (hk : k = true ↔ a = b) : eqD a b = some (.bool k) := by
  unfold eqD
  rw [ha.shaped hd, hb.shaped hd]
  have e : PyData.eqv a b = k := Bool.eq_iff_iff.mpr ((ha.eqv hb).trans hk.symm)
  rw [e]; rfl
theorem neD_ty {t : Ty} {a b : D} (ha : HasTy t a) (hb : HasTy t b) (hd : t.dep ≤ 64) {k : Bool} (hk : k = true ↔ a = b) : neD a b = some (.bool !k) := by
  unfold neD
  rw [ha.shaped hd, hb.shaped hd]
  have e : PyData.eqv a b = k := Bool.eq_iff_iff.mpr ((ha.eqv hb).trans hk.symm)
  rw [e]; rfl
@[simp] theorem eqD_i {i j : Int} : eqD (.int i) (.int j) = some (.bool (decide (i = j))) := eqD_ty (.int i) (.int j) (Nat.zero_le _) (by simp)
@[simp] theorem neD_i {i j : Int} : neD (.int i) (.int j) = some (.bool (!decide (i = j))) := neD_ty (.int i) (.int j) (Nat.zero_le _) (by simp)
@[simp] theorem eqD_b {i j : Bool} : eqD (.bool i) (.bool j) = some (.bool (decide (i = j))) := eqD_ty (.bool i) (.bool j) (Nat.zero_le _) (by simp)
theorem eqD_s {i j : Str} (hi : PyData.strOk i = true) (hj : PyData.strOk j = true) : eqD (.str i) (.str j) = some (.bool (decide (i = j))) := eqD_ty (.str i hi) (.str j hj) (Nat.zero_le _) (by simp)
theorem neD_s {i j : Str} (hi : PyData.strOk i = true) (hj : PyData.strOk j = true) : neD (.str i) (.str j) = some (.bool (!decide (i = j))) := neD_ty (.str i hi) (.str j hj) (Nat.zero_le _) (by simp)
theorem HasL.all {t : Ty} : ∀ {ds : List D}, (∀ d ∈ ds, HasTy t d) → HasL t ds
  | [], _ => .nil
  | d :: ds, h => .cons (h d List.mem_cons_self) (HasL.all fun x hx => h x (List.mem_cons_of_mem _ hx))
theorem HasL.map {α : Type} {t : Ty} {f : α → D} (h : ∀ x, HasTy t (f x)) (xs : List α) : HasL t (xs.map f) := HasL.all fun d hd => by
  obtain ⟨x, _, rfl⟩ := List.mem_map.mp hd
  exact h x
theorem HasL.mapM {α : Type} {t : Ty} {f : α → D} {xs : List α} (h : ∀ x ∈ xs, HasTy t (f x)) : HasL t (xs.map f) := HasL.all fun d hd => by
  obtain ⟨x, hx, rfl⟩ := List.mem_map.mp hd
  exact h x hx
/-- x in a list of one kind -/
theorem inB_l {t : Ty} {d : D} {ds : List D} (hd : HasTy t d) (hs : HasL t ds) (hz : t.dep ≤ 60) : inB d (.list ds) = some (decide (d ∈ ds)) := by
  have e1 := hd.shaped (by omega)
  have e2 : SeqAt.shaped (.list ds) = true := HasTy.shaped (.list hs) (by simp only [Ty.dep]; omega)
  have e3 : (ds.any fun z => PyData.eqv z d) = decide (d ∈ ds) := by
    clear e2
    induction ds with
    | nil => simp
    | cons z r ih =>
      cases hs with
      | cons h1 h2 =>
        rw [List.any_cons, ih h2]
        apply Bool.eq_iff_iff.mpr
        simp only [Bool.or_eq_true, decide_eq_true_eq, List.mem_cons]
        rw [h1.eqv hd]
        exact ⟨fun q => q.imp Eq.symm id, fun q => q.imp Eq.symm id⟩
  unfold inB
  split
  · rename_i h; cases h
  · rename_i h; cases h; rw [e1, e2, e3]; rfl
  · rename_i h; cases h
  · rename_i q1 q2 q3; exact (q1 _ rfl).elim
theorem niD_l {t : Ty} {d : D} {ds : List D} (hd : HasTy t d) (hs : HasL t ds) (hz : t.dep ≤ 60) : niD d (.list ds) = some (.bool (!decide (d ∈ ds))) := by
  unfold niD; rw [inB_l hd hs hz]; rfl
theorem inD_l {t : Ty} {d : D} {ds : List D} (hd : HasTy t d) (hs : HasL t ds) (hz : t.dep ≤ 60) : inD d (.list ds) = some (.bool (decide (d ∈ ds))) := by
  unfold inD; rw [inB_l hd hs hz]; rfl

/-! ### loops over what is told by other things -/
theorem compL_map {α : Type} {t : XG} {c : XT} {e : XE} {vs : List Nat} {ρ : Env} {s : Sto} (g : α → D) (p : α → Bool) (f : α → D) : ∀ (xs : List α) (acc : List D), (∀ x, x ∈ xs → ∃ ρ1, t (g x) (wipeD ρ vs) = some ρ1 ∧ c ρ1 s = .ok (p x) s ∧ (p x = true → e ρ1 s = .ok (f x) s)) → acc.length + xs.length ≤ sizeLine →
    compL t c e vs (xs.map g) acc ρ s = .ok (acc ++ (xs.filter p).map f) s
  | [], acc, _, _ => by simp [compL]
  | x :: xs, acc, h, hz => by
    obtain ⟨ρ1, e1, e2, e3⟩ := h x List.mem_cons_self
    have ih := fun acc hz => compL_map g p f xs acc (fun d hd => h d (List.mem_cons_of_mem _ hd)) hz
    have hz' : acc.length + (xs.length + 1) ≤ sizeLine := by simpa using hz
    rw [List.map_cons]
    unfold compL
    rw [e1]
    simp only [e2, nx_ok, bind_ok]
    by_cases hp : p x = true
    · rw [if_pos hp, e3 hp]
      simp only [nx_ok, bind_ok]
      rw [if_pos (by omega), ih _ (by simp; omega), List.filter_cons, if_pos hp]
      simp
    · rw [if_neg hp, ih _ (by omega), List.filter_cons, if_neg hp]
/-- all kept -/
theorem compL_mapA {α : Type} {t : XG} {e : XE} {vs : List Nat} {ρ : Env} {s : Sto} (g : α → D) (f : α → D) (xs : List α) (h : ∀ x, x ∈ xs → ∃ ρ1, t (g x) (wipeD ρ vs) = some ρ1 ∧ e ρ1 s = .ok (f x) s) (hz : xs.length ≤ sizeLine) :
    compL t tAll e vs (xs.map g) [] ρ s = .ok (xs.map f) s := by
  have := compL_map (t := t) (c := tAll) (e := e) (vs := vs) (ρ := ρ) (s := s) g (fun _ => true) f xs [] (fun x hx => by
    obtain ⟨ρ1, e1, e2⟩ := h x hx
    exact ⟨ρ1, e1, rfl, fun _ => e2⟩) (by simpa using hz)
  rw [this, List.filter_eq_self.mpr (fun _ _ => rfl)]; rfl
theorem compL_rng {t : XG} {e : XE} {vs : List Nat} {ρ : Env} {s : Sto} {lo : Int} {n : Nat} (f : Nat → D) (h : ∀ i, i < n → ∃ ρ1, t (.int (lo + (i : Int))) (wipeD ρ vs) = some ρ1 ∧ e ρ1 s = .ok (f i) s) (hz : n ≤ sizeLine) :
    compL t tAll e vs (rngD lo n) [] ρ s = .ok ((List.range n).map f) s :=
  compL_mapA (fun i : Nat => .int (lo + (i : Int))) f (List.range n) (fun i hi => h i (List.mem_range.mp hi)) (by simpa using hz)
theorem compL_rngF {t : XG} {c : XT} {e : XE} {vs : List Nat} {ρ : Env} {s : Sto} {lo : Int} {n : Nat} (p : Nat → Bool) (f : Nat → D) (h : ∀ i, i < n → ∃ ρ1, t (.int (lo + (i : Int))) (wipeD ρ vs) = some ρ1 ∧ c ρ1 s = .ok (p i) s ∧ (p i = true → e ρ1 s = .ok (f i) s)) (hz : n ≤ sizeLine) :
    compL t c e vs (rngD lo n) [] ρ s = .ok (((List.range n).filter p).map f) s := by
  have := compL_map (t := t) (c := c) (e := e) (vs := vs) (ρ := ρ) (s := s) (fun i : Nat => .int (lo + (i : Int))) p f (List.range n) [] (fun i hi => h i (List.mem_range.mp hi)) (by simpa using hz)
  rw [List.nil_append] at this; exact this
theorem forL_inv {α β : Type} {t : XG} {b : XS} (g : α → D) (env : β → Env) (sto : β → Sto) (step : β → α → β) (I : β → List α → Prop) (h : ∀ a x r, I a (x :: r) → I (step a x) r ∧ ∃ ρ1, t (g x) (env a) = some ρ1 ∧ (b ρ1 (sto a) = .next (env (step a x)) (sto (step a x)) ∨ b ρ1 (sto a) = .cont (env (step a x)) (sto (step a x)))) :
    ∀ (xs : List α) (a : β), I a xs → forL t b (xs.map g) (env a) (sto a) = .next (env (xs.foldl step a)) (sto (xs.foldl step a))
  | [], a, _ => rfl
  | x :: xs, a, hi => by
    obtain ⟨h1, ρ1, e1, e2⟩ := h a x xs hi
    rw [List.map_cons]
    unfold forL
    rw [e1]
    show (match b ρ1 (sto a) with | .next ρ2 s2 => forL t b (xs.map g) ρ2 s2 | .cont ρ2 s2 => forL t b (xs.map g) ρ2 s2 | .brk ρ2 s2 => .next ρ2 s2 | r => r) = _
    rcases e2 with e2 | e2 <;> rw [e2] <;> exact forL_inv g env sto step I h xs (step a x) h1
theorem enumD_map {α : Type} (g : α → D) : ∀ (xs : List α) (n : Nat), enumD n (xs.map g) = (xs.zipIdx n).map fun p => .tuple [.int (p.2 : Int), g p.1]
  | [], _ => rfl
  | x :: xs, n => by
    rw [List.map_cons, List.zipIdx_cons, List.map_cons, ← enumD_map g xs (n + 1)]; rfl
theorem atI_nat {α : Type} {xs : List α} {i : Nat} (h : i < xs.length) : atI xs (i : Int) = some xs[i] := by
  unfold atI ixN
  have h0 : (0 : Int) ≤ (i : Int) := Int.natCast_nonneg i
  have h1 : (i : Int) < (xs.length : Int) := by omega
  simp [h1, h]
theorem small_of {i : Int} (h0 : -1000000000000 ≤ i) (h1 : i ≤ 1000000000000) : small i = true := small_iff.mpr (by omega)
theorem rngOk_of {i : Int} (h0 : -1000000000000 ≤ i) (h1 : i ≤ 1000000000000) : rngOk i = true := small_of h0 h1
theorem repOk_of {n : Nat} {k : Int} (h0 : -1000000 ≤ k) (h1 : k ≤ 1000000) (h : n * k.toNat ≤ 4096) : repOk n k = true := by
  have z : 4096 ≤ sizeLine := by decide
  unfold repOk
  rw [Bool.and_eq_true]
  exact ⟨small_of (by omega) (by omega), Nat.ble_eq_true_of_le (Nat.le_trans h z)⟩
theorem cMul_r {i j : Int} (h : small j = true) : cMul i j = true := by unfold cMul; rw [h, Bool.or_true]
theorem cMul_l {i j : Int} (h : small i = true) : cMul i j = true := by unfold cMul; rw [h, Bool.true_or]
@[simp] theorem small_0 : small 0 = true := rfl
@[simp] theorem small_1 : small 1 = true := rfl
@[simp] theorem small_2 : small 2 = true := rfl
@[simp] theorem small_3 : small 3 = true := rfl
@[simp] theorem small_4 : small 4 = true := rfl
@[simp] theorem small_5 : small 5 = true := rfl
@[simp] theorem small_6 : small 6 = true := rfl
@[simp] theorem small_7 : small 7 = true := rfl
@[simp] theorem small_8 : small 8 = true := rfl
@[simp] theorem small_9 : small 9 = true := rfl
@[simp] theorem small_10 : small 10 = true := rfl
@[simp] theorem small_11 : small 11 = true := rfl
@[simp] theorem small_12 : small 12 = true := rfl
@[simp] theorem small_13 : small 13 = true := rfl
@[simp] theorem small_14 : small 14 = true := rfl
@[simp] theorem small_15 : small 15 = true := rfl
@[simp] theorem small_16 : small 16 = true := rfl
@[simp] theorem small_17 : small 17 = true := rfl
@[simp] theorem small_18 : small 18 = true := rfl
@[simp] theorem small_19 : small 19 = true := rfl
@[simp] theorem small_20 : small 20 = true := rfl
@[simp] theorem small_21 : small 21 = true := rfl
@[simp] theorem small_22 : small 22 = true := rfl
@[simp] theorem small_23 : small 23 = true := rfl
@[simp] theorem small_24 : small 24 = true := rfl
@[simp] theorem small_25 : small 25 = true := rfl
@[simp] theorem small_26 : small 26 = true := rfl
@[simp] theorem small_27 : small 27 = true := rfl
@[simp] theorem small_28 : small 28 = true := rfl
@[simp] theorem small_29 : small 29 = true := rfl
@[simp] theorem small_30 : small 30 = true := rfl
@[simp] theorem small_31 : small 31 = true := rfl
@[simp] theorem small_32 : small 32 = true := rfl
@[simp] theorem small_33 : small 33 = true := rfl
@[simp] theorem small_34 : small 34 = true := rfl
@[simp] theorem small_35 : small 35 = true := rfl
@[simp] theorem small_36 : small 36 = true := rfl
@[simp] theorem small_37 : small 37 = true := rfl
@[simp] theorem small_38 : small 38 = true := rfl
@[simp] theorem small_39 : small 39 = true := rfl
@[simp] theorem small_40 : small 40 = true := rfl
@[simp] theorem small_48271 : small 48271 = true := rfl
@[simp] theorem small_7919 : small 7919 = true := rfl
@[simp] theorem small_12345 : small 12345 = true := rfl
@[simp] theorem small_1103515245 : small 1103515245 = true := rfl
@[simp] theorem small_2147483647 : small 2147483647 = true := rfl
@[simp] theorem small_400 : small 400 = true := rfl
@[simp] theorem small_401 : small 401 = true := rfl
@[simp] theorem small_9949 : small 9949 = true := rfl
@[simp] theorem small_97 : small 97 = true := rfl
@[simp] theorem small_100 : small 100 = true := rfl
@[simp] theorem cMul_e {i j : Int} : cMul i j = (small i || small j) := rfl

theorem compL_none {α : Type} {t : XG} {c : XT} {e : XE} {vs : List Nat} {ρ : Env} {s : Sto} (g : α → D) : ∀ (xs : List α), (∀ x, x ∈ xs → ∃ ρ1, t (g x) (wipeD ρ vs) = some ρ1 ∧ c ρ1 s = .ok false s) → compL t c e vs (xs.map g) [] ρ s = .ok [] s
  | [], _ => rfl
  | x :: xs, h => by
    obtain ⟨ρ1, e1, e2⟩ := h x List.mem_cons_self
    rw [List.map_cons]
    unfold compL
    rw [e1]
    simp only [e2, nx_ok, bind_ok]
    rw [if_neg Bool.false_ne_true]
    exact compL_none g xs fun x hx => h x (List.mem_cons_of_mem _ hx)
@[simp] theorem lenD_scr {ds : List D} : lenD (scrD ds) = some (.int ds.length) := rfl
@[simp] theorem ixD_scr {ds : List D} {i : Int} : ixD (scrD ds) (.int i) = atI ds i := rfl
/-- the first turn at which it holds -/
def firstT (p : Nat → Bool) : Nat := ((List.range 401).find? p).getD 0
theorem firstT_spec {p : Nat → Bool} {k : Nat} (hk : k ≤ 400) (h : p k = true) : p (firstT p) = true ∧ firstT p ≤ k ∧ ∀ j, j < firstT p → p j = false := by
  unfold firstT
  cases e : (List.range 401).find? p with
  | none =>
    have := List.find?_eq_none.mp e k (List.mem_range.mpr (by omega))
    exact absurd h this
  | some i =>
    obtain ⟨h1, h2, h3⟩ := List.find?_range_eq_some.mp e
    refine ⟨h1, ?_, fun j hj => ?_⟩
    · show i ≤ k
      rcases Nat.lt_or_ge k i with q | q
      · have := h3 k q; rw [h] at this; simp at this
      · exact q
    · have := h3 j hj; simpa using this
theorem firstT_congr {p q : Nat → Bool} (h : ∀ i, i ≤ 400 → p i = q i) : firstT p = firstT q := by
  unfold firstT
  have e : (List.range 401).find? p = (List.range 401).find? q := by
    have : ∀ l : List Nat, (∀ i ∈ l, p i = q i) → l.find? p = l.find? q := by
      intro l
      induction l with
      | nil => intro _; rfl
      | cons x r ih =>
        intro hl
        rw [List.find?_cons, List.find?_cons, hl x List.mem_cons_self, ih fun i hi => hl i (List.mem_cons_of_mem _ hi)]
    exact this _ fun i hi => h i (by have := List.mem_range.mp hi; omega)
  rw [e]
/-- a loop up to the first turn at which p holds -/
theorem whileN_first {ρ0 : Env} (env : Nat → Env) (h0 : env 0 = ρ0) {t : XT} {b : XS} {s : Sto} {p : Nat → Bool} {k : Nat} (hk : k ≤ 400) (h : p k = true) (ht : ∀ i, i ≤ 400 → t (env i) s = .ok (!p i) s) (hb : ∀ i, b (env i) s = .next (env (i + 1)) s) : whileN t b 2000 ρ0 s = .next (env (firstT p)) s := by
  subst h0
  obtain ⟨h1, h2, h3⟩ := firstT_spec hk h
  have := whileN_all env (t := t) (b := b) (s := s) (firstT p) 2000 0 (by omega) (fun j _ hj => ⟨by rw [ht j (by omega), h3 j (by omega)]; rfl, hb j⟩) (by rw [Nat.zero_add, ht _ (by omega), h1]; rfl)
  rw [Nat.zero_add] at this
  exact this

theorem inB_t {t : Ty} {d : D} {ds : List D} (hd : HasTy t d) (hs : HasL t ds) (hz : t.dep ≤ 60) (hdep : SeqAt.shaped (.tuple ds) = true) : inB d (.tuple ds) = some (decide (d ∈ ds)) := by
  have e1 := hd.shaped (by omega)
  have e3 : (ds.any fun z => PyData.eqv z d) = decide (d ∈ ds) := by
    clear hdep
    induction ds with
    | nil => simp
    | cons z r ih =>
      cases hs with
      | cons h1 h2 =>
        rw [List.any_cons, ih h2]
        apply Bool.eq_iff_iff.mpr
        simp only [Bool.or_eq_true, decide_eq_true_eq, List.mem_cons]
        rw [h1.eqv hd]
        exact ⟨fun q => q.imp Eq.symm id, fun q => q.imp Eq.symm id⟩
  unfold inB
  split
  · rename_i h; cases h
  · rename_i h; cases h
  · rename_i h; cases h; rw [e1, hdep, e3]; rfl
  · rename_i q1 q2 q3; exact (q2 _ rfl).elim
@[simp] theorem neD_b {i j : Bool} : neD (.bool i) (.bool j) = some (.bool (!decide (i = j))) := neD_ty (.bool i) (.bool j) (Nat.zero_le _) (by simp)
theorem sorted_is {l l' : List Int} (hp : l.Perm l') (hs : l'.Pairwise (· ≤ ·)) : l.mergeSort leI = l' := by
  refine List.Perm.eq_of_pairwise (le := fun a b : Int => a ≤ b) (fun a b _ _ h1 h2 => Int.le_antisymm h1 h2) ?_ hs ((List.mergeSort_perm l leI).trans hp)
  have := List.pairwise_mergeSort (le := leI) (fun a b c h1 h2 => by simp only [leI, decide_eq_true_eq] at *; omega) (fun a b => by simp only [leI, Bool.or_eq_true, decide_eq_true_eq]; omega) l
  exact this.imp fun h => of_decide_eq_true h
theorem sortedD_i (ns : List Int) : sortedD (.list (ns.map .int)) = some (.list ((ns.mergeSort leI).map .int)) := by
  show (match intsOf (ns.map .int) with | some ns => some (PyData.list ((ns.mergeSort leI).map .int)) | none => (pairsOf (ns.map .int)).map fun (ps : List (Int × Int)) => PyData.list ((ps.mergeSort leP).map pairD)) = _
  rw [intsOf_map]
end M

namespace M
open PySem L2
def excNames : List Str := ["LineError", "NoSetting", "NoCode", "NoHouse", "IsOff", "IsOn", "NoTone", "NoTalk", "NoCall", "NoCount", "NoDeeds", "NoText", "Nothing"]
def exmT : Str → Str → Option Bool := exmOf excNames
def b_is_within : XS :=
  (sRet (xAnd (x1 (isiD .int) (xV 0)) (xAnd (xNotT (x1 (isiD .bool) (xV 0))) (x3 leD leD (xV 1) (xV 0) (xV 2)))))
def m_is_within : Fn := runB b_is_within 3
def b_is_code : XS :=
  (sSeq (sIf (tOr2 (tNot1 (tTru (x1 (isiD .str) (xV 0)))) (tNot1 (xB (x3 leD leD (xC (.int 1)) (x1 lenD (xV 0)) (xC (.int 4)))))) (sRet (xC (.bool false))) sNil)
    (sRet (xNotT (xComp (iAny (xV 0)) (gN 1) (xB (x2 niD (xV 1) (xC (.str "sl")))) (xV 1) [1]))))
def m_is_code : Fn := runB b_is_code 2
def b_beats : XS :=
  (sSeq (sOwn 1 (xLst aN))
    (sSeq (sFor (iAny (xV 0)) (gN 2) (sExt 1 (x2 addD (x2 mulD (xLst (aC (xC (.bool true)) aN)) (xIf (xB (x2 eqD (xV 2) (xC (.str "l")))) (xC (.int 3)) (xC (.int 1)))) (xLst (aC (xC (.bool false)) aN)))))
    (sRet (x2 addD (xL 1) (x2 mulD (xLst (aC (xC (.bool false)) aN)) (x2 subD (xC (.int 4)) (xC (.int 1))))))))
def m_beats : Fn := runB b_beats 3
def b__law_cell : XS :=
  (sSeq (sIf (xB (x2 ltD (xV 1) (x1 lenD (xV 0)))) (sRet (x2 ixD (xV 0) (xV 1))) sNil)
    (sRet (xC (.int 0))))
def m__law_cell : Fn := runB b__law_cell 2
def b__law_mix : XS :=
  (sRet (x2 modD (x2 modD (x2 powD (x2 modD (x2 mulD (xV 0) (xC (.int 48271))) (xV 1)) (xC (.int 3))) (xV 1)) (xV 2)))
def m__law_mix : Fn := runB b__law_mix 3
def b__law_whole : XS :=
  (sRet (xAnd (x1 (isiD .int) (xV 0)) (xNotT (x1 (isiD .bool) (xV 0)))))
def m__law_whole : Fn := runB b__law_whole 1
def b__law_seed : XS :=
  (sRet (x2 modD (x2 powD (x2 modD (x2 addD (x2 addD (x2 mulD (xV 0) (xC (.int 1103515245))) (x2 mulD (xC (.int 7919)) (xV 1))) (xC (.int 12345))) (xC (.int 2147483647))) (xC (.int 5))) (xC (.int 2147483647))))
def m__law_seed : Fn := runB b__law_seed 2
def b__law_pick : XS :=
  (sRet (x2 modD (x2 fdivD (xV 0) (xC (.int 97))) (xV 1)))
def m__law_pick : Fn := runB b__law_pick 2
def b__law_beats : XS :=
  (sSeq (sSet 1 (xLst aN))
    (sSeq (sFor (iAny (xV 0)) (gN 2) (sSet 1 (x2 addD (x2 addD (xV 1) (x2 mulD (xLst (aC (xC (.bool true)) aN)) (xLit [("s", .int 1), ("l", .int 3)] (xV 2)))) (xLst (aC (xC (.bool false)) aN)))))
    (sRet (x2 addD (xV 1) (xLst (aC (xC (.bool false)) (aC (xC (.bool false)) (aC (xC (.bool false)) aN))))))))
def m__law_beats : Fn := runB b__law_beats 3
def b_is_setting : XS :=
  (sSeq (sIf (tOr2 (tNot1 (tTru (x1 (isiD .tuple) (xV 0)))) (tOr2 (xB (x2 neD (x1 lenD (xV 0)) (xC (.int 3)))) (tNot1 (tTru (x1 (isiD .tuple) (x2 ixD (xV 0) (xC (.int 0)))))))) (sRet (xC (.bool false))) sNil)
    (sSeq (sIf (tOr2 (tNot1 (xB (x3 leD leD (xC (.int 2)) (x1 lenD (x2 ixD (xV 0) (xC (.int 0)))) (xC (.int 8))))) (tTru (xComp (iAny (x2 ixD (xV 0) (xC (.int 0)))) (gN 1) (tNot1 (tTru (xCall 1 m_is_code (aC (xV 1) aN)))) (xV 1) [1]))) (sRet (xC (.bool false))) sNil)
    (sSeq (sIf (xB (x2 neD (x1 lenSetD (x2 ixD (xV 0) (xC (.int 0)))) (x1 lenD (x2 ixD (xV 0) (xC (.int 0)))))) (sRet (xC (.bool false))) sNil)
    (sRet (xAnd (x1 (isiD .bool) (x2 ixD (xV 0) (xC (.int 1)))) (xCall 3 m_is_within (aC (x2 ixD (xV 0) (xC (.int 2))) (aC (xC (.int 1)) (aC (xC (.int 60)) aN)))))))))
def m_is_setting : Fn := runB b_is_setting 2
def b_look_house : XS :=
  (sIf (tNot1 (tTru (xCall 3 m_is_within (aC (xV 1) (aC (xC (.int 0)) (aC (x2 subD (x1 lenD (x2 ixD (xV 0) (xC (.int 0)))) (xC (.int 1))) aN)))))) (sRaise "NoHouse") sNil)
def m_look_house : Fn := runB b_look_house 2
def b_ring : XS :=
  (sSeq (sIf (tNot1 (tTru (xCall 1 m_is_code (aC (xV 0) aN)))) (sRaise "NoCode") sNil)
    (sSeq (sIf (tNot1 (tTru (xCall 3 m_is_within (aC (xV 1) (aC (xC (.int 0)) (aC (xC (.int 400)) aN)))))) (sRaise "NoCount") sNil)
    (sSeq (sSet 2 (xCall 1 m_beats (aC (xV 0) aN)))
    (sRet (xComp (iR1 (aC (xV 1) aN)) (gN 3) tAll (x2 ixD (xV 2) (x2 modD (xV 3) (x1 lenD (xV 2)))) [3])))))
def m_ring : Fn := runB b_ring 4
def b__law_code : XS :=
  (sRet (xM1 joinD (xC (.str "")) (xComp (iR1 (aC (x2 addD (xC (.int 1)) (x2 modD (x2 fdivD (xV 0) (xC (.int 5))) (xC (.int 4)))) aN)) (gN 1) tAll (x2 ixD (xC (.str "sl")) (xCall 2 m__law_pick (aC (xCall 2 m__law_seed (aC (xV 0) (aC (xV 1) aN))) (aC (xC (.int 2)) aN)))) [1])))
def m__law_code : Fn := runB b__law_code 2
def b__law_ring : XS :=
  (sSeq (sSet 2 (xCall 1 m__law_beats (aC (xV 0) aN)))
    (sRet (xComp (iR1 (aC (xV 1) aN)) (gN 3) tAll (x2 ixD (xV 2) (x2 modD (xV 3) (x1 lenD (xV 2)))) [3])))
def m__law_ring : Fn := runB b__law_ring 4
def b__law_pair : XS :=
  (sSeq (sSet 3 (x1 lenD (x2 ixD (xV 0) (xC (.int 0)))))
    (sSeq (sSet 4 (x2 modD (xCall 2 m__law_cell (aC (xV 1) (aC (xV 2) aN))) (xV 3)))
    (sSeq (sSet 5 (x2 modD (x2 addD (x2 addD (xV 4) (xC (.int 1))) (xCall 3 m__law_mix (aC (xCall 2 m__law_cell (aC (xV 1) (aC (x2 addD (xV 2) (xC (.int 1))) aN))) (aC (xC (.int 9949)) (aC (x2 subD (xV 3) (xC (.int 1))) aN))))) (xV 3)))
    (sRet (xTup (aC (xV 4) (aC (xV 5) aN)))))))
def m__law_pair : Fn := runB b__law_pair 6
def b_look : XS :=
  (sIf (tNot1 (tTru (xCall 1 m_is_setting (aC (xV 0) aN)))) (sRaise "NoSetting") sNil)
def m_look : Fn := runB b_look 1
def b__law_setting : XS :=
  (sSeq (sOwn 1 (xLst aN))
    (sSeq (sFor (iR1 (aC (x2 addD (xC (.int 2)) (x2 modD (x2 fdivD (xV 0) (xC (.int 7))) (xC (.int 7)))) aN)) (gN 2) (sSeq (sSet 3 (xCall 1 m__law_code (aC (xCall 2 m__law_seed (aC (xV 0) (aC (x2 addD (xC (.int 10)) (xV 2)) aN))) aN)))
    (sIf (xB (x2 niD (xV 3) (xL 1))) (sApp 1 (xV 3)) sNil)))
    (sSeq (sIf (xB (x2 ltD (x1 lenD (xL 1)) (xC (.int 2)))) (sOwn 1 (x2 catD (xL 1) (xSl sliD (xComp (iAny (xTup (aC (xC (.str "sl")) (aC (xC (.str "ls")) aN)))) (gN 3) (xB (x2 niD (xV 3) (xL 1))) (xV 3) [3]) oN (oS (xC (.int 1)))))) sNil)
    (sRet (xTup (aC (x1 tupD (xL 1)) (aC (x2 eqD (x2 modD (x2 fdivD (xV 0) (xC (.int 11))) (xC (.int 2))) (xC (.int 0))) (aC (x2 addD (xC (.int 1)) (xCall 2 m__law_pick (aC (xCall 2 m__law_seed (aC (xV 0) (aC (xC (.int 30)) aN))) (aC (x2 ixD (xLst (aC (xC (.int 60)) (aC (xC (.int 9)) aN))) (x2 modD (x2 fdivD (xV 0) (xC (.int 13))) (xC (.int 2)))) aN)))) aN))))))))
def m__law_setting : Fn := runB b__law_setting 4
def b_meant : XS :=
  (sSeq (sDrop (xCall 1 m_look (aC (xV 0) aN)))
    (sSeq (sIf (tOr2 (tNot1 (tTru (x1 (isiD .list) (xV 1)))) (tOr2 (xB (x2 gtD (x1 lenD (xV 1)) (xC (.int 400)))) (tTru (xComp (iAny (xV 1)) (gN 2) (tNot1 (tTru (x1 (isiD .bool) (xV 2)))) (xV 2) [2])))) (sRaise "NoCode") sNil)
    (sRet (xComp (iEnA (aC (x2 ixD (xV 0) (xC (.int 0))) aN)) (gT 2 (gsC (gN 3) (gsC (gN 4) gsN))) (xB (x2 eqD (xCall 2 m_ring (aC (xV 4) (aC (x1 lenD (xV 1)) aN))) (xV 1))) (xV 3) [3, 4]))))
def m_meant : Fn := runB b_meant 5
def b_apart_behind : XS :=
  (sSeq (sDrop (xCall 1 m_look (aC (xV 0) aN)))
    (sSeq (sDrop (xCall 2 m_look_house (aC (xV 0) (aC (xV 1) aN))))
    (sSeq (sDrop (xCall 2 m_look_house (aC (xV 0) (aC (xV 2) aN))))
    (sSeq (sIf (xB (x2 eqD (xV 1) (xV 2))) (sRaise "NoHouse") sNil)
    (sSeq (sSet 3 (xCall 2 m_ring (aC (x2 ixD (x2 ixD (xV 0) (xC (.int 0))) (xV 1)) (aC (xC (.int 400)) aN))))
    (sSeq (sSet 4 (xCall 2 m_ring (aC (x2 ixD (x2 ixD (xV 0) (xC (.int 0))) (xV 2)) (aC (xC (.int 400)) aN))))
    (sSeq (sSet 5 (xC (.int 0)))
    (sSeq (whileN (xB (x2 eqD (xSl sliD (xV 3) oN (oS (xV 5))) (xSl sliD (xV 4) oN (oS (xV 5))))) (sAug (fun a c => a + c) 5 (xC (.int 1))) 2000)
    (sRet (xV 5))))))))))
def m_apart_behind : Fn := runB b_apart_behind 6
def b_mistaken : XS :=
  (sSeq (sDrop (xCall 1 m_look (aC (xV 0) aN)))
    (sSeq (sIf (tNot1 (tTru (xCall 3 m_is_within (aC (xV 1) (aC (xC (.int 0)) (aC (xC (.int 400)) aN)))))) (sRaise "NoCount") sNil)
    (sSeq (sSet 2 (xComp (iAny (x2 ixD (xV 0) (xC (.int 0)))) (gN 3) tAll (xCall 2 m_ring (aC (xV 3) (aC (xV 1) aN))) [3]))
    (sSeq (sOwn 4 (xLst aN))
    (sSeq (sFor (iR1 (aC (x1 lenD (xV 2)) aN)) (gN 5) (sExt 4 (xComp (iR1 (aC (xV 5) aN)) (gN 6) (xB (x2 eqD (x2 ixD (xV 2) (xV 6)) (x2 ixD (xV 2) (xV 5)))) (xTup (aC (xV 6) (aC (xV 5) aN))) [6])))
    (sRet (x1 sortedD (xL 4))))))))
def m_mistaken : Fn := runB b_mistaken 7
def b_sure_behind : XS :=
  (sSeq (sDrop (xCall 1 m_look (aC (xV 0) aN)))
    (sSeq (sDrop (xCall 2 m_look_house (aC (xV 0) (aC (xV 1) aN))))
    (sSeq (sSet 2 (xCall 2 m_ring (aC (x2 ixD (x2 ixD (xV 0) (xC (.int 0))) (xV 1)) (aC (xC (.int 400)) aN))))
    (sSeq (sSet 3 (xC (.int 0)))
    (sSeq (whileN (xB (x2 neD (xCall 2 m_meant (aC (xV 0) (aC (xSl sliD (xV 2) oN (oS (xV 3))) aN))) (xLst (aC (xV 1) aN)))) (sAug (fun a c => a + c) 3 (xC (.int 1))) 2000)
    (sRet (xV 3)))))))
def m_sure_behind : Fn := runB b_sure_behind 4
def b_all_sure_behind : XS :=
  (sSeq (sDrop (xCall 1 m_look (aC (xV 0) aN)))
    (sRet (x1 maxD (xComp (iR1 (aC (x1 lenD (x2 ixD (xV 0) (xC (.int 0)))) aN)) (gN 1) tAll (xCall 2 m_sure_behind (aC (xV 0) (aC (xV 1) aN))) [1]))))
def m_all_sure_behind : Fn := runB b_all_sure_behind 2
def b_law_k13_1 : XS := (sSet 1 (xCall 1 m__law_setting (aC (xCall 2 m__law_seed (aC (xCall 2 m__law_cell (aC (xV 0) (aC (xC (.int 0)) aN))) (aC (xC (.int 0)) aN))) aN)))
def b_law_k13_2 : XS := (sTo (gT 2 (gsC (gN 2) (gsC (gN 3) gsN))) (xCall 3 m__law_pair (aC (xV 1) (aC (xV 0) (aC (xC (.int 1)) aN)))))
def b_law_k13_3 : XS := (sSet 4 (xComp (iAny (x2 ixD (xV 1) (xC (.int 0)))) (gN 5) tAll (xCall 2 m__law_ring (aC (xV 5) (aC (xC (.int 400)) aN))) [5]))
def b_law_k13_4 : XS := (sSet 6 (xC (.int 0)))
def b_law_k13_5a : XS := (sAug (fun a c => a + c) 6 (xC (.int 1)))
def b_law_k13_5 : XS := (whileN (xB (x2 eqD (xSl sliD (x2 ixD (xV 4) (xV 2)) oN (oS (xV 6))) (xSl sliD (x2 ixD (xV 4) (xV 3)) oN (oS (xV 6))))) b_law_k13_5a 2000)
def b_law_k13_6 : XS := (sIf (tOr2 (xB (x2 neD (xCall 3 m_apart_behind (aC (xV 1) (aC (xV 2) (aC (xV 3) aN)))) (xV 6))) (tNot1 (tTru (xCall 1 m__law_whole (aC (xCall 3 m_apart_behind (aC (xV 1) (aC (xV 2) (aC (xV 3) aN)))) aN))))) (sRet (xC (.bool false))) sNil)
def b_law_k13_7 : XS := (sSet 7 (x1 lenD (xV 4)))
def b_law_k13_8a : XS := (sSet 9 (x2 addD (xV 9) (xComp (iR2 (aC (x2 addD (xV 10) (xC (.int 1))) (aC (xV 7) aN))) (gN 11) (xB (x2 eqD (xSl sliD (x2 ixD (xV 4) (xV 10)) oN (oS (xV 8))) (xSl sliD (x2 ixD (xV 4) (xV 11)) oN (oS (xV 8))))) (xTup (aC (xV 10) (aC (xV 11) aN))) [11])))
def b_law_k13_8b : XS := (sSeq (sSet 9 (xLst aN))
    (sSeq (sFor (iR1 (aC (xV 7) aN)) (gN 10) b_law_k13_8a)
    (sIf (xB (x2 neD (xCall 2 m_mistaken (aC (xV 1) (aC (xV 8) aN))) (xV 9))) (sRet (xC (.bool false))) sNil)))
def b_law_k13_8 : XS := (sFor (iAny (xTup (aC (x2 modD (xCall 2 m__law_cell (aC (xV 0) (aC (xC (.int 3)) aN))) (xC (.int 30))) (aC (x2 modD (xCall 2 m__law_cell (aC (xV 0) (aC (xC (.int 4)) aN))) (xC (.int 401))) aN)))) (gN 8) b_law_k13_8b)
def b_law_k13_9 : XS := (sSet 12 (xC (.int 0)))
def b_law_k13_10a : XS := (sAug (fun a c => a + c) 6 (xC (.int 1)))
def b_law_k13_10b : XS := (sSeq (sSet 6 (xC (.int 0)))
    (sSeq (whileN (xB (x2 neD (xComp (iAny (xV 4)) (gN 14) (xB (x2 eqD (xSl sliD (xV 14) oN (oS (xV 6))) (xSl sliD (x2 ixD (xV 4) (xV 13)) oN (oS (xV 6))))) (xC (.int 1)) [14]) (xLst (aC (xC (.int 1)) aN)))) b_law_k13_10a 2000)
    (sSet 12 (b2D (fun i j => if j > i then j else i) (aC (xV 12) (aC (xV 6) aN))))))
def b_law_k13_10 : XS := (sFor (iR1 (aC (xV 7) aN)) (gN 13) b_law_k13_10b)
def b_law_k13_11 : XS := (sRet (x2 eqD (xCall 1 m_all_sure_behind (aC (xV 1) aN)) (xV 12)))
def b_law_k13 : XS :=
  (sSeq b_law_k13_1 (sSeq b_law_k13_2 (sSeq b_law_k13_3 (sSeq b_law_k13_4 (sSeq b_law_k13_5 (sSeq b_law_k13_6 (sSeq b_law_k13_7 (sSeq b_law_k13_8 (sSeq b_law_k13_9 (sSeq b_law_k13_10 b_law_k13_11))))))))))
def m_law_k13 : Fn := runB b_law_k13 15
def b_all_codes : XS :=
  (sSeq (sSet 0 (xLst (aC (xC (.str "")) aN)))
    (sSeq (sOwn 1 (xLst aN))
    (sSeq (sFor (iR1 (aC (xC (.int 4)) aN)) (gN 2) (sSeq (sSet 0 (x2 addD (xComp (iAny (xV 0)) (gN 3) tAll (x2 addD (xV 3) (xC (.str "l"))) [3]) (xComp (iAny (xV 0)) (gN 3) tAll (x2 addD (xV 3) (xC (.str "s"))) [3])))
    (sExt 1 (xV 0))))
    (sFrz 1 (sRet (xV 1))))))
def m_all_codes : Fn := runB b_all_codes 4
def b_ticks_for : XS :=
  (sSeq (sIf (tNot1 (tTru (xCall 1 m_is_code (aC (xV 0) aN)))) (sRaise "NoCode") sNil)
    (sRet (x1 lenD (xCall 1 m_beats (aC (xV 0) aN)))))
def m_ticks_for : Fn := runB b_ticks_for 1
def b_book : XS :=
  (sRet (xComp (iAny (x1 sortedPSD (xComp (iAny (xCall 0 m_all_codes aN)) (gN 1) tAll (xTup (aC (x1 lenD (xCall 1 m_beats (aC (xV 1) aN))) (aC (xV 1) aN))) [1]))) (gT 2 (gsC (gN 0) (gsC (gN 1) gsN))) tAll (xV 1) [0, 1]))
def m_book : Fn := runB b_book 2
def b_whole_ticks : XS :=
  (sSeq (sIf (tOr2 (tNot1 (tTru (x1 (isiD .list) (xV 0)))) (tOr2 (tNot1 (xB (x3 leD leD (xC (.int 2)) (x1 lenD (xV 0)) (xC (.int 8))))) (tTru (xComp (iAny (xV 0)) (gN 2) (tNot1 (tTru (xCall 3 m_is_within (aC (xV 2) (aC (xC (.int 0)) (aC (xC (.int 999)) aN)))))) (xV 2) [2])))) (sRaise "NoCount") sNil)
    (sSeq (sIf (tOr2 (tNot1 (tTru (x1 (isiD .tuple) (xV 1)))) (tOr2 (xB (x2 neD (x1 lenD (xV 1)) (x1 lenD (xV 0)))) (tTru (xComp (iAny (xV 1)) (gN 3) (tNot1 (tTru (xCall 1 m_is_code (aC (xV 3) aN)))) (xV 3) [3])))) (sRaise "NoCode") sNil)
    (sSeq (sIf (xB (x2 neD (x1 lenSetD (xV 1)) (x1 lenD (xV 1)))) (sRaise "NoCode") sNil)
    (sRet (x1 sumD (xComp (iZipD (aC (xV 0) (aC (xV 1) aN))) (gT 2 (gsC (gN 4) (gsC (gN 3) gsN))) tAll (x2 mulD (xV 4) (x1 lenD (xCall 1 m_beats (aC (xV 3) aN)))) [4, 3]))))))
def m_whole_ticks : Fn := runB b_whole_ticks 5
def b__law_all_codes : XS :=
  (sSeq (sPar 0 1 (aC (xLst aN) (aC (xLst (aC (xC (.str "")) aN)) aN)))
    (sSeq (sFor (iR1 (aC (xC (.int 4)) aN)) (gN 2) (sSeq (sSet 1 (x2 addD (xComp (iAny (xV 1)) (gN 3) tAll (x2 addD (xV 3) (xC (.str "l"))) [3]) (xComp (iAny (xV 1)) (gN 3) tAll (x2 addD (xV 3) (xC (.str "s"))) [3])))
    (sSet 0 (x2 addD (xV 0) (xV 1)))))
    (sRet (xComp (iAny (x1 sortedPSD (xComp (iAny (xV 0)) (gN 3) tAll (xTup (aC (x1 lenD (xCall 1 m__law_beats (aC (xV 3) aN))) (aC (xV 3) aN))) [3]))) (gT 2 (gsC (gN 4) (gsC (gN 3) gsN))) tAll (xV 3) [4, 3]))))
def m__law_all_codes : Fn := runB b__law_all_codes 5
def b_code_at : XS :=
  (sSeq (sSet 1 (xCall 0 m_book aN))
    (sSeq (sIf (tNot1 (tTru (xCall 3 m_is_within (aC (xV 0) (aC (xC (.int 0)) (aC (x2 subD (x1 lenD (xV 1)) (xC (.int 1))) aN)))))) (sRaise "NoCount") sNil)
    (sRet (x2 ixD (xV 1) (xV 0)))))
def m_code_at : Fn := runB b_code_at 2
def b_number_of_code : XS :=
  (sSeq (sIf (tNot1 (tTru (xCall 1 m_is_code (aC (xV 0) aN)))) (sRaise "NoCode") sNil)
    (sRet (xIdx (xCall 0 m_book aN) (xV 0))))
def m_number_of_code : Fn := runB b_number_of_code 1
def b__law_called : XS :=
  (sSeq (sIf (xB (x2 ltD (xV 0) (xC (.int 3)))) (sSeq (sIf (xB (x2 eqD (xV 0) (xC (.int 0)))) (sRet (xCall 3 m_apart_behind (aC (x2 ixD (xV 1) (xC (.int 0))) (aC (x2 ixD (xV 1) (xC (.int 1))) (aC (x2 ixD (xV 1) (xC (.int 2))) aN))))) sNil)
    (sRet (xIf (xB (x2 eqD (xV 0) (xC (.int 1)))) (xCall 2 m_mistaken (aC (x2 ixD (xV 1) (xC (.int 0))) (aC (x2 ixD (xV 1) (xC (.int 1))) aN))) (xCall 1 m_all_sure_behind (aC (x2 ixD (xV 1) (xC (.int 0))) aN))))) sNil)
    (sSeq (sIf (xB (x2 ltD (xV 0) (xC (.int 6)))) (sRet (xIf (xB (x2 eqD (xV 0) (xC (.int 3)))) (xCall 1 m_ticks_for (aC (x2 ixD (xV 1) (xC (.int 0))) aN)) (xIf (xB (x2 eqD (xV 0) (xC (.int 4)))) (xCall 1 m_code_at (aC (x2 ixD (xV 1) (xC (.int 0))) aN)) (xCall 1 m_number_of_code (aC (x2 ixD (xV 1) (xC (.int 0))) aN))))) sNil)
    (sRet (xCall 2 m_whole_ticks (aC (x2 ixD (xV 1) (xC (.int 0))) (aC (x2 ixD (xV 1) (xC (.int 1))) aN))))))
def m__law_called : Fn := runB b__law_called 2
def b__law_caught : XS :=
  (sSeq (sSet 2 (xC (.str "")))
    (sSeq (sTry exmT (sIf (xB (x2 ltD (xV 0) (xC (.int 7)))) (sDrop (xCall 2 m__law_called (aC (xV 0) (aC (xV 1) aN)))) (sDrop xBad)) [("NoSetting", (sSet 2 (xC (.str "setting")))), ("NoCode", (sSet 2 (xC (.str "code")))), ("NoHouse", (sSet 2 (xC (.str "house")))), ("NoCount", (sSet 2 (xC (.str "count")))), ("NoDeeds", (sSet 2 (xC (.str "deeds")))), ("NoText", (sSet 2 (xC (.str "text"))))])
    (sRet (xV 2))))
def m__law_caught : Fn := runB b__law_caught 3
def b_law_k15_1 : XS := (sSet 1 (xCall 0 m__law_all_codes aN))
def b_law_k15_2 : XS := (sSet 2 (x2 modD (xCall 2 m__law_cell (aC (xV 0) (aC (xC (.int 0)) aN))) (xC (.int 30))))
def b_law_k15_3 : XS := (sIf (tOr2 (xB (x2 neD (x1 lenD (xV 1)) (xC (.int 30)))) (tOr2 (xB (x2 neD (xCall 1 m_code_at (aC (xV 2) aN)) (x2 ixD (xV 1) (xV 2)))) (xB (x2 neD (xCall 1 m_number_of_code (aC (x2 ixD (xV 1) (xV 2)) aN)) (xV 2))))) (sRet (xC (.bool false))) sNil)
def b_law_k15_4 : XS := (sSet 3 (xCall 1 m__law_code (aC (xCall 2 m__law_seed (aC (xCall 2 m__law_cell (aC (xV 0) (aC (xC (.int 1)) aN))) (aC (xC (.int 1)) aN))) aN)))
def b_law_k15_5 : XS := (sIf (tOr2 (xB (x2 neD (xCall 1 m_ticks_for (aC (xV 3) aN)) (x1 lenD (xCall 1 m__law_beats (aC (xV 3) aN))))) (xB (x2 neD (xCall 1 m_number_of_code (aC (xV 3) aN)) (xIdx (xV 1) (xV 3))))) (sRet (xC (.bool false))) sNil)
def b_law_k15_6 : XS := (sSet 4 (xCall 1 m__law_setting (aC (xCall 2 m__law_seed (aC (xCall 2 m__law_cell (aC (xV 0) (aC (xC (.int 2)) aN))) (aC (xC (.int 0)) aN))) aN)))
def b_law_k15_7 : XS := (sSet 5 (xComp (iR1 (aC (x1 lenD (x2 ixD (xV 4) (xC (.int 0)))) aN)) (gN 6) tAll (xCall 3 m__law_mix (aC (x2 addD (xCall 2 m__law_cell (aC (xV 0) (aC (xC (.int 3)) aN))) (x2 mulD (xC (.int 41)) (xV 6))) (aC (xC (.int 9949)) (aC (x2 ixD (xLst (aC (xC (.int 1000)) (aC (xC (.int 3)) aN))) (x2 modD (xV 6) (xC (.int 2)))) aN)))) [6]))
def b_law_k15_8 : XS := (sSet 7 (x1 sumD (xComp (iZipD (aC (xV 5) (aC (x2 ixD (xV 4) (xC (.int 0))) aN))) (gT 2 (gsC (gN 8) (gsC (gN 9) gsN))) tAll (x2 mulD (xV 8) (x1 lenD (xCall 1 m__law_beats (aC (xV 9) aN)))) [8, 9])))
def b_law_k15_9 : XS := (sIf (tOr2 (xB (x2 neD (xCall 2 m_whole_ticks (aC (x1 lstD (xV 5)) (aC (x2 ixD (xV 4) (xC (.int 0))) aN))) (xV 7))) (tNot1 (tTru (xCall 1 m__law_whole (aC (xCall 2 m_whole_ticks (aC (x1 lstD (xV 5)) (aC (x2 ixD (xV 4) (xC (.int 0))) aN))) aN))))) (sRet (xC (.bool false))) sNil)
def b_law_k15_10 : XS := (sSet 10 (xLst (aC (xC .none) (aC (xSl sliD (x2 ixD (xV 4) (xC (.int 0))) (oS (xC (.int 1))) oN) (aC (x2 mulTD (xSl sliD (x2 ixD (xV 4) (xC (.int 0))) oN (oS (xC (.int 1)))) (x1 lenD (xV 5))) (aC (x1 lstD (x2 ixD (xV 4) (xC (.int 0)))) (aC (x2 addD (xSl sliD (x2 ixD (xV 4) (xC (.int 0))) (oS (xC (.int 1))) oN) (xTup (aC (xC (.str "x")) aN))) aN)))))))
def b_law_k15_11 : XS := (sIf (xB (x2 neD (xCall 2 m__law_caught (aC (xC (.int 6)) (aC (xLst (aC (x1 lstD (xV 5)) (aC (x2 ixD (xV 10) (x2 modD (xCall 2 m__law_cell (aC (xV 0) (aC (xC (.int 4)) aN))) (xC (.int 5)))) aN))) aN))) (xC (.str "code")))) (sRet (xC (.bool false))) sNil)
def b_law_k15_12 : XS := (sSet 10 (x2 ixD (xLst (aC (xC (.int 30)) (aC (x1 negD (xC (.int 1))) (aC (xC .none) (aC (xC (.bool true)) (aC (xC (.str "3")) aN)))))) (x2 modD (xCall 2 m__law_cell (aC (xV 0) (aC (xC (.int 5)) aN))) (xC (.int 5)))))
def b_law_k15_13 : XS := (sRet (xAnd (x2 eqD (xCall 2 m__law_caught (aC (xC (.int 4)) (aC (xLst (aC (xV 10) aN)) aN))) (xC (.str "count"))) (x2 eqD (xCall 2 m__law_caught (aC (xC (.int 5)) (aC (xLst (aC (xC (.str "slsls")) aN)) aN))) (xC (.str "code")))))
def b_law_k15 : XS :=
  (sSeq b_law_k15_1 (sSeq b_law_k15_2 (sSeq b_law_k15_3 (sSeq b_law_k15_4 (sSeq b_law_k15_5 (sSeq b_law_k15_6 (sSeq b_law_k15_7 (sSeq b_law_k15_8 (sSeq b_law_k15_9 (sSeq b_law_k15_10 (sSeq b_law_k15_11 (sSeq b_law_k15_12 b_law_k15_13))))))))))))
def m_law_k15 : Fn := runB b_law_k15 11
end M

/-! P1: codes, rings, settings. -/
namespace M
open PySem L2
theorem size_big : 4096 ≤ sizeLine := by decide
theorem le_size {n : Nat} (h : n ≤ 4096) : n ≤ sizeLine := Nat.le_trans h size_big
theorem lt_size {n : Nat} (h : n < 4096) : n < sizeLine := Nat.lt_of_lt_of_le h size_big
/-! ### codes -/
def signsOf : Nat → List (List Nat)
  | 0 => [[]]
  | n + 1 => (signsOf n).flatMap fun r => [115 :: r, 108 :: r]
def codeLists : List (List Nat) := signsOf 1 ++ signsOf 2 ++ signsOf 3 ++ signsOf 4
/-- the thirty codes -/
def codes30 : List Str := codeLists.map fun r => ⟨⟨r⟩⟩
def beatSign (c : Nat) : List Bool := (if c = 108 then [true, true, true] else [true]) ++ [false]
def beatsOf (c : Str) : List Bool := c.cps.toList.flatMap beatSign ++ [false, false, false]
def boolsD (bs : List Bool) : List D := bs.map .bool
theorem m_is_within_e {t lo hi : Int} {s : Sto} : m_is_within [.int t, .int lo, .int hi] s = .ok (.bool (decide (lo ≤ t) && decide (t ≤ hi))) s := by
  by_cases h : lo ≤ t <;> simp [m_is_within, b_is_within, h]
theorem all_codes {p : Str → Prop} (h : ∀ r ∈ codeLists, p ⟨⟨r⟩⟩) : ∀ c ∈ codes30, p c := fun c hc => by
  obtain ⟨r, hr, rfl⟩ := List.mem_map.mp hc
  exact h r hr
/-- one by one -/
def AllL {α : Type} (p : α → Prop) : List α → Prop
  | [] => True
  | x :: r => p x ∧ AllL p r
theorem AllL.all {α : Type} {p : α → Prop} : ∀ {l : List α}, AllL p l → ∀ x ∈ l, p x
  | [], _, x, h => by simp at h
  | y :: r, h, x, hx => by
    rcases List.mem_cons.mp hx with rfl | hx
    · exact h.1
    · exact AllL.all h.2 x hx
theorem m_is_code_e {c : Str} (h : c ∈ codes30) {s : Sto} : m_is_code [.str c] s = .ok (.bool true) s := by
  refine all_codes (p := fun c => m_is_code [.str c] s = .ok (.bool true) s) (AllL.all ?_) c h
  repeat' (first | exact trivial | refine And.intro ?_ ?_)
  all_goals rfl
def sg (c : Nat) : Str := ⟨⟨[c]⟩⟩
theorem ok_s : PyData.strOk (sg 115) = true := by decide +kernel
theorem ok_l : PyData.strOk (sg 108) = true := by decide +kernel
theorem eq_sl : eqD (.str (sg 115)) (.str "l") = some (.bool false) := by
  have e : ("l" : Str) = sg 108 := by decide +kernel
  rw [e, eqD_s ok_s ok_l]
  have : sg 115 ≠ sg 108 := by decide
  simp [this]
theorem eq_ll : eqD (.str (sg 108)) (.str "l") = some (.bool true) := by
  have e : ("l" : Str) = sg 108 := by decide +kernel
  rw [e, eqD_s ok_l ok_l]
  simp
theorem boolsD_app (a b : List Bool) : boolsD (a ++ b) = boolsD a ++ boolsD b := List.map_append
@[simp] theorem boolsD_len (a : List Bool) : (boolsD a).length = a.length := List.length_map _
/-- the loop of beats -/
theorem beats_loop {s : Sto} {t : XG} {b : XS} {c : D} (hb : ∀ (z : Slot) (acc : List Bool) (x : Nat), (x = 115 ∨ x = 108) → acc.length ≤ 100 → ∃ ρ1, t (.str (sg x)) [.val c, .own (boolsD acc), z] = some ρ1 ∧ b ρ1 s = .next [.val c, .own (boolsD (acc ++ beatSign x)), .val (.str (sg x))] s) :
    ∀ (r : List Nat) (z : Slot) (acc : List Bool), (∀ x ∈ r, x = 115 ∨ x = 108) → acc.length + r.length * 4 ≤ 100 → ∃ z', forL t b (r.map fun x => .str (sg x)) [.val c, .own (boolsD acc), z] s = .next [.val c, .own (boolsD (acc ++ r.flatMap beatSign)), z'] s
  | [], z, acc, _, _ => ⟨z, by simp [forL]⟩
  | x :: r, z, acc, h, hz => by
    have hl : (beatSign x).length ≤ 4 := by unfold beatSign; split <;> simp
    rw [List.length_cons] at hz
    obtain ⟨ρ1, e1, e2⟩ := hb z acc x (h x List.mem_cons_self) (by omega)
    obtain ⟨z', e3⟩ := beats_loop hb r (.val (.str (sg x))) (acc ++ beatSign x) (fun y hy => h y (List.mem_cons_of_mem _ hy)) (by rw [List.length_append]; omega)
    refine ⟨z', ?_⟩
    rw [List.map_cons, List.flatMap_cons]
    unfold forL
    rw [e1]
    show (match b ρ1 s with | .next ρ2 s2 => forL t b _ ρ2 s2 | .cont ρ2 s2 => forL t b _ ρ2 s2 | .brk ρ2 s2 => .next ρ2 s2 | r => r) = _
    rw [e2]
    show forL t b _ _ s = _
    rw [e3, List.append_assoc]
theorem code_signs {r : List Nat} (h : r ∈ codeLists) : (∀ x ∈ r, x = 115 ∨ x = 108) ∧ 1 ≤ r.length ∧ r.length ≤ 4 := by
  have : ∀ r ∈ codeLists, (∀ x ∈ r, x = 115 ∨ x = 108) ∧ 1 ≤ r.length ∧ r.length ≤ 4 := by decide +kernel
  exact this r h
theorem m_beats_e {c : Str} (h : c ∈ codes30) {s : Sto} : m_beats [.str c] s = .ok (.list (boolsD (beatsOf c))) s := by
  obtain ⟨r, hr, rfl⟩ := List.mem_map.mp h
  obtain ⟨h1, h2, h3⟩ := code_signs hr
  obtain ⟨z', e⟩ := beats_loop (s := s) (c := .str ⟨⟨r⟩⟩) (t := gN 2) (b := sExt 1 (x2 addD (x2 mulD (xLst (aC (xC (.bool true)) aN)) (xIf (xB (x2 eqD (xV 2) (xC (.str "l")))) (xC (.int 3)) (xC (.int 1)))) (xLst (aC (xC (.bool false)) aN))))
    (by
      intro z acc x hx ha
      refine ⟨_, rfl, ?_⟩
      have hs : ∀ k, k ≤ 4 → acc.length + k ≤ sizeLine := fun k hk => le_size (by omega)
      rcases hx with rfl | rfl
      · simp [eq_sl, le_size, repOk, hs, boolsD_app, beatSign, boolsD]
      · simp [eq_ll, le_size, repOk, hs, boolsD_app, beatSign, boolsD]) r .no [] h1 (by simp; omega)
  have es : strD ⟨⟨r⟩⟩ = r.map fun x => .str (sg x) := rfl
  have eb : boolsD [] = [] := rfl
  rw [← es, eb] at e
  have hl : (r.flatMap beatSign).length ≤ 16 := by
    have : ∀ r ∈ codeLists, (r.flatMap beatSign).length ≤ 16 := by decide +kernel
    exact this r hr
  have hz : (r.flatMap beatSign).length + 3 ≤ sizeLine := le_size (by omega)
  simp [-List.length_flatMap, m_beats, b_beats, le_size, e, repOk, boolsD_app, beatsOf, hz]
  rfl

/-- its rows -/
def ringOf (c : Str) (t : Nat) : List Bool := (List.range t).map fun i => (beatsOf c).getD (i % (beatsOf c).length) false
@[simp] theorem ringOf_len (c : Str) (t : Nat) : (ringOf c t).length = t := by unfold ringOf; simp
theorem beats_pos (c : Str) : 0 < (beatsOf c).length := by unfold beatsOf; simp
theorem beats_lt {c : Str} (h : c ∈ codes30) : (beatsOf c).length < 100 := by
  obtain ⟨r, hr, rfl⟩ := List.mem_map.mp h
  have : ∀ r ∈ codeLists, (beatsOf ⟨⟨r⟩⟩).length < 100 := by decide +kernel
  exact this r hr
theorem ring_comp {c : Str} (h : c ∈ codes30) {t : Nat} (ht : t ≤ 400) {d1 : D} {z : Slot} {s : Sto} : compL (gN 3) tAll (x2 ixD (xV 2) (x2 modD (xV 3) (x1 lenD (xV 2)))) [3] (rngD 0 t) [] [.val (.str c), .val d1, .val (.list (boolsD (beatsOf c))), z] s = .ok (boolsD (ringOf c t)) s := by
  rw [compL_rng (fun i => .bool ((beatsOf c).getD (i % (beatsOf c).length) false)) (fun i hi => ⟨_, rfl, ?_⟩) (le_size (by omega))]
  · unfold ringOf boolsD; rw [List.map_map]; rfl
  · have h0 := beats_pos c
    have h1 : (0 : Int) < ((beatsOf c).length : Int) := by omega
    have h2 : (0 + (i : Int)) % ((beatsOf c).length : Int) = ((i % (beatsOf c).length : Nat) : Int) := by simp
    have h3 : i % (beatsOf c).length < (boolsD (beatsOf c)).length := by rw [boolsD_len]; exact Nat.mod_lt _ h0
    simp only [wipeD, List.set_cons_succ, List.set_cons_zero, x2_e, xV_e, x1_e, List.getElem?_cons_succ, List.getElem?_cons_zero, bind_ok, lenD_l, lift_some, boolsD_len, modD_e, if_pos h1, h2, ixD_l]
    rw [atI_nat h3]
    simp [boolsD, List.getD_eq_getElem?_getD, List.getElem?_eq_getElem (Nat.mod_lt i h0)]
theorem m_ring_e {c : Str} (h : c ∈ codes30) {t : Nat} (ht : t ≤ 400) {s : Sto} : m_ring [.str c, .int t] s = .ok (.list (boolsD (ringOf c t))) s := by
  have e1 : ((t : Int) ≤ 400) := by omega
  have e2 : rngOk (t : Int) = true := rngOk_of (by omega) (by omega)
  simp [m_ring, b_ring, m_is_code_e h, m_is_within_e, e1, m_beats_e h, e2, ring_comp h ht]
theorem m__law_ring_e {c : Str} (h : c ∈ codes30) {t : Nat} (ht : t ≤ 400) {s : Sto} (hb : m__law_beats [.str c] s = .ok (.list (boolsD (beatsOf c))) s) : m__law_ring [.str c, .int t] s = .ok (.list (boolsD (ringOf c t))) s := by
  have e2 : rngOk (t : Int) = true := rngOk_of (by omega) (by omega)
  simp [m__law_ring, b__law_ring, hb, e2, ring_comp h ht]

/-! ### settings -/
structure Stg where
  codes : List Str
  priv : Bool
  pat : Int
def codesD (cs : List Str) : D := .tuple (cs.map .str)
def Stg.d (S : Stg) : D := .tuple [codesD S.codes, .bool S.priv, .int S.pat]
structure Stg.Ok (S : Stg) : Prop where
  l2 : 2 ≤ S.codes.length
  l8 : S.codes.length ≤ 8
  nd : S.codes.Nodup
  c30 : ∀ c ∈ S.codes, c ∈ codes30
  p1 : 1 ≤ S.pat
  p60 : S.pat ≤ 60
theorem metS_nodup : ∀ (xs acc : List Str), (acc ++ xs).Nodup → xs.foldl stepS acc = acc ++ xs
  | [], acc, _ => by simp
  | x :: xs, acc, h => by
    have hx : acc.any (· == x) = false := by
      rw [List.any_eq_false]
      intro y hy e
      have e' : y = x := by simpa using e
      subst e'
      exact (List.nodup_append.mp h).2.2 y hy y List.mem_cons_self rfl
    rw [List.foldl_cons]
    have e : stepS acc x = acc ++ [x] := by unfold stepS; rw [hx]; rfl
    rw [e, metS_nodup xs (acc ++ [x]) (by simpa using h)]
    simp
theorem lenSet_e {cs : List Str} (h : cs.Nodup) (hl : cs.length ≤ 100) : lenSetD (codesD cs) = some (.int cs.length) := by
  have hb : cs.length + 1 < scanBound := by unfold scanBound; omega
  have e : metS cs = cs := metS_nodup cs [] (by simpa using h)
  show (strsOf (cs.map .str)).bind _ = _
  rw [strsOf_map]
  show (if cs.length + 1 < scanBound then some (PyData.int (metS cs).length) else none) = _
  rw [if_pos hb, e]
@[simp] theorem lenD_codes {cs : List Str} : lenD (codesD cs) = some (.int cs.length) := by unfold codesD; simp
@[simp] theorem isi_codes {cs : List Str} : isiD .tuple (codesD cs) = some (.bool true) := rfl
@[simp] theorem atI_0 {α : Type} {a : α} {r : List α} : atI (a :: r) 0 = some a := by
  have := atI_nat (xs := a :: r) (i := 0) (by simp)
  simpa using this
@[simp] theorem atI_1 {α : Type} {a b : α} {r : List α} : atI (a :: b :: r) 1 = some b := by
  have := atI_nat (xs := a :: b :: r) (i := 1) (by simp)
  simpa using this
@[simp] theorem atI_2 {α : Type} {a b c : α} {r : List α} : atI (a :: b :: c :: r) 2 = some c := by
  have := atI_nat (xs := a :: b :: c :: r) (i := 2) (by simp)
  simpa using this
theorem m_is_setting_e {S : Stg} (h : S.Ok) {s : Sto} : m_is_setting [S.d] s = .ok (.bool true) s := by
  have h1 : (2 : Int) ≤ (S.codes.length : Int) := by have := h.l2; omega
  have h2 : (S.codes.length : Int) ≤ 8 := by have := h.l8; omega
  have hc : compL (gN 1) (tNot1 (tTru (xCall 1 m_is_code (aC (xV 1) aN)))) (xV 1) [1] (S.codes.map .str) [] [.val S.d, .no] s = .ok [] s := by
    have := compL_map (t := gN 1) (c := tNot1 (tTru (xCall 1 m_is_code (aC (xV 1) aN)))) (e := xV 1) (vs := [1]) (ρ := [.val S.d, .no]) (s := s) PyData.str (fun _ => false) PyData.str S.codes [] (fun c hc => ⟨_, rfl, by simp [wipeD, m_is_code_e (h.c30 c hc)], fun z => by cases z⟩) (le_size (by have := h.l8; simp; omega))
    have e : List.filter (fun _ : Str => false) S.codes = [] := by simp [List.filter_eq_nil_iff]
    rw [e] at this
    exact this
  unfold Stg.d codesD at hc
  have hl := lenSet_e h.nd (by have := h.l8; omega)
  have hp1 := h.p1
  have hp2 := h.p60
  unfold codesD at hl
  simp [m_is_setting, b_is_setting, Stg.d, codesD, hc, h1, h2, hl, m_is_within_e, hp1, hp2]
@[simp] theorem ix_codes {S : Stg} : ixD S.d (.int 0) = some (codesD S.codes) := by simp [Stg.d]
theorem m_look_e {S : Stg} (h : S.Ok) {s : Sto} : m_look [S.d] s = .ok .none s := by
  simp [m_look, b_look, m_is_setting_e h]
theorem m_look_house_e {S : Stg} {k : Nat} (h : k < S.codes.length) {s : Sto} : m_look_house [S.d, .int k] s = .ok .none s := by
  have h1 : (k : Int) ≤ (S.codes.length : Int) - 1 := by omega
  simp [m_look_house, b_look_house, m_is_within_e, h1]
theorem ix_code {cs : List Str} {k : Nat} (h : k < cs.length) : ixD (codesD cs) (.int k) = some (.str cs[k]) := by
  unfold codesD
  rw [ixD_t, atI_nat (by simpa using h)]
  simp
/-! ### rows -/
/-- the houses that a row may mean -/
def meantOf (cs : List Str) (row : List Bool) : List Nat := (cs.zipIdx.filter fun p => decide (ringOf p.1 row.length = row)).map (·.2)
def natsD (ns : List Nat) : List D := ns.map fun n : Nat => .int (n : Int)
theorem map_inj {α β : Type} {f : α → β} (hf : ∀ x y, f x = f y → x = y) : ∀ {a b : List α}, a.map f = b.map f → a = b
  | [], [], _ => rfl
  | [], _ :: _, h => by simp at h
  | _ :: _, [], h => by simp at h
  | x :: a, y :: b, h => by
    rw [List.map_cons, List.map_cons] at h
    injection h with h1 h2
    rw [hf x y h1, map_inj hf h2]
theorem boolsD_inj {a b : List Bool} (h : boolsD a = boolsD b) : a = b := map_inj (fun x y e => by injection e) h
theorem natsD_inj {a b : List Nat} (h : natsD a = natsD b) : a = b := map_inj (fun x y e => by injection e with e; omega) h
theorem ty_bools (a : List Bool) : HasTy (.list .bool) (.list (boolsD a)) := .list (HasL.map (fun b => .bool b) a)
theorem ty_nats (a : List Nat) : HasTy (.list .int) (.list (natsD a)) := .list (HasL.map (fun b : Nat => .int (b : Int)) a)
theorem eq_bools (a b : List Bool) : eqD (.list (boolsD a)) (.list (boolsD b)) = some (.bool (decide (a = b))) :=
  eqD_ty (ty_bools a) (ty_bools b) (by decide) (by rw [decide_eq_true_eq]; exact ⟨fun e => by rw [e], fun e => boolsD_inj (by injection e)⟩)
theorem ne_nats (a b : List Nat) : neD (.list (natsD a)) (.list (natsD b)) = some (.bool (!decide (a = b))) :=
  neD_ty (ty_nats a) (ty_nats b) (by decide) (by rw [decide_eq_true_eq]; exact ⟨fun e => by rw [e], fun e => natsD_inj (by injection e)⟩)
theorem m_meant_e {S : Stg} (h : S.Ok) {row : List Bool} (hr : row.length ≤ 400) {s : Sto} : m_meant [S.d, .list (boolsD row)] s = .ok (.list (natsD (meantOf S.codes row))) s := by
  have h1 : ¬ (400 : Int) < (row.length : Int) := by omega
  have hc : compL (gN 2) (tNot1 (tTru (x1 (isiD .bool) (xV 2)))) (xV 2) [2] (boolsD row) [] [.val S.d, .val (.list (boolsD row)), .no, .no, .no] s = .ok [] s :=
    compL_none (fun b => .bool b) row fun b hb => ⟨_, rfl, by simp [wipeD]⟩
  have he : compL (gT 2 (gsC (gN 3) (gsC (gN 4) gsN))) (xB (x2 eqD (xCall 2 m_ring (aC (xV 4) (aC (x1 lenD (xV 1)) aN))) (xV 1))) (xV 3) [3, 4] (enumD 0 (S.codes.map .str)) [] [.val S.d, .val (.list (boolsD row)), .no, .no, .no] s = .ok (natsD (meantOf S.codes row)) s := by
    rw [enumD_map]
    have := compL_map (t := gT 2 (gsC (gN 3) (gsC (gN 4) gsN))) (c := xB (x2 eqD (xCall 2 m_ring (aC (xV 4) (aC (x1 lenD (xV 1)) aN))) (xV 1))) (e := xV 3) (vs := [3, 4]) (ρ := [.val S.d, .val (.list (boolsD row)), .no, .no, .no]) (s := s)
      (fun p : Str × Nat => .tuple [.int (p.2 : Int), .str p.1]) (fun p => decide (ringOf p.1 row.length = row)) (fun p => .int (p.2 : Int)) S.codes.zipIdx [] (fun p hp => ⟨_, rfl, by
        have hc := h.c30 p.1 (List.fst_mem_of_mem_zipIdx hp)
        simp [wipeD, m_ring_e hc hr, eq_bools], fun _ => by simp [wipeD]⟩) (le_size (by have := h.l8; simp; omega))
    rw [this]
    unfold natsD meantOf
    rw [List.map_map]; rfl
  simp [m_meant, b_meant, m_look_e h, h1, hc]
  simp [codesD, he]
end M

/-! P2: houses told apart. -/
namespace M
open PySem L2
theorem cut_take {ds : List D} {i : Nat} : cutD ds none (some (i : Int)) = ds.take i := by
  unfold cutD
  have e0 : HT.sIx ds.length 0 none = 0 := rfl
  have e1 : HT.sIx ds.length ds.length (some (i : Int)) = min i ds.length := by
    exact HT.sIx_nat _ _ _
  rw [e0, e1, List.drop_zero, Nat.sub_zero]
  rcases Nat.le_total i ds.length with h | h
  · rw [Nat.min_eq_left h]
  · rw [Nat.min_eq_right h, List.take_length, List.take_of_length_le h]
theorem boolsD_take (r : List Bool) (i : Nat) : (boolsD r).take i = boolsD (r.take i) := by unfold boolsD; rw [List.map_take]
theorem ring_take {c : Str} {t i : Nat} (h : i ≤ t) : (ringOf c t).take i = ringOf c i := by
  unfold ringOf
  rw [← List.map_take, List.take_range, Nat.min_eq_left h]
/-- different codes ring otherwise -/
theorem apart30 : ∀ c ∈ codes30, ∀ d ∈ codes30, c ≠ d → ringOf c 40 ≠ ringOf d 40 := by
  decide +kernel

theorem ring_inj {c d : Str} (hc : c ∈ codes30) (hd : d ∈ codes30) {i : Nat} (hi : 40 ≤ i) (e : ringOf c i = ringOf d i) : c = d := by
  apply Classical.byContradiction
  intro hn
  apply apart30 c hc d hd hn
  rw [← ring_take hi, ← ring_take (c := d) hi, e]
theorem zipIdx_rng {α : Type} (d : α) : ∀ (xs : List α) (k : Nat), xs.zipIdx k = (List.range xs.length).map fun i => (xs.getD i d, k + i)
  | [], k => rfl
  | x :: xs, k => by
    rw [List.zipIdx_cons, zipIdx_rng d xs (k + 1), List.length_cons, List.range_succ_eq_map, List.map_cons, List.map_map]
    congr 1
    apply List.map_congr_left
    intro i _
    simp [Nat.add_comm, Nat.add_left_comm]
/-- the code of a house -/
def cod (cs : List Str) (i : Nat) : Str := cs.getD i Str.empty
theorem cod_eq {cs : List Str} {i : Nat} (h : i < cs.length) : cod cs i = cs[i] := by unfold cod; simp [List.getD_eq_getElem?_getD, h]
theorem cod_mem {cs : List Str} {i : Nat} (h : i < cs.length) : cod cs i ∈ cs := by rw [cod_eq h]; exact List.getElem_mem h
theorem meantOf_rng (cs : List Str) (row : List Bool) : meantOf cs row = (List.range cs.length).filter fun i => decide (ringOf (cod cs i) row.length = row) := by
  unfold meantOf
  rw [zipIdx_rng Str.empty, List.filter_map, List.map_map]
  have : ((fun p : Str × Nat => p.2) ∘ fun i => (cs.getD i Str.empty, 0 + i)) = id := by funext i; simp
  rw [this, List.map_id]
  rfl
theorem filter_one {n h : Nat} {p : Nat → Bool} (hn : h < n) (hp : ∀ i, i < n → (p i = true ↔ i = h)) : (List.range n).filter p = [h] := by
  induction n with
  | zero => omega
  | succ n ih =>
    rw [List.range_succ, List.filter_append]
    by_cases e : h = n
    · subst e
      have h1 : (List.range h).filter p = [] := by
        rw [List.filter_eq_nil_iff]
        intro i hi
        have hi' := List.mem_range.mp hi
        rw [hp i (by omega)]
        omega
      have h2 : p h = true := (hp h hn).mpr rfl
      rw [h1]
      simp [h2]
    · have h2 : p n = false := by
        cases q : p n with
        | false => rfl
        | true => exact absurd ((hp n (by omega)).mp q).symm e
      rw [ih (by omega) fun i hi => hp i (by omega)]
      simp [h2]
def sureP (cs : List Str) (h : Nat) (i : Nat) : Bool := decide (meantOf cs (ringOf (cod cs h) i) = [h])
def sureOf (cs : List Str) (h : Nat) : Nat := firstT (sureP cs h)
theorem cod_inj {S : Stg} (hS : S.Ok) {i j : Nat} (hi : i < S.codes.length) (hj : j < S.codes.length) (e : cod S.codes i = cod S.codes j) : i = j := by
  rw [cod_eq hi, cod_eq hj] at e
  exact (List.getElem_inj hS.nd).mp e
theorem sure_40 {S : Stg} (hS : S.Ok) {h i : Nat} (hh : h < S.codes.length) (hi : 40 ≤ i) : sureP S.codes h i = true := by
  unfold sureP
  rw [decide_eq_true_eq, meantOf_rng, ringOf_len]
  refine filter_one hh fun j hj => ?_
  rw [decide_eq_true_eq]
  constructor
  · intro e
    exact cod_inj hS hj hh (ring_inj (hS.c30 _ (cod_mem hj)) (hS.c30 _ (cod_mem hh)) hi e)
  · rintro rfl; rfl
theorem ix_cod {cs : List Str} {k : Nat} (h : k < cs.length) : ixD (codesD cs) (.int k) = some (.str (cod cs k)) := by rw [ix_code h, cod_eq h]
theorem m_sure_behind_e {S : Stg} (hS : S.Ok) {h : Nat} (hh : h < S.codes.length) {s : Sto} : m_sure_behind [S.d, .int h] s = .ok (.int (sureOf S.codes h)) s := by
  have hr : m_ring [.str (cod S.codes h), .int 400] s = _ := m_ring_e (hS.c30 _ (cod_mem hh)) (t := 400) (Nat.le_refl _) (s := s)
  have hw := whileN_first (fun i : Nat => [.val S.d, .val (.int h), .val (.list (boolsD (ringOf (cod S.codes h) 400))), .val (.int i)]) rfl (s := s) (p := sureP S.codes h) (k := 40)
    (t := xB (x2 neD (xCall 2 m_meant (aC (xV 0) (aC (xSl sliD (xV 2) oN (oS (xV 3))) aN))) (xLst (aC (xV 1) aN)))) (b := sAug (fun a c => a + c) 3 (xC (.int 1))) (by omega) (sure_40 hS hh (Nat.le_refl _))
    (fun i hi => by
      have hm := m_meant_e hS (row := ringOf (cod S.codes h) i) (by simpa using hi) (s := s)
      have hn : neD (.list (natsD (meantOf S.codes (ringOf (cod S.codes h) i)))) (.list [.int (h : Int)]) = some (.bool (!decide (meantOf S.codes (ringOf (cod S.codes h) i) = [h]))) := ne_nats _ [h]
      simp [cut_take, boolsD_take, ring_take hi, hm, le_size, hn, sureP]) (fun i => by simp)
  simp at hw
  simp [m_sure_behind, b_sure_behind, m_look_e hS, m_look_house_e hh, ix_cod hh, hr, hw, sureOf]
/-! ### two houses -/
def apartP (c d : Str) (i : Nat) : Bool := !decide (ringOf c i = ringOf d i)
def apartOf (c d : Str) : Nat := firstT (apartP c d)
theorem apart_40 {c d : Str} (hc : c ∈ codes30) (hd : d ∈ codes30) (hn : c ≠ d) : apartP c d 40 = true := by
  unfold apartP
  rw [Bool.not_eq_true', decide_eq_false_iff_not]
  exact apart30 c hc d hd hn
theorem m_apart_behind_e {S : Stg} (hS : S.Ok) {i j : Nat} (hi : i < S.codes.length) (hj : j < S.codes.length) (hn : i ≠ j) {s : Sto} : m_apart_behind [S.d, .int i, .int j] s = .ok (.int (apartOf (cod S.codes i) (cod S.codes j))) s := by
  have ci := hS.c30 _ (cod_mem hi)
  have cj := hS.c30 _ (cod_mem hj)
  have hri : m_ring [.str (cod S.codes i), .int 400] s = _ := m_ring_e ci (t := 400) (Nat.le_refl _) (s := s)
  have hrj : m_ring [.str (cod S.codes j), .int 400] s = _ := m_ring_e cj (t := 400) (Nat.le_refl _) (s := s)
  have hne : cod S.codes i ≠ cod S.codes j := fun e => hn (cod_inj hS hi hj e)
  have hw := whileN_first (fun k : Nat => [.val S.d, .val (.int i), .val (.int j), .val (.list (boolsD (ringOf (cod S.codes i) 400))), .val (.list (boolsD (ringOf (cod S.codes j) 400))), .val (.int k)]) rfl (s := s) (p := apartP (cod S.codes i) (cod S.codes j)) (k := 40)
    (t := xB (x2 eqD (xSl sliD (xV 3) oN (oS (xV 5))) (xSl sliD (xV 4) oN (oS (xV 5))))) (b := sAug (fun a c => a + c) 5 (xC (.int 1))) (by omega) (apart_40 ci cj hne)
    (fun k hk => by simp [cut_take, boolsD_take, ring_take hk, eq_bools, apartP]) (fun k => by simp)
  have hij : ¬ ((i : Int) = (j : Int)) := by omega
  simp at hw
  simp [m_apart_behind, b_apart_behind, m_look_e hS, m_look_house_e hi, m_look_house_e hj, ix_cod hi, ix_cod hj, hij, hri, hrj, hw, apartOf]
/-! ### all houses -/
theorem intsOf_nats (ns : List Nat) : intsOf (natsD ns) = some (ns.map fun n : Nat => (n : Int)) := by
  have e : natsD ns = (ns.map fun n : Nat => (n : Int)).map PyData.int := by unfold natsD; rw [List.map_map]; rfl
  rw [e, intsOf_map]
def maxN (ns : List Nat) : Nat := ns.foldl max 0
theorem foldl_max_cast : ∀ (ns : List Nat) (a : Nat), (ns.map fun n : Nat => (n : Int)).foldl max (a : Int) = ((ns.foldl max a : Nat) : Int)
  | [], a => rfl
  | n :: r, a => by
    rw [List.map_cons, List.foldl_cons, List.foldl_cons]
    have e : max (a : Int) (n : Int) = ((max a n : Nat) : Int) := by omega
    rw [e, foldl_max_cast r]
theorem maxL_nats {ns : List Nat} : maxL (ns.map fun n : Nat => (n : Int)) = ((maxN ns : Nat) : Int) := by
  cases ns with
  | nil => rfl
  | cons n r =>
    show (r.map fun n : Nat => (n : Int)).foldl max (n : Int) = _
    rw [foldl_max_cast]
    unfold maxN
    rw [List.foldl_cons, Nat.zero_max]
theorem maxD_nats {ns : List Nat} (h : 0 < ns.length) : maxD (.list (natsD ns)) = some (.int (maxN ns)) := by
  show (intsOf (natsD ns)).bind _ = _
  rw [intsOf_nats]
  show (if 0 < (ns.map fun n : Nat => (n : Int)).length then some (PyData.int (maxL (ns.map fun n : Nat => (n : Int)))) else none) = _
  rw [if_pos (by simpa using h), maxL_nats]
def allSure (cs : List Str) : Nat := maxN ((List.range cs.length).map (sureOf cs))
theorem m_all_sure_behind_e {S : Stg} (hS : S.Ok) {s : Sto} : m_all_sure_behind [S.d] s = .ok (.int (allSure S.codes)) s := by
  have e2 : rngOk (S.codes.length : Int) = true := rngOk_of (by omega) (by have := hS.l8; omega)
  have hc : compL (gN 1) tAll (xCall 2 m_sure_behind (aC (xV 0) (aC (xV 1) aN))) [1] (rngD 0 S.codes.length) [] [.val S.d, .no] s = .ok (natsD ((List.range S.codes.length).map (sureOf S.codes))) s := by
    rw [compL_rng (fun i => .int (sureOf S.codes i)) (fun i hi => ⟨_, rfl, by simp [wipeD, m_sure_behind_e hS hi]⟩) (le_size (by have := hS.l8; omega))]
    unfold natsD; rw [List.map_map]; rfl
  have hl : 0 < ((List.range S.codes.length).map (sureOf S.codes)).length := by have := hS.l2; simp; omega
  simp [m_all_sure_behind, b_all_sure_behind, m_look_e hS, e2, hc, maxD_nats hl, allSure]
/-! ### who is mistaken -/
def pairN (p : Nat × Nat) : D := .tuple [.int p.1, .int p.2]
/-- pairs i < j that ring alike in the first t ticks, by j -/
def mistBy (cs : List Str) (t : Nat) : List (Nat × Nat) := (List.range cs.length).flatMap fun j => ((List.range j).filter fun i => decide (ringOf (cod cs i) t = ringOf (cod cs j) t)).map fun i => (i, j)
/-- .. in order -/
def mist (cs : List Str) (t : Nat) : List (Nat × Nat) := (List.range cs.length).flatMap fun i => ((List.range (cs.length - (i + 1))).filter fun k => decide (ringOf (cod cs i) t = ringOf (cod cs (i + 1 + k)) t)).map fun k => (i, i + 1 + k)
def toI (p : Nat × Nat) : Int × Int := (p.1, p.2)
def ltP (p q : Nat × Nat) : Prop := p.1 < q.1 ∨ (p.1 = q.1 ∧ p.2 < q.2)
theorem mist_mem {cs : List Str} {t : Nat} {p : Nat × Nat} : p ∈ mist cs t ↔ p.1 < p.2 ∧ p.2 < cs.length ∧ ringOf (cod cs p.1) t = ringOf (cod cs p.2) t := by
  unfold mist
  simp only [List.mem_flatMap, List.mem_range, List.mem_map, List.mem_filter, decide_eq_true_eq]
  constructor
  · rintro ⟨i, hi, k, ⟨hk, e⟩, rfl⟩
    exact ⟨by show i < i + 1 + k; omega, by show i + 1 + k < _; omega, e⟩
  · rintro ⟨h1, h2, h3⟩
    refine ⟨p.1, by omega, p.2 - (p.1 + 1), ⟨by omega, ?_⟩, ?_⟩
    · rw [show p.1 + 1 + (p.2 - (p.1 + 1)) = p.2 by omega]; exact h3
    · rw [show p.1 + 1 + (p.2 - (p.1 + 1)) = p.2 by omega]
theorem mistBy_mem {cs : List Str} {t : Nat} {p : Nat × Nat} : p ∈ mistBy cs t ↔ p.1 < p.2 ∧ p.2 < cs.length ∧ ringOf (cod cs p.1) t = ringOf (cod cs p.2) t := by
  unfold mistBy
  simp only [List.mem_flatMap, List.mem_range, List.mem_map, List.mem_filter, decide_eq_true_eq]
  constructor
  · rintro ⟨j, hj, i, ⟨hi, e⟩, rfl⟩
    exact ⟨hi, hj, e⟩
  · rintro ⟨h1, h2, h3⟩
    exact ⟨p.2, h2, p.1, ⟨h1, h3⟩, rfl⟩
theorem mist_lt (cs : List Str) (t : Nat) : (mist cs t).Pairwise ltP := by
  unfold mist
  rw [List.pairwise_flatMap]
  refine ⟨fun i hi => ?_, ?_⟩
  · rw [List.pairwise_map]
    exact (List.Pairwise.filter _ List.pairwise_lt_range).imp fun {a b} h => .inr ⟨rfl, by show i + 1 + a < i + 1 + b; omega⟩
  · refine List.pairwise_lt_range.imp fun {a b} h x hx y hy => ?_
    obtain ⟨k, _, rfl⟩ := List.mem_map.mp hx
    obtain ⟨k', _, rfl⟩ := List.mem_map.mp hy
    exact .inl h
theorem mistBy_nd (cs : List Str) (t : Nat) : (mistBy cs t).Nodup := by
  unfold mistBy
  rw [List.Nodup, List.pairwise_flatMap]
  refine ⟨fun i hi => ?_, ?_⟩
  · rw [List.pairwise_map]
    exact (List.Pairwise.filter _ List.pairwise_lt_range).imp fun {a b} h e => by have := congrArg Prod.fst e; simp at this; omega
  · refine List.pairwise_lt_range.imp fun {a b} h x hx y hy e => ?_
    obtain ⟨k, _, rfl⟩ := List.mem_map.mp hx
    obtain ⟨k', _, rfl⟩ := List.mem_map.mp hy
    have := congrArg Prod.snd e; simp at this; omega
theorem mist_perm (cs : List Str) (t : Nat) : (mistBy cs t).Perm (mist cs t) := by
  refine (List.perm_ext_iff_of_nodup (mistBy_nd cs t) ?_).mpr fun p => by rw [mist_mem, mistBy_mem]
  exact (mist_lt cs t).imp fun {a b} h e => by
    subst e
    rcases h with h | ⟨_, h⟩ <;> omega
theorem toI_inj {p q : Nat × Nat} (h : toI p = toI q) : p = q := by
  have h1 := congrArg Prod.fst h
  have h2 := congrArg Prod.snd h
  simp only [toI] at h1 h2
  exact Prod.ext (by omega) (by omega)
theorem sort_mist (cs : List Str) (t : Nat) : ((mistBy cs t).map toI).mergeSort leP = (mist cs t).map toI := by
  refine List.Perm.eq_of_pairwise (le := fun p q => leP p q = true) (fun p q _ _ h1 h2 => ?_) ?_ ?_ ?_
  · simp only [leP, decide_eq_true_eq] at h1 h2
    have : p.1 = q.1 ∧ p.2 = q.2 := by omega
    exact Prod.ext this.1 this.2
  · exact List.pairwise_mergeSort (le := leP) (fun a b c h1 h2 => by simp only [leP, decide_eq_true_eq] at *; omega) (fun a b => by simp only [leP, Bool.or_eq_true, decide_eq_true_eq]; omega) _
  · rw [List.pairwise_map]
    refine (mist_lt cs t).imp fun {a b} h => ?_
    unfold leP toI
    rw [decide_eq_true_eq]
    rcases h with h | ⟨h1, h2⟩
    · exact .inl (by show (a.1 : Int) < (b.1 : Int); omega)
    · exact .inr ⟨by show (a.1 : Int) = (b.1 : Int); omega, by show (a.2 : Int) ≤ (b.2 : Int); omega⟩
  · exact (List.mergeSort_perm _ leP).trans ((mist_perm cs t).map toI)
theorem pairsOf_map (ps : List (Int × Int)) : pairsOf (ps.map pairD) = some ps := by
  induction ps with
  | nil => rfl
  | cons p r ih =>
    show (pairsOf (r.map pairD)).map ((p.1, p.2) :: ·) = _
    rw [ih]; rfl
theorem sortedD_pairs (ps : List (Int × Int)) : sortedD (.list (ps.map pairD)) = some (.list ((ps.mergeSort leP).map pairD)) := by
  cases ps with
  | nil => simp [sortedD, intsOf]
  | cons p r =>
    have e : intsOf ((p :: r).map pairD) = none := rfl
    show (match intsOf ((p :: r).map pairD) with | some ns => some (PyData.list ((ns.mergeSort leI).map .int)) | none => (pairsOf ((p :: r).map pairD)).map fun (ps : List (Int × Int)) => PyData.list ((ps.mergeSort leP).map pairD)) = _
    rw [e]
    show (pairsOf ((p :: r).map pairD)).map _ = _
    rw [pairsOf_map]; rfl
theorem pairs_toI (ps : List (Nat × Nat)) : (ps.map toI).map pairD = ps.map pairN := by rw [List.map_map]; rfl
theorem sorted_mist (cs : List Str) (t : Nat) : sortedD (.list ((mistBy cs t).map pairN)) = some (.list ((mist cs t).map pairN)) := by
  rw [← pairs_toI, sortedD_pairs, sort_mist, pairs_toI]

theorem rows_ix {cs : List Str} {t k : Nat} (h : k < cs.length) : ixD (.list (cs.map fun c => .list (boolsD (ringOf c t)))) (.int k) = some (.list (boolsD (ringOf (cod cs k) t))) := by
  rw [ixD_l, atI_nat (by simpa using h), cod_eq h]
  simp
theorem len_filter_le {α : Type} (p : α → Bool) (l : List α) : (l.filter p).length ≤ l.length := List.length_filter_le p l
/-- the first n rounds -/
def mistTo (cs : List Str) (t n : Nat) : List (Nat × Nat) := (List.range n).flatMap fun j => ((List.range j).filter fun i => decide (ringOf (cod cs i) t = ringOf (cod cs j) t)).map fun i => (i, j)
theorem mistTo_succ (cs : List Str) (t n : Nat) : mistTo cs t (n + 1) = mistTo cs t n ++ ((List.range n).filter fun i => decide (ringOf (cod cs i) t = ringOf (cod cs n) t)).map fun i => (i, n) := by
  unfold mistTo
  rw [List.range_succ, List.flatMap_append]
  simp
theorem mistTo_len (cs : List Str) (t : Nat) : ∀ n, (mistTo cs t n).length ≤ n * n
  | 0 => by simp [mistTo]
  | n + 1 => by
    have h1 := mistTo_len cs t n
    have h2 := List.length_filter_le (fun i => decide (ringOf (cod cs i) t = ringOf (cod cs n) t)) (List.range n)
    rw [List.length_range] at h2
    have h3 : (n + 1) * (n + 1) = n * n + n + n + 1 := by rw [Nat.add_mul, Nat.mul_add]; omega
    rw [mistTo_succ, List.length_append, List.length_map, h3]
    omega
/-- a loop over numbers from 0 -/
theorem forL_rng {t : XG} {b : XS} {s : Sto} (env : Nat → Env) : ∀ (n i : Nat), (∀ j, i ≤ j → j < i + n → ∃ ρ1, t (.int (j : Int)) (env j) = some ρ1 ∧ b ρ1 s = .next (env (j + 1)) s) → forL t b ((List.range' i n).map fun j : Nat => .int (j : Int)) (env i) s = .next (env (i + n)) s
  | 0, i, _ => rfl
  | n + 1, i, h => by
    obtain ⟨ρ1, e1, e2⟩ := h i (Nat.le_refl _) (by omega)
    rw [List.range'_succ, List.map_cons]
    unfold forL
    rw [e1]
    show (match b ρ1 s with | .next ρ2 s2 => forL t b _ ρ2 s2 | .cont ρ2 s2 => forL t b _ ρ2 s2 | .brk ρ2 s2 => .next ρ2 s2 | r => r) = _
    rw [e2]
    have := forL_rng env n (i + 1) (fun j h1 h2 => h j (by omega) (by omega))
    rw [show i + (n + 1) = i + 1 + n by omega]
    exact this
theorem rngD_0 (n : Nat) : rngD 0 n = (List.range' 0 n).map fun j : Nat => .int (j : Int) := by
  unfold rngD
  rw [List.range_eq_range']
  apply List.map_congr_left
  intro i _
  simp
theorem forL_rng0 {t : XG} {b : XS} {s : Sto} {ρ0 : Env} {n : Nat} (env : Nat → Env) (h0 : env 0 = ρ0) (h : ∀ j, j < n → ∃ ρ1, t (.int (j : Int)) (env j) = some ρ1 ∧ b ρ1 s = .next (env (j + 1)) s) : forL t b (rngD 0 n) ρ0 s = .next (env n) s := by
  subst h0
  rw [rngD_0, forL_rng env n 0 fun j _ hj => h j (by omega), Nat.zero_add]
/-- the slot of a loop's number behind n turns -/
def lastN (n : Nat) : Slot := match n with
  | 0 => .no
  | n + 1 => .val (.int (n : Int))
theorem m_mistaken_e {S : Stg} (hS : S.Ok) {t : Nat} (ht : t ≤ 400) {s : Sto} : m_mistaken [S.d, .int t] s = .ok (.list ((mist S.codes t).map pairN)) s := by
  have h8 := hS.l8
  have e1 : ((t : Int) ≤ 400) := by omega
  have e2 : rngOk (S.codes.length : Int) = true := rngOk_of (by omega) (by omega)
  have hc : ∀ ρ : Env, compL (gN 3) tAll (xCall 2 m_ring (aC (xV 3) (aC (xV 1) aN))) [3] (S.codes.map .str) [] [.val S.d, .val (.int t), .no, .no, .no, .no, .no] s = .ok (S.codes.map fun c => .list (boolsD (ringOf c t))) s := fun _ =>
    compL_mapA PyData.str _ S.codes (fun c hc => ⟨_, rfl, by simp [wipeD, m_ring_e (hS.c30 c hc) ht]⟩) (le_size (by omega))
  have hc := hc []
  generalize hR : (PyData.list (S.codes.map fun c => .list (boolsD (ringOf c t)))) = R at hc
  have hix : ∀ k, k < S.codes.length → ixD R (.int k) = some (.list (boolsD (ringOf (cod S.codes k) t))) := fun k hk => by rw [← hR]; exact rows_ix hk
  have hlen : lenD R = some (.int S.codes.length) := by rw [← hR]; simp
  have hf : forL (gN 5) (sExt 4 (xComp (iR1 (aC (xV 5) aN)) (gN 6) (xB (x2 eqD (x2 ixD (xV 2) (xV 6)) (x2 ixD (xV 2) (xV 5)))) (xTup (aC (xV 6) (aC (xV 5) aN))) [6])) (rngD 0 S.codes.length)
      [.val S.d, .val (.int t), .val R, .no, .own [], .no, .no] s = .next [.val S.d, .val (.int t), .val R, .no, .own ((mistTo S.codes t S.codes.length).map pairN), lastN S.codes.length, .no] s :=
    forL_rng0 (fun n => [.val S.d, .val (.int t), .val R, .no, .own ((mistTo S.codes t n).map pairN), lastN n, .no]) rfl fun j hj => ⟨_, rfl, by
      have e3 : rngOk (j : Int) = true := rngOk_of (by omega) (by omega)
      have hcc : compL (gN 6) (xB (x2 eqD (x2 ixD (xV 2) (xV 6)) (x2 ixD (xV 2) (xV 5)))) (xTup (aC (xV 6) (aC (xV 5) aN))) [6] (rngD 0 j) [] [.val S.d, .val (.int t), .val R, .no, .own ((mistTo S.codes t j).map pairN), .val (.int j), .no] s
          = .ok (((List.range j).filter fun i => decide (ringOf (cod S.codes i) t = ringOf (cod S.codes j) t)).map fun i => pairN (i, j)) s :=
        compL_rngF _ _ (fun i hi => ⟨_, rfl, by simp [wipeD, hix i (by omega), hix j hj, eq_bools], fun _ => by simp [wipeD, le_size, pairN]⟩) (le_size (by omega))
      have h1 := mistTo_len S.codes t j
      have h2 := List.length_filter_le (fun i => decide (ringOf (cod S.codes i) t = ringOf (cod S.codes j) t)) (List.range j)
      rw [List.length_range] at h2
      have hj8 : j ≤ 8 := by omega
      have h3 : j * j ≤ 64 := Nat.mul_le_mul hj8 hj8
      have hz : (mistTo S.codes t j).length + ((List.range j).filter fun i => decide (ringOf (cod S.codes i) t = ringOf (cod S.codes j) t)).length ≤ sizeLine := le_size (by omega)
      simp [e3, hcc, hz, mistTo_succ, lastN, Function.comp_def]⟩
  have hm : mistTo S.codes t S.codes.length = mistBy S.codes t := rfl
  rw [hm] at hf
  simp [m_mistaken, b_mistaken, m_look_e hS, m_is_within_e, e1, codesD, hc]
  simp [hR, hlen, e2, hf, sorted_mist, le_size]
end M

/-! P3: what the laws draw. -/
namespace M
open PySem L2
def cellOf (ns : List Int) (k : Nat) : Int := ns.getD k 0
theorem m__law_cell_e {ns : List Int} {k : Nat} {s : Sto} : m__law_cell [scrD (ns.map .int), .int k] s = .ok (.int (cellOf ns k)) s := by
  by_cases h : k < ns.length
  · have h1 : (k : Int) < (ns.length : Int) := by omega
    have h2 : atI (ns.map PyData.int) (k : Int) = some (.int (cellOf ns k)) := by
      rw [atI_nat (by simpa using h)]
      simp [cellOf, List.getD_eq_getElem?_getD, h]
    simp [m__law_cell, b__law_cell, h1, h2]
  · have h1 : ¬ (k : Int) < (ns.length : Int) := by omega
    have h3 : ns[k]? = none := by simp; omega
    simp [m__law_cell, b__law_cell, h1, cellOf, List.getD_eq_getElem?_getD, h3]
def modNat {a p : Int} (hp : 0 < p) (hl : p ≤ 1000000000000) : (a % p).natAbs < 2 ^ 64 := by
  have h1 := Int.emod_nonneg a (by omega : p ≠ 0)
  have h2 := Int.emod_lt_of_pos a hp
  omega
def mixOf (a p m : Int) : Int := (a * 48271 % p) ^ 3 % p % m
theorem m__law_mix_e {a p m : Int} (hp : 0 < p) (hl : p ≤ 1000000000000) (hm : 0 < m) {s : Sto} : m__law_mix [.int a, .int p, .int m] s = .ok (.int (mixOf a p m)) s := by
  have h1 := modNat (a := a * 48271) hp hl
  simp [m__law_mix, b__law_mix, hp, hm, h1, mixOf]
def seedOf (a k : Int) : Int := ((a * 1103515245 + 7919 * k + 12345) % 2147483647) ^ 5 % 2147483647
theorem m__law_seed_e {a k : Int} {s : Sto} : m__law_seed [.int a, .int k] s = .ok (.int (seedOf a k)) s := by
  have h1 := modNat (a := a * 1103515245 + 7919 * k + 12345) (p := 2147483647) (by omega) (by omega)
  simp [m__law_seed, b__law_seed, h1, seedOf]
def pickOf (a m : Int) : Int := a / 97 % m
theorem m__law_pick_e {a m : Int} (hm : 0 < m) {s : Sto} : m__law_pick [.int a, .int m] s = .ok (.int (pickOf a m)) s := by
  simp [m__law_pick, b__law_pick, hm, pickOf]
theorem m__law_whole_e {i : Int} {s : Sto} : m__law_whole [.int i] s = .ok (.bool true) s := by
  simp [m__law_whole, b__law_whole]
theorem ix_sl0 : ixD (.str "sl") (.int 0) = some (.str (sg 115)) := by rfl
theorem ix_sl1 : ixD (.str "sl") (.int 1) = some (.str (sg 108)) := by rfl

def draw (a : Int) (k : Nat) : Nat := if pickOf (seedOf a k) 2 = 0 then 115 else 108
theorem pick2 (a : Int) : pickOf a 2 = 0 ∨ pickOf a 2 = 1 := by
  unfold pickOf
  have h1 := Int.emod_nonneg (a / 97) (by omega : (2 : Int) ≠ 0)
  have h2 := Int.emod_lt_of_pos (a / 97) (by omega : (0 : Int) < 2)
  omega
theorem ix_draw {a : Int} {k : Nat} : ixD (.str "sl") (.int (pickOf (seedOf a k) 2)) = some (.str (sg (draw a k))) := by
  unfold draw
  rcases pick2 (seedOf a k) with e | e <;> rw [e]
  · exact ix_sl0
  · exact ix_sl1
def lenC (a : Int) : Nat := (1 + a / 5 % 4).toNat
theorem lenC_le (a : Int) : 1 ≤ lenC a ∧ lenC a ≤ 4 ∧ (1 + a / 5 % 4) = (lenC a : Int) := by
  unfold lenC
  have h1 := Int.emod_nonneg (a / 5) (by omega : (4 : Int) ≠ 0)
  have h2 := Int.emod_lt_of_pos (a / 5) (by omega : (0 : Int) < 4)
  omega
def drawn (a : Int) : List Nat := (List.range (lenC a)).map (draw a)
theorem drawn_code (a : Int) : drawn a ∈ codeLists := by
  obtain ⟨h1, h2, _⟩ := lenC_le a
  have hd : ∀ k, draw a k = 115 ∨ draw a k = 108 := fun k => by unfold draw; split <;> simp
  have key : ∀ x y z u : Nat, (x = 115 ∨ x = 108) → (y = 115 ∨ y = 108) → (z = 115 ∨ z = 108) → (u = 115 ∨ u = 108) → [x] ∈ codeLists ∧ [x, y] ∈ codeLists ∧ [x, y, z] ∈ codeLists ∧ [x, y, z, u] ∈ codeLists := by
    rintro x y z u (rfl | rfl) (rfl | rfl) (rfl | rfl) (rfl | rfl) <;> decide +kernel
  obtain ⟨k1, k2, k3, k4⟩ := key _ _ _ _ (hd 0) (hd 1) (hd 2) (hd 3)
  unfold drawn
  have : lenC a = 1 ∨ lenC a = 2 ∨ lenC a = 3 ∨ lenC a = 4 := by omega
  rcases this with e | e | e | e <;> rw [e]
  · exact k1
  · exact k2
  · exact k3
  · exact k4
def codeOf (a : Int) : Str := ⟨⟨drawn a⟩⟩
theorem codeOf_30 (a : Int) : codeOf a ∈ codes30 := List.mem_map.mpr ⟨drawn a, drawn_code a, rfl⟩
theorem join_sg : ∀ rs : List Nat, Txt.join "" (rs.map sg) = ⟨⟨rs⟩⟩ := by
  intro rs
  have key : ∀ (r : List Nat) (acc : Array Nat), (r.map sg).foldl (fun acc (p : Str) => acc ++ ("" : Str).cps ++ p.cps) acc = acc ++ ⟨r⟩ := by
    intro r
    induction r with
    | nil => intro acc; simp
    | cons x r ih =>
      intro acc
      rw [List.map_cons, List.foldl_cons, ih]
      have e0 : ("" : Str).cps = #[] := by decide
      have e1 : (sg x).cps = ⟨[x]⟩ := rfl
      rw [e0, e1]
      apply Array.ext'
      simp
  cases rs with
  | nil => rfl
  | cons x r =>
    show (⟨(r.map sg).foldl (fun acc (p : Str) => acc ++ ("" : Str).cps ++ p.cps) (sg x).cps⟩ : Str) = _
    rw [key]
    refine congrArg Str.mk (Array.ext' ?_)
    simp [sg]
theorem m__law_code_e {a : Int} {s : Sto} : m__law_code [.int a] s = .ok (.str (codeOf a)) s := by
  obtain ⟨h1, h2, h3⟩ := lenC_le a
  have e2 : rngOk (lenC a : Int) = true := rngOk_of (by omega) (by omega)
  have hc : compL (gN 1) tAll (x2 ixD (xC (.str "sl")) (xCall 2 m__law_pick (aC (xCall 2 m__law_seed (aC (xV 0) (aC (xV 1) aN))) (aC (xC (.int 2)) aN)))) [1] (rngD 0 (lenC a)) [] [.val (.int a), .no] s = .ok ((drawn a).map fun x => .str (sg x)) s := by
    rw [compL_rng (fun k => .str (sg (draw a k))) (fun k hk => ⟨_, rfl, by simp [wipeD, m__law_seed_e, m__law_pick_e, ix_draw]⟩) (le_size (by omega))]
    unfold drawn; rw [List.map_map]; rfl
  have hj : joinD "" (.list ((drawn a).map fun x => .str (sg x))) = some (.str (codeOf a)) := by
    have e : ((drawn a).map fun x => PyData.str (sg x)) = ((drawn a).map sg).map .str := by rw [List.map_map]; rfl
    rw [e]
    show (strsOf (((drawn a).map sg).map .str)).bind _ = _
    rw [strsOf_map]
    have hl : (drawn a).length ≤ 4 := by unfold drawn; simp; omega
    have hs : (((drawn a).map sg).map (·.length)).sum = (drawn a).length := by
      have : ∀ l : List Nat, ((l.map sg).map (·.length)).sum = l.length := by
        intro l
        induction l with
        | nil => rfl
        | cons x r ih =>
          rw [List.map_cons, List.map_cons, List.sum_cons, ih, List.length_cons]
          show 1 + r.length = _
          omega
      exact this _
    have ok : joinOk "" ((drawn a).map sg) = true := by
      unfold joinOk
      rw [decide_eq_true_eq, hs]
      have : ("" : Str).length = 0 := by decide
      rw [this]; omega
    show (if joinOk "" ((drawn a).map sg) = true then some (PyData.str (Txt.join "" ((drawn a).map sg))) else none) = _
    rw [if_pos ok, join_sg]; rfl
  have hk : ((1 : Int) + a / 5 % 4) = (lenC a : Int) := h3
  simp [m__law_code, b__law_code, hk, e2, hc, hj]

/-! ### the setting that a law draws -/
theorem ok30 {c : Str} (h : c ∈ codes30) : PyData.strOk c = true := by
  obtain ⟨r, hr, rfl⟩ := List.mem_map.mp h
  have : ∀ r ∈ codeLists, PyData.strOk ⟨⟨r⟩⟩ = true := by decide +kernel
  exact this r hr
theorem strs_mem {c : Str} {cs : List Str} : PyData.str c ∈ cs.map PyData.str ↔ c ∈ cs := by
  rw [List.mem_map]
  exact ⟨fun ⟨x, hx, e⟩ => by injection e with e; rw [← e]; exact hx, fun h => ⟨c, h, rfl⟩⟩
theorem ni_codes {c : Str} {cs : List Str} (hc : c ∈ codes30) (hs : ∀ x ∈ cs, x ∈ codes30) : niD (.str c) (.list (cs.map .str)) = some (.bool (!decide (c ∈ cs))) := by
  rw [niD_l (.str c (ok30 hc)) (HasL.mapM fun x hx => .str x (ok30 (hs x hx))) (by decide)]
  simp [strs_mem]
theorem in_codes {c : Str} {cs : List Str} (hc : c ∈ codes30) (hs : ∀ x ∈ cs, x ∈ codes30) : inD (.str c) (.list (cs.map .str)) = some (.bool (decide (c ∈ cs))) := by
  rw [inD_l (.str c (ok30 hc)) (HasL.mapM fun x hx => .str x (ok30 (hs x hx))) (by decide)]
  simp [strs_mem]
/-- the codes drawn in n turns -/
def cds (a : Int) : Nat → List Str
  | 0 => []
  | n + 1 => if codeOf (seedOf a (10 + (n : Int))) ∈ cds a n then cds a n else cds a n ++ [codeOf (seedOf a (10 + (n : Int)))]
theorem cds_ok (a : Int) : ∀ n, (cds a n).Nodup ∧ (∀ c ∈ cds a n, c ∈ codes30) ∧ (cds a n).length ≤ n ∧ (0 < n → 0 < (cds a n).length)
  | 0 => ⟨List.nodup_nil, fun c h => by simp [cds] at h, Nat.le_refl _, fun h => by omega⟩
  | n + 1 => by
    obtain ⟨h1, h2, h3, h4⟩ := cds_ok a n
    unfold cds
    split
    · rename_i hm
      exact ⟨h1, h2, by omega, fun _ => List.length_pos_of_mem hm⟩
    · rename_i hm
      refine ⟨?_, fun c hc => ?_, by simp; omega, fun _ => by simp⟩
      · rw [List.nodup_append]
        exact ⟨h1, by simp, fun x hx y hy e => hm (by rw [← List.mem_singleton.mp hy, ← e]; exact hx)⟩
      · rcases List.mem_append.mp hc with q | q
        · exact h2 c q
        · have : c = codeOf (seedOf a (10 + (n : Int))) := List.mem_singleton.mp q
          rw [this]; exact codeOf_30 (seedOf a (10 + (n : Int)))
def lastC (a : Int) : Nat → Slot
  | 0 => .no
  | n + 1 => .val (.str (codeOf (seedOf a (10 + (n : Int)))))
theorem two_codes : (∀ c ∈ codes30, ("sl" : Str) = c ∨ ("sl" : Str) ≠ c) ∧ ("sl" : Str) ∈ codes30 ∧ ("ls" : Str) ∈ codes30 ∧ ("sl" : Str) ≠ "ls" := ⟨fun c _ => Classical.em _, by decide +kernel, by decide +kernel, by decide +kernel⟩
theorem m__law_setting_e (a : Int) : ∃ S : Stg, S.Ok ∧ ∀ s, m__law_setting [.int a] s = .ok S.d s := by
  have q1 := Int.emod_nonneg (a / 7) (by omega : (7 : Int) ≠ 0)
  have q2 := Int.emod_lt_of_pos (a / 7) (by omega : (0 : Int) < 7)
  obtain ⟨n, hn⟩ : ∃ n : Nat, 2 + a / 7 % 7 = (n : Int) := ⟨(2 + a / 7 % 7).toNat, by omega⟩
  have hn1 : 2 ≤ n := by omega
  have hn2 : n ≤ 8 := by omega
  have e2 : rngOk (n : Int) = true := rngOk_of (by omega) (by omega)
  obtain ⟨c1, c2, c3, c4⟩ := cds_ok a n
  have c4 := c4 (by omega)
  have hf : ∀ s, forL (gN 2) (sSeq (sSet 3 (xCall 1 m__law_code (aC (xCall 2 m__law_seed (aC (xV 0) (aC (x2 addD (xC (.int 10)) (xV 2)) aN))) aN))) (sIf (xB (x2 niD (xV 3) (xL 1))) (sApp 1 (xV 3)) sNil)) (rngD 0 n) [.val (.int a), .own [], .no, .no] s
      = .next [.val (.int a), .own ((cds a n).map .str), lastN n, lastC a n] s := fun s =>
    forL_rng0 (fun k => [.val (.int a), .own ((cds a k).map .str), lastN k, lastC a k]) rfl fun j hj => ⟨_, rfl, by
      obtain ⟨d1, d2, d3, d4⟩ := cds_ok a j
      have hz : (cds a j).length < sizeLine := lt_size (by omega)
      have hni := ni_codes (codeOf_30 (seedOf a (10 + (j : Int)))) d2
      by_cases hm : codeOf (seedOf a (10 + (j : Int))) ∈ cds a j
      · simp [m__law_seed_e, m__law_code_e, hni, hm, cds, lastN, lastC]
      · simp [m__law_seed_e, m__law_code_e, hni, hm, cds, lastN, lastC, hz]⟩
  -- the codes at the end
  obtain ⟨cs, hcs, hd, h2, h8, h30⟩ : ∃ cs : List Str, (∀ s z1 z2, (sIf (xB (x2 ltD (x1 lenD (xL 1)) (xC (.int 2)))) (sOwn 1 (x2 catD (xL 1) (xSl sliD (xComp (iAny (xTup (aC (xC (.str "sl")) (aC (xC (.str "ls")) aN)))) (gN 3) (xB (x2 niD (xV 3) (xL 1))) (xV 3) [3]) oN (oS (xC (.int 1)))))) sNil)
      [.val (.int a), .own ((cds a n).map .str), z1, z2] s = .next [.val (.int a), .own (cs.map .str), z1, z2] s) ∧ cs.Nodup ∧ 2 ≤ cs.length ∧ cs.length ≤ 8 ∧ ∀ c ∈ cs, c ∈ codes30 := by
    by_cases hl : (cds a n).length < 2
    · obtain ⟨c, hc⟩ : ∃ c, cds a n = [c] := by
        cases e : cds a n with
        | nil => rw [e] at c4; simp at c4
        | cons c r =>
          cases r with
          | nil => exact ⟨c, rfl⟩
          | cons d r => rw [e] at hl; simp at hl; omega
      have hc30 : c ∈ codes30 := c2 c (by rw [hc]; exact List.mem_cons_self)
      obtain ⟨_, t1, t2, t3⟩ := two_codes
      have hcomp : ∀ s z1 z2, compL (gN 3) (xB (x2 niD (xV 3) (xL 1))) (xV 3) [3] ((["sl", "ls"] : List Str).map PyData.str) [] [.val (.int a), .own [.str c], z1, z2] s = .ok (((["sl", "ls"] : List Str).filter fun x => !decide (x ∈ [c])).map .str) s := fun s z1 z2 => by
        have := compL_map (t := gN 3) (c := xB (x2 niD (xV 3) (xL 1))) (e := xV 3) (vs := [3]) (ρ := [.val (.int a), .own [.str c], z1, z2]) (s := s) PyData.str (fun x => !decide (x ∈ [c])) PyData.str ["sl", "ls"] [] (fun x hx => ⟨_, rfl, by
          have hx30 : x ∈ codes30 := by
            rcases List.mem_cons.mp hx with rfl | hx
            · exact t1
            · rw [List.mem_singleton.mp hx]; exact t2
          have := ni_codes (cs := [c]) hx30 (by simpa using hc30)
          simp only [List.map_cons, List.map_nil] at this
          simp [wipeD, this], fun _ => by simp [wipeD]⟩) (le_size (by simp))
        rw [this, List.nil_append]
      have ht : ∀ ds : List D, cutD ds none (some 1) = ds.take 1 := fun ds => cut_take (i := 1)
      by_cases hsl : ("sl" : Str) = c
      · have hls : ("ls" : Str) ≠ c := fun e => t3 (hsl.trans e.symm)
        refine ⟨[c, "ls"], fun s z1 z2 => ?_, by simpa using fun e => hls e.symm, by simp, by simp, ?_⟩
        · have hh := hcomp s z1 z2
          simp [hsl, hls] at hh
          simp [hc, hh, le_size, ht, catD, hsl]
        · intro x hx
          simp at hx
          rcases hx with rfl | rfl
          · exact hc30
          · exact t2
      · refine ⟨[c, "sl"], fun s z1 z2 => ?_, by simpa using fun e => hsl e.symm, by simp, by simp, ?_⟩
        · have hh := hcomp s z1 z2
          simp [hsl] at hh
          simp [hc, hh, le_size, ht, catD]
        · intro x hx
          simp at hx
          rcases hx with rfl | rfl
          · exact hc30
          · exact t1
    · have hl' : ¬ ((cds a n).length : Int) < 2 := by omega
      exact ⟨cds a n, fun s z1 z2 => by simp [hl'], c1, by omega, by omega, c2⟩
  have p1 := Int.emod_nonneg (a / 13) (by omega : (2 : Int) ≠ 0)
  have p2 := Int.emod_lt_of_pos (a / 13) (by omega : (0 : Int) < 2)
  obtain ⟨m, hm, hm1, hm2⟩ : ∃ m : Int, atI [PyData.int 60, PyData.int 9] (a / 13 % 2) = some (.int m) ∧ 1 ≤ m ∧ m ≤ 60 := by
    have : a / 13 % 2 = 0 ∨ a / 13 % 2 = 1 := by omega
    rcases this with e | e <;> rw [e]
    · exact ⟨60, by simp, by omega, by omega⟩
    · exact ⟨9, by simp, by omega, by omega⟩
  have r1 := Int.emod_nonneg (seedOf a 30 / 97) (by omega : m ≠ 0)
  have r2 := Int.emod_lt_of_pos (seedOf a 30 / 97) (by omega : (0 : Int) < m)
  refine ⟨⟨cs, decide (a / 11 % 2 = 0), 1 + pickOf (seedOf a 30) m⟩, ⟨h2, h8, hd, h30, by unfold pickOf; show 1 ≤ 1 + _; omega, by unfold pickOf; show 1 + _ ≤ 60; omega⟩, fun s => ?_⟩
  have eA : sOwn 1 (xLst aN) ([.val (.int a)] ++ List.replicate 3 .no) s = .next [.val (.int a), .own [], .no, .no] s := by simp [le_size, List.replicate]
  have eB : sFor (iR1 (aC (x2 addD (xC (.int 2)) (x2 modD (x2 fdivD (xV 0) (xC (.int 7))) (xC (.int 7)))) aN)) (gN 2) (sSeq (sSet 3 (xCall 1 m__law_code (aC (xCall 2 m__law_seed (aC (xV 0) (aC (x2 addD (xC (.int 10)) (xV 2)) aN))) aN))) (sIf (xB (x2 niD (xV 3) (xL 1))) (sApp 1 (xV 3)) sNil)) [.val (.int a), .own [], .no, .no] s
      = .next [.val (.int a), .own ((cds a n).map .str), lastN n, lastC a n] s := by simp [hn, e2, hf]
  have eD : eqD (.int (a / 11 % 2)) (.int 0) = some (.bool (decide (a / 11 % 2 = 0))) := eqD_i
  show (match (sSeq _ (sSeq _ (sSeq _ _))) ([.val (.int a)] ++ List.replicate 3 .no) s with | .ret d s' => Out.ok d s' | .next _ s' => Out.ok .none s' | .exc c _ s' => Out.exc c s' | _ => Out.bad) = _
  simp only [sSeq_e, eA, eB, hcs]
  simp [m__law_seed_e, le_size, hm, m__law_pick_e (show (0 : Int) < m by omega), Stg.d, codesD]
end M

/-! P13: the law of houses told apart. -/
namespace M
open PySem L2
theorem lit_s : litD [("s", .int 1), ("l", .int 3)] (.str (sg 115)) = some (.int 1) := by rfl
theorem lit_l : litD [("s", .int 1), ("l", .int 3)] (.str (sg 108)) = some (.int 3) := by rfl
theorem lawbeats_loop {s : Sto} {t : XG} {b : XS} {c : D} (hb : ∀ (z : Slot) (acc : List Bool) (x : Nat), (x = 115 ∨ x = 108) → acc.length ≤ 100 → ∃ ρ1, t (.str (sg x)) [.val c, .val (.list (boolsD acc)), z] = some ρ1 ∧ b ρ1 s = .next [.val c, .val (.list (boolsD (acc ++ beatSign x))), .val (.str (sg x))] s) :
    ∀ (r : List Nat) (z : Slot) (acc : List Bool), (∀ x ∈ r, x = 115 ∨ x = 108) → acc.length + r.length * 4 ≤ 100 → ∃ z', forL t b (r.map fun x => .str (sg x)) [.val c, .val (.list (boolsD acc)), z] s = .next [.val c, .val (.list (boolsD (acc ++ r.flatMap beatSign))), z'] s
  | [], z, acc, _, _ => ⟨z, by simp [forL]⟩
  | x :: r, z, acc, h, hz => by
    have hl : (beatSign x).length ≤ 4 := by unfold beatSign; split <;> simp
    rw [List.length_cons] at hz
    obtain ⟨ρ1, e1, e2⟩ := hb z acc x (h x List.mem_cons_self) (by omega)
    obtain ⟨z', e3⟩ := lawbeats_loop hb r (.val (.str (sg x))) (acc ++ beatSign x) (fun y hy => h y (List.mem_cons_of_mem _ hy)) (by rw [List.length_append]; omega)
    refine ⟨z', ?_⟩
    rw [List.map_cons, List.flatMap_cons]
    unfold forL
    rw [e1]
    show (match b ρ1 s with | .next ρ2 s2 => forL t b _ ρ2 s2 | .cont ρ2 s2 => forL t b _ ρ2 s2 | .brk ρ2 s2 => .next ρ2 s2 | r => r) = _
    rw [e2]
    show forL t b _ _ s = _
    rw [e3, List.append_assoc]
theorem m__law_beats_e {c : Str} (h : c ∈ codes30) {s : Sto} : m__law_beats [.str c] s = .ok (.list (boolsD (beatsOf c))) s := by
  obtain ⟨r, hr, rfl⟩ := List.mem_map.mp h
  obtain ⟨h1, h2, h3⟩ := code_signs hr
  obtain ⟨z', e⟩ := lawbeats_loop (s := s) (c := .str ⟨⟨r⟩⟩) (t := gN 2) (b := sSet 1 (x2 addD (x2 addD (xV 1) (x2 mulD (xLst (aC (xC (.bool true)) aN)) (xLit [("s", .int 1), ("l", .int 3)] (xV 2)))) (xLst (aC (xC (.bool false)) aN))))
    (by
      intro z acc x hx ha
      refine ⟨_, rfl, ?_⟩
      have hs : ∀ k, k ≤ 4 → acc.length + k ≤ sizeLine := fun k hk => le_size (by omega)
      rcases hx with rfl | rfl
      · simp [lit_s, le_size, repOk, hs, beatSign, boolsD, Nat.add_assoc]
      · simp [lit_l, le_size, repOk, hs, beatSign, boolsD, Nat.add_assoc]) r .no [] h1 (by simp; omega)
  have es : strD ⟨⟨r⟩⟩ = r.map fun x => .str (sg x) := rfl
  have eb : boolsD [] = [] := rfl
  rw [← es, eb] at e
  have hl : (r.flatMap beatSign).length ≤ 16 := by
    have : ∀ r ∈ codeLists, (r.flatMap beatSign).length ≤ 16 := by decide +kernel
    exact this r hr
  have hz : (r.flatMap beatSign).length + 3 ≤ sizeLine := le_size (by omega)
  simp [-List.length_flatMap, m__law_beats, b__law_beats, le_size, e, boolsD_app, beatsOf, hz]
  rfl
theorem m__law_ring_e' {c : Str} (h : c ∈ codes30) {t : Nat} (ht : t ≤ 400) {s : Sto} : m__law_ring [.str c, .int t] s = .ok (.list (boolsD (ringOf c t))) s := m__law_ring_e h ht (m__law_beats_e h)
theorem m__law_pair_e {S : Stg} (hS : S.Ok) {ns : List Int} {k : Nat} : ∃ i j : Nat, i < S.codes.length ∧ j < S.codes.length ∧ i ≠ j ∧ ∀ s, m__law_pair [S.d, scrD (ns.map .int), .int k] s = .ok (.tuple [.int i, .int j]) s := by
  have h2 := hS.l2
  have hn : (0 : Int) < (S.codes.length : Int) := by omega
  have hn1 : (0 : Int) < (S.codes.length : Int) - 1 := by omega
  have a1 := Int.emod_nonneg (cellOf ns k) (by omega : (S.codes.length : Int) ≠ 0)
  have a2 := Int.emod_lt_of_pos (cellOf ns k) hn
  have b1 : 0 ≤ mixOf (cellOf ns (k + 1)) 9949 ((S.codes.length : Int) - 1) := Int.emod_nonneg _ (by omega)
  have b2 : mixOf (cellOf ns (k + 1)) 9949 ((S.codes.length : Int) - 1) < (S.codes.length : Int) - 1 := Int.emod_lt_of_pos _ hn1
  generalize hm : mixOf (cellOf ns (k + 1)) 9949 ((S.codes.length : Int) - 1) = m at b1 b2
  generalize ha : cellOf ns k % (S.codes.length : Int) = a at a1 a2
  have c1 := Int.emod_nonneg (a + 1 + m) (by omega : (S.codes.length : Int) ≠ 0)
  have c2 := Int.emod_lt_of_pos (a + 1 + m) hn
  have c3 : (a + 1 + m) % (S.codes.length : Int) ≠ a := by
    rcases Int.lt_or_le (a + 1 + m) (S.codes.length : Int) with q | q
    · rw [Int.emod_eq_of_lt (by omega) q]; omega
    · have e : (a + 1 + m) % (S.codes.length : Int) = a + 1 + m - (S.codes.length : Int) := by
        rw [← Int.sub_emod_right, Int.emod_eq_of_lt (by omega) (by omega)]
      rw [e]; omega
  obtain ⟨i, hi⟩ : ∃ i : Nat, a = (i : Int) := ⟨a.toNat, by omega⟩
  obtain ⟨j, hj⟩ : ∃ j : Nat, (a + 1 + m) % (S.codes.length : Int) = (j : Int) := ⟨((a + 1 + m) % (S.codes.length : Int)).toNat, by omega⟩
  refine ⟨i, j, by omega, by omega, fun e => c3 (by rw [hj, hi, e]), fun s => ?_⟩
  have e1 : m__law_cell [scrD (ns.map .int), .int ((k : Int) + 1)] s = .ok (.int (cellOf ns (k + 1))) s := m__law_cell_e (k := k + 1)
  have hx := m__law_mix_e (a := cellOf ns (k + 1)) (p := 9949) (m := (S.codes.length : Int) - 1) (by omega) (by omega) hn1 (s := s)
  rw [hm] at hx
  have hc0 : 0 < S.codes.length := by omega
  rw [hi] at ha
  rw [hi] at hj
  simp [m__law_pair, b__law_pair, m__law_cell_e, hc0, ha, e1, hx, hj, le_size]

def lastZ (z : Slot) (n : Nat) : Slot := match n with
  | 0 => z
  | n + 1 => .val (.int (n : Int))
def mistUp (cs : List Str) (t m : Nat) : List (Nat × Nat) := (List.range m).flatMap fun i => ((List.range (cs.length - (i + 1))).filter fun k => decide (ringOf (cod cs i) t = ringOf (cod cs (i + 1 + k)) t)).map fun k => (i, i + 1 + k)
theorem mistUp_succ (cs : List Str) (t n : Nat) : mistUp cs t (n + 1) = mistUp cs t n ++ ((List.range (cs.length - (n + 1))).filter fun k => decide (ringOf (cod cs n) t = ringOf (cod cs (n + 1 + k)) t)).map fun k => (n, n + 1 + k) := by
  unfold mistUp
  rw [List.range_succ, List.flatMap_append]
  simp
theorem mistUp_len (cs : List Str) (t : Nat) : ∀ n, (mistUp cs t n).length ≤ n * cs.length
  | 0 => by simp [mistUp]
  | n + 1 => by
    have h1 := mistUp_len cs t n
    have h2 := List.length_filter_le (fun k => decide (ringOf (cod cs n) t = ringOf (cod cs (n + 1 + k)) t)) (List.range (cs.length - (n + 1)))
    rw [List.length_range] at h2
    rw [mistUp_succ, List.length_append, List.length_map, Nat.add_mul]
    omega
theorem ty_pairs (ps : List (Nat × Nat)) : HasTy (.list (.tup [.int, .int])) (.list (ps.map pairN)) := .list (HasL.map (fun p => .tup (.cons (.int _) (.cons (.int _) .nil))) ps)
theorem pairN_inj {p q : Nat × Nat} (h : pairN p = pairN q) : p = q := by
  unfold pairN at h
  injection h with h
  injection h with h1 h2
  injection h1 with h1
  injection h2 with h2
  injection h2 with h2
  exact Prod.ext (by omega) (by omega)
theorem ne_pairs (a b : List (Nat × Nat)) : neD (.list (a.map pairN)) (.list (b.map pairN)) = some (.bool (!decide (a = b))) :=
  neD_ty (ty_pairs a) (ty_pairs b) (by decide) (by rw [decide_eq_true_eq]; exact ⟨fun e => by rw [e], fun e => map_inj (fun x y => pairN_inj) (by injection e)⟩)
/-- how many houses ring alike in the first i ticks -/
theorem count_sure {cs : List Str} {h i : Nat} (hh : h < cs.length) : decide (((cs.filter fun c => decide (ringOf c i = ringOf (cod cs h) i)).map fun _ => (1 : Nat)) = [1]) = sureP cs h i := by
  unfold sureP
  have e1 : cs = (List.range cs.length).map (cod cs) := by
    apply List.ext_getElem
    · simp
    · intro k h1 h2
      simp [cod_eq h1]
  have e2 : (cs.filter fun c => decide (ringOf c i = ringOf (cod cs h) i)).length = (meantOf cs (ringOf (cod cs h) i)).length := by
    rw [meantOf_rng, ringOf_len]
    generalize ringOf (cod cs h) i = row
    conv => lhs; rw [e1]
    rw [List.filter_map, List.length_map]
    rfl
  have hm : h ∈ meantOf cs (ringOf (cod cs h) i) := by
    rw [meantOf_rng, ringOf_len, List.mem_filter]
    exact ⟨List.mem_range.mpr hh, by simp⟩
  apply Bool.eq_iff_iff.mpr
  rw [decide_eq_true_eq, decide_eq_true_eq]
  constructor
  · intro q
    have ql := congrArg List.length q
    rw [List.length_map, e2] at ql
    match hq : meantOf cs (ringOf (cod cs h) i), ql with
    | [x], _ =>
      rw [hq] at hm
      rw [List.mem_singleton.mp hm]
  · intro q
    rw [q] at e2
    match hq : cs.filter fun c => decide (ringOf c i = ringOf (cod cs h) i), e2 with
    | [x], _ => rfl
section
variable {S : Stg} (hS : S.Ok) {d : D} {s : Sto} {i j : Nat} {z0 z1 z2 z3 z4 z5 z6 z7 z8 z9 z10 z11 z12 z13 z14 : Slot}
def rowsD (cs : List Str) : D := .list (cs.map fun c => .list (boolsD (ringOf c 400)))
theorem rows_at {cs : List Str} {k : Nat} (h : k < cs.length) : ixD (rowsD cs) (.int k) = some (.list (boolsD (ringOf (cod cs k) 400))) := rows_ix h
theorem k13_3 (hS : S.Ok) : b_law_k13_3 [z0, .val S.d, z2, z3, z4, z5, z6, z7, z8, z9, z10, z11, z12, z13, z14] s = .next [z0, .val S.d, z2, z3, .val (rowsD S.codes), z5, z6, z7, z8, z9, z10, z11, z12, z13, z14] s := by
  have hc : compL (gN 5) tAll (xCall 2 m__law_ring (aC (xV 5) (aC (xC (.int 400)) aN))) [5] (S.codes.map .str) [] [z0, .val S.d, z2, z3, z4, z5, z6, z7, z8, z9, z10, z11, z12, z13, z14] s = .ok (S.codes.map fun c => .list (boolsD (ringOf c 400))) s :=
    compL_mapA PyData.str _ S.codes (fun c hc => ⟨_, rfl, by
      have hr : m__law_ring [.str c, .int 400] s = _ := m__law_ring_e' (hS.c30 c hc) (t := 400) (Nat.le_refl _)
      simp [wipeD, hr]⟩) (le_size (by have := hS.l8; omega))
  simp [b_law_k13_3, codesD, hc, rowsD]
theorem k13_5 (hS : S.Ok) (hi : i < S.codes.length) (hj : j < S.codes.length) (hn : i ≠ j) : b_law_k13_5 [z0, .val S.d, .val (.int i), .val (.int j), .val (rowsD S.codes), z5, .val (.int 0), z7, z8, z9, z10, z11, z12, z13, z14] s
    = .next [z0, .val S.d, .val (.int i), .val (.int j), .val (rowsD S.codes), z5, .val (.int (apartOf (cod S.codes i) (cod S.codes j))), z7, z8, z9, z10, z11, z12, z13, z14] s := by
  have hne : cod S.codes i ≠ cod S.codes j := fun e => hn (cod_inj hS hi hj e)
  exact whileN_first (fun k : Nat => [z0, .val S.d, .val (.int i), .val (.int j), .val (rowsD S.codes), z5, .val (.int k), z7, z8, z9, z10, z11, z12, z13, z14]) rfl (k := 40) (by omega) (apart_40 (hS.c30 _ (cod_mem hi)) (hS.c30 _ (cod_mem hj)) hne)
    (fun k hk => by simp [rows_at hi, rows_at hj, cut_take, boolsD_take, ring_take hk, eq_bools, apartP]) (fun k => by simp [b_law_k13_5a])
theorem k13_6 (hS : S.Ok) (hi : i < S.codes.length) (hj : j < S.codes.length) (hn : i ≠ j) : b_law_k13_6 [z0, .val S.d, .val (.int i), .val (.int j), z4, z5, .val (.int (apartOf (cod S.codes i) (cod S.codes j))), z7, z8, z9, z10, z11, z12, z13, z14] s
    = .next [z0, .val S.d, .val (.int i), .val (.int j), z4, z5, .val (.int (apartOf (cod S.codes i) (cod S.codes j))), z7, z8, z9, z10, z11, z12, z13, z14] s := by
  simp [b_law_k13_6, m_apart_behind_e hS hi hj hn, m__law_whole_e]
theorem k13_8b (hS : S.Ok) {t : Nat} (ht : t ≤ 400) : b_law_k13_8b [z0, .val S.d, z2, z3, .val (rowsD S.codes), z5, z6, .val (.int S.codes.length), .val (.int t), z9, z10, z11, z12, z13, z14] s
    = .next [z0, .val S.d, z2, z3, .val (rowsD S.codes), z5, z6, .val (.int S.codes.length), .val (.int t), .val (.list ((mist S.codes t).map pairN)), lastZ z10 S.codes.length, z11, z12, z13, z14] s := by
  have h8 := hS.l8
  have e2 : rngOk (S.codes.length : Int) = true := rngOk_of (by omega) (by omega)
  have hf : forL (gN 10) b_law_k13_8a (rngD 0 S.codes.length) [z0, .val S.d, z2, z3, .val (rowsD S.codes), z5, z6, .val (.int S.codes.length), .val (.int t), .val (.list []), z10, z11, z12, z13, z14] s
      = .next [z0, .val S.d, z2, z3, .val (rowsD S.codes), z5, z6, .val (.int S.codes.length), .val (.int t), .val (.list ((mistUp S.codes t S.codes.length).map pairN)), lastZ z10 S.codes.length, z11, z12, z13, z14] s :=
    forL_rng0 (fun n => [z0, .val S.d, z2, z3, .val (rowsD S.codes), z5, z6, .val (.int S.codes.length), .val (.int t), .val (.list ((mistUp S.codes t n).map pairN)), lastZ z10 n, z11, z12, z13, z14]) rfl fun n hn => ⟨_, rfl, by
      have e3 : rngOk ((n : Int) + 1) = true := rngOk_of (by omega) (by omega)
      have e4 : ((S.codes.length : Int) - ((n : Int) + 1)).toNat = S.codes.length - (n + 1) := by omega
      have hcc : compL (gN 11) (xB (x2 eqD (xSl sliD (x2 ixD (xV 4) (xV 10)) oN (oS (xV 8))) (xSl sliD (x2 ixD (xV 4) (xV 11)) oN (oS (xV 8))))) (xTup (aC (xV 10) (aC (xV 11) aN))) [11] (rngD ((n : Int) + 1) (S.codes.length - (n + 1))) []
          [z0, .val S.d, z2, z3, .val (rowsD S.codes), z5, z6, .val (.int S.codes.length), .val (.int t), .val (.list ((mistUp S.codes t n).map pairN)), .val (.int n), z11, z12, z13, z14] s
          = .ok (((List.range (S.codes.length - (n + 1))).filter fun k => decide (ringOf (cod S.codes n) t = ringOf (cod S.codes (n + 1 + k)) t)).map fun k => pairN (n, n + 1 + k)) s :=
        compL_rngF _ _ (fun k hk => by
          have hql : n + 1 + k < S.codes.length := by omega
          have ek : (n : Int) + 1 + (k : Int) = ((n + 1 + k : Nat) : Int) := by omega
          rw [ek]
          generalize n + 1 + k = q at hql
          refine ⟨_, rfl, ?_, fun _ => ?_⟩
          · simp [wipeD, rows_at hn, rows_at hql, cut_take, boolsD_take, ring_take ht, eq_bools]
          · simp [wipeD, le_size, pairN]) (le_size (by omega))
      have h1 := mistUp_len S.codes t n
      have h2 := List.length_filter_le (fun k => decide (ringOf (cod S.codes n) t = ringOf (cod S.codes (n + 1 + k)) t)) (List.range (S.codes.length - (n + 1)))
      rw [List.length_range] at h2
      have h3 : n * S.codes.length ≤ 64 := Nat.mul_le_mul (show n ≤ 8 by omega) h8
      have hz : (mistUp S.codes t n).length + ((List.range (S.codes.length - (n + 1))).filter fun k => decide (ringOf (cod S.codes n) t = ringOf (cod S.codes (n + 1 + k)) t)).length ≤ sizeLine := le_size (by omega)
      simp [b_law_k13_8a, e3, e2, e4, hcc, hz, mistUp_succ, lastZ, Function.comp_def]⟩
  have hm : mistUp S.codes t S.codes.length = mist S.codes t := rfl
  rw [hm] at hf
  simp [b_law_k13_8b, le_size, e2, hf, m_mistaken_e hS ht, ne_pairs]
theorem k13_10b (hS : S.Ok) {h : Nat} (hh : h < S.codes.length) {m : Nat} : b_law_k13_10b [z0, .val S.d, z2, z3, .val (rowsD S.codes), z5, z6, z7, z8, z9, z10, z11, .val (.int m), .val (.int h), z14] s
    = .next [z0, .val S.d, z2, z3, .val (rowsD S.codes), z5, .val (.int (sureOf S.codes h)), z7, z8, z9, z10, z11, .val (.int (max m (sureOf S.codes h) : Nat)), .val (.int h), z14] s := by
  have hw : whileN (xB (x2 neD (xComp (iAny (xV 4)) (gN 14) (xB (x2 eqD (xSl sliD (xV 14) oN (oS (xV 6))) (xSl sliD (x2 ixD (xV 4) (xV 13)) oN (oS (xV 6))))) (xC (.int 1)) [14]) (xLst (aC (xC (.int 1)) aN)))) b_law_k13_10a 2000
      [z0, .val S.d, z2, z3, .val (rowsD S.codes), z5, .val (.int 0), z7, z8, z9, z10, z11, .val (.int m), .val (.int h), z14] s = _ :=
    whileN_first (fun k : Nat => [z0, .val S.d, z2, z3, .val (rowsD S.codes), z5, .val (.int k), z7, z8, z9, z10, z11, .val (.int m), .val (.int h), z14]) rfl (p := sureP S.codes h) (k := 40) (by omega) (sure_40 hS hh (Nat.le_refl _))
    (fun k hk => by
      have hcc : compL (gN 14) (xB (x2 eqD (xSl sliD (xV 14) oN (oS (xV 6))) (xSl sliD (x2 ixD (xV 4) (xV 13)) oN (oS (xV 6))))) (xC (.int 1)) [14] (S.codes.map fun c => .list (boolsD (ringOf c 400))) []
          [z0, .val S.d, z2, z3, .val (rowsD S.codes), z5, .val (.int k), z7, z8, z9, z10, z11, .val (.int m), .val (.int h), z14] s = .ok (natsD ((S.codes.filter fun c => decide (ringOf c k = ringOf (cod S.codes h) k)).map fun _ => 1)) s := by
        rw [compL_map (fun c => .list (boolsD (ringOf c 400))) (fun c => decide (ringOf c k = ringOf (cod S.codes h) k)) (fun _ => .int 1) S.codes [] (fun c hc => ⟨_, rfl, by simp [wipeD, rows_at hh, cut_take, boolsD_take, ring_take hk, eq_bools], fun _ => by simp⟩) (le_size (by have := hS.l8; simp; omega))]
        unfold natsD; rw [List.map_map]; rfl
      have hn : neD (.list (natsD ((S.codes.filter fun c => decide (ringOf c k = ringOf (cod S.codes h) k)).map fun _ => 1))) (.list [.int 1]) = some (.bool (!sureP S.codes h k)) := by
        rw [← count_sure hh]
        exact ne_nats _ [1]
      have hr : (rowsD S.codes) = .list (S.codes.map fun c => .list (boolsD (ringOf c 400))) := rfl
      rw [hr] at hcc ⊢
      simp [hcc, le_size, hn]) (fun k => by simp [b_law_k13_10a])
  simp only [b_law_k13_10b, sSeq_e, sSet_e, stX_e, xC_e, List.set_cons_succ, List.set_cons_zero, hw]
  have hmx : (if (sureOf S.codes h : Int) > (m : Int) then (sureOf S.codes h : Int) else (m : Int)) = ((max m (sureOf S.codes h) : Nat) : Int) := by
    split <;> omega
  simp
  refine ⟨rfl, ?_⟩
  show (if m < sureOf S.codes h then ((sureOf S.codes h : Nat) : Int) else (m : Int)) = _
  split <;> omega
end
theorem says_law_k13 (ns : List Int) (hl : ns.length ≤ 63) : Says m_law_k13 ns := by
  obtain ⟨S, hS, eS⟩ := m__law_setting_e (seedOf (cellOf ns 0) 0)
  obtain ⟨i, j, hi, hj, hn, ep⟩ := m__law_pair_e hS (ns := ns) (k := 1)
  have h2 := hS.l2
  have h8 := hS.l8
  have e2 : rngOk (S.codes.length : Int) = true := rngOk_of (by omega) (by omega)
  generalize hd : scrD (ns.map PyData.int) = d
  have hcell : ∀ (k : Nat) s, m__law_cell [d, .int k] s = .ok (.int (cellOf ns k)) s := fun k s => by rw [← hd]; exact m__law_cell_e
  have c0 : ∀ s, m__law_cell [d, .int 0] s = .ok (.int (cellOf ns 0)) s := fun s => hcell 0 s
  have c3 : ∀ s, m__law_cell [d, .int 3] s = .ok (.int (cellOf ns 3)) s := fun s => hcell 3 s
  have c4 : ∀ s, m__law_cell [d, .int 4] s = .ok (.int (cellOf ns 4)) s := fun s => hcell 4 s
  have ep' : ∀ s, m__law_pair [S.d, d, .int 1] s = .ok (.tuple [.int i, .int j]) s := fun s => by rw [← hd]; exact ep s
  have u1 := Int.emod_nonneg (cellOf ns 3) (by omega : (30 : Int) ≠ 0)
  have u2 := Int.emod_lt_of_pos (cellOf ns 3) (by omega : (0 : Int) < 30)
  have v1 := Int.emod_nonneg (cellOf ns 4) (by omega : (401 : Int) ≠ 0)
  have v2 := Int.emod_lt_of_pos (cellOf ns 4) (by omega : (0 : Int) < 401)
  obtain ⟨t1, ht1⟩ : ∃ t : Nat, cellOf ns 3 % 30 = (t : Int) := ⟨(cellOf ns 3 % 30).toNat, by omega⟩
  obtain ⟨t2, ht2⟩ : ∃ t : Nat, cellOf ns 4 % 401 = (t : Int) := ⟨(cellOf ns 4 % 401).toNat, by omega⟩
  have hl1 : t1 ≤ 400 := by omega
  have hl2 : t2 ≤ 400 := by omega
  have a1 : b_law_k13_1 [.val d, .no, .no, .no, .no, .no, .no, .no, .no, .no, .no, .no, .no, .no, .no] [] = .next [.val d, .val S.d, .no, .no, .no, .no, .no, .no, .no, .no, .no, .no, .no, .no, .no] [] := by
    simp [b_law_k13_1, c0, m__law_seed_e, eS]
  have a2 : b_law_k13_2 [.val d, .val S.d, .no, .no, .no, .no, .no, .no, .no, .no, .no, .no, .no, .no, .no] [] = .next [.val d, .val S.d, .val (.int i), .val (.int j), .no, .no, .no, .no, .no, .no, .no, .no, .no, .no, .no] [] := by
    simp [b_law_k13_2, ep']
  have a4 : b_law_k13_4 [.val d, .val S.d, .val (.int i), .val (.int j), .val (rowsD S.codes), .no, .no, .no, .no, .no, .no, .no, .no, .no, .no] [] = .next [.val d, .val S.d, .val (.int i), .val (.int j), .val (rowsD S.codes), .no, .val (.int 0), .no, .no, .no, .no, .no, .no, .no, .no] [] := by
    simp [b_law_k13_4]
  generalize hap : apartOf (cod S.codes i) (cod S.codes j) = ap
  have a5 := k13_5 (s := []) (z0 := .val d) (z5 := .no) (z7 := .no) (z8 := .no) (z9 := .no) (z10 := .no) (z11 := .no) (z12 := .no) (z13 := .no) (z14 := .no) hS hi hj hn
  have a6 := k13_6 (s := []) (z0 := .val d) (z4 := .val (rowsD S.codes)) (z5 := .no) (z7 := .no) (z8 := .no) (z9 := .no) (z10 := .no) (z11 := .no) (z12 := .no) (z13 := .no) (z14 := .no) hS hi hj hn
  rw [hap] at a5 a6
  have a7 : b_law_k13_7 [.val d, .val S.d, .val (.int i), .val (.int j), .val (rowsD S.codes), .no, .val (.int ap), .no, .no, .no, .no, .no, .no, .no, .no] [] = .next [.val d, .val S.d, .val (.int i), .val (.int j), .val (rowsD S.codes), .no, .val (.int ap), .val (.int S.codes.length), .no, .no, .no, .no, .no, .no, .no] [] := by
    simp [b_law_k13_7, rowsD]
  obtain ⟨n', hn'⟩ : ∃ n', S.codes.length = n' + 1 := ⟨S.codes.length - 1, by omega⟩
  have hlz : ∀ z, lastZ z S.codes.length = .val (.int (n' : Int)) := fun z => by rw [hn']; rfl
  have a8 : b_law_k13_8 [.val d, .val S.d, .val (.int i), .val (.int j), .val (rowsD S.codes), .no, .val (.int ap), .val (.int S.codes.length), .no, .no, .no, .no, .no, .no, .no] []
      = .next [.val d, .val S.d, .val (.int i), .val (.int j), .val (rowsD S.codes), .no, .val (.int ap), .val (.int S.codes.length), .val (.int t2), .val (.list ((mist S.codes t2).map pairN)), .val (.int (n' : Int)), .no, .no, .no, .no] [] := by
    have k1 := k13_8b (s := []) (z0 := .val d) (z2 := .val (.int i)) (z3 := .val (.int j)) (z5 := .no) (z6 := .val (.int ap)) (z9 := .no) (z10 := .no) (z11 := .no) (z12 := .no) (z13 := .no) (z14 := .no) hS hl1
    have k2 := k13_8b (s := []) (z0 := .val d) (z2 := .val (.int i)) (z3 := .val (.int j)) (z5 := .no) (z6 := .val (.int ap)) (z9 := .val (.list ((mist S.codes t1).map pairN))) (z10 := .val (.int (n' : Int))) (z11 := .no) (z12 := .no) (z13 := .no) (z14 := .no) hS hl2
    rw [hlz] at k1 k2
    simp [b_law_k13_8, c3, c4, ht1, ht2, le_size, forL, k1, k2]
  have a9 : b_law_k13_9 [.val d, .val S.d, .val (.int i), .val (.int j), .val (rowsD S.codes), .no, .val (.int ap), .val (.int S.codes.length), .val (.int t2), .val (.list ((mist S.codes t2).map pairN)), .val (.int (n' : Int)), .no, .no, .no, .no] []
      = .next [.val d, .val S.d, .val (.int i), .val (.int j), .val (rowsD S.codes), .no, .val (.int ap), .val (.int S.codes.length), .val (.int t2), .val (.list ((mist S.codes t2).map pairN)), .val (.int (n' : Int)), .no, .val (.int 0), .no, .no] [] := by
    simp [b_law_k13_9]
  have hmx : ∀ m, maxN ((List.range (m + 1)).map (sureOf S.codes)) = max (maxN ((List.range m).map (sureOf S.codes))) (sureOf S.codes m) := fun m => by
    unfold maxN
    rw [List.range_succ, List.map_append, List.foldl_append]
    rfl
  have a10 : b_law_k13_10 [.val d, .val S.d, .val (.int i), .val (.int j), .val (rowsD S.codes), .no, .val (.int ap), .val (.int S.codes.length), .val (.int t2), .val (.list ((mist S.codes t2).map pairN)), .val (.int (n' : Int)), .no, .val (.int 0), .no, .no] []
      = .next [.val d, .val S.d, .val (.int i), .val (.int j), .val (rowsD S.codes), .no, (match S.codes.length with | 0 => .val (.int ap) | k + 1 => .val (.int (sureOf S.codes k))), .val (.int S.codes.length), .val (.int t2), .val (.list ((mist S.codes t2).map pairN)), .val (.int (n' : Int)), .no, .val (.int (allSure S.codes)), lastN S.codes.length, .no] [] := by
    have := forL_rng0 (t := gN 13) (b := b_law_k13_10b) (s := []) (n := S.codes.length) (fun m => [.val d, .val S.d, .val (.int i), .val (.int j), .val (rowsD S.codes), .no, (match m with | 0 => .val (.int ap) | k + 1 => .val (.int (sureOf S.codes k))), .val (.int S.codes.length), .val (.int t2), .val (.list ((mist S.codes t2).map pairN)), .val (.int (n' : Int)), .no, .val (.int (maxN ((List.range m).map (sureOf S.codes)))), lastN m, .no]) rfl
      (fun h hh => ⟨_, rfl, by
        simp only [List.set_cons_succ, List.set_cons_zero]
        rw [k13_10b hS hh, hmx]
        rfl⟩)
    have e0 : (maxN ((List.range 0).map (sureOf S.codes)) : Int) = 0 := rfl
    simp only [e0] at this
    simp only [b_law_k13_10, sFor_e, stX_e, iR1_e, aC_e, aN_e, xV_e, List.getElem?_cons_succ, List.getElem?_cons_zero, bind_ok, e2, if_true, Int.toNat_natCast]
    exact this
  refine ⟨[], ?_⟩
  rw [hd]
  show (match b_law_k13 [.val d, .no, .no, .no, .no, .no, .no, .no, .no, .no, .no, .no, .no, .no, .no] [] with | .ret d s' => Out.ok d s' | .next _ s' => Out.ok .none s' | .exc c _ s' => Out.exc c s' | _ => Out.bad) = _
  simp only [b_law_k13, sSeq_e, a1, a2, k13_3 hS, a4, a5, a6, a7, a8, a9, a10]
  simp [b_law_k13_11, m_all_sure_behind_e hS]
end M

/-! P15: the code book. -/
namespace M
open PySem L2
/-! ### all codes, in the order of their making -/
def stepC (l : List (List Nat)) : List (List Nat) := (l.map fun c => c ++ [108]) ++ l.map fun c => c ++ [115]
def madeN : Nat → List (List Nat)
  | 0 => [[]]
  | n + 1 => stepC (madeN n)
def made : List (List Nat) := madeN 1 ++ madeN 2 ++ madeN 3 ++ madeN 4
def st (r : List Nat) : Str := ⟨⟨r⟩⟩
def codesL (l : List (List Nat)) : List D := l.map fun r => .str (st r)
theorem m_all_codes_e {s : Sto} : m_all_codes [] s = .ok (.list (codesL made)) s := by rfl

theorem made_30 : ∀ r ∈ made, st r ∈ codes30 := by decide +kernel
def tickLen (c : Str) : Nat := (beatsOf c).length
def psOf (l : List (List Nat)) : List (Int × Str) := l.map fun r => ((tickLen (st r) : Int), st r)
def insPS (p : Int × Str) : List (Int × Str) → List (Int × Str)
  | [] => [p]
  | q :: r => if lePS p q = true then p :: q :: r else q :: insPS p r
def sortPS : List (Int × Str) → List (Int × Str)
  | [] => []
  | p :: r => insPS p (sortPS r)
/-- the book, with its ticks -/
def bookP : List (Int × Str) := sortPS (psOf made)
/-- the book -/
def bookS : List Str := bookP.map (·.2)
theorem insPS_perm (p : Int × Str) : ∀ l, (insPS p l).Perm (p :: l)
  | [] => .refl _
  | q :: r => by
    unfold insPS
    split
    · exact .refl _
    · exact (List.Perm.cons q (insPS_perm p r)).trans (List.Perm.swap _ _ _)
theorem sortPS_perm : ∀ l, (sortPS l).Perm l
  | [] => .refl _
  | p :: r => (insPS_perm p _).trans (List.Perm.cons p (sortPS_perm r))
theorem insPS_srt (p : Int × Str) : ∀ l : List (Int × Str), l.Pairwise (fun a b => lePS a b = true) → (insPS p l).Pairwise fun a b => lePS a b = true
  | [], _ => List.pairwise_singleton _ _
  | q :: r, h => by
    obtain ⟨h1, h2⟩ := List.pairwise_cons.mp h
    unfold insPS
    split
    · rename_i e
      refine List.pairwise_cons.mpr ⟨fun x hx => ?_, h⟩
      rcases List.mem_cons.mp hx with rfl | hx
      · exact e
      · exact lePS_tr _ _ _ e (h1 x hx)
    · rename_i e
      refine List.pairwise_cons.mpr ⟨fun x hx => ?_, insPS_srt p r h2⟩
      rcases List.mem_cons.mp ((insPS_perm p r).mem_iff.mp hx) with rfl | hx
      · have := lePS_tot x q
        rw [Bool.or_eq_true] at this
        exact this.resolve_left e
      · exact h1 x hx
theorem sortPS_srt : ∀ l, (sortPS l).Pairwise fun a b => lePS a b = true
  | [] => List.Pairwise.nil
  | p :: r => insPS_srt p _ (sortPS_srt r)
theorem merge_PS (l : List (Int × Str)) : l.mergeSort lePS = sortPS l := sortPS_is (sortPS_perm l).symm (sortPS_srt l)
theorem pairsPS_map : ∀ ps : List (Int × Str), pairsPS (ps.map psD) = some ps
  | [] => rfl
  | p :: r => by
    show (pairsPS (r.map psD)).map ((p.1, p.2) :: ·) = _
    rw [pairsPS_map r]; rfl
theorem sortedPSD_e (ps : List (Int × Str)) : sortedPSD (.list (ps.map psD)) = some (.list ((sortPS ps).map psD)) := by
  show (pairsPS (ps.map psD)).map _ = _
  rw [pairsPS_map]
  show some (PyData.list ((ps.mergeSort lePS).map psD)) = _
  rw [merge_PS]
theorem bookP_len : bookP.length = 30 := by decide +kernel
theorem m_book_e {s : Sto} : m_book [] s = .ok (.list (bookS.map .str)) s := by
  have h1 : compL (gN 1) tAll (xTup (aC (x1 lenD (xCall 1 m_beats (aC (xV 1) aN))) (aC (xV 1) aN))) [1] (codesL made) [] [.no, .no] s = .ok ((psOf made).map psD) s := by
    have := compL_mapA (t := gN 1) (e := xTup (aC (x1 lenD (xCall 1 m_beats (aC (xV 1) aN))) (aC (xV 1) aN))) (vs := [1]) (ρ := [.no, .no]) (s := s) (fun r => .str (st r)) (fun r => psD ((tickLen (st r) : Int), st r)) made (fun r hr => ⟨_, rfl, by
      simp [wipeD, m_beats_e (made_30 r hr), le_size, psD, tickLen]⟩) (le_size (by decide))
    unfold codesL
    rw [this]
    unfold psOf
    rw [List.map_map]; rfl
  have h2 : compL (gT 2 (gsC (gN 0) (gsC (gN 1) gsN))) tAll (xV 1) [0, 1] (bookP.map psD) [] [.no, .no] s = .ok (bookS.map .str) s := by
    rw [compL_mapA psD (fun p => .str p.2) bookP (fun p hp => ⟨_, rfl, by simp [wipeD]⟩) (le_size (by rw [bookP_len]; decide))]
    unfold bookS
    rw [List.map_map]; rfl
  simp [m_book, b_book, m_all_codes_e, h1, sortedPSD_e]
  rw [show sortPS (psOf made) = bookP from rfl, h2]
  rfl
theorem bookS_len : bookS.length = 30 := by decide +kernel
theorem bookS_30 : ∀ c ∈ bookS, c ∈ codes30 := by decide +kernel
theorem bookS_all : ∀ c ∈ codes30, c ∈ bookS := by decide +kernel
theorem bookS_nd : bookS.Nodup := by decide +kernel
theorem m_ticks_for_e {c : Str} (h : c ∈ codes30) {s : Sto} : m_ticks_for [.str c] s = .ok (.int (tickLen c)) s := by
  simp [m_ticks_for, b_ticks_for, m_is_code_e h, m_beats_e h, tickLen]

/-! ### by number, by code -/
def bookAt (n : Nat) : Str := bookS.getD n Str.empty
theorem bookAt_get {n : Nat} (h : n < 30) : bookS[n]? = some (bookAt n) := by
  have : n < bookS.length := by rw [bookS_len]; exact h
  unfold bookAt
  simp [List.getD_eq_getElem?_getD, this]
theorem bookAt_30 {n : Nat} (h : n < 30) : bookAt n ∈ codes30 := bookS_30 _ (List.mem_of_getElem? (bookAt_get h))
theorem eqv_str (x y : Str) : PyData.eqv (.str x) (.str y) = (x == y) := by simp [PyData.eqv]
theorem idxL_strs : ∀ (xs : List Str) (j : Nat) (c : Str), xs.Nodup → xs[j]? = some c → idxL (.str c) (xs.map .str) = some j
  | x :: r, 0, c, hn, e => by
    have : x = c := by simpa using e
    subst this
    unfold idxL
    rw [List.map_cons]
    show (if PyData.eqv (.str x) (.str x) = true then some 0 else _) = _
    rw [eqv_str]
    simp
  | x :: r, j + 1, c, hn, e => by
    obtain ⟨h1, h2⟩ := List.nodup_cons.mp hn
    have e' : r[j]? = some c := by simpa using e
    have hx : ¬ x = c := fun z => h1 (by rw [z]; exact List.mem_of_getElem? e')
    rw [List.map_cons]
    unfold idxL
    rw [eqv_str, if_neg (by simpa using hx), idxL_strs r j c h2 e']
    rfl
theorem ty_strs {cs : List Str} (h : ∀ c ∈ cs, c ∈ codes30) : HasTy (.list .str) (.list (cs.map .str)) := .list (HasL.mapM fun c hc => .str c (ok30 (h c hc)))
theorem idx_book {n : Nat} (h : n < 30) : idxD (.list (bookS.map .str)) (.str (bookAt n)) = some (.int n) := by
  have h1 := (ty_strs bookS_30).shaped (by decide)
  have h2 : SeqAt.shaped (.str (bookAt n)) = true := (HasTy.str _ (ok30 (bookAt_30 h))).shaped (by decide)
  show (if (SeqAt.shaped (.list (bookS.map .str)) && SeqAt.shaped (.str (bookAt n))) = true then (idxL (.str (bookAt n)) (bookS.map .str)).map _ else none) = _
  rw [h1, h2, idxL_strs bookS n _ bookS_nd (bookAt_get h)]
  rfl
@[simp] theorem xIdx_e {f1 f2 : XE} {ρ : Env} {s : Sto} : xIdx f1 f2 ρ s = ((f1 ρ s).bind fun d s1 => match d with
  | .list ds => (f2 ρ s1).bind fun b s2 => lift (idxD (.list ds) b) s2
  | _ => .bad) := rfl
theorem m_number_of_code_e {n : Nat} (h : n < 30) {s : Sto} : m_number_of_code [.str (bookAt n)] s = .ok (.int n) s := by
  simp [m_number_of_code, b_number_of_code, m_is_code_e (bookAt_30 h), m_book_e, idx_book h]
theorem m_code_at_e {n : Nat} (h : n < 30) {s : Sto} : m_code_at [.int n] s = .ok (.str (bookAt n)) s := by
  have h1 : ((n : Int) ≤ 29) := by omega
  have h2 : atI (bookS.map PyData.str) (n : Int) = some (.str (bookAt n)) := by
    have hl : n < (bookS.map PyData.str).length := by rw [List.length_map, bookS_len]; exact h
    rw [atI_nat hl]
    have := bookAt_get h
    rw [List.getElem?_eq_getElem (by rw [bookS_len]; exact h)] at this
    simp [Option.some.inj this]
  simp [m_code_at, b_code_at, m_book_e, bookS_len, m_is_within_e, h1, h2]
/-- what is no number of the book -/
theorem m_code_at_no {d : D} {s : Sto} (h : m_is_within [d, .int 0, .int 29] s = .ok (.bool false) s) : m_code_at [d] s = .exc "NoCount" s := by
  simp [m_code_at, b_code_at, m_book_e, bookS_len, h]
theorem book_num {c : Str} (h : c ∈ codes30) : ∃ n, n < 30 ∧ c = bookAt n := by
  obtain ⟨n, hn⟩ := List.mem_iff_getElem?.mp (bookS_all c h)
  have hl : n < 30 := by
    have := (List.getElem?_eq_some_iff.mp hn).1
    rw [bookS_len] at this; exact this
  refine ⟨n, hl, ?_⟩
  rw [bookAt_get hl] at hn
  exact (Option.some.inj hn).symm

/-! ### the ticks of all rings -/
def sumT (us : List Int) (cs : List Str) : Int := ((us.zip cs).map fun p => p.1 * (tickLen p.2 : Int)).sum
structure UsesOk (us : List Int) : Prop where
  l2 : 2 ≤ us.length
  l8 : us.length ≤ 8
  b : ∀ u ∈ us, 0 ≤ u ∧ u ≤ 999
theorem zipDs_map {α β : Type} (f : α → D) (g : β → D) : ∀ (xs : List α) (ys : List β), zipDs (xs.map f) (ys.map g) = (xs.zip ys).map fun p => .tuple [f p.1, g p.2]
  | [], _ => by simp [zipDs]
  | _ :: _, [] => by simp [zipDs]
  | x :: xs, y :: ys => by
    have := zipDs_map f g xs ys
    unfold zipDs at *
    simp only [List.map_cons, List.zip_cons_cons]
    rw [this]
@[simp] theorem iZipD_e {g : XA} {ρ : Env} {s : Sto} : iZipD g ρ s = ((g ρ s).bind fun ds s1 => match ds with
  | [.list xs, .list ys] => .ok (zipDs xs ys) s1
  | [.list xs, .tuple ys] => .ok (zipDs xs ys) s1
  | _ => .bad) := rfl
theorem sumD_ints (ns : List Int) : sumD (.list (ns.map .int)) = some (.int ns.sum) := by
  show (intsOf (ns.map .int)).map _ = _
  rw [intsOf_map]; rfl
section
variable {us : List Int} {s : Sto} {d1 z2 z3 z4 : Slot}
theorem uses_comp (h : UsesOk us) : compL (gN 2) (tNot1 (tTru (xCall 3 m_is_within (aC (xV 2) (aC (xC (.int 0)) (aC (xC (.int 999)) aN)))))) (xV 2) [2] (us.map .int) [] [.val (.list (us.map .int)), d1, z2, z3, z4] s = .ok [] s :=
  compL_none PyData.int us fun u hu => ⟨_, rfl, by simp [wipeD, m_is_within_e, (h.b u hu).1, (h.b u hu).2]⟩
theorem m_whole_ticks_e (h : UsesOk us) {cs : List Str} (hl : cs.length = us.length) (h30 : ∀ c ∈ cs, c ∈ codes30) (hn : cs.Nodup) : m_whole_ticks [.list (us.map .int), codesD cs] s = .ok (.int (sumT us cs)) s := by
  have h1 : (2 : Int) ≤ (us.length : Int) := by have := h.l2; omega
  have h2 : (us.length : Int) ≤ 8 := by have := h.l8; omega
  have h8 := h.l8
  have hc : compL (gN 3) (tNot1 (tTru (xCall 1 m_is_code (aC (xV 3) aN)))) (xV 3) [3] (cs.map .str) [] [.val (.list (us.map .int)), .val (codesD cs), .no, .no, .no] s = .ok [] s :=
    compL_none PyData.str cs fun c hc => ⟨_, rfl, by simp [wipeD, m_is_code_e (h30 c hc)]⟩
  have hz : compL (gT 2 (gsC (gN 4) (gsC (gN 3) gsN))) tAll (x2 mulD (xV 4) (x1 lenD (xCall 1 m_beats (aC (xV 3) aN)))) [4, 3] (zipDs (us.map .int) (cs.map .str)) [] [.val (.list (us.map .int)), .val (codesD cs), .no, .no, .no] s
      = .ok ((((us.zip cs).map fun p => p.1 * (tickLen p.2 : Int))).map .int) s := by
    rw [zipDs_map, compL_mapA (fun p : Int × Str => .tuple [.int p.1, .str p.2]) (fun p => .int (p.1 * (tickLen p.2 : Int))) (us.zip cs) (fun p hp => ⟨_, rfl, by
      have hp1 := (List.of_mem_zip hp).1
      have hp2 := (List.of_mem_zip hp).2
      have hb := h.b _ hp1
      have hs : small p.1 = true := small_of (by omega) (by omega)
      simp [wipeD, m_beats_e (h30 _ hp2), hs, tickLen]⟩) (le_size (by simp; omega))]
    rw [List.map_map]; rfl
  have hls := lenSet_e hn (by omega)
  unfold codesD at hc hz hls
  simp [-List.map_map, m_whole_ticks, b_whole_ticks, codesD, h1, h2, uses_comp h, hl, hc, hls, hz, sumD_ints, sumT]
/-- codes that are none -/
theorem m_whole_ticks_no {d : D} (h : UsesOk us) (hd : isiD .tuple d = some (.bool false)) : m_whole_ticks [.list (us.map .int), d] s = .exc "NoCode" s := by
  have h1 : (2 : Int) ≤ (us.length : Int) := by have := h.l2; omega
  have h2 : (us.length : Int) ≤ 8 := by have := h.l8; omega
  simp [m_whole_ticks, b_whole_ticks, h1, h2, uses_comp h, hd]
theorem m_whole_ticks_len {ds : List D} (h : UsesOk us) (hd : ds.length ≠ us.length) : m_whole_ticks [.list (us.map .int), .tuple ds] s = .exc "NoCode" s := by
  have h1 : (2 : Int) ≤ (us.length : Int) := by have := h.l2; omega
  have h2 : (us.length : Int) ≤ 8 := by have := h.l8; omega
  have h3 : ¬ ((ds.length : Int) = (us.length : Int)) := by omega
  simp [m_whole_ticks, b_whole_ticks, h1, h2, uses_comp h, h3]
end

theorem m__law_all_codes_e {s : Sto} : m__law_all_codes [] s = .ok (.list (bookS.map .str)) s := by
  have eA : sPar 0 1 (aC (xLst aN) (aC (xLst (aC (xC (.str "")) aN)) aN)) [.no, .no, .no, .no, .no] s = .next [.val (.list []), .val (.list [.str ""]), .no, .no, .no] s := by rfl
  have eB : sFor (iR1 (aC (xC (.int 4)) aN)) (gN 2) (sSeq (sSet 1 (x2 addD (xComp (iAny (xV 1)) (gN 3) tAll (x2 addD (xV 3) (xC (.str "l"))) [3]) (xComp (iAny (xV 1)) (gN 3) tAll (x2 addD (xV 3) (xC (.str "s"))) [3]))) (sSet 0 (x2 addD (xV 0) (xV 1)))) [.val (.list []), .val (.list [.str ""]), .no, .no, .no] s
      = .next [.val (.list (codesL made)), .val (.list (codesL (madeN 4))), .val (.int 3), .no, .no] s := by rfl
  have h1 : compL (gN 3) tAll (xTup (aC (x1 lenD (xCall 1 m__law_beats (aC (xV 3) aN))) (aC (xV 3) aN))) [3] (codesL made) [] [.val (.list (codesL made)), .val (.list (codesL (madeN 4))), .val (.int 3), .no, .no] s = .ok ((psOf made).map psD) s := by
    have := compL_mapA (t := gN 3) (e := xTup (aC (x1 lenD (xCall 1 m__law_beats (aC (xV 3) aN))) (aC (xV 3) aN))) (vs := [3]) (ρ := [.val (.list (codesL made)), .val (.list (codesL (madeN 4))), .val (.int 3), .no, .no]) (s := s) (fun r => .str (st r)) (fun r => psD ((tickLen (st r) : Int), st r)) made (fun r hr => ⟨_, rfl, by
      simp [wipeD, m__law_beats_e (made_30 r hr), le_size, psD, tickLen]⟩) (le_size (by decide))
    show compL _ _ _ _ (made.map fun r => .str (st r)) [] _ s = _
    rw [this]
    unfold psOf
    rw [List.map_map]; rfl
  have h2 : compL (gT 2 (gsC (gN 4) (gsC (gN 3) gsN))) tAll (xV 3) [4, 3] (bookP.map psD) [] [.val (.list (codesL made)), .val (.list (codesL (madeN 4))), .val (.int 3), .no, .no] s = .ok (bookS.map .str) s := by
    rw [compL_mapA psD (fun p => .str p.2) bookP (fun p hp => ⟨_, rfl, by simp [wipeD]⟩) (le_size (by rw [bookP_len]; decide))]
    unfold bookS
    rw [List.map_map]; rfl
  show (match (sSeq _ (sSeq _ _)) [.no, .no, .no, .no, .no] s with | .ret d s' => Out.ok d s' | .next _ s' => Out.ok .none s' | .exc c _ s' => Out.exc c s' | _ => Out.bad) = _
  simp only [sSeq_e, eA, eB]
  simp [h1, sortedPSD_e]
  rw [show sortPS (psOf made) = bookP from rfl, h2]
  rfl
/-! ### what is caught -/
theorem q_codeS : exmT "NoCode" "NoSetting" = some false := by decide +kernel
theorem q_codeC : exmT "NoCode" "NoCode" = some true := by decide +kernel
theorem q_countS : exmT "NoCount" "NoSetting" = some false := by decide +kernel
theorem q_countC : exmT "NoCount" "NoCode" = some false := by decide +kernel
theorem q_countH : exmT "NoCount" "NoHouse" = some false := by decide +kernel
theorem q_countN : exmT "NoCount" "NoCount" = some true := by decide +kernel
@[simp] theorem sTry_e {m : Str → Str → Option Bool} {b : XS} {hs : Hds} {ρ : Env} {s : Sto} : sTry m b hs ρ s = (match b ρ s with
  | .exc c ρ1 s1 => (match pickH m c hs with
    | some (some bh) => noX (bh ρ1 s1)
    | some none => .exc c ρ1 s1
    | none => .bad)
  | r => r) := rfl
theorem caught_code {w : D} {a : D} {s : Sto} (hw : (tTru (fun _ s => .ok (.bool true) s) : XT) [] s = .ok true s) (hl : ltD w (.int 7) = some (.bool true)) (h : m__law_called [w, a] s = .exc "NoCode" s) : m__law_caught [w, a] s = .ok (.str "code") s := by
  simp [m__law_caught, b__law_caught, hl, h, pickH, q_codeS, q_codeC, noX]
theorem caught_count {w : D} {a : D} {s : Sto} (hl : ltD w (.int 7) = some (.bool true)) (h : m__law_called [w, a] s = .exc "NoCount" s) : m__law_caught [w, a] s = .ok (.str "count") s := by
  simp [m__law_caught, b__law_caught, hl, h, pickH, q_countS, q_countC, q_countH, q_countN, noX]
theorem called_6 {a b : D} {s : Sto} : m__law_called [.int 6, .list [a, b]] s = m_whole_ticks [a, b] s := by
  simp [m__law_called, b__law_called]
  cases m_whole_ticks [a, b] s <;> rfl
theorem called_4 {a : D} {s : Sto} : m__law_called [.int 4, .list [a]] s = m_code_at [a] s := by
  simp [m__law_called, b__law_called]
  cases m_code_at [a] s <;> rfl
theorem called_5 {a : D} {s : Sto} : m__law_called [.int 5, .list [a]] s = m_number_of_code [a] s := by
  simp [m__law_called, b__law_called]
  cases m_number_of_code [a] s <;> rfl

def xS : Str := "x"
theorem is_code_x {s : Sto} : m_is_code [.str xS] s = .ok (.bool false) s := by rfl
theorem is_code_5 {s : Sto} : m_is_code [.str "slsls"] s = .ok (.bool false) s := by rfl
theorem metS_rep (c : Str) : ∀ n, 0 < n → metS (List.replicate n c) = [c] := by
  intro n hn
  have key : ∀ m, (List.replicate m c).foldl stepS [c] = [c] := by
    intro m
    induction m with
    | zero => rfl
    | succ m ih =>
      rw [List.replicate_succ, List.foldl_cons]
      have : stepS [c] c = [c] := by unfold stepS; simp
      rw [this, ih]
  cases n with
  | zero => omega
  | succ n =>
    unfold metS
    rw [List.replicate_succ, List.foldl_cons]
    exact key n
section
variable {us : List Int} {s : Sto}
theorem odd_rep (h : UsesOk us) {c : Str} (hc : c ∈ codes30) : m_whole_ticks [.list (us.map .int), codesD (List.replicate us.length c)] s = .exc "NoCode" s := by
  have h1 : (2 : Int) ≤ (us.length : Int) := by have := h.l2; omega
  have h2 : (us.length : Int) ≤ 8 := by have := h.l8; omega
  have h2' := h.l2
  have h8 := h.l8
  have hcm : compL (gN 3) (tNot1 (tTru (xCall 1 m_is_code (aC (xV 3) aN)))) (xV 3) [3] ((List.replicate us.length c).map .str) [] [.val (.list (us.map .int)), .val (codesD (List.replicate us.length c)), .no, .no, .no] s = .ok [] s :=
    compL_none PyData.str _ fun x hx => ⟨_, rfl, by
      have : x = c := List.eq_of_mem_replicate hx
      subst this
      simp [wipeD, m_is_code_e hc]⟩
  have hls : lenSetD (codesD (List.replicate us.length c)) = some (.int 1) := by
    have hb : (List.replicate us.length c).length + 1 < scanBound := by unfold scanBound; rw [List.length_replicate]; omega
    show (strsOf ((List.replicate us.length c).map .str)).bind _ = _
    rw [strsOf_map]
    show (if (List.replicate us.length c).length + 1 < scanBound then some (PyData.int (metS (List.replicate us.length c)).length) else none) = _
    rw [if_pos hb, metS_rep c _ (by omega)]
    rfl
  have hne : ¬ ((1 : Int) = (us.length : Int)) := by omega
  unfold codesD at hcm hls
  simp only [List.map_replicate] at hcm hls
  simp [m_whole_ticks, b_whole_ticks, codesD, h1, h2, uses_comp h, hcm, hls, hne]
theorem odd_x (h : UsesOk us) {cs : List Str} (hl : cs.length + 1 = us.length) (h30 : ∀ c ∈ cs, c ∈ codes30) : m_whole_ticks [.list (us.map .int), .tuple (cs.map .str ++ [.str xS])] s = .exc "NoCode" s := by
  have h1 : (2 : Int) ≤ (us.length : Int) := by have := h.l2; omega
  have h2 : (us.length : Int) ≤ 8 := by have := h.l8; omega
  have h8 := h.l8
  have e : cs.map PyData.str ++ [.str xS] = (cs ++ [xS]).map PyData.str := by simp
  have hcm : compL (gN 3) (tNot1 (tTru (xCall 1 m_is_code (aC (xV 3) aN)))) (xV 3) [3] ((cs ++ [xS]).map .str) [] [.val (.list (us.map .int)), .val (.tuple ((cs ++ [xS]).map .str)), .no, .no, .no] s = .ok (((cs ++ [xS]).filter fun c => decide (c ∉ codes30)).map .str) s := by
    have := compL_map (t := gN 3) (c := tNot1 (tTru (xCall 1 m_is_code (aC (xV 3) aN)))) (e := xV 3) (vs := [3]) (ρ := [.val (.list (us.map .int)), .val (.tuple ((cs ++ [xS]).map .str)), .no, .no, .no]) (s := s) PyData.str (fun c => decide (c ∉ codes30)) PyData.str (cs ++ [xS]) [] (fun c hc => ⟨_, rfl, by
      rcases List.mem_append.mp hc with q | q
      · have := h30 c q
        simp [wipeD, m_is_code_e this, this]
      · have hx : c = xS := List.mem_singleton.mp q
        have hn : xS ∉ codes30 := by decide +kernel
        subst hx
        simp [wipeD, is_code_x, hn], fun _ => by simp [wipeD]⟩) (le_size (by simp; omega))
    rw [this, List.nil_append]
  have hf : ((cs ++ [xS]).filter fun c => decide (c ∉ codes30)) = [xS] := by
    have hn : xS ∉ codes30 := by decide +kernel
    rw [List.filter_append]
    have : cs.filter (fun c => decide (c ∉ codes30)) = [] := List.filter_eq_nil_iff.mpr fun c hc => by simp [h30 c hc]
    rw [this]
    simp [hn]
  rw [hf] at hcm
  rw [e]
  have hlen : ((cs ++ [xS]).length : Int) = (us.length : Int) := by simp; omega
  generalize hL : (cs ++ [xS]).map PyData.str = L at hcm
  have hL2 : (L.length : Int) = (us.length : Int) := by rw [← hL, List.length_map]; exact hlen
  simp [m_whole_ticks, b_whole_ticks, h1, h2, uses_comp h, hL2, hcm]
end

def useOf (a : Int) (k : Nat) : Int := mixOf (a + 41 * (k : Int)) 9949 (if k % 2 = 0 then 1000 else 3)
def usesOf (a : Int) (n : Nat) : List Int := (List.range n).map (useOf a)
theorem usesOf_ok {a : Int} {n : Nat} (h2 : 2 ≤ n) (h8 : n ≤ 8) : UsesOk (usesOf a n) := by
  refine ⟨by unfold usesOf; simpa using h2, by unfold usesOf; simpa using h8, fun u hu => ?_⟩
  obtain ⟨k, _, rfl⟩ := List.mem_map.mp hu
  unfold useOf mixOf
  split
  · have h1 := Int.emod_nonneg (((a + 41 * (k : Int)) * 48271 % 9949) ^ 3 % 9949) (by omega : (1000 : Int) ≠ 0)
    have h2 := Int.emod_lt_of_pos (((a + 41 * (k : Int)) * 48271 % 9949) ^ 3 % 9949) (by omega : (0 : Int) < 1000)
    omega
  · have h1 := Int.emod_nonneg (((a + 41 * (k : Int)) * 48271 % 9949) ^ 3 % 9949) (by omega : (3 : Int) ≠ 0)
    have h2 := Int.emod_lt_of_pos (((a + 41 * (k : Int)) * 48271 % 9949) ^ 3 % 9949) (by omega : (0 : Int) < 3)
    omega
theorem says_law_k15 (ns : List Int) (hl : ns.length ≤ 63) : Says m_law_k15 ns := by
  obtain ⟨S, hS, eS⟩ := m__law_setting_e (seedOf (cellOf ns 2) 0)
  have h2 := hS.l2
  have h8 := hS.l8
  have e2 : rngOk (S.codes.length : Int) = true := rngOk_of (by omega) (by omega)
  generalize hd : scrD (ns.map PyData.int) = d
  have hcell : ∀ (k : Nat) s, m__law_cell [d, .int k] s = .ok (.int (cellOf ns k)) s := fun k s => by rw [← hd]; exact m__law_cell_e
  have c0 : ∀ s, m__law_cell [d, .int 0] s = .ok (.int (cellOf ns 0)) s := fun s => hcell 0 s
  have c1 : ∀ s, m__law_cell [d, .int 1] s = .ok (.int (cellOf ns 1)) s := fun s => hcell 1 s
  have c2 : ∀ s, m__law_cell [d, .int 2] s = .ok (.int (cellOf ns 2)) s := fun s => hcell 2 s
  have c3 : ∀ s, m__law_cell [d, .int 3] s = .ok (.int (cellOf ns 3)) s := fun s => hcell 3 s
  have c4 : ∀ s, m__law_cell [d, .int 4] s = .ok (.int (cellOf ns 4)) s := fun s => hcell 4 s
  have c5 : ∀ s, m__law_cell [d, .int 5] s = .ok (.int (cellOf ns 5)) s := fun s => hcell 5 s
  have u1 := Int.emod_nonneg (cellOf ns 0) (by omega : (30 : Int) ≠ 0)
  have u2 := Int.emod_lt_of_pos (cellOf ns 0) (by omega : (0 : Int) < 30)
  obtain ⟨n, hn⟩ : ∃ n : Nat, cellOf ns 0 % 30 = (n : Int) := ⟨(cellOf ns 0 % 30).toNat, by omega⟩
  have hn30 : n < 30 := by omega
  generalize hc : codeOf (seedOf (cellOf ns 1) 1) = c
  have hc30 : c ∈ codes30 := by rw [← hc]; exact codeOf_30 _
  obtain ⟨m, hm, rfl⟩ := book_num hc30
  have hU := usesOf_ok (a := cellOf ns 3) h2 h8
  generalize hus : usesOf (cellOf ns 3) S.codes.length = us at hU
  have hul : us.length = S.codes.length := by rw [← hus]; unfold usesOf; simp
  have hB : PyData.list (bookS.map .str) = .list (bookS.map .str) := rfl
  have ixn : ixD (.list (bookS.map .str)) (.int n) = some (.str (bookAt n)) := by
    have hl : n < (bookS.map PyData.str).length := by rw [List.length_map, bookS_len]; exact hn30
    rw [ixD_l, atI_nat hl]
    have := bookAt_get hn30
    rw [List.getElem?_eq_getElem (by rw [bookS_len]; exact hn30)] at this
    simp [Option.some.inj this]
  have a3 : neD (.str (bookAt n)) (.str (bookAt n)) = some (.bool false) := by rw [neD_s (ok30 (bookAt_30 hn30)) (ok30 (bookAt_30 hn30))]; simp
  have lenB : lenD (.list (bookS.map .str)) = some (.int 30) := by simp [bookS_len]
  generalize hBk : PyData.list (bookS.map .str) = B at ixn lenB
  have allB : ∀ s, m__law_all_codes [] s = .ok B s := fun s => by rw [← hBk]; exact m__law_all_codes_e
  have idxB : ∀ (k : Nat), k < 30 → ∀ (ρ : Env) (s : Sto) (f : XE), f ρ s = .ok (.str (bookAt k)) s → ∀ (g : XE), g ρ s = .ok B s → xIdx g f ρ s = .ok (.int k) s := fun k hk ρ s f hf g hg => by
    rw [xIdx_e, hg, ← hBk]
    simp [hf, idx_book hk]
  have s1 : b_law_k15_1 [.val d, .no, .no, .no, .no, .no, .no, .no, .no, .no, .no] [] = .next [.val d, .val B, .no, .no, .no, .no, .no, .no, .no, .no, .no] [] := by
    simp [b_law_k15_1, allB]
  have s2 : b_law_k15_2 [.val d, .val B, .no, .no, .no, .no, .no, .no, .no, .no, .no] [] = .next [.val d, .val B, .val (.int n), .no, .no, .no, .no, .no, .no, .no, .no] [] := by
    simp [b_law_k15_2, c0, hn]
  have s3 : b_law_k15_3 [.val d, .val B, .val (.int n), .no, .no, .no, .no, .no, .no, .no, .no] [] = .next [.val d, .val B, .val (.int n), .no, .no, .no, .no, .no, .no, .no, .no] [] := by
    simp [b_law_k15_3, lenB, m_code_at_e hn30, ixn, a3, m_number_of_code_e hn30]
  have s4 : b_law_k15_4 [.val d, .val B, .val (.int n), .no, .no, .no, .no, .no, .no, .no, .no] [] = .next [.val d, .val B, .val (.int n), .val (.str (bookAt m)), .no, .no, .no, .no, .no, .no, .no] [] := by
    simp [b_law_k15_4, c1, m__law_seed_e, m__law_code_e, hc]
  have s5 : b_law_k15_5 [.val d, .val B, .val (.int n), .val (.str (bookAt m)), .no, .no, .no, .no, .no, .no, .no] [] = .next [.val d, .val B, .val (.int n), .val (.str (bookAt m)), .no, .no, .no, .no, .no, .no, .no] [] := by
    have hi := idxB m hm [.val d, .val B, .val (.int n), .val (.str (bookAt m)), .no, .no, .no, .no, .no, .no, .no] [] (xV 3) rfl (xV 1) rfl
    have hx : xIdx (xV 1) (xV 3) [.val d, .val B, .val (.int n), .val (.str (bookAt m)), .no, .no, .no, .no, .no, .no, .no] [] = .ok (.int m) [] := hi
    simp [-xIdx_e, b_law_k15_5, m_ticks_for_e hc30, m__law_beats_e hc30, tickLen, m_number_of_code_e hm, hx]
  have s6 : b_law_k15_6 [.val d, .val B, .val (.int n), .val (.str (bookAt m)), .no, .no, .no, .no, .no, .no, .no] [] = .next [.val d, .val B, .val (.int n), .val (.str (bookAt m)), .val S.d, .no, .no, .no, .no, .no, .no] [] := by
    simp [b_law_k15_6, c2, m__law_seed_e, eS]
  have hcu : compL (gN 6) tAll (xCall 3 m__law_mix (aC (x2 addD (xCall 2 m__law_cell (aC (xV 0) (aC (xC (.int 3)) aN))) (x2 mulD (xC (.int 41)) (xV 6))) (aC (xC (.int 9949)) (aC (x2 ixD (xLst (aC (xC (.int 1000)) (aC (xC (.int 3)) aN))) (x2 modD (xV 6) (xC (.int 2)))) aN)))) [6] (rngD 0 S.codes.length) []
      [.val d, .val B, .val (.int n), .val (.str (bookAt m)), .val S.d, .no, .no, .no, .no, .no, .no] [] = .ok (us.map .int) [] := by
    rw [compL_rng (fun k => .int (useOf (cellOf ns 3) k)) (fun k hk => ⟨_, rfl, by
      have hs : small (k : Int) = true := small_of (by omega) (by omega)
      rcases Nat.mod_two_eq_zero_or_one k with e | e
      · have e' : (k : Int) % 2 = 0 := by omega
        have hx := m__law_mix_e (a := cellOf ns 3 + 41 * (k : Int)) (p := 9949) (m := 1000) (by omega) (by omega) (by omega) (s := [])
        simp [wipeD, c3, le_size, e', hx, useOf, e, hs]
      · have e' : (k : Int) % 2 = 1 := by omega
        have hx := m__law_mix_e (a := cellOf ns 3 + 41 * (k : Int)) (p := 9949) (m := 3) (by omega) (by omega) (by omega) (s := [])
        simp [wipeD, c3, le_size, e', hx, useOf, e, hs]⟩) (le_size (by omega)), ← hus]
    unfold usesOf
    rw [List.map_map]; rfl
  have s7 : b_law_k15_7 [.val d, .val B, .val (.int n), .val (.str (bookAt m)), .val S.d, .no, .no, .no, .no, .no, .no] [] = .next [.val d, .val B, .val (.int n), .val (.str (bookAt m)), .val S.d, .val (.list (us.map .int)), .no, .no, .no, .no, .no] [] := by
    simp [b_law_k15_7, e2, hcu]
  have hcz : compL (gT 2 (gsC (gN 8) (gsC (gN 9) gsN))) tAll (x2 mulD (xV 8) (x1 lenD (xCall 1 m__law_beats (aC (xV 9) aN)))) [8, 9] (zipDs (us.map .int) (S.codes.map .str)) [] [.val d, .val B, .val (.int n), .val (.str (bookAt m)), .val S.d, .val (.list (us.map .int)), .no, .no, .no, .no, .no] []
      = .ok ((((us.zip S.codes).map fun p => p.1 * (tickLen p.2 : Int))).map .int) [] := by
    rw [zipDs_map, compL_mapA (fun p : Int × Str => .tuple [.int p.1, .str p.2]) (fun p => .int (p.1 * (tickLen p.2 : Int))) (us.zip S.codes) (fun p hp => ⟨_, rfl, by
      have hp1 := (List.of_mem_zip hp).1
      have hp2 := (List.of_mem_zip hp).2
      have hb := hU.b _ hp1
      have hs : small p.1 = true := small_of (by omega) (by omega)
      simp [wipeD, m__law_beats_e (hS.c30 _ hp2), hs, tickLen]⟩) (le_size (by simp; omega))]
    rw [List.map_map]; rfl
  have s8 : b_law_k15_8 [.val d, .val B, .val (.int n), .val (.str (bookAt m)), .val S.d, .val (.list (us.map .int)), .no, .no, .no, .no, .no] [] = .next [.val d, .val B, .val (.int n), .val (.str (bookAt m)), .val S.d, .val (.list (us.map .int)), .no, .val (.int (sumT us S.codes)), .no, .no, .no] [] := by
    simp [-List.map_map, b_law_k15_8, codesD, hcz, sumD_ints, sumT]
  have hw := fun s => m_whole_ticks_e (s := s) hU hul.symm hS.c30 hS.nd
  have hls : lstD (.list (us.map .int)) = some (.list (us.map .int)) := rfl
  have s9 : b_law_k15_9 [.val d, .val B, .val (.int n), .val (.str (bookAt m)), .val S.d, .val (.list (us.map .int)), .no, .val (.int (sumT us S.codes)), .no, .no, .no] [] = .next [.val d, .val B, .val (.int n), .val (.str (bookAt m)), .val S.d, .val (.list (us.map .int)), .no, .val (.int (sumT us S.codes)), .no, .no, .no] [] := by
    simp [b_law_k15_9, hls, hw, m__law_whole_e]
  -- codes that are none
  obtain ⟨c0', cr, hcs⟩ : ∃ c0' cr, S.codes = c0' :: cr := by
    cases e : S.codes with
    | nil => rw [e] at h2; simp at h2
    | cons a b => exact ⟨a, b, rfl⟩
  have hc0 : c0' ∈ codes30 := hS.c30 _ (by rw [hcs]; exact List.mem_cons_self)
  have hcr : ∀ x ∈ cr, x ∈ codes30 := fun x hx => hS.c30 _ (by rw [hcs]; exact List.mem_cons_of_mem _ hx)
  have hlen : cr.length + 1 = us.length := by rw [hul, hcs]; rfl
  have cutA : cutD (S.codes.map PyData.str) (some 1) none = cr.map .str := by
    rw [hcs, List.map_cons]
    have h0 : HT.sIx (PyData.str c0' :: cr.map PyData.str).length 0 (some 1) = 1 := by
      have := HT.sIx_nat (PyData.str c0' :: cr.map PyData.str).length 0 1
      rw [List.length_cons] at this ⊢
      rw [show (some (1 : Int)) = some (((1 : Nat)) : Int) from rfl, this]
      omega
    unfold cutD
    rw [h0]
    show ((cr.map PyData.str).take ((cr.map PyData.str).length + 1 - 1)) = _
    rw [Nat.add_sub_cancel, List.take_length]
  have cutB : cutD (S.codes.map PyData.str) none (some 1) = [.str c0'] := by
    rw [show (some (1 : Int)) = some (((1 : Nat)) : Int) from rfl, cut_take, hcs]
    rfl
  have hrep : mulTD (.tuple [.str c0']) (.int us.length) = some (codesD (List.replicate us.length c0')) := by
    have z1 : Nat.ble 2 us.length = true := Nat.ble_eq_true_of_le hU.l2
    have z2 : Nat.ble us.length 1000 = true := Nat.ble_eq_true_of_le (by have := hU.l8; omega)
    show (if (Nat.ble 2 ((us.length : Int)).toNat && Nat.ble ((us.length : Int)).toNat 1000 && Nat.ble 1 1000 && !false) = true then some (PyData.tuple (List.replicate ((us.length : Int)).toNat [PyData.str c0']).flatten) else none) = _
    rw [Int.toNat_natCast, z1, z2]
    unfold codesD
    have : (List.replicate us.length [PyData.str c0']).flatten = (List.replicate us.length c0').map PyData.str := by simp
    rw [this]
    rfl
  have lst2 : lstD (codesD S.codes) = some (.list (S.codes.map .str)) := rfl
  generalize hOD : [PyData.none, .tuple (cr.map .str), codesD (List.replicate us.length c0'), .list (S.codes.map .str), .tuple (cr.map .str ++ [.str xS])] = OD
  have hodl : OD.length = 5 := by rw [← hOD]; rfl
  have hod : ∀ x ∈ OD, ∀ s, m_whole_ticks [.list (us.map .int), x] s = .exc "NoCode" s := by
    intro x hx s
    rw [← hOD] at hx
    simp only [List.mem_cons, List.not_mem_nil, or_false] at hx
    rcases hx with rfl | rfl | rfl | rfl | rfl
    · exact m_whole_ticks_no hU rfl
    · exact m_whole_ticks_len hU (by rw [List.length_map]; omega)
    · exact odd_rep hU hc0
    · exact m_whole_ticks_no hU rfl
    · exact odd_x hU hlen hcr
  have s10 : b_law_k15_10 [.val d, .val B, .val (.int n), .val (.str (bookAt m)), .val S.d, .val (.list (us.map .int)), .no, .val (.int (sumT us S.codes)), .no, .no, .no] [] = .next [.val d, .val B, .val (.int n), .val (.str (bookAt m)), .val S.d, .val (.list (us.map .int)), .no, .val (.int (sumT us S.codes)), .no, .no, .val (.list OD)] [] := by
    have hcd : codesD S.codes = .tuple (S.codes.map .str) := rfl
    have hz : cr.length + 1 ≤ sizeLine := le_size (by omega)
    rw [hcd] at lst2
    simp only [b_law_k15_10, sSet_e, stX_e, xLst_e, aC_e, aN_e, xC_e, xSl_e, x2_e, x1_e, xV_e, List.getElem?_cons_succ, List.getElem?_cons_zero, bind_ok, ix_codes, hcd, lift_some, oS_e, oN_e, sliD_t, cutA, cutB, lenD_l, List.length_map, hrep, lst2, xTup_e]
    simp [le_size, hz, ← hOD, xS]
  have v1 := Int.emod_nonneg (cellOf ns 4) (by omega : (5 : Int) ≠ 0)
  have v2 := Int.emod_lt_of_pos (cellOf ns 4) (by omega : (0 : Int) < 5)
  obtain ⟨k4, hk4⟩ : ∃ k : Nat, cellOf ns 4 % 5 = (k : Int) := ⟨(cellOf ns 4 % 5).toNat, by omega⟩
  have hk4l : k4 < OD.length := by omega
  have hod4 := hod OD[k4] (List.getElem_mem hk4l)
  have at4 : atI OD (k4 : Int) = some OD[k4] := atI_nat hk4l
  generalize OD[k4] = od at hod4 at4
  have lt67 : ltD (.int 6) (.int 7) = some (.bool true) := by simp
  have lt47 : ltD (.int 4) (.int 7) = some (.bool true) := by simp
  have lt57 : ltD (.int 5) (.int 7) = some (.bool true) := by simp
  have ca6 : ∀ s, m__law_caught [.int 6, .list [.list (us.map .int), od]] s = .ok (.str "code") s := fun s => caught_code rfl lt67 (by rw [called_6, hod4])
  have okc : PyData.strOk "code" = true := by decide +kernel
  have okn : PyData.strOk "count" = true := by decide +kernel
  have ne11 : neD (.str "code") (.str "code") = some (.bool false) := by rw [neD_s okc okc]; simp
  have eqc : eqD (.str "code") (.str "code") = some (.bool true) := by rw [eqD_s okc okc]; simp
  have eqn : eqD (.str "count") (.str "count") = some (.bool true) := by rw [eqD_s okn okn]; simp
  have s11 : b_law_k15_11 [.val d, .val B, .val (.int n), .val (.str (bookAt m)), .val S.d, .val (.list (us.map .int)), .no, .val (.int (sumT us S.codes)), .no, .no, .val (.list OD)] [] = .next [.val d, .val B, .val (.int n), .val (.str (bookAt m)), .val S.d, .val (.list (us.map .int)), .no, .val (.int (sumT us S.codes)), .no, .no, .val (.list OD)] [] := by
    simp [b_law_k15_11, hls, c4, hk4, at4, le_size, ca6, ne11]
  have w1 := Int.emod_nonneg (cellOf ns 5) (by omega : (5 : Int) ≠ 0)
  have w2 := Int.emod_lt_of_pos (cellOf ns 5) (by omega : (0 : Int) < 5)
  obtain ⟨k5, hk5⟩ : ∃ k : Nat, cellOf ns 5 % 5 = (k : Int) := ⟨(cellOf ns 5 % 5).toNat, by omega⟩
  generalize hOE : [PyData.int 30, .int (-1), .none, .bool true, .str "3"] = OE
  have hk5l : k5 < OE.length := by rw [← hOE]; show k5 < 5; omega
  have hoel : OE.length ≤ sizeLine := by rw [← hOE]; exact le_size (by simp)
  have hoe : ∀ x ∈ OE, ∀ s, m_code_at [x] s = .exc "NoCount" s := by
    intro x hx s
    rw [← hOE] at hx
    simp only [List.mem_cons, List.not_mem_nil, or_false] at hx
    rcases hx with rfl | rfl | rfl | rfl | rfl
    · exact m_code_at_no (by rw [m_is_within_e]; rfl)
    · exact m_code_at_no (by rw [m_is_within_e]; rfl)
    · exact m_code_at_no (by simp [m_is_within, b_is_within])
    · exact m_code_at_no (by simp [m_is_within, b_is_within])
    · exact m_code_at_no (by simp [m_is_within, b_is_within])
  have hoe5 := hoe OE[k5] (List.getElem_mem hk5l)
  have at5 : atI OE (k5 : Int) = some OE[k5] := atI_nat hk5l
  generalize OE[k5] = oe at hoe5 at5
  have s12 : b_law_k15_12 [.val d, .val B, .val (.int n), .val (.str (bookAt m)), .val S.d, .val (.list (us.map .int)), .no, .val (.int (sumT us S.codes)), .no, .no, .val (.list OD)] [] = .next [.val d, .val B, .val (.int n), .val (.str (bookAt m)), .val S.d, .val (.list (us.map .int)), .no, .val (.int (sumT us S.codes)), .no, .no, .val oe] [] := by
    simp [b_law_k15_12, c5, hk5, le_size, hOE, at5, hoel]
  have ca4 : ∀ s, m__law_caught [.int 4, .list [oe]] s = .ok (.str "count") s := fun s => caught_count lt47 (by rw [called_4, hoe5])
  have no5 : ∀ s, m_number_of_code [.str "slsls"] s = .exc "NoCode" s := fun s => by simp [m_number_of_code, b_number_of_code, is_code_5]
  have ca5 : ∀ s, m__law_caught [.int 5, .list [.str "slsls"]] s = .ok (.str "code") s := fun s => caught_code rfl lt57 (by rw [called_5, no5])
  refine ⟨[], ?_⟩
  rw [hd]
  show (match b_law_k15 [.val d, .no, .no, .no, .no, .no, .no, .no, .no, .no, .no] [] with | .ret d s' => Out.ok d s' | .next _ s' => Out.ok .none s' | .exc c _ s' => Out.exc c s' | _ => Out.bad) = _
  simp only [b_law_k15, sSeq_e, s1, s2, s3, s4, s5, s6, s7, s8, s9, s10, s11, s12]
  simp [b_law_k15_13, le_size, ca4, ca5, eqc, eqn]
end M

namespace M
open PySem L2
open PyProof.Rows (envOfC)
def top (i : Nat) : Stmt := PySem.Challenge.pw_ringhouses_k15_codebook.main.body.getD i (.Pass ⟨0, 0, 0, 0⟩)
structure Fc (K : PySem.W.Frag) (mg : Str → Option Value) : Prop where
  n_bool : mg "bool" = none
  n_enumerate : mg "enumerate" = none
  n_int : mg "int" = none
  n_isinstance : mg "isinstance" = none
  n_len : mg "len" = none
  n_list : mg "list" = none
  n_max : mg "max" = none
  n_range : mg "range" = none
  n_set : mg "set" = none
  n_sorted : mg "sorted" = none
  n_str : mg "str" = none
  n_sum : mg "sum" = none
  n_tuple : mg "tuple" = none
  n_zip : mg "zip" = none
  i_LONG : ∃ t, mg "LONG" = some (.int 3 t)
  i_MOST_SIGNS : ∃ t, mg "MOST_SIGNS" = some (.int 4 t)
  i_MOST_TICKS : ∃ t, mg "MOST_TICKS" = some (.int 400 t)
  i_REST : ∃ t, mg "REST" = some (.int 4 t)
  x_NoCode : ExcIs K mg "NoCode"
  x_NoCount : ExcIs K mg "NoCount"
  x_NoHouse : ExcIs K mg "NoHouse"
  x_NoSetting : ExcIs K mg "NoSetting"
  g_NoCode : mg "NoCode" = some (.ref (He.ga K "NoCode"))
  g_NoCount : mg "NoCount" = some (.ref (He.ga K "NoCount"))
  g_NoDeeds : mg "NoDeeds" = some (.ref (He.ga K "NoDeeds"))
  g_NoHouse : mg "NoHouse" = some (.ref (He.ga K "NoHouse"))
  g_NoSetting : mg "NoSetting" = some (.ref (He.ga K "NoSetting"))
  g_NoText : mg "NoText" = some (.ref (He.ga K "NoText"))
  exm : ∀ c h k, exmT c h = some k → PySem.W.exmOne K (.ref (He.ga K c)) (.ref (He.ga K h)) = some k
  d_is_within : ∃ fd, FunD K "is_within" "is_within" (defArgs (top 19)) (defBody (top 19)) (defScope (top 19)) [] [] (He.ga K "is_within") fd
  g_is_within : mg "is_within" = some (.ref (He.ga K "is_within"))
  d_is_code : ∃ fd, FunD K "is_code" "is_code" (defArgs (top 20)) (defBody (top 20)) (defScope (top 20)) [] [] (He.ga K "is_code") fd
  g_is_code : mg "is_code" = some (.ref (He.ga K "is_code"))
  d_beats : ∃ fd, FunD K "beats" "beats" (defArgs (top 24)) (defBody (top 24)) (defScope (top 24)) [] [] (He.ga K "beats") fd
  g_beats : mg "beats" = some (.ref (He.ga K "beats"))
  d_all_codes : ∃ fd, FunD K "all_codes" "all_codes" (defArgs (top 28)) (defBody (top 28)) (defScope (top 28)) [] [] (He.ga K "all_codes") fd
  g_all_codes : mg "all_codes" = some (.ref (He.ga K "all_codes"))
  d__law_cell : ∃ fd, FunD K "_law_cell" "_law_cell" (defArgs (top 66)) (defBody (top 66)) (defScope (top 66)) [] [] (He.ga K "_law_cell") fd
  g__law_cell : mg "_law_cell" = some (.ref (He.ga K "_law_cell"))
  d__law_mix : ∃ fd, FunD K "_law_mix" "_law_mix" (defArgs (top 67)) (defBody (top 67)) (defScope (top 67)) [] [] (He.ga K "_law_mix") fd
  g__law_mix : mg "_law_mix" = some (.ref (He.ga K "_law_mix"))
  d__law_whole : ∃ fd, FunD K "_law_whole" "_law_whole" (defArgs (top 68)) (defBody (top 68)) (defScope (top 68)) [] [] (He.ga K "_law_whole") fd
  g__law_whole : mg "_law_whole" = some (.ref (He.ga K "_law_whole"))
  d__law_seed : ∃ fd, FunD K "_law_seed" "_law_seed" (defArgs (top 69)) (defBody (top 69)) (defScope (top 69)) [] [] (He.ga K "_law_seed") fd
  g__law_seed : mg "_law_seed" = some (.ref (He.ga K "_law_seed"))
  d__law_pick : ∃ fd, FunD K "_law_pick" "_law_pick" (defArgs (top 70)) (defBody (top 70)) (defScope (top 70)) [] [] (He.ga K "_law_pick") fd
  g__law_pick : mg "_law_pick" = some (.ref (He.ga K "_law_pick"))
  d__law_beats : ∃ fd, FunD K "_law_beats" "_law_beats" (defArgs (top 73)) (defBody (top 73)) (defScope (top 73)) [] [] (He.ga K "_law_beats") fd
  g__law_beats : mg "_law_beats" = some (.ref (He.ga K "_law_beats"))
  d_is_setting : ∃ fd, FunD K "is_setting" "is_setting" (defArgs (top 21)) (defBody (top 21)) (defScope (top 21)) [] [] (He.ga K "is_setting") fd
  g_is_setting : mg "is_setting" = some (.ref (He.ga K "is_setting"))
  d_look_house : ∃ fd, FunD K "look_house" "look_house" (defArgs (top 23)) (defBody (top 23)) (defScope (top 23)) [] [] (He.ga K "look_house") fd
  g_look_house : mg "look_house" = some (.ref (He.ga K "look_house"))
  d_ring : ∃ fd, FunD K "ring" "ring" (defArgs (top 25)) (defBody (top 25)) (defScope (top 25)) [] [] (He.ga K "ring") fd
  g_ring : mg "ring" = some (.ref (He.ga K "ring"))
  d_ticks_for : ∃ fd, FunD K "ticks_for" "ticks_for" (defArgs (top 30)) (defBody (top 30)) (defScope (top 30)) [] [] (He.ga K "ticks_for") fd
  g_ticks_for : mg "ticks_for" = some (.ref (He.ga K "ticks_for"))
  d_book : ∃ fd, FunD K "book" "book" (defArgs (top 31)) (defBody (top 31)) (defScope (top 31)) [] [] (He.ga K "book") fd
  g_book : mg "book" = some (.ref (He.ga K "book"))
  d_whole_ticks : ∃ fd, FunD K "whole_ticks" "whole_ticks" (defArgs (top 34)) (defBody (top 34)) (defScope (top 34)) [] [] (He.ga K "whole_ticks") fd
  g_whole_ticks : mg "whole_ticks" = some (.ref (He.ga K "whole_ticks"))
  d__law_code : ∃ fd, FunD K "_law_code" "_law_code" (defArgs (top 71)) (defBody (top 71)) (defScope (top 71)) [] [] (He.ga K "_law_code") fd
  g__law_code : mg "_law_code" = some (.ref (He.ga K "_law_code"))
  d__law_all_codes : ∃ fd, FunD K "_law_all_codes" "_law_all_codes" (defArgs (top 74)) (defBody (top 74)) (defScope (top 74)) [] [] (He.ga K "_law_all_codes") fd
  g__law_all_codes : mg "_law_all_codes" = some (.ref (He.ga K "_law_all_codes"))
  d_look : ∃ fd, FunD K "look" "look" (defArgs (top 22)) (defBody (top 22)) (defScope (top 22)) [] [] (He.ga K "look") fd
  g_look : mg "look" = some (.ref (He.ga K "look"))
  d_code_at : ∃ fd, FunD K "code_at" "code_at" (defArgs (top 32)) (defBody (top 32)) (defScope (top 32)) [] [] (He.ga K "code_at") fd
  g_code_at : mg "code_at" = some (.ref (He.ga K "code_at"))
  d_number_of_code : ∃ fd, FunD K "number_of_code" "number_of_code" (defArgs (top 33)) (defBody (top 33)) (defScope (top 33)) [] [] (He.ga K "number_of_code") fd
  g_number_of_code : mg "number_of_code" = some (.ref (He.ga K "number_of_code"))
  d__law_setting : ∃ fd, FunD K "_law_setting" "_law_setting" (defArgs (top 72)) (defBody (top 72)) (defScope (top 72)) [] [] (He.ga K "_law_setting") fd
  g__law_setting : mg "_law_setting" = some (.ref (He.ga K "_law_setting"))
  d_meant : ∃ fd, FunD K "meant" "meant" (defArgs (top 26)) (defBody (top 26)) (defScope (top 26)) [] [] (He.ga K "meant") fd
  g_meant : mg "meant" = some (.ref (He.ga K "meant"))
  d_apart_behind : ∃ fd, FunD K "apart_behind" "apart_behind" (defArgs (top 37)) (defBody (top 37)) (defScope (top 37)) [] [] (He.ga K "apart_behind") fd
  g_apart_behind : mg "apart_behind" = some (.ref (He.ga K "apart_behind"))
  d_mistaken : ∃ fd, FunD K "mistaken" "mistaken" (defArgs (top 38)) (defBody (top 38)) (defScope (top 38)) [] [] (He.ga K "mistaken") fd
  g_mistaken : mg "mistaken" = some (.ref (He.ga K "mistaken"))
  d_sure_behind : ∃ fd, FunD K "sure_behind" "sure_behind" (defArgs (top 27)) (defBody (top 27)) (defScope (top 27)) [] [] (He.ga K "sure_behind") fd
  g_sure_behind : mg "sure_behind" = some (.ref (He.ga K "sure_behind"))
  d_all_sure_behind : ∃ fd, FunD K "all_sure_behind" "all_sure_behind" (defArgs (top 39)) (defBody (top 39)) (defScope (top 39)) [] [] (He.ga K "all_sure_behind") fd
  g_all_sure_behind : mg "all_sure_behind" = some (.ref (He.ga K "all_sure_behind"))
  d__law_called : ∃ fd, FunD K "_law_called" "_law_called" (defArgs (top 75)) (defBody (top 75)) (defScope (top 75)) [] [] (He.ga K "_law_called") fd
  g__law_called : mg "_law_called" = some (.ref (He.ga K "_law_called"))
  d__law_caught : ∃ fd, FunD K "_law_caught" "_law_caught" (defArgs (top 77)) (defBody (top 77)) (defScope (top 77)) [] [] (He.ga K "_law_caught") fd
  g__law_caught : mg "_law_caught" = some (.ref (He.ga K "_law_caught"))
  d_law : ∃ fd, FunD K "law" "law" (defArgs (top 78)) (defBody (top 78)) (defScope (top 78)) [] [] (He.ga K "law") fd
  g_law : mg "law" = some (.ref (He.ga K "law"))
section
variable {P : Program} {w : World} {K : PySem.W.Frag} {mg : Str → Option Value} {base : Heap}
theorem sc_is_within : FnScope ["thing", "low", "high"] ["thing", "low", "high"] (defScope (top 19)) := ⟨rfl, rfl, rfl, by decide +kernel, rfl, by decide +kernel, by decide +kernel⟩
theorem F_is_within (N : Fc K mg) : FnIs P w K mg base 1 "is_within" ["thing", "low", "high"] 3 m_is_within :=
  fn_is N.d_is_within N.g_is_within sc_is_within rfl (fun _ _ _ _ _ _ us hl => match us, hl with | [_, _, _], _ => rfl) (fun cdv A outer s H E hr => 
  (pp_one (p_ret (d_and (d_isi (T' := .int) rfl N.n_isinstance rfl N.n_int bt_int (DU (d_v 0))) (d_and (d_notT (DU (d_isi (T' := .bool) rfl N.n_isinstance rfl N.n_bool bt_bool (DU (d_v 0))))) (d_one (d_chain op_le o_le op_le o_le (DO (d_v 1)) (DO (d_v 0)) (DU (d_v 2)))))))))
theorem sc_is_code : FnScope ["thing", "sign"] ["thing"] (defScope (top 20)) := ⟨rfl, rfl, rfl, by decide +kernel, rfl, by decide +kernel, by decide +kernel⟩
theorem F_is_code (N : Fc K mg) : FnIs P w K mg base 1 "is_code" ["thing"] 1 m_is_code :=
  fn_is N.d_is_code N.g_is_code sc_is_code rfl (fun _ _ _ _ _ _ us hl => match us, hl with | [_], _ => rfl) (fun cdv A outer s H E hr => 
  (pp_cons (p_if (t_w (w_or (t_not (t_tru (DU (d_isi (T' := .str) rfl N.n_isinstance rfl N.n_str bt_str (DU (d_v 0)))))) (w_or1 (t_not (t_chain op_le o_le op_le o_le (DO d_int) (DO (d_b1 o_len call_len rfl N.n_len bt_len (DU (d_v 0)))) (DU (d_gint rfl N.i_MOST_SIGNS))))))) (pp_one (p_ret d_bl)) pp_nil)
    (pp_one (p_ret (d_notT (NU (n_comp rfl sc_is_code.nd (by exact (i_any (d_v 0))) (blkOk_by (own := [("sign", 1)]) rfl) (fun _ _ _ _ _ => (g_name (i := 1) sc_is_code.nd)) (fun _ _ _ _ _ => (c_one (t_cmp (op_niA (hu65 hr)) o_ni (DO (d_v 1)) (DU d_str) (by first | exact nomark _ | rfl)))) (fun _ _ _ _ _ => (d_v 1)))))))))
theorem sc_beats : FnScope ["code", "found", "sign"] ["code"] (defScope (top 24)) := ⟨rfl, rfl, rfl, by decide +kernel, rfl, by decide +kernel, by decide +kernel⟩
theorem F_beats (N : Fc K mg) : FnIs P w K mg base 1 "beats" ["code"] 1 m_beats :=
  fn_is N.d_beats N.g_beats sc_beats rfl (fun _ _ _ _ _ _ us hl => match us, hl with | [_], _ => rfl) (fun cdv A outer s H E hr => 
  (pp_cons (p_own (i := 1) sc_beats.nd (n_lst a_nil))
    (pp_cons (p_for (js := [2]) (passes_of rfl) rfl (i_any (d_v 0)) (g_name (i := 2) sc_beats.nd) (pp_one (p_ext (i := 1) (g_op op_addA o_add (DO (g_op op_mulA o_mul (NO (n_lst (a_cons d_bl a_nil))) (DU (d_if (t_cmp (op_eqD hr.units) o_eq (DO (d_v 2)) (DU d_str) (by first | exact nomark _ | rfl)) (d_gint rfl N.i_LONG) d_int)))) (NU (n_lst (a_cons d_bl a_nil)))))))
    (pp_one (p_ret (g_op op_addA o_add (o_v 1) (DU (g_op op_mulA o_mul (NO (n_lst (a_cons d_bl a_nil))) (DU (g_op op_sub o_sub (DO (d_gint rfl N.i_REST)) (DU d_int)))))))))))
theorem sc_all_codes : FnScope ["found", "codes", "many", "code"] [] (defScope (top 28)) := ⟨rfl, rfl, rfl, by decide +kernel, rfl, by decide +kernel, by decide +kernel⟩
theorem F_all_codes (N : Fc K mg) : FnIs P w K mg base 1 "all_codes" [] 0 m_all_codes :=
  fn_is N.d_all_codes N.g_all_codes sc_all_codes rfl (fun _ _ _ _ _ _ us hl => match us, hl with | [], _ => rfl) (fun cdv A outer s H E hr => 
  (pp_cons (p_set (i := 0) sc_all_codes.nd (ND (n_lst (a_cons d_str a_nil))))
    (pp_cons (p_own (i := 1) sc_all_codes.nd (n_lst a_nil))
    (pp_cons (p_for (js := [2]) (passes_of rfl) rfl (i_r1 rfl N.n_range (a_cons (d_gint rfl N.i_MOST_SIGNS) a_nil)) (g_name (i := 2) sc_all_codes.nd) (pp_cons (p_set (i := 0) sc_all_codes.nd (g_op op_addA o_add (NO (n_comp rfl sc_all_codes.nd (by exact (i_any (d_v 0))) (blkOk_by (own := [("code", 3)]) rfl) (fun _ _ _ _ _ => (g_name (i := 3) sc_all_codes.nd)) (fun _ _ _ _ _ => c_nil) (fun _ _ _ _ _ => (g_op op_addA o_add (DO (d_v 3)) (DU d_str))))) (NU (n_comp rfl sc_all_codes.nd (by exact (i_any (d_v 0))) (blkOk_by (own := [("code", 3)]) rfl) (fun _ _ _ _ _ => (g_name (i := 3) sc_all_codes.nd)) (fun _ _ _ _ _ => c_nil) (fun _ _ _ _ _ => (g_op op_addA o_add (DO (d_v 3)) (DU d_str)))))))
    (pp_one (p_ext (i := 1) (d_v 0)))))
    (pp_one (p_frz 1 (p_ret (d_v 1))))))))
theorem sc__law_cell : FnScope ["_law_script", "_law_k"] ["_law_script", "_law_k"] (defScope (top 66)) := ⟨rfl, rfl, rfl, by decide +kernel, rfl, by decide +kernel, by decide +kernel⟩
theorem F__law_cell (N : Fc K mg) : FnIs P w K mg base 1 "_law_cell" ["_law_script", "_law_k"] 2 m__law_cell :=
  fn_is N.d__law_cell N.g__law_cell sc__law_cell rfl (fun _ _ _ _ _ _ us hl => match us, hl with | [_, _], _ => rfl) (fun cdv A outer s H E hr => 
  (pp_cons (p_if (t_cmp op_lt o_lt (DO (d_v 1)) (DU (d_b1 o_len call_len rfl N.n_len bt_len (DU (d_v 0)))) (by first | exact nomark _ | rfl)) (pp_one (p_ret (d_ix (DO (d_v 0)) (DU (d_v 1))))) pp_nil)
    (pp_one (p_ret d_int))))
theorem sc__law_mix : FnScope ["_law_cell_here", "_law_prime", "_law_many"] ["_law_cell_here", "_law_prime", "_law_many"] (defScope (top 67)) := ⟨rfl, rfl, rfl, by decide +kernel, rfl, by decide +kernel, by decide +kernel⟩
theorem F__law_mix (N : Fc K mg) : FnIs P w K mg base 1 "_law_mix" ["_law_cell_here", "_law_prime", "_law_many"] 3 m__law_mix :=
  fn_is N.d__law_mix N.g__law_mix sc__law_mix rfl (fun _ _ _ _ _ _ us hl => match us, hl with | [_, _, _], _ => rfl) (fun cdv A outer s H E hr => 
  (pp_one (p_ret (g_op op_mod o_mod (DO (g_op op_mod o_mod (DO (g_op op_pow o_pow (DO (g_op op_mod o_mod (DO (g_op op_mulA o_mul (DO (d_v 0)) (DU d_int))) (DU (d_v 1)))) (DU d_int))) (DU (d_v 1)))) (DU (d_v 2))))))
theorem sc__law_whole : FnScope ["_law_found"] ["_law_found"] (defScope (top 68)) := ⟨rfl, rfl, rfl, by decide +kernel, rfl, by decide +kernel, by decide +kernel⟩
theorem F__law_whole (N : Fc K mg) : FnIs P w K mg base 1 "_law_whole" ["_law_found"] 1 m__law_whole :=
  fn_is N.d__law_whole N.g__law_whole sc__law_whole rfl (fun _ _ _ _ _ _ us hl => match us, hl with | [_], _ => rfl) (fun cdv A outer s H E hr => 
  (pp_one (p_ret (d_and (d_isi (T' := .int) rfl N.n_isinstance rfl N.n_int bt_int (DU (d_v 0))) (d_one (d_notT (DU (d_isi (T' := .bool) rfl N.n_isinstance rfl N.n_bool bt_bool (DU (d_v 0))))))))))
theorem sc__law_seed : FnScope ["_law_seed_here", "_law_k"] ["_law_seed_here", "_law_k"] (defScope (top 69)) := ⟨rfl, rfl, rfl, by decide +kernel, rfl, by decide +kernel, by decide +kernel⟩
theorem F__law_seed (N : Fc K mg) : FnIs P w K mg base 1 "_law_seed" ["_law_seed_here", "_law_k"] 2 m__law_seed :=
  fn_is N.d__law_seed N.g__law_seed sc__law_seed rfl (fun _ _ _ _ _ _ us hl => match us, hl with | [_, _], _ => rfl) (fun cdv A outer s H E hr => 
  (pp_one (p_ret (g_op op_mod o_mod (DO (g_op op_pow o_pow (DO (g_op op_mod o_mod (DO (g_op op_addA o_add (DO (g_op op_addA o_add (DO (g_op op_mulA o_mul (DO (d_v 0)) (DU d_int))) (DU (g_op op_mulA o_mul (DO d_int) (DU (d_v 1)))))) (DU d_int))) (DU d_int))) (DU d_int))) (DU d_int)))))
theorem sc__law_pick : FnScope ["_law_seed_here", "_law_many"] ["_law_seed_here", "_law_many"] (defScope (top 70)) := ⟨rfl, rfl, rfl, by decide +kernel, rfl, by decide +kernel, by decide +kernel⟩
theorem F__law_pick (N : Fc K mg) : FnIs P w K mg base 1 "_law_pick" ["_law_seed_here", "_law_many"] 2 m__law_pick :=
  fn_is N.d__law_pick N.g__law_pick sc__law_pick rfl (fun _ _ _ _ _ _ us hl => match us, hl with | [_, _], _ => rfl) (fun cdv A outer s H E hr => 
  (pp_one (p_ret (g_op op_mod o_mod (DO (g_op op_fdiv o_fdiv (DO (d_v 0)) (DU d_int))) (DU (d_v 1))))))
theorem sc__law_beats : FnScope ["_law_code_here", "_law_found", "_law_sign"] ["_law_code_here"] (defScope (top 73)) := ⟨rfl, rfl, rfl, by decide +kernel, rfl, by decide +kernel, by decide +kernel⟩
theorem F__law_beats (N : Fc K mg) : FnIs P w K mg base 1 "_law_beats" ["_law_code_here"] 1 m__law_beats :=
  fn_is N.d__law_beats N.g__law_beats sc__law_beats rfl (fun _ _ _ _ _ _ us hl => match us, hl with | [_], _ => rfl) (fun cdv A outer s H E hr => 
  (pp_cons (p_set (i := 1) sc__law_beats.nd (ND (n_lst a_nil)))
    (pp_cons (p_for (js := [2]) (passes_of rfl) rfl (i_any (d_v 0)) (g_name (i := 2) sc__law_beats.nd) (pp_one (p_set (i := 1) sc__law_beats.nd (g_op op_addA o_add (DO (g_op op_addA o_add (DO (d_v 1)) (DU (g_op op_mulA o_mul (NO (n_lst (a_cons d_bl a_nil))) (DU (d_lit (kvs := [("s", .int 1), ("l", .int 3)]) hr (pps_cons pe_str pe_int (pps_cons pe_str pe_int pps_nil)) (d_v 2))))))) (NU (n_lst (a_cons d_bl a_nil)))))))
    (pp_one (p_ret (g_op op_addA o_add (DO (d_v 1)) (NU (n_lst (a_cons d_bl (a_cons d_bl (a_cons d_bl a_nil)))))))))))
theorem sc_is_setting : FnScope ["thing", "code"] ["thing"] (defScope (top 21)) := ⟨rfl, rfl, rfl, by decide +kernel, rfl, by decide +kernel, by decide +kernel⟩
theorem F_is_setting (N : Fc K mg) : FnIs P w K mg base 2 "is_setting" ["thing"] 1 m_is_setting :=
  fn_is N.d_is_setting N.g_is_setting sc_is_setting rfl (fun _ _ _ _ _ _ us hl => match us, hl with | [_], _ => rfl) (fun cdv A outer s H E hr => 
  (pp_cons (p_if (t_w (w_or (t_not (t_tru (DU (d_isi (T' := .tuple) rfl N.n_isinstance rfl N.n_tuple bt_tuple (DU (d_v 0)))))) (w_or (t_cmp (op_neD hr.units) o_ne (DO (d_b1 o_len call_len rfl N.n_len bt_len (DU (d_v 0)))) (DU d_int) (by first | exact nomark _ | rfl)) (w_or1 (t_not (t_tru (DU (d_isi (T' := .tuple) rfl N.n_isinstance rfl N.n_tuple bt_tuple (DU (d_ix (DO (d_v 0)) (DU d_int))))))))))) (pp_one (p_ret d_bl)) pp_nil)
    (pp_cons (p_if (t_w (w_or (t_not (t_chain op_le o_le op_le o_le (DO d_int) (DO (d_b1 o_len call_len rfl N.n_len bt_len (DU (d_ix (DO (d_v 0)) (DU d_int))))) (DU d_int))) (w_or1 (t_tru (NU (n_comp rfl sc_is_setting.nd (by exact (i_any (d_ix (DO (d_v 0)) (DU d_int)))) (blkOk_by (own := [("code", 1)]) rfl) (fun _ _ _ _ _ => (g_name (i := 1) sc_is_setting.nd)) (fun _ _ _ _ _ => (c_one (t_not (t_tru (DU (d_fn (F_is_code N) hr (by decide) takes0 (a_cons (d_v 1) a_nil))))))) (fun _ _ _ _ _ => (d_v 1)))))))) (pp_one (p_ret d_bl)) pp_nil)
    (pp_cons (p_if (t_cmp (op_neD hr.units) o_ne (DO (d_lenSet rfl rfl N.n_len rfl N.n_set (d_ix (DO (d_v 0)) (DU d_int)))) (DU (d_b1 o_len call_len rfl N.n_len bt_len (DU (d_ix (DO (d_v 0)) (DU d_int))))) (by first | exact nomark _ | rfl)) (pp_one (p_ret d_bl)) pp_nil)
    (pp_one (p_ret (d_and (d_isi (T' := .bool) rfl N.n_isinstance rfl N.n_bool bt_bool (DU (d_ix (DO (d_v 0)) (DU d_int)))) (d_one (d_fn (F_is_within N) hr (by decide) (takes_of rfl rfl rfl rfl) (a_cons (d_ix (DO (d_v 0)) (DU d_int)) (a_cons d_int (a_cons d_int a_nil))))))))))))
theorem sc_look_house : FnScope ["setting", "house"] ["setting", "house"] (defScope (top 23)) := ⟨rfl, rfl, rfl, by decide +kernel, rfl, by decide +kernel, by decide +kernel⟩
theorem F_look_house (N : Fc K mg) : FnIs P w K mg base 2 "look_house" ["setting", "house"] 2 m_look_house :=
  fn_is N.d_look_house N.g_look_house sc_look_house rfl (fun _ _ _ _ _ _ us hl => match us, hl with | [_, _], _ => rfl) (fun cdv A outer s H E hr => 
  (pp_one (p_if (t_not (t_tru (DU (d_fn (F_is_within N) hr (by decide) (takes_of rfl rfl rfl rfl) (a_cons (d_v 1) (a_cons d_int (a_cons (g_op op_sub o_sub (DO (d_b1 o_len call_len rfl N.n_len bt_len (DU (d_ix (DO (d_v 0)) (DU d_int))))) (DU d_int)) a_nil))))))) (pp_one (p_raiseX N.x_NoHouse rfl (takes_of rfl rfl rfl rfl))) pp_nil)))
theorem sc_ring : FnScope ["code", "ticks", "one", "tick"] ["code", "ticks"] (defScope (top 25)) := ⟨rfl, rfl, rfl, by decide +kernel, rfl, by decide +kernel, by decide +kernel⟩
theorem F_ring (N : Fc K mg) : FnIs P w K mg base 2 "ring" ["code", "ticks"] 2 m_ring :=
  fn_is N.d_ring N.g_ring sc_ring rfl (fun _ _ _ _ _ _ us hl => match us, hl with | [_, _], _ => rfl) (fun cdv A outer s H E hr => 
  (pp_cons (p_if (t_not (t_tru (DU (d_fn (F_is_code N) hr (by decide) (takes_of rfl rfl rfl rfl) (a_cons (d_v 0) a_nil))))) (pp_one (p_raiseX N.x_NoCode rfl (takes_of rfl rfl rfl rfl))) pp_nil)
    (pp_cons (p_if (t_not (t_tru (DU (d_fn (F_is_within N) hr (by decide) (takes_of rfl rfl rfl rfl) (a_cons (d_v 1) (a_cons d_int (a_cons d_int a_nil))))))) (pp_one (p_raiseX N.x_NoCount rfl (takes_of rfl rfl rfl rfl))) pp_nil)
    (pp_cons (p_set (i := 2) sc_ring.nd (d_fn (F_beats N) hr (by decide) (takes_of rfl rfl rfl rfl) (a_cons (d_v 0) a_nil)))
    (pp_one (p_ret (ND (n_comp rfl sc_ring.nd (by exact (i_r1 rfl N.n_range (a_cons (d_v 1) a_nil))) (blkOk_by (own := [("tick", 3)]) rfl) (fun _ _ _ _ _ => (g_name (i := 3) sc_ring.nd)) (fun _ _ _ _ _ => c_nil) (fun _ _ _ _ _ => (d_ix (DO (d_v 2)) (DU (g_op op_mod o_mod (DO (d_v 3)) (DU (d_b1 o_len call_len rfl N.n_len bt_len (DU (d_v 2))))))))))))))))
theorem sc_ticks_for : FnScope ["code"] ["code"] (defScope (top 30)) := ⟨rfl, rfl, rfl, by decide +kernel, rfl, by decide +kernel, by decide +kernel⟩
theorem F_ticks_for (N : Fc K mg) : FnIs P w K mg base 2 "ticks_for" ["code"] 1 m_ticks_for :=
  fn_is N.d_ticks_for N.g_ticks_for sc_ticks_for rfl (fun _ _ _ _ _ _ us hl => match us, hl with | [_], _ => rfl) (fun cdv A outer s H E hr => 
  (pp_cons (p_if (t_not (t_tru (DU (d_fn (F_is_code N) hr (by decide) (takes_of rfl rfl rfl rfl) (a_cons (d_v 0) a_nil))))) (pp_one (p_raiseX N.x_NoCode rfl (takes_of rfl rfl rfl rfl))) pp_nil)
    (pp_one (p_ret (d_b1 o_len call_len rfl N.n_len bt_len (DU (d_fn (F_beats N) hr (by decide) (takes_of rfl rfl rfl rfl) (a_cons (d_v 0) a_nil))))))))
theorem sc_book : FnScope ["ticks", "code"] [] (defScope (top 31)) := ⟨rfl, rfl, rfl, by decide +kernel, rfl, by decide +kernel, by decide +kernel⟩
theorem F_book (N : Fc K mg) : FnIs P w K mg base 2 "book" [] 0 m_book :=
  fn_is N.d_book N.g_book sc_book rfl (fun _ _ _ _ _ _ us hl => match us, hl with | [], _ => rfl) (fun cdv A outer s H E hr => 
  (pp_one (p_ret (ND (n_comp rfl sc_book.nd (by exact (i_any (ND (d_b1 o_sortedPS cr_sortedPS rfl N.n_sorted bt_sorted (NU (n_comp rfl sc_book.nd (by exact (i_any (d_fn0 (F_all_codes N) hr (by decide) (takes_of rfl rfl rfl rfl)))) (blkOk_by (own := [("code", 1)]) rfl) (fun _ _ _ _ _ => (g_name (i := 1) sc_book.nd)) (fun _ _ _ _ _ => c_nil) (fun _ _ _ _ _ => (d_tup (a_cons (d_b1 o_len call_len rfl N.n_len bt_len (DU (d_fn (F_beats N) hr (by decide) takes0 (a_cons (d_v 1) a_nil)))) (a_cons (d_v 1) a_nil)))))))))) (blkOk_by (own := [("ticks", 0), ("code", 1)]) rfl) (fun _ _ _ _ _ => (g_tup rfl (g_cons (g_name (i := 0) sc_book.nd) (g_cons (g_name (i := 1) sc_book.nd) g_nil)))) (fun _ _ _ _ _ => c_nil) (fun _ _ _ _ _ => (d_v 1)))))))
theorem sc_whole_ticks : FnScope ["uses", "codes", "one", "code", "often"] ["uses", "codes"] (defScope (top 34)) := ⟨rfl, rfl, rfl, by decide +kernel, rfl, by decide +kernel, by decide +kernel⟩
theorem F_whole_ticks (N : Fc K mg) : FnIs P w K mg base 2 "whole_ticks" ["uses", "codes"] 2 m_whole_ticks :=
  fn_is N.d_whole_ticks N.g_whole_ticks sc_whole_ticks rfl (fun _ _ _ _ _ _ us hl => match us, hl with | [_, _], _ => rfl) (fun cdv A outer s H E hr => 
  (pp_cons (p_if (t_w (w_or (t_not (t_tru (DU (d_isi (T' := .list) rfl N.n_isinstance rfl N.n_list bt_list (DU (d_v 0)))))) (w_or (t_not (t_chain op_le o_le op_le o_le (DO d_int) (DO (d_b1 o_len call_len rfl N.n_len bt_len (DU (d_v 0)))) (DU d_int))) (w_or1 (t_tru (NU (n_comp rfl sc_whole_ticks.nd (by exact (i_any (d_v 0))) (blkOk_by (own := [("one", 2)]) rfl) (fun _ _ _ _ _ => (g_name (i := 2) sc_whole_ticks.nd)) (fun _ _ _ _ _ => (c_one (t_not (t_tru (DU (d_fn (F_is_within N) hr (by decide) takes0 (a_cons (d_v 2) (a_cons d_int (a_cons d_int a_nil))))))))) (fun _ _ _ _ _ => (d_v 2))))))))) (pp_one (p_raiseX N.x_NoCount rfl (takes_of rfl rfl rfl rfl))) pp_nil)
    (pp_cons (p_if (t_w (w_or (t_not (t_tru (DU (d_isi (T' := .tuple) rfl N.n_isinstance rfl N.n_tuple bt_tuple (DU (d_v 1)))))) (w_or (t_cmp (op_neD hr.units) o_ne (DO (d_b1 o_len call_len rfl N.n_len bt_len (DU (d_v 1)))) (DU (d_b1 o_len call_len rfl N.n_len bt_len (DU (d_v 0)))) (by first | exact nomark _ | rfl)) (w_or1 (t_tru (NU (n_comp rfl sc_whole_ticks.nd (by exact (i_any (d_v 1))) (blkOk_by (own := [("code", 3)]) rfl) (fun _ _ _ _ _ => (g_name (i := 3) sc_whole_ticks.nd)) (fun _ _ _ _ _ => (c_one (t_not (t_tru (DU (d_fn (F_is_code N) hr (by decide) takes0 (a_cons (d_v 3) a_nil))))))) (fun _ _ _ _ _ => (d_v 3))))))))) (pp_one (p_raiseX N.x_NoCode rfl (takes_of rfl rfl rfl rfl))) pp_nil)
    (pp_cons (p_if (t_cmp (op_neD hr.units) o_ne (DO (d_lenSet rfl rfl N.n_len rfl N.n_set (d_v 1))) (DU (d_b1 o_len call_len rfl N.n_len bt_len (DU (d_v 1)))) (by first | exact nomark _ | rfl)) (pp_one (p_raiseX N.x_NoCode rfl (takes_of rfl rfl rfl rfl))) pp_nil)
    (pp_one (p_ret (d_b1 o_sum (cr_sum rfl) rfl N.n_sum bt_sum (NU (n_comp rfl sc_whole_ticks.nd (by exact (i_zip rfl N.n_zip (a_cons (d_v 0) (a_cons (d_v 1) a_nil)))) (blkOk_by (own := [("often", 4), ("code", 3)]) rfl) (fun _ _ _ _ _ => (g_tup rfl (g_cons (g_name (i := 4) sc_whole_ticks.nd) (g_cons (g_name (i := 3) sc_whole_ticks.nd) g_nil)))) (fun _ _ _ _ _ => c_nil) (fun _ _ _ _ _ => (g_op op_mulA o_mul (DO (d_v 4)) (DU (d_b1 o_len call_len rfl N.n_len bt_len (DU (d_fn (F_beats N) hr (by decide) takes0 (a_cons (d_v 3) a_nil))))))))))))))))
theorem sc__law_code : FnScope ["_law_seed_here", "_law_k"] ["_law_seed_here"] (defScope (top 71)) := ⟨rfl, rfl, rfl, by decide +kernel, rfl, by decide +kernel, by decide +kernel⟩
theorem F__law_code (N : Fc K mg) : FnIs P w K mg base 2 "_law_code" ["_law_seed_here"] 1 m__law_code :=
  fn_is N.d__law_code N.g__law_code sc__law_code rfl (fun _ _ _ _ _ _ us hl => match us, hl with | [_], _ => rfl) (fun cdv A outer s H E hr => 
  (pp_one (p_ret (d_join d_str (NU (n_comp rfl sc__law_code.nd (by exact (i_r1 rfl N.n_range (a_cons (g_op op_addA o_add (DO d_int) (DU (g_op op_mod o_mod (DO (g_op op_fdiv o_fdiv (DO (d_v 0)) (DU d_int))) (DU d_int)))) a_nil))) (blkOk_by (own := [("_law_k", 1)]) rfl) (fun _ _ _ _ _ => (g_name (i := 1) sc__law_code.nd)) (fun _ _ _ _ _ => c_nil) (fun _ _ _ _ _ => (d_ix (DO d_str) (DU (d_fn (F__law_pick N) hr (by decide) takes0 (a_cons (d_fn (F__law_seed N) hr (by decide) takes0 (a_cons (d_v 0) (a_cons (d_v 1) a_nil))) (a_cons d_int a_nil))))))))))))
theorem sc__law_all_codes : FnScope ["_law_found", "_law_row", "_law_k", "_law_code_here", "_law_ticks"] [] (defScope (top 74)) := ⟨rfl, rfl, rfl, by decide +kernel, rfl, by decide +kernel, by decide +kernel⟩
theorem F__law_all_codes (N : Fc K mg) : FnIs P w K mg base 2 "_law_all_codes" [] 0 m__law_all_codes :=
  fn_is N.d__law_all_codes N.g__law_all_codes sc__law_all_codes rfl (fun _ _ _ _ _ _ us hl => match us, hl with | [], _ => rfl) (fun cdv A outer s H E hr => 
  (pp_cons (p_par (i := 0) (j := 1) rfl sc__law_all_codes.nd (a_cons (ND (n_lst a_nil)) (a_cons (ND (n_lst (a_cons d_str a_nil))) a_nil)))
    (pp_cons (p_for (js := [2]) (passes_of rfl) rfl (i_r1 rfl N.n_range (a_cons d_int a_nil)) (g_name (i := 2) sc__law_all_codes.nd) (pp_cons (p_set (i := 1) sc__law_all_codes.nd (g_op op_addA o_add (NO (n_comp rfl sc__law_all_codes.nd (by exact (i_any (d_v 1))) (blkOk_by (own := [("_law_code_here", 3)]) rfl) (fun _ _ _ _ _ => (g_name (i := 3) sc__law_all_codes.nd)) (fun _ _ _ _ _ => c_nil) (fun _ _ _ _ _ => (g_op op_addA o_add (DO (d_v 3)) (DU d_str))))) (NU (n_comp rfl sc__law_all_codes.nd (by exact (i_any (d_v 1))) (blkOk_by (own := [("_law_code_here", 3)]) rfl) (fun _ _ _ _ _ => (g_name (i := 3) sc__law_all_codes.nd)) (fun _ _ _ _ _ => c_nil) (fun _ _ _ _ _ => (g_op op_addA o_add (DO (d_v 3)) (DU d_str)))))))
    (pp_one (p_set (i := 0) sc__law_all_codes.nd (g_op op_addA o_add (DO (d_v 0)) (DU (d_v 1)))))))
    (pp_one (p_ret (ND (n_comp rfl sc__law_all_codes.nd (by exact (i_any (ND (d_b1 o_sortedPS cr_sortedPS rfl N.n_sorted bt_sorted (NU (n_comp rfl sc__law_all_codes.nd (by exact (i_any (d_v 0))) (blkOk_by (own := [("_law_code_here", 3)]) rfl) (fun _ _ _ _ _ => (g_name (i := 3) sc__law_all_codes.nd)) (fun _ _ _ _ _ => c_nil) (fun _ _ _ _ _ => (d_tup (a_cons (d_b1 o_len call_len rfl N.n_len bt_len (DU (d_fn (F__law_beats N) hr (by decide) takes0 (a_cons (d_v 3) a_nil)))) (a_cons (d_v 3) a_nil)))))))))) (blkOk_by (own := [("_law_ticks", 4), ("_law_code_here", 3)]) rfl) (fun _ _ _ _ _ => (g_tup rfl (g_cons (g_name (i := 4) sc__law_all_codes.nd) (g_cons (g_name (i := 3) sc__law_all_codes.nd) g_nil)))) (fun _ _ _ _ _ => c_nil) (fun _ _ _ _ _ => (d_v 3)))))))))
theorem sc_look : FnScope ["setting"] ["setting"] (defScope (top 22)) := ⟨rfl, rfl, rfl, by decide +kernel, rfl, by decide +kernel, by decide +kernel⟩
theorem F_look (N : Fc K mg) : FnIs P w K mg base 3 "look" ["setting"] 1 m_look :=
  fn_is N.d_look N.g_look sc_look rfl (fun _ _ _ _ _ _ us hl => match us, hl with | [_], _ => rfl) (fun cdv A outer s H E hr => 
  (pp_one (p_if (t_not (t_tru (DU (d_fn (F_is_setting N) hr (by decide) (takes_of rfl rfl rfl rfl) (a_cons (d_v 0) a_nil))))) (pp_one (p_raiseX N.x_NoSetting rfl (takes_of rfl rfl rfl rfl))) pp_nil)))
theorem sc_code_at : FnScope ["number", "some"] ["number"] (defScope (top 32)) := ⟨rfl, rfl, rfl, by decide +kernel, rfl, by decide +kernel, by decide +kernel⟩
theorem F_code_at (N : Fc K mg) : FnIs P w K mg base 3 "code_at" ["number"] 1 m_code_at :=
  fn_is N.d_code_at N.g_code_at sc_code_at rfl (fun _ _ _ _ _ _ us hl => match us, hl with | [_], _ => rfl) (fun cdv A outer s H E hr => 
  (pp_cons (p_set (i := 1) sc_code_at.nd (d_fn0 (F_book N) hr (by decide) (takes_of rfl rfl rfl rfl)))
    (pp_cons (p_if (t_not (t_tru (DU (d_fn (F_is_within N) hr (by decide) (takes_of rfl rfl rfl rfl) (a_cons (d_v 0) (a_cons d_int (a_cons (g_op op_sub o_sub (DO (d_b1 o_len call_len rfl N.n_len bt_len (DU (d_v 1)))) (DU d_int)) a_nil))))))) (pp_one (p_raiseX N.x_NoCount rfl (takes_of rfl rfl rfl rfl))) pp_nil)
    (pp_one (p_ret (d_ix (DO (d_v 1)) (DU (d_v 0))))))))
theorem sc_number_of_code : FnScope ["code"] ["code"] (defScope (top 33)) := ⟨rfl, rfl, rfl, by decide +kernel, rfl, by decide +kernel, by decide +kernel⟩
theorem F_number_of_code (N : Fc K mg) : FnIs P w K mg base 3 "number_of_code" ["code"] 1 m_number_of_code :=
  fn_is N.d_number_of_code N.g_number_of_code sc_number_of_code rfl (fun _ _ _ _ _ _ us hl => match us, hl with | [_], _ => rfl) (fun cdv A outer s H E hr => 
  (pp_cons (p_if (t_not (t_tru (DU (d_fn (F_is_code N) hr (by decide) (takes_of rfl rfl rfl rfl) (a_cons (d_v 0) a_nil))))) (pp_one (p_raiseX N.x_NoCode rfl (takes_of rfl rfl rfl rfl))) pp_nil)
    (pp_one (p_ret (d_index hr (d_fn0 (F_book N) hr (by decide) (takes_of rfl rfl rfl rfl)) (d_v 0))))))
theorem sc__law_setting : FnScope ["_law_seed_here", "_law_codes", "_law_k", "_law_code_here"] ["_law_seed_here"] (defScope (top 72)) := ⟨rfl, rfl, rfl, by decide +kernel, rfl, by decide +kernel, by decide +kernel⟩
theorem F__law_setting (N : Fc K mg) : FnIs P w K mg base 3 "_law_setting" ["_law_seed_here"] 1 m__law_setting :=
  fn_is N.d__law_setting N.g__law_setting sc__law_setting rfl (fun _ _ _ _ _ _ us hl => match us, hl with | [_], _ => rfl) (fun cdv A outer s H E hr => 
  (pp_cons (p_own (i := 1) sc__law_setting.nd (n_lst a_nil))
    (pp_cons (p_for (js := [2]) (passes_of rfl) rfl (i_r1 rfl N.n_range (a_cons (g_op op_addA o_add (DO d_int) (DU (g_op op_mod o_mod (DO (g_op op_fdiv o_fdiv (DO (d_v 0)) (DU d_int))) (DU d_int)))) a_nil)) (g_name (i := 2) sc__law_setting.nd) (pp_cons (p_set (i := 3) sc__law_setting.nd (d_fn (F__law_code N) hr (by decide) (takes_of rfl rfl rfl rfl) (a_cons (d_fn (F__law_seed N) hr (by decide) (takes_of rfl rfl rfl rfl) (a_cons (d_v 0) (a_cons (g_op op_addA o_add (DO d_int) (DU (d_v 2))) a_nil))) a_nil)))
    (pp_one (p_if (t_cmp (op_niA (hu65 hr)) o_ni (DO (d_v 3)) (OU (o_v 1)) (by first | exact nomark _ | rfl)) (pp_one (p_app (i := 1) (d_v 3))) pp_nil))))
    (pp_cons (p_if (t_cmp op_lt o_lt (DO (d_b1 o_len call_len rfl N.n_len bt_len (OU (o_v 1)))) (DU d_int) (by first | exact nomark _ | rfl)) (pp_one (p_own (i := 1) sc__law_setting.nd (g_op op_cat o_cat (o_v 1) (DU (d_sl (NO (n_comp rfl sc__law_setting.nd (by exact (i_any (d_tup (a_cons d_str (a_cons d_str a_nil))))) (blkOk_by (own := [("_law_code_here", 3)]) rfl) (fun _ _ _ _ _ => (g_name (i := 3) sc__law_setting.nd)) (fun _ _ _ _ _ => (c_one (t_cmp (op_niA (hu65 hr)) o_ni (DO (d_v 3)) (OU (o_v 1)) (by first | exact nomark _ | rfl)))) (fun _ _ _ _ _ => (d_v 3)))) s_none (s_some d_int)))))) pp_nil)
    (pp_one (p_ret (d_tup (a_cons (d_t1 o_tuple call_tuple_of rfl N.n_tuple bt_tuple (OU (o_v 1))) (a_cons (g_cmp (op_eqD hr.units) o_eq (DO (g_op op_mod o_mod (DO (g_op op_fdiv o_fdiv (DO (d_v 0)) (DU d_int))) (DU d_int))) (DU d_int) (by first | exact nomark _ | rfl)) (a_cons (g_op op_addA o_add (DO d_int) (DU (d_fn (F__law_pick N) hr (by decide) (takes_of rfl rfl rfl rfl) (a_cons (d_fn (F__law_seed N) hr (by decide) (takes_of rfl rfl rfl rfl) (a_cons (d_v 0) (a_cons d_int a_nil))) (a_cons (d_ix (NO (n_lst (a_cons d_int (a_cons d_int a_nil)))) (DU (g_op op_mod o_mod (DO (g_op op_fdiv o_fdiv (DO (d_v 0)) (DU d_int))) (DU d_int)))) a_nil))))) a_nil))))))))))
theorem sc_meant : FnScope ["setting", "row", "one", "house", "code"] ["setting", "row"] (defScope (top 26)) := ⟨rfl, rfl, rfl, by decide +kernel, rfl, by decide +kernel, by decide +kernel⟩
theorem F_meant (N : Fc K mg) : FnIs P w K mg base 4 "meant" ["setting", "row"] 2 m_meant :=
  fn_is N.d_meant N.g_meant sc_meant rfl (fun _ _ _ _ _ _ us hl => match us, hl with | [_, _], _ => rfl) (fun cdv A outer s H E hr => 
  (pp_cons (p_expr (d_fn (F_look N) hr (by decide) (takes_of rfl rfl rfl rfl) (a_cons (d_v 0) a_nil)))
    (pp_cons (p_if (t_w (w_or (t_not (t_tru (DU (d_isi (T' := .list) rfl N.n_isinstance rfl N.n_list bt_list (DU (d_v 1)))))) (w_or (t_cmp op_gt o_gt (DO (d_b1 o_len call_len rfl N.n_len bt_len (DU (d_v 1)))) (DU d_int) (by first | exact nomark _ | rfl)) (w_or1 (t_tru (NU (n_comp rfl sc_meant.nd (by exact (i_any (d_v 1))) (blkOk_by (own := [("one", 2)]) rfl) (fun _ _ _ _ _ => (g_name (i := 2) sc_meant.nd)) (fun _ _ _ _ _ => (c_one (t_not (t_tru (DU (d_isi (T' := .bool) rfl N.n_isinstance rfl N.n_bool bt_bool (DU (d_v 2)))))))) (fun _ _ _ _ _ => (d_v 2))))))))) (pp_one (p_raiseX N.x_NoCode rfl (takes_of rfl rfl rfl rfl))) pp_nil)
    (pp_one (p_ret (ND (n_comp rfl sc_meant.nd (by exact (i_enA rfl N.n_enumerate (a_cons (d_ix (DO (d_v 0)) (DU d_int)) a_nil))) (blkOk_by (own := [("house", 3), ("code", 4)]) rfl) (fun _ _ _ _ _ => (g_tup rfl (g_cons (g_name (i := 3) sc_meant.nd) (g_cons (g_name (i := 4) sc_meant.nd) g_nil)))) (fun _ _ _ _ _ => (c_one (t_cmp (op_eqD hr.units) o_eq (DO (d_fn (F_ring N) hr (by decide) takes0 (a_cons (d_v 4) (a_cons (d_b1 o_len call_len rfl N.n_len bt_len (DU (d_v 1))) a_nil)))) (DU (d_v 1)) (by first | exact nomark _ | rfl)))) (fun _ _ _ _ _ => (d_v 3)))))))))
theorem sc_apart_behind : FnScope ["setting", "one", "other", "mine", "theirs", "ticks"] ["setting", "one", "other"] (defScope (top 37)) := ⟨rfl, rfl, rfl, by decide +kernel, rfl, by decide +kernel, by decide +kernel⟩
theorem F_apart_behind (N : Fc K mg) : FnIs P w K mg base 4 "apart_behind" ["setting", "one", "other"] 3 m_apart_behind :=
  fn_is N.d_apart_behind N.g_apart_behind sc_apart_behind rfl (fun _ _ _ _ _ _ us hl => match us, hl with | [_, _, _], _ => rfl) (fun cdv A outer s H E hr => 
  (pp_cons (p_expr (d_fn (F_look N) hr (by decide) (takes_of rfl rfl rfl rfl) (a_cons (d_v 0) a_nil)))
    (pp_cons (p_expr (d_fn (F_look_house N) hr (by decide) (takes_of rfl rfl rfl rfl) (a_cons (d_v 0) (a_cons (d_v 1) a_nil))))
    (pp_cons (p_expr (d_fn (F_look_house N) hr (by decide) (takes_of rfl rfl rfl rfl) (a_cons (d_v 0) (a_cons (d_v 2) a_nil))))
    (pp_cons (p_if (t_cmp (op_eqD hr.units) o_eq (DO (d_v 1)) (DU (d_v 2)) (by first | exact nomark _ | rfl)) (pp_one (p_raiseX N.x_NoHouse rfl (takes_of rfl rfl rfl rfl))) pp_nil)
    (pp_cons (p_set (i := 3) sc_apart_behind.nd (d_fn (F_ring N) hr (by decide) (takes_of rfl rfl rfl rfl) (a_cons (d_ix (DO (d_ix (DO (d_v 0)) (DU d_int))) (DU (d_v 1))) (a_cons (d_gint rfl N.i_MOST_TICKS) a_nil))))
    (pp_cons (p_set (i := 4) sc_apart_behind.nd (d_fn (F_ring N) hr (by decide) (takes_of rfl rfl rfl rfl) (a_cons (d_ix (DO (d_ix (DO (d_v 0)) (DU d_int))) (DU (d_v 2))) (a_cons (d_gint rfl N.i_MOST_TICKS) a_nil))))
    (pp_cons (p_set (i := 5) sc_apart_behind.nd d_int)
    (pp_cons (p_while (n := 2000) (passes_of rfl) (t_cmp (op_eqD hr.units) o_eq (DO (d_sl (DO (d_v 3)) s_none (s_some (d_v 5)))) (DU (d_sl (DO (d_v 4)) s_none (s_some (d_v 5)))) (by first | exact nomark _ | rfl)) (pp_one (p_augAdd (i := 5) sc_apart_behind.nd d_int)))
    (pp_one (p_ret (d_v 5))))))))))))
theorem sc_mistaken : FnScope ["setting", "ticks", "rows", "code", "found", "other", "one"] ["setting", "ticks"] (defScope (top 38)) := ⟨rfl, rfl, rfl, by decide +kernel, rfl, by decide +kernel, by decide +kernel⟩
theorem F_mistaken (N : Fc K mg) : FnIs P w K mg base 4 "mistaken" ["setting", "ticks"] 2 m_mistaken :=
  fn_is N.d_mistaken N.g_mistaken sc_mistaken rfl (fun _ _ _ _ _ _ us hl => match us, hl with | [_, _], _ => rfl) (fun cdv A outer s H E hr => 
  (pp_cons (p_expr (d_fn (F_look N) hr (by decide) (takes_of rfl rfl rfl rfl) (a_cons (d_v 0) a_nil)))
    (pp_cons (p_if (t_not (t_tru (DU (d_fn (F_is_within N) hr (by decide) (takes_of rfl rfl rfl rfl) (a_cons (d_v 1) (a_cons d_int (a_cons (d_gint rfl N.i_MOST_TICKS) a_nil))))))) (pp_one (p_raiseX N.x_NoCount rfl (takes_of rfl rfl rfl rfl))) pp_nil)
    (pp_cons (p_set (i := 2) sc_mistaken.nd (ND (n_comp rfl sc_mistaken.nd (by exact (i_any (d_ix (DO (d_v 0)) (DU d_int)))) (blkOk_by (own := [("code", 3)]) rfl) (fun _ _ _ _ _ => (g_name (i := 3) sc_mistaken.nd)) (fun _ _ _ _ _ => c_nil) (fun _ _ _ _ _ => (d_fn (F_ring N) hr (by decide) takes0 (a_cons (d_v 3) (a_cons (d_v 1) a_nil)))))))
    (pp_cons (p_own (i := 4) sc_mistaken.nd (n_lst a_nil))
    (pp_cons (p_for (js := [5]) (passes_of rfl) rfl (i_r1 rfl N.n_range (a_cons (d_b1 o_len call_len rfl N.n_len bt_len (DU (d_v 2))) a_nil)) (g_name (i := 5) sc_mistaken.nd) (pp_one (p_ext (i := 4) (ND (n_comp rfl sc_mistaken.nd (by exact (i_r1 rfl N.n_range (a_cons (d_v 5) a_nil))) (blkOk_by (own := [("one", 6)]) rfl) (fun _ _ _ _ _ => (g_name (i := 6) sc_mistaken.nd)) (fun _ _ _ _ _ => (c_one (t_cmp (op_eqD hr.units) o_eq (DO (d_ix (DO (d_v 2)) (DU (d_v 6)))) (DU (d_ix (DO (d_v 2)) (DU (d_v 5)))) (by first | exact nomark _ | rfl)))) (fun _ _ _ _ _ => (d_tup (a_cons (d_v 6) (a_cons (d_v 5) a_nil)))))))))
    (pp_one (p_ret (ND (d_b1 o_sorted call_sortedA rfl N.n_sorted bt_sorted (OU (o_v 4))))))))))))
theorem sc_sure_behind : FnScope ["setting", "house", "row", "ticks"] ["setting", "house"] (defScope (top 27)) := ⟨rfl, rfl, rfl, by decide +kernel, rfl, by decide +kernel, by decide +kernel⟩
theorem F_sure_behind (N : Fc K mg) : FnIs P w K mg base 5 "sure_behind" ["setting", "house"] 2 m_sure_behind :=
  fn_is N.d_sure_behind N.g_sure_behind sc_sure_behind rfl (fun _ _ _ _ _ _ us hl => match us, hl with | [_, _], _ => rfl) (fun cdv A outer s H E hr => 
  (pp_cons (p_expr (d_fn (F_look N) hr (by decide) (takes_of rfl rfl rfl rfl) (a_cons (d_v 0) a_nil)))
    (pp_cons (p_expr (d_fn (F_look_house N) hr (by decide) (takes_of rfl rfl rfl rfl) (a_cons (d_v 0) (a_cons (d_v 1) a_nil))))
    (pp_cons (p_set (i := 2) sc_sure_behind.nd (d_fn (F_ring N) hr (by decide) (takes_of rfl rfl rfl rfl) (a_cons (d_ix (DO (d_ix (DO (d_v 0)) (DU d_int))) (DU (d_v 1))) (a_cons d_int a_nil))))
    (pp_cons (p_set (i := 3) sc_sure_behind.nd d_int)
    (pp_cons (p_while (n := 2000) (passes_of rfl) (t_cmp (op_neD hr.units) o_ne (DO (d_fn (F_meant N) hr (by decide) (takes_of rfl rfl rfl rfl) (a_cons (d_v 0) (a_cons (d_sl (DO (d_v 2)) s_none (s_some (d_v 3))) a_nil)))) (NU (n_lst (a_cons (d_v 1) a_nil))) (by first | exact nomark _ | rfl)) (pp_one (p_augAdd (i := 3) sc_sure_behind.nd d_int)))
    (pp_one (p_ret (d_v 3)))))))))
theorem sc_all_sure_behind : FnScope ["setting", "house"] ["setting"] (defScope (top 39)) := ⟨rfl, rfl, rfl, by decide +kernel, rfl, by decide +kernel, by decide +kernel⟩
theorem F_all_sure_behind (N : Fc K mg) : FnIs P w K mg base 6 "all_sure_behind" ["setting"] 1 m_all_sure_behind :=
  fn_is N.d_all_sure_behind N.g_all_sure_behind sc_all_sure_behind rfl (fun _ _ _ _ _ _ us hl => match us, hl with | [_], _ => rfl) (fun cdv A outer s H E hr => 
  (pp_cons (p_expr (d_fn (F_look N) hr (by decide) (takes_of rfl rfl rfl rfl) (a_cons (d_v 0) a_nil)))
    (pp_one (p_ret (d_b1 o_max (cr_max rfl) rfl N.n_max bt_max (NU (n_comp rfl sc_all_sure_behind.nd (by exact (i_r1 rfl N.n_range (a_cons (d_b1 o_len call_len rfl N.n_len bt_len (DU (d_ix (DO (d_v 0)) (DU d_int)))) a_nil))) (blkOk_by (own := [("house", 1)]) rfl) (fun _ _ _ _ _ => (g_name (i := 1) sc_all_sure_behind.nd)) (fun _ _ _ _ _ => c_nil) (fun _ _ _ _ _ => (d_fn (F_sure_behind N) hr (by decide) takes0 (a_cons (d_v 0) (a_cons (d_v 1) a_nil)))))))))))
theorem sc__law_called : FnScope ["_law_which", "_law_a"] ["_law_which", "_law_a"] (defScope (top 75)) := ⟨rfl, rfl, rfl, by decide +kernel, rfl, by decide +kernel, by decide +kernel⟩
theorem F__law_called (N : Fc K mg) : FnIs P w K mg base 7 "_law_called" ["_law_which", "_law_a"] 2 m__law_called :=
  fn_is N.d__law_called N.g__law_called sc__law_called rfl (fun _ _ _ _ _ _ us hl => match us, hl with | [_, _], _ => rfl) (fun cdv A outer s H E hr => 
  (pp_cons (p_if (t_cmp op_lt o_lt (DO (d_v 0)) (DU d_int) (by first | exact nomark _ | rfl)) (pp_cons (p_if (t_cmp (op_eqD hr.units) o_eq (DO (d_v 0)) (DU d_int) (by first | exact nomark _ | rfl)) (pp_one (p_ret (d_fn (F_apart_behind N) hr (by decide) (takes_of rfl rfl rfl rfl) (a_cons (d_ix (DO (d_v 1)) (DU d_int)) (a_cons (d_ix (DO (d_v 1)) (DU d_int)) (a_cons (d_ix (DO (d_v 1)) (DU d_int)) a_nil)))))) pp_nil)
    (pp_one (p_ret (d_if (t_cmp (op_eqD hr.units) o_eq (DO (d_v 0)) (DU d_int) (by first | exact nomark _ | rfl)) (d_fn (F_mistaken N) hr (by decide) (takes_of rfl rfl rfl rfl) (a_cons (d_ix (DO (d_v 1)) (DU d_int)) (a_cons (d_ix (DO (d_v 1)) (DU d_int)) a_nil))) (d_fn (F_all_sure_behind N) hr (by decide) (takes_of rfl rfl rfl rfl) (a_cons (d_ix (DO (d_v 1)) (DU d_int)) a_nil)))))) pp_nil)
    (pp_cons (p_if (t_cmp op_lt o_lt (DO (d_v 0)) (DU d_int) (by first | exact nomark _ | rfl)) (pp_one (p_ret (d_if (t_cmp (op_eqD hr.units) o_eq (DO (d_v 0)) (DU d_int) (by first | exact nomark _ | rfl)) (d_fn (F_ticks_for N) hr (by decide) (takes_of rfl rfl rfl rfl) (a_cons (d_ix (DO (d_v 1)) (DU d_int)) a_nil)) (d_if (t_cmp (op_eqD hr.units) o_eq (DO (d_v 0)) (DU d_int) (by first | exact nomark _ | rfl)) (d_fn (F_code_at N) hr (by decide) (takes_of rfl rfl rfl rfl) (a_cons (d_ix (DO (d_v 1)) (DU d_int)) a_nil)) (d_fn (F_number_of_code N) hr (by decide) (takes_of rfl rfl rfl rfl) (a_cons (d_ix (DO (d_v 1)) (DU d_int)) a_nil)))))) pp_nil)
    (pp_one (p_ret (d_fn (F_whole_ticks N) hr (by decide) (takes_of rfl rfl rfl rfl) (a_cons (d_ix (DO (d_v 1)) (DU d_int)) (a_cons (d_ix (DO (d_v 1)) (DU d_int)) a_nil))))))))
theorem sc__law_caught : FnScope ["_law_which", "_law_a", "_law_caught_here"] ["_law_which", "_law_a"] (defScope (top 77)) := ⟨rfl, rfl, rfl, by decide +kernel, rfl, by decide +kernel, by decide +kernel⟩
theorem F__law_caught (N : Fc K mg) : FnIs P w K mg base 8 "_law_caught" ["_law_which", "_law_a"] 2 m__law_caught :=
  fn_is N.d__law_caught N.g__law_caught sc__law_caught rfl (fun _ _ _ _ _ _ us hl => match us, hl with | [_, _], _ => rfl) (fun cdv A outer s H E hr => 
  (pp_cons (p_set (i := 2) sc__law_caught.nd d_str)
    (pp_cons (p_try exmT N.exm (takes_of rfl rfl rfl rfl) (fun W pn xe tk hp => (pp_one (p_if (t_cmp op_lt o_lt (DO (d_v 0)) (DU d_int) (by first | exact nomark _ | rfl)) (pp_one (p_expr (d_fn (F__law_called N) hr (by decide) tk (a_cons (d_v 0) (a_cons (d_v 1) a_nil))))) (pp_one (p_expr d_badD))))) (h_cons N.g_NoSetting (fun _ _ => (pp_one (p_set (i := 2) sc__law_caught.nd d_str))) (h_cons N.g_NoCode (fun _ _ => (pp_one (p_set (i := 2) sc__law_caught.nd d_str))) (h_cons N.g_NoHouse (fun _ _ => (pp_one (p_set (i := 2) sc__law_caught.nd d_str))) (h_cons N.g_NoCount (fun _ _ => (pp_one (p_set (i := 2) sc__law_caught.nd d_str))) (h_cons N.g_NoDeeds (fun _ _ => (pp_one (p_set (i := 2) sc__law_caught.nd d_str))) (h_cons N.g_NoText (fun _ _ => (pp_one (p_set (i := 2) sc__law_caught.nd d_str))) h_nil)))))))
    (pp_one (p_ret (d_v 2))))))
theorem sc_law_k15 : FnScope ["_law_script", "_law_some", "_law_number", "_law_code_here", "_law_setting_here", "_law_uses", "_law_k", "_law_due", "_law_often", "_law_one", "_law_odd"] ["_law_script"] (defScope (top 78)) := ⟨rfl, rfl, rfl, by decide +kernel, rfl, by decide +kernel, by decide +kernel⟩
theorem F_law (N : Fc K mg) : FnIs P w K mg base 9 "law" ["_law_script"] 1 m_law_k15 :=
  fn_is N.d_law N.g_law sc_law_k15 rfl (fun _ _ _ _ _ _ us hl => match us, hl with | [_], _ => rfl) (fun cdv A outer s H E hr => 
  (pp_cons (p_set (i := 1) sc_law_k15.nd (d_fn0 (F__law_all_codes N) hr (by decide) (takes_of rfl rfl rfl rfl)))
    (pp_cons (p_set (i := 2) sc_law_k15.nd (g_op op_mod o_mod (DO (d_fn (F__law_cell N) hr (by decide) (takes_of rfl rfl rfl rfl) (a_cons (d_v 0) (a_cons d_int a_nil)))) (DU d_int)))
    (pp_cons (p_if (t_w (w_or (t_cmp (op_neD hr.units) o_ne (DO (d_b1 o_len call_len rfl N.n_len bt_len (DU (d_v 1)))) (DU d_int) (by first | exact nomark _ | rfl)) (w_or (t_cmp (op_neD hr.units) o_ne (DO (d_fn (F_code_at N) hr (by decide) (takes_of rfl rfl rfl rfl) (a_cons (d_v 2) a_nil))) (DU (d_ix (DO (d_v 1)) (DU (d_v 2)))) (by first | exact nomark _ | rfl)) (w_or1 (t_cmp (op_neD hr.units) o_ne (DO (d_fn (F_number_of_code N) hr (by decide) (takes_of rfl rfl rfl rfl) (a_cons (d_ix (DO (d_v 1)) (DU (d_v 2))) a_nil))) (DU (d_v 2)) (by first | exact nomark _ | rfl)))))) (pp_one (p_ret d_bl)) pp_nil)
    (pp_cons (p_set (i := 3) sc_law_k15.nd (d_fn (F__law_code N) hr (by decide) (takes_of rfl rfl rfl rfl) (a_cons (d_fn (F__law_seed N) hr (by decide) (takes_of rfl rfl rfl rfl) (a_cons (d_fn (F__law_cell N) hr (by decide) (takes_of rfl rfl rfl rfl) (a_cons (d_v 0) (a_cons d_int a_nil))) (a_cons d_int a_nil))) a_nil)))
    (pp_cons (p_if (t_w (w_or (t_cmp (op_neD hr.units) o_ne (DO (d_fn (F_ticks_for N) hr (by decide) (takes_of rfl rfl rfl rfl) (a_cons (d_v 3) a_nil))) (DU (d_b1 o_len call_len rfl N.n_len bt_len (DU (d_fn (F__law_beats N) hr (by decide) (takes_of rfl rfl rfl rfl) (a_cons (d_v 3) a_nil))))) (by first | exact nomark _ | rfl)) (w_or1 (t_cmp (op_neD hr.units) o_ne (DO (d_fn (F_number_of_code N) hr (by decide) (takes_of rfl rfl rfl rfl) (a_cons (d_v 3) a_nil))) (DU (d_index hr (d_v 1) (d_v 3))) (by first | exact nomark _ | rfl))))) (pp_one (p_ret d_bl)) pp_nil)
    (pp_cons (p_set (i := 4) sc_law_k15.nd (d_fn (F__law_setting N) hr (by decide) (takes_of rfl rfl rfl rfl) (a_cons (d_fn (F__law_seed N) hr (by decide) (takes_of rfl rfl rfl rfl) (a_cons (d_fn (F__law_cell N) hr (by decide) (takes_of rfl rfl rfl rfl) (a_cons (d_v 0) (a_cons d_int a_nil))) (a_cons d_int a_nil))) a_nil)))
    (pp_cons (p_setComp (i := 5) rfl sc_law_k15.nd (by exact (i_r1 rfl N.n_range (a_cons (d_b1 o_len call_len rfl N.n_len bt_len (DU (d_ix (DO (d_v 4)) (DU d_int)))) a_nil))) (blkOk_by (own := [("_law_k", 6)]) rfl) (fun _ _ _ _ _ => (g_name (i := 6) sc_law_k15.nd)) (fun _ _ _ _ _ => c_nil) (fun _ _ _ _ _ => (d_fn (F__law_mix N) hr (by decide) takes0 (a_cons (g_op op_addA o_add (DO (d_fn (F__law_cell N) hr (by decide) takes0 (a_cons (d_v 0) (a_cons d_int a_nil)))) (DU (g_op op_mulA o_mul (DO d_int) (DU (d_v 6))))) (a_cons d_int (a_cons (d_ix (NO (n_lst (a_cons d_int (a_cons d_int a_nil)))) (DU (g_op op_mod o_mod (DO (d_v 6)) (DU d_int)))) a_nil))))) (sw_true rfl rfl rfl (by decide +kernel)))
    (pp_cons (p_set (i := 7) sc_law_k15.nd (d_b1 o_sum (cr_sum rfl) rfl N.n_sum bt_sum (NU (n_comp rfl sc_law_k15.nd (by exact (i_zip rfl N.n_zip (a_cons (d_v 5) (a_cons (d_ix (DO (d_v 4)) (DU d_int)) a_nil)))) (blkOk_by (own := [("_law_often", 8), ("_law_one", 9)]) rfl) (fun _ _ _ _ _ => (g_tup rfl (g_cons (g_name (i := 8) sc_law_k15.nd) (g_cons (g_name (i := 9) sc_law_k15.nd) g_nil)))) (fun _ _ _ _ _ => c_nil) (fun _ _ _ _ _ => (g_op op_mulA o_mul (DO (d_v 8)) (DU (d_b1 o_len call_len rfl N.n_len bt_len (DU (d_fn (F__law_beats N) hr (by decide) takes0 (a_cons (d_v 9) a_nil)))))))))))
    (pp_cons (p_if (t_w (w_or (t_cmp (op_neD hr.units) o_ne (DO (d_fn (F_whole_ticks N) hr (by decide) (takes_of rfl rfl rfl rfl) (a_cons (ND (d_t1 o_list call_list_of rfl N.n_list bt_list (DU (d_v 5)))) (a_cons (d_ix (DO (d_v 4)) (DU d_int)) a_nil)))) (DU (d_v 7)) (by first | exact nomark _ | rfl)) (w_or1 (t_not (t_tru (DU (d_fn (F__law_whole N) hr (by decide) (takes_of rfl rfl rfl rfl) (a_cons (d_fn (F_whole_ticks N) hr (by decide) (takes_of rfl rfl rfl rfl) (a_cons (ND (d_t1 o_list call_list_of rfl N.n_list bt_list (DU (d_v 5)))) (a_cons (d_ix (DO (d_v 4)) (DU d_int)) a_nil))) a_nil)))))))) (pp_one (p_ret d_bl)) pp_nil)
    (pp_cons (p_set (i := 10) sc_law_k15.nd (ND (n_lst (a_cons d_non (a_cons (d_sl (DO (d_ix (DO (d_v 4)) (DU d_int))) (s_some d_int) s_none) (a_cons (g_op op_repT o_repT (DO (d_sl (DO (d_ix (DO (d_v 4)) (DU d_int))) s_none (s_some d_int))) (DU (d_b1 o_len call_len rfl N.n_len bt_len (DU (d_v 5))))) (a_cons (ND (d_t1 o_list call_list_of rfl N.n_list bt_list (DU (d_ix (DO (d_v 4)) (DU d_int))))) (a_cons (g_op op_addA o_add (DO (d_sl (DO (d_ix (DO (d_v 4)) (DU d_int))) (s_some d_int) s_none)) (DU (d_tup (a_cons d_str a_nil)))) a_nil))))))))
    (pp_cons (p_if (t_cmp (op_neD hr.units) o_ne (DO (d_fn (F__law_caught N) hr (by decide) (takes_of rfl rfl rfl rfl) (a_cons d_int (a_cons (ND (n_lst (a_cons (ND (d_t1 o_list call_list_of rfl N.n_list bt_list (DU (d_v 5)))) (a_cons (d_ix (DO (d_v 10)) (DU (g_op op_mod o_mod (DO (d_fn (F__law_cell N) hr (by decide) (takes_of rfl rfl rfl rfl) (a_cons (d_v 0) (a_cons d_int a_nil)))) (DU d_int)))) a_nil)))) a_nil)))) (DU d_str) (by first | exact nomark _ | rfl)) (pp_one (p_ret d_bl)) pp_nil)
    (pp_cons (p_set (i := 10) sc_law_k15.nd (d_ix (NO (n_lst (a_cons d_int (a_cons (d_neg d_int) (a_cons d_non (a_cons d_bl (a_cons d_str a_nil))))))) (DU (g_op op_mod o_mod (DO (d_fn (F__law_cell N) hr (by decide) (takes_of rfl rfl rfl rfl) (a_cons (d_v 0) (a_cons d_int a_nil)))) (DU d_int)))))
    (pp_one (p_ret (d_and (g_cmp (op_eqD hr.units) o_eq (DO (d_fn (F__law_caught N) hr (by decide) (takes_of rfl rfl rfl rfl) (a_cons d_int (a_cons (ND (n_lst (a_cons (d_v 10) a_nil))) a_nil)))) (DU d_str) (by first | exact nomark _ | rfl)) (d_one (g_cmp (op_eqD hr.units) o_eq (DO (d_fn (F__law_caught N) hr (by decide) (takes_of rfl rfl rfl rfl) (a_cons d_int (a_cons (ND (n_lst (a_cons d_str a_nil))) a_nil)))) (DU d_str) (by first | exact nomark _ | rfl)))))))))))))))))))
end
end M

namespace HD
open PySem PySem.Spec PyProof.Rows L2 PySem.W M
def d0 : He.DefD := ⟨("is_within", none), "is_within", "is_within", defArgs (top 19), defBody (top 19), defScope (top 19), [], []⟩
def d1 : He.DefD := ⟨("is_code", none), "is_code", "is_code", defArgs (top 20), defBody (top 20), defScope (top 20), [], []⟩
def d2 : He.DefD := ⟨("beats", none), "beats", "beats", defArgs (top 24), defBody (top 24), defScope (top 24), [], []⟩
def d3 : He.DefD := ⟨("all_codes", none), "all_codes", "all_codes", defArgs (top 28), defBody (top 28), defScope (top 28), [], []⟩
def d4 : He.DefD := ⟨("_law_cell", none), "_law_cell", "_law_cell", defArgs (top 66), defBody (top 66), defScope (top 66), [], []⟩
def d5 : He.DefD := ⟨("_law_mix", none), "_law_mix", "_law_mix", defArgs (top 67), defBody (top 67), defScope (top 67), [], []⟩
def d6 : He.DefD := ⟨("_law_whole", none), "_law_whole", "_law_whole", defArgs (top 68), defBody (top 68), defScope (top 68), [], []⟩
def d7 : He.DefD := ⟨("_law_seed", none), "_law_seed", "_law_seed", defArgs (top 69), defBody (top 69), defScope (top 69), [], []⟩
def d8 : He.DefD := ⟨("_law_pick", none), "_law_pick", "_law_pick", defArgs (top 70), defBody (top 70), defScope (top 70), [], []⟩
def d9 : He.DefD := ⟨("_law_beats", none), "_law_beats", "_law_beats", defArgs (top 73), defBody (top 73), defScope (top 73), [], []⟩
def d10 : He.DefD := ⟨("is_setting", none), "is_setting", "is_setting", defArgs (top 21), defBody (top 21), defScope (top 21), [], []⟩
def d11 : He.DefD := ⟨("look_house", none), "look_house", "look_house", defArgs (top 23), defBody (top 23), defScope (top 23), [], []⟩
def d12 : He.DefD := ⟨("ring", none), "ring", "ring", defArgs (top 25), defBody (top 25), defScope (top 25), [], []⟩
def d13 : He.DefD := ⟨("ticks_for", none), "ticks_for", "ticks_for", defArgs (top 30), defBody (top 30), defScope (top 30), [], []⟩
def d14 : He.DefD := ⟨("book", none), "book", "book", defArgs (top 31), defBody (top 31), defScope (top 31), [], []⟩
def d15 : He.DefD := ⟨("whole_ticks", none), "whole_ticks", "whole_ticks", defArgs (top 34), defBody (top 34), defScope (top 34), [], []⟩
def d16 : He.DefD := ⟨("_law_code", none), "_law_code", "_law_code", defArgs (top 71), defBody (top 71), defScope (top 71), [], []⟩
def d17 : He.DefD := ⟨("_law_all_codes", none), "_law_all_codes", "_law_all_codes", defArgs (top 74), defBody (top 74), defScope (top 74), [], []⟩
def d18 : He.DefD := ⟨("look", none), "look", "look", defArgs (top 22), defBody (top 22), defScope (top 22), [], []⟩
def d19 : He.DefD := ⟨("code_at", none), "code_at", "code_at", defArgs (top 32), defBody (top 32), defScope (top 32), [], []⟩
def d20 : He.DefD := ⟨("number_of_code", none), "number_of_code", "number_of_code", defArgs (top 33), defBody (top 33), defScope (top 33), [], []⟩
def d21 : He.DefD := ⟨("_law_setting", none), "_law_setting", "_law_setting", defArgs (top 72), defBody (top 72), defScope (top 72), [], []⟩
def d22 : He.DefD := ⟨("meant", none), "meant", "meant", defArgs (top 26), defBody (top 26), defScope (top 26), [], []⟩
def d23 : He.DefD := ⟨("apart_behind", none), "apart_behind", "apart_behind", defArgs (top 37), defBody (top 37), defScope (top 37), [], []⟩
def d24 : He.DefD := ⟨("mistaken", none), "mistaken", "mistaken", defArgs (top 38), defBody (top 38), defScope (top 38), [], []⟩
def d25 : He.DefD := ⟨("sure_behind", none), "sure_behind", "sure_behind", defArgs (top 27), defBody (top 27), defScope (top 27), [], []⟩
def d26 : He.DefD := ⟨("all_sure_behind", none), "all_sure_behind", "all_sure_behind", defArgs (top 39), defBody (top 39), defScope (top 39), [], []⟩
def d27 : He.DefD := ⟨("_law_called", none), "_law_called", "_law_called", defArgs (top 75), defBody (top 75), defScope (top 75), [], []⟩
def d28 : He.DefD := ⟨("_law_caught", none), "_law_caught", "_law_caught", defArgs (top 77), defBody (top 77), defScope (top 77), [], []⟩
def d29 : He.DefD := ⟨("law", none), "law", "law", defArgs (top 78), defBody (top 78), defScope (top 78), [], []⟩
def fn_0 : List He.DefD := [d0, d1, d2, d3, d4, d5, d6, d7, d8, d9, d10, d11, d12, d13, d14, d15, d16, d17, d18, d19, d20, d21, d22, d23, d24, d25, d26, d27, d28, d29]
def fn : List He.DefD := fn_0
def fa_0 : List He.Fa := [.glo "is_within", .glo "is_code", .glo "beats", .glo "all_codes", .glo "_law_cell", .glo "_law_mix", .glo "_law_whole", .glo "_law_seed", .glo "_law_pick", .glo "_law_beats", .glo "is_setting", .glo "look_house", .glo "ring", .glo "ticks_for", .glo "book", .glo "whole_ticks", .glo "_law_code", .glo "_law_all_codes", .glo "look", .glo "code_at", .glo "number_of_code", .glo "_law_setting", .glo "meant", .glo "apart_behind", .glo "mistaken", .glo "sure_behind", .glo "all_sure_behind", .glo "_law_called", .glo "_law_caught", .glo "law"]
def fa_1 : List He.Fa := [.free "bool", .free "enumerate", .free "int", .free "isinstance", .free "len", .free "list", .free "max", .free "range", .free "set", .free "sorted", .free "str", .free "sum", .free "tuple", .free "zip", .int "LONG" 3, .int "MOST_SIGNS" 4, .int "MOST_TICKS" 400, .int "REST" 4, .exc "NoCode", .exc "NoCount", .exc "NoHouse", .exc "NoSetting", .glo "NoCode", .glo "NoCount", .glo "NoDeeds", .glo "NoHouse", .glo "NoSetting", .glo "NoText", .exm "LineError" "LineError" true, .exm "LineError" "NoSetting" false]
def fa_2 : List He.Fa := [.exm "LineError" "NoCode" false, .exm "LineError" "NoHouse" false, .exm "LineError" "IsOff" false, .exm "LineError" "IsOn" false, .exm "LineError" "NoTone" false, .exm "LineError" "NoTalk" false, .exm "LineError" "NoCall" false, .exm "LineError" "NoCount" false, .exm "LineError" "NoDeeds" false, .exm "LineError" "NoText" false, .exm "LineError" "Nothing" false, .exm "NoSetting" "LineError" true, .exm "NoSetting" "NoSetting" true, .exm "NoSetting" "NoCode" false, .exm "NoSetting" "NoHouse" false, .exm "NoSetting" "IsOff" false, .exm "NoSetting" "IsOn" false, .exm "NoSetting" "NoTone" false, .exm "NoSetting" "NoTalk" false, .exm "NoSetting" "NoCall" false, .exm "NoSetting" "NoCount" false, .exm "NoSetting" "NoDeeds" false, .exm "NoSetting" "NoText" false, .exm "NoSetting" "Nothing" false, .exm "NoCode" "LineError" true, .exm "NoCode" "NoSetting" false, .exm "NoCode" "NoCode" true, .exm "NoCode" "NoHouse" false, .exm "NoCode" "IsOff" false, .exm "NoCode" "IsOn" false]
def fa_3 : List He.Fa := [.exm "NoCode" "NoTone" false, .exm "NoCode" "NoTalk" false, .exm "NoCode" "NoCall" false, .exm "NoCode" "NoCount" false, .exm "NoCode" "NoDeeds" false, .exm "NoCode" "NoText" false, .exm "NoCode" "Nothing" false, .exm "NoHouse" "LineError" true, .exm "NoHouse" "NoSetting" false, .exm "NoHouse" "NoCode" false, .exm "NoHouse" "NoHouse" true, .exm "NoHouse" "IsOff" false, .exm "NoHouse" "IsOn" false, .exm "NoHouse" "NoTone" false, .exm "NoHouse" "NoTalk" false, .exm "NoHouse" "NoCall" false, .exm "NoHouse" "NoCount" false, .exm "NoHouse" "NoDeeds" false, .exm "NoHouse" "NoText" false, .exm "NoHouse" "Nothing" false, .exm "IsOff" "LineError" true, .exm "IsOff" "NoSetting" false, .exm "IsOff" "NoCode" false, .exm "IsOff" "NoHouse" false, .exm "IsOff" "IsOff" true, .exm "IsOff" "IsOn" false, .exm "IsOff" "NoTone" false, .exm "IsOff" "NoTalk" false, .exm "IsOff" "NoCall" false, .exm "IsOff" "NoCount" false]
def fa_4 : List He.Fa := [.exm "IsOff" "NoDeeds" false, .exm "IsOff" "NoText" false, .exm "IsOff" "Nothing" false, .exm "IsOn" "LineError" true, .exm "IsOn" "NoSetting" false, .exm "IsOn" "NoCode" false, .exm "IsOn" "NoHouse" false, .exm "IsOn" "IsOff" false, .exm "IsOn" "IsOn" true, .exm "IsOn" "NoTone" false, .exm "IsOn" "NoTalk" false, .exm "IsOn" "NoCall" false, .exm "IsOn" "NoCount" false, .exm "IsOn" "NoDeeds" false, .exm "IsOn" "NoText" false, .exm "IsOn" "Nothing" false, .exm "NoTone" "LineError" true, .exm "NoTone" "NoSetting" false, .exm "NoTone" "NoCode" false, .exm "NoTone" "NoHouse" false, .exm "NoTone" "IsOff" false, .exm "NoTone" "IsOn" false, .exm "NoTone" "NoTone" true, .exm "NoTone" "NoTalk" false, .exm "NoTone" "NoCall" false, .exm "NoTone" "NoCount" false, .exm "NoTone" "NoDeeds" false, .exm "NoTone" "NoText" false, .exm "NoTone" "Nothing" false, .exm "NoTalk" "LineError" true]
def fa_5 : List He.Fa := [.exm "NoTalk" "NoSetting" false, .exm "NoTalk" "NoCode" false, .exm "NoTalk" "NoHouse" false, .exm "NoTalk" "IsOff" false, .exm "NoTalk" "IsOn" false, .exm "NoTalk" "NoTone" false, .exm "NoTalk" "NoTalk" true, .exm "NoTalk" "NoCall" false, .exm "NoTalk" "NoCount" false, .exm "NoTalk" "NoDeeds" false, .exm "NoTalk" "NoText" false, .exm "NoTalk" "Nothing" false, .exm "NoCall" "LineError" true, .exm "NoCall" "NoSetting" false, .exm "NoCall" "NoCode" false, .exm "NoCall" "NoHouse" false, .exm "NoCall" "IsOff" false, .exm "NoCall" "IsOn" false, .exm "NoCall" "NoTone" false, .exm "NoCall" "NoTalk" false, .exm "NoCall" "NoCall" true, .exm "NoCall" "NoCount" false, .exm "NoCall" "NoDeeds" false, .exm "NoCall" "NoText" false, .exm "NoCall" "Nothing" false, .exm "NoCount" "LineError" true, .exm "NoCount" "NoSetting" false, .exm "NoCount" "NoCode" false, .exm "NoCount" "NoHouse" false, .exm "NoCount" "IsOff" false]
def fa_6 : List He.Fa := [.exm "NoCount" "IsOn" false, .exm "NoCount" "NoTone" false, .exm "NoCount" "NoTalk" false, .exm "NoCount" "NoCall" false, .exm "NoCount" "NoCount" true, .exm "NoCount" "NoDeeds" false, .exm "NoCount" "NoText" false, .exm "NoCount" "Nothing" false, .exm "NoDeeds" "LineError" true, .exm "NoDeeds" "NoSetting" false, .exm "NoDeeds" "NoCode" false, .exm "NoDeeds" "NoHouse" false, .exm "NoDeeds" "IsOff" false, .exm "NoDeeds" "IsOn" false, .exm "NoDeeds" "NoTone" false, .exm "NoDeeds" "NoTalk" false, .exm "NoDeeds" "NoCall" false, .exm "NoDeeds" "NoCount" false, .exm "NoDeeds" "NoDeeds" true, .exm "NoDeeds" "NoText" false, .exm "NoDeeds" "Nothing" false, .exm "NoText" "LineError" true, .exm "NoText" "NoSetting" false, .exm "NoText" "NoCode" false, .exm "NoText" "NoHouse" false, .exm "NoText" "IsOff" false, .exm "NoText" "IsOn" false, .exm "NoText" "NoTone" false, .exm "NoText" "NoTalk" false, .exm "NoText" "NoCall" false]
def fa_7 : List He.Fa := [.exm "NoText" "NoCount" false, .exm "NoText" "NoDeeds" false, .exm "NoText" "NoText" true, .exm "NoText" "Nothing" false, .exm "Nothing" "LineError" true, .exm "Nothing" "NoSetting" false, .exm "Nothing" "NoCode" false, .exm "Nothing" "NoHouse" false, .exm "Nothing" "IsOff" false, .exm "Nothing" "IsOn" false, .exm "Nothing" "NoTone" false, .exm "Nothing" "NoTalk" false, .exm "Nothing" "NoCall" false, .exm "Nothing" "NoCount" false, .exm "Nothing" "NoDeeds" false, .exm "Nothing" "NoText" false, .exm "Nothing" "Nothing" true]
def fa : List He.Fa := fa_0 ++ fa_1 ++ fa_2 ++ fa_3 ++ fa_4 ++ fa_5 ++ fa_6 ++ fa_7
def loose_0 : List Str := ["_wall", "LineError", "NoSetting", "NoCode", "NoHouse", "IsOff", "IsOn", "NoTone", "NoTalk", "NoCall", "NoCount", "NoDeeds", "NoText", "Nothing", "REST", "LONG", "MOST_SIGNS", "is_within", "is_code", "is_setting", "look", "look_house", "beats", "ring", "meant", "sure_behind", "all_codes", "ticks_for", "book", "code_at"]
def loose_1 : List Str := ["number_of_code", "whole_ticks", "MOST_TICKS", "apart_behind", "mistaken", "all_sure_behind", "MOST_WAITING", "Line", "WORDS", "MOST_DEEDS", "is_deed", "are_deeds", "look_deeds", "told_by", "spoken", "standing", "try_deed", "talk_rows", "longest_talk", "bill", "Log", "number_of", "text_of", "setting_text", "read_setting", "_law_cell", "_law_mix", "_law_whole", "_law_seed", "_law_pick"]
def loose_2 : List Str := ["_law_code", "_law_setting", "_law_beats", "_law_all_codes", "_law_called", "_law_called_then", "_law_caught"]
def loose : List Str := loose_0 ++ loose_1 ++ loose_2
def as__0 : List Addr := [3, 30, 31, 43, 44, 55, 56, 67, 68, 79, 80, 91, 92, 103, 104, 115, 116, 127, 128, 139, 140, 151, 152, 163, 164, 175, 176, 184, 185, 189]
def as__1 : List Addr := [190, 194, 195, 201, 202, 208, 209, 215, 216, 220, 221, 225, 226, 232, 233, 237, 238, 244, 245, 249, 250, 256, 257, 263, 264, 268, 269, 275, 276, 280]
def as__2 : List Addr := [281, 285, 286, 636, 637, 643, 644, 650, 651, 657, 658, 664, 665, 669, 670, 674, 675, 681, 682, 686, 687, 693, 694, 707, 708, 712, 713]
def as_ : List Addr := as__0 ++ as__1 ++ as__2
abbrev R : PySem.W.OpenRow := PySem.W.OpenLaw.row PySem.Challenge.rw_ringhouses_k15_codebook
def hk : PySem.W.Hook where
  α := He.AlD
  obs := fun s => He.obsD fa fn (He.frG s.heap.get? as_)
  val := fun _ => He.valD fn
  says := fun _ h => ∃ K : PySem.W.Frag, K.In h ∧ He.SaysD fa fn K
  of := fun _ _ e => ⟨_, He.frG_in, e⟩
  keeps := fun _ _ _ ⟨K, hK, c⟩ k => ⟨K, PySem.W.Frag.In.keeps hK k, c⟩
def ob (s : PySem.W.SharedT) : He.AlD := He.obsD fa fn (He.frG (HandSHeadRun.getT s) as_)
theorem ob_eq (s : PySem.W.SharedT) : ob s = hk.obs s.abs := by
  have e : HandSHeadRun.getT s = s.abs.heap.get? := funext fun a => HandSHeadRun.getT_eq s a
  show He.obsD fa fn (He.frG (HandSHeadRun.getT s) as_) = _
  rw [e]
  all_goals rfl
theorem run (w : World) : HandSHeadRun.RunEq R (PySem.W.view R.prog [78]) hk ob 20000 loose w := by
  refine byRow2 "special-get-raises" (P := fun w => HandSHeadRun.RunEq R (PySem.W.view R.prog [78]) hk ob 20000 loose w) ?_ ?_ w
  · intro w os
    kernel_rfl
  · intro w os
    kernel_rfl
theorem facts {K : PySem.W.Frag} {h : Heap} {mg : Str → Option Value} (X : K.In h) (G : h.Ns mainGlobals mg) (c : He.SaysD fa fn K) : Fc K mg where
  n_bool := He.free_ok X G (c.fact 30 rfl)
  n_enumerate := He.free_ok X G (c.fact 31 rfl)
  n_int := He.free_ok X G (c.fact 32 rfl)
  n_isinstance := He.free_ok X G (c.fact 33 rfl)
  n_len := He.free_ok X G (c.fact 34 rfl)
  n_list := He.free_ok X G (c.fact 35 rfl)
  n_max := He.free_ok X G (c.fact 36 rfl)
  n_range := He.free_ok X G (c.fact 37 rfl)
  n_set := He.free_ok X G (c.fact 38 rfl)
  n_sorted := He.free_ok X G (c.fact 39 rfl)
  n_str := He.free_ok X G (c.fact 40 rfl)
  n_sum := He.free_ok X G (c.fact 41 rfl)
  n_tuple := He.free_ok X G (c.fact 42 rfl)
  n_zip := He.free_ok X G (c.fact 43 rfl)
  i_LONG := He.int_ok X G (c.fact 44 rfl)
  i_MOST_SIGNS := He.int_ok X G (c.fact 45 rfl)
  i_MOST_TICKS := He.int_ok X G (c.fact 46 rfl)
  i_REST := He.int_ok X G (c.fact 47 rfl)
  x_NoCode := let z := He.exc_ok (c.fact 48 rfl); ⟨z.1, He.glo_ok X G (c.fact 52 rfl), z.2.1, z.2.2.1, z.2.2.2⟩
  x_NoCount := let z := He.exc_ok (c.fact 49 rfl); ⟨z.1, He.glo_ok X G (c.fact 53 rfl), z.2.1, z.2.2.1, z.2.2.2⟩
  x_NoHouse := let z := He.exc_ok (c.fact 50 rfl); ⟨z.1, He.glo_ok X G (c.fact 55 rfl), z.2.1, z.2.2.1, z.2.2.2⟩
  x_NoSetting := let z := He.exc_ok (c.fact 51 rfl); ⟨z.1, He.glo_ok X G (c.fact 56 rfl), z.2.1, z.2.2.1, z.2.2.2⟩
  g_NoCode := He.glo_ok X G (c.fact 52 rfl)
  g_NoCount := He.glo_ok X G (c.fact 53 rfl)
  g_NoDeeds := He.glo_ok X G (c.fact 54 rfl)
  g_NoHouse := He.glo_ok X G (c.fact 55 rfl)
  g_NoSetting := He.glo_ok X G (c.fact 56 rfl)
  g_NoText := He.glo_ok X G (c.fact 57 rfl)
  exm := exm_of ⟨⟨He.exm_ok (c.fact 58 rfl), He.exm_ok (c.fact 59 rfl), He.exm_ok (c.fact 60 rfl), He.exm_ok (c.fact 61 rfl), He.exm_ok (c.fact 62 rfl), He.exm_ok (c.fact 63 rfl), He.exm_ok (c.fact 64 rfl), He.exm_ok (c.fact 65 rfl), He.exm_ok (c.fact 66 rfl), He.exm_ok (c.fact 67 rfl), He.exm_ok (c.fact 68 rfl), He.exm_ok (c.fact 69 rfl), He.exm_ok (c.fact 70 rfl), trivial⟩, ⟨He.exm_ok (c.fact 71 rfl), He.exm_ok (c.fact 72 rfl), He.exm_ok (c.fact 73 rfl), He.exm_ok (c.fact 74 rfl), He.exm_ok (c.fact 75 rfl), He.exm_ok (c.fact 76 rfl), He.exm_ok (c.fact 77 rfl), He.exm_ok (c.fact 78 rfl), He.exm_ok (c.fact 79 rfl), He.exm_ok (c.fact 80 rfl), He.exm_ok (c.fact 81 rfl), He.exm_ok (c.fact 82 rfl), He.exm_ok (c.fact 83 rfl), trivial⟩, ⟨He.exm_ok (c.fact 84 rfl), He.exm_ok (c.fact 85 rfl), He.exm_ok (c.fact 86 rfl), He.exm_ok (c.fact 87 rfl), He.exm_ok (c.fact 88 rfl), He.exm_ok (c.fact 89 rfl), He.exm_ok (c.fact 90 rfl), He.exm_ok (c.fact 91 rfl), He.exm_ok (c.fact 92 rfl), He.exm_ok (c.fact 93 rfl), He.exm_ok (c.fact 94 rfl), He.exm_ok (c.fact 95 rfl), He.exm_ok (c.fact 96 rfl), trivial⟩, ⟨He.exm_ok (c.fact 97 rfl), He.exm_ok (c.fact 98 rfl), He.exm_ok (c.fact 99 rfl), He.exm_ok (c.fact 100 rfl), He.exm_ok (c.fact 101 rfl), He.exm_ok (c.fact 102 rfl), He.exm_ok (c.fact 103 rfl), He.exm_ok (c.fact 104 rfl), He.exm_ok (c.fact 105 rfl), He.exm_ok (c.fact 106 rfl), He.exm_ok (c.fact 107 rfl), He.exm_ok (c.fact 108 rfl), He.exm_ok (c.fact 109 rfl), trivial⟩, ⟨He.exm_ok (c.fact 110 rfl), He.exm_ok (c.fact 111 rfl), He.exm_ok (c.fact 112 rfl), He.exm_ok (c.fact 113 rfl), He.exm_ok (c.fact 114 rfl), He.exm_ok (c.fact 115 rfl), He.exm_ok (c.fact 116 rfl), He.exm_ok (c.fact 117 rfl), He.exm_ok (c.fact 118 rfl), He.exm_ok (c.fact 119 rfl), He.exm_ok (c.fact 120 rfl), He.exm_ok (c.fact 121 rfl), He.exm_ok (c.fact 122 rfl), trivial⟩, ⟨He.exm_ok (c.fact 123 rfl), He.exm_ok (c.fact 124 rfl), He.exm_ok (c.fact 125 rfl), He.exm_ok (c.fact 126 rfl), He.exm_ok (c.fact 127 rfl), He.exm_ok (c.fact 128 rfl), He.exm_ok (c.fact 129 rfl), He.exm_ok (c.fact 130 rfl), He.exm_ok (c.fact 131 rfl), He.exm_ok (c.fact 132 rfl), He.exm_ok (c.fact 133 rfl), He.exm_ok (c.fact 134 rfl), He.exm_ok (c.fact 135 rfl), trivial⟩, ⟨He.exm_ok (c.fact 136 rfl), He.exm_ok (c.fact 137 rfl), He.exm_ok (c.fact 138 rfl), He.exm_ok (c.fact 139 rfl), He.exm_ok (c.fact 140 rfl), He.exm_ok (c.fact 141 rfl), He.exm_ok (c.fact 142 rfl), He.exm_ok (c.fact 143 rfl), He.exm_ok (c.fact 144 rfl), He.exm_ok (c.fact 145 rfl), He.exm_ok (c.fact 146 rfl), He.exm_ok (c.fact 147 rfl), He.exm_ok (c.fact 148 rfl), trivial⟩, ⟨He.exm_ok (c.fact 149 rfl), He.exm_ok (c.fact 150 rfl), He.exm_ok (c.fact 151 rfl), He.exm_ok (c.fact 152 rfl), He.exm_ok (c.fact 153 rfl), He.exm_ok (c.fact 154 rfl), He.exm_ok (c.fact 155 rfl), He.exm_ok (c.fact 156 rfl), He.exm_ok (c.fact 157 rfl), He.exm_ok (c.fact 158 rfl), He.exm_ok (c.fact 159 rfl), He.exm_ok (c.fact 160 rfl), He.exm_ok (c.fact 161 rfl), trivial⟩, ⟨He.exm_ok (c.fact 162 rfl), He.exm_ok (c.fact 163 rfl), He.exm_ok (c.fact 164 rfl), He.exm_ok (c.fact 165 rfl), He.exm_ok (c.fact 166 rfl), He.exm_ok (c.fact 167 rfl), He.exm_ok (c.fact 168 rfl), He.exm_ok (c.fact 169 rfl), He.exm_ok (c.fact 170 rfl), He.exm_ok (c.fact 171 rfl), He.exm_ok (c.fact 172 rfl), He.exm_ok (c.fact 173 rfl), He.exm_ok (c.fact 174 rfl), trivial⟩, ⟨He.exm_ok (c.fact 175 rfl), He.exm_ok (c.fact 176 rfl), He.exm_ok (c.fact 177 rfl), He.exm_ok (c.fact 178 rfl), He.exm_ok (c.fact 179 rfl), He.exm_ok (c.fact 180 rfl), He.exm_ok (c.fact 181 rfl), He.exm_ok (c.fact 182 rfl), He.exm_ok (c.fact 183 rfl), He.exm_ok (c.fact 184 rfl), He.exm_ok (c.fact 185 rfl), He.exm_ok (c.fact 186 rfl), He.exm_ok (c.fact 187 rfl), trivial⟩, ⟨He.exm_ok (c.fact 188 rfl), He.exm_ok (c.fact 189 rfl), He.exm_ok (c.fact 190 rfl), He.exm_ok (c.fact 191 rfl), He.exm_ok (c.fact 192 rfl), He.exm_ok (c.fact 193 rfl), He.exm_ok (c.fact 194 rfl), He.exm_ok (c.fact 195 rfl), He.exm_ok (c.fact 196 rfl), He.exm_ok (c.fact 197 rfl), He.exm_ok (c.fact 198 rfl), He.exm_ok (c.fact 199 rfl), He.exm_ok (c.fact 200 rfl), trivial⟩, ⟨He.exm_ok (c.fact 201 rfl), He.exm_ok (c.fact 202 rfl), He.exm_ok (c.fact 203 rfl), He.exm_ok (c.fact 204 rfl), He.exm_ok (c.fact 205 rfl), He.exm_ok (c.fact 206 rfl), He.exm_ok (c.fact 207 rfl), He.exm_ok (c.fact 208 rfl), He.exm_ok (c.fact 209 rfl), He.exm_ok (c.fact 210 rfl), He.exm_ok (c.fact 211 rfl), He.exm_ok (c.fact 212 rfl), He.exm_ok (c.fact 213 rfl), trivial⟩, ⟨He.exm_ok (c.fact 214 rfl), He.exm_ok (c.fact 215 rfl), He.exm_ok (c.fact 216 rfl), He.exm_ok (c.fact 217 rfl), He.exm_ok (c.fact 218 rfl), He.exm_ok (c.fact 219 rfl), He.exm_ok (c.fact 220 rfl), He.exm_ok (c.fact 221 rfl), He.exm_ok (c.fact 222 rfl), He.exm_ok (c.fact 223 rfl), He.exm_ok (c.fact 224 rfl), He.exm_ok (c.fact 225 rfl), He.exm_ok (c.fact 226 rfl), trivial⟩, trivial⟩
  d_is_within := c.def_ 0 (d := d0) rfl
  g_is_within := He.glo_ok X G (c.fact 0 rfl)
  d_is_code := c.def_ 1 (d := d1) rfl
  g_is_code := He.glo_ok X G (c.fact 1 rfl)
  d_beats := c.def_ 2 (d := d2) rfl
  g_beats := He.glo_ok X G (c.fact 2 rfl)
  d_all_codes := c.def_ 3 (d := d3) rfl
  g_all_codes := He.glo_ok X G (c.fact 3 rfl)
  d__law_cell := c.def_ 4 (d := d4) rfl
  g__law_cell := He.glo_ok X G (c.fact 4 rfl)
  d__law_mix := c.def_ 5 (d := d5) rfl
  g__law_mix := He.glo_ok X G (c.fact 5 rfl)
  d__law_whole := c.def_ 6 (d := d6) rfl
  g__law_whole := He.glo_ok X G (c.fact 6 rfl)
  d__law_seed := c.def_ 7 (d := d7) rfl
  g__law_seed := He.glo_ok X G (c.fact 7 rfl)
  d__law_pick := c.def_ 8 (d := d8) rfl
  g__law_pick := He.glo_ok X G (c.fact 8 rfl)
  d__law_beats := c.def_ 9 (d := d9) rfl
  g__law_beats := He.glo_ok X G (c.fact 9 rfl)
  d_is_setting := c.def_ 10 (d := d10) rfl
  g_is_setting := He.glo_ok X G (c.fact 10 rfl)
  d_look_house := c.def_ 11 (d := d11) rfl
  g_look_house := He.glo_ok X G (c.fact 11 rfl)
  d_ring := c.def_ 12 (d := d12) rfl
  g_ring := He.glo_ok X G (c.fact 12 rfl)
  d_ticks_for := c.def_ 13 (d := d13) rfl
  g_ticks_for := He.glo_ok X G (c.fact 13 rfl)
  d_book := c.def_ 14 (d := d14) rfl
  g_book := He.glo_ok X G (c.fact 14 rfl)
  d_whole_ticks := c.def_ 15 (d := d15) rfl
  g_whole_ticks := He.glo_ok X G (c.fact 15 rfl)
  d__law_code := c.def_ 16 (d := d16) rfl
  g__law_code := He.glo_ok X G (c.fact 16 rfl)
  d__law_all_codes := c.def_ 17 (d := d17) rfl
  g__law_all_codes := He.glo_ok X G (c.fact 17 rfl)
  d_look := c.def_ 18 (d := d18) rfl
  g_look := He.glo_ok X G (c.fact 18 rfl)
  d_code_at := c.def_ 19 (d := d19) rfl
  g_code_at := He.glo_ok X G (c.fact 19 rfl)
  d_number_of_code := c.def_ 20 (d := d20) rfl
  g_number_of_code := He.glo_ok X G (c.fact 20 rfl)
  d__law_setting := c.def_ 21 (d := d21) rfl
  g__law_setting := He.glo_ok X G (c.fact 21 rfl)
  d_meant := c.def_ 22 (d := d22) rfl
  g_meant := He.glo_ok X G (c.fact 22 rfl)
  d_apart_behind := c.def_ 23 (d := d23) rfl
  g_apart_behind := He.glo_ok X G (c.fact 23 rfl)
  d_mistaken := c.def_ 24 (d := d24) rfl
  g_mistaken := He.glo_ok X G (c.fact 24 rfl)
  d_sure_behind := c.def_ 25 (d := d25) rfl
  g_sure_behind := He.glo_ok X G (c.fact 25 rfl)
  d_all_sure_behind := c.def_ 26 (d := d26) rfl
  g_all_sure_behind := He.glo_ok X G (c.fact 26 rfl)
  d__law_called := c.def_ 27 (d := d27) rfl
  g__law_called := He.glo_ok X G (c.fact 27 rfl)
  d__law_caught := c.def_ 28 (d := d28) rfl
  g__law_caught := He.glo_ok X G (c.fact 28 rfl)
  d_law := c.def_ 29 (d := d29) rfl
  g_law := He.glo_ok X G (c.fact 29 rfl)
end HD
open PySem PySem.W PySem.Calls PyProof.Rows
theorem PySem.Challenge.cw_ringhouses_k15_codebook_holds : PySem.Challenge.rw_ringhouses_k15_codebook.Holds := by
  w_on; o_law
  refine HandSHeadRun.head_any (r := OpenLaw.row PySem.Challenge.rw_ringhouses_k15_codebook) (q := view (OpenLaw.row PySem.Challenge.rw_ringhouses_k15_codebook).prog [78]) (H := HD.hk) (ob := HD.ob) (M := 20000) (loose := HD.loose) (d := HandSHeadRun.topDef (OpenLaw.row PySem.Challenge.rw_ringhouses_k15_codebook).prog 78) (kwd := []) HD.ob_eq
    (by kernel_rfl) (fun s => by kernel_rfl) HD.run (by kernel_rfl) (by kernel_rfl) (by kernel_rfl) (by rfl) (by first | assumption | decide +kernel) (by decide +kernel) ⟨rfl, rfl, rfl, rfl, rfl, by decide +kernel⟩ ?hw ?hc
  case hw => w_witness2
  case hc =>
    refine M.walk_end (l := PySem.Challenge.rw_ringhouses_k15_codebook) (n := 63) (k := 9) (x := "_law_script") rfl (by decide) (by kernel_rfl) ⟨rfl, by decide, by decide⟩ ?F
    intro w mg fa h Y G hmg0
    obtain ⟨K, KX, c⟩ := Y
    have hmg : mg ("law" : PySem.Str) = some (.ref fa) := by
      have e : (HandSHeadRun.topDef (OpenLaw.row PySem.Challenge.rw_ringhouses_k15_codebook).prog 78).name = ("law" : PySem.Str) := by kernel_rfl
      rw [← e]
      exact hmg0
    have N : M.Fc K mg := HD.facts KX G c
    have ef : fa = He.ga K "law" := by
      have e := hmg.symm.trans N.g_law
      cases e
      rfl
    subst ef
    obtain ⟨fd, hb, hF⟩ := M.fnis_all h fun base => M.F_law (P := (PySem.Challenge.rw_ringhouses_k15_codebook).prog) (w := w) (base := base) N
    exact ⟨K, fd, M.m_law_k15, KX, fun s v => hb s [v] rfl, fun ns hl => M.says_law_k15 ns hl, fun base _ _ => hF base⟩
