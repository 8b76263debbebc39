import PyProof.Rows.All
import Wide.All
import OpenK.AllK
import Wide.FinOn
import HandS.ForMost
import HandS.Exc
import HandS.TryOnly
import HandS.TryMany
import HandS.ExcOwn
import HandS.WordsExc
import HandS.Defaults
import HandS.Deep
import HandS.TupAny
import HandS.Flow
import HandS.HeadHook2
import HandS.Walk
import HandS.IsInst
import HandS.SortInts
import HandS.SortRule
import HandS.Strs
import KE.GoesEnum
import HandS.Head0
import HandS.Head1
import HandS.Head2
import HandS.HeadEnd
import HandS.HeadHook1
import HandS.TupMul
import HandS.SetFor
import HandS.Small
import HandS.Conv
import HandS.HeadHook3
import HandS.TupLe
import HandS.StrMore
import KE.KStateDown
import PySem.Challenge.RW_ringhouses_k02_codes
set_option Elab.async false
set_option linter.all false
set_option maxRecDepth 100000
set_option maxHeartbeats 0
/-! M, part 1: data, worlds, steps. -/
namespace M
open PySem L2

abbrev D := PyData
/-- a record of the store -/
def refD (n : Nat) : D := .dict [(.int n, .none)]
/-- a list that is read alone (the script) -/
def scrD (ds : List D) : D := .dict [(.none, .list ds)]
/-- a dict that is read alone: its keys' names, what stands at them -/
def dctD (ks : List Str) (ds : List D) : D := .dict [(.bool true, .list [.list (ks.map .str), .list ds])]

inductive Slot where
  | no
  | val (d : D)
  | own (xs : List D)
abbrev Env := List Slot
structure Rec where
  c : Str
  fs : List (Str × Slot)
abbrev Sto := List Rec
inductive Out (α : Type) where
  | ok (a : α) (s : Sto)
  | exc (c : Str) (s : Sto)
  | bad

/-- keys by names: a sign from 2000000 on stands for a number -/
def keyOf (x : Str) : Key := match x.cps.toList with
  | [c] => if 2000000 ≤ c then .inl ((c : Int) - 2000000) else .inr x
  | _ => .inr x
/-- tuples of numbers by names -/
def tkeyOf (x : Str) : List Key := x.cps.toList.map fun (c : Nat) => .inl (c : Int)
/-! ### values and data -/
section
variable (K : PySem.W.Frag) (ι : List Addr) (F : Hp)
mutual
inductive Dr : V → D → Prop
  | non : Dr .non .none
  | bl (b : Bool) : Dr (.bl b) (.bool b)
  | int (i : Int) : Dr (.int i) (.int i)
  | str (x : Str) : Dr (.str x) (.str x)
  | lst {a : Addr} {xs : List V} {ds : List D} : F a = some (.lst xs) → DrAll xs ds → Dr (.ref a) (.list ds)
  | tup {a : Addr} {xs : List V} {ds : List D} : F a = some (.tup xs) → DrAll xs ds → Dr (.ref a) (.tuple ds)
  | robj {a : Addr} {n : Nat} : ι[n]? = some a → Dr (.ref a) (refD n)
  | scr {a : Addr} {xs : List V} {ds : List D} : SqL K F a xs → DrAll xs ds → Dr (.ref a) (scrD ds)
  | dct {a : Addr} {ks : List Str} {xs : List V} {ds : List D} : F a = some (.dK ((ks.zip xs).map fun p => (keyOf p.1, p.2))) → ks.length = ds.length → DrAll xs ds → Dr (.ref a) (dctD ks ds)
inductive DrAll : List V → List D → Prop
  | nil : DrAll [] []
  | cons {v : V} {vs : List V} {d : D} {ds : List D} : Dr v d → DrAll vs ds → DrAll (v :: vs) (d :: ds)
end
end

def Ex (H H' : Hp) : Prop := ∀ a o, H a = some o → H' a = some o
theorem Ex.refl (H : Hp) : Ex H H := fun _ _ h => h
theorem Ex.trans {H H1 H2 : Hp} (a : Ex H H1) (b : Ex H1 H2) : Ex H H2 := fun x o h => b x o (a x o h)
theorem Ex.new {H : Hp} {p : Addr} {o : HO} (h : H p = none) : Ex H (upd H p o) := fun a u e => by
  rw [upd_ne (ne_of_none e h)]; exact e
theorem Ex.seq {K : PySem.W.Frag} {H H' : Hp} {a : Addr} {xs : List V} (e : Ex H H') (h : SqL K H a xs) : SqL K H' a xs := by
  rcases h with (h | ⟨o, h⟩) | h
  · exact .inl (.inl (e _ _ h))
  · exact .inl (.inr ⟨o, e _ _ h⟩)
  · exact .inr h

section
variable {K : PySem.W.Frag} {ι ι' : List Addr} {F F' : Hp}
mutual
theorem Dr.mono (hι : ι <+: ι') (hF : Ex F F') : ∀ {v : V} {d : D}, Dr K ι F v d → Dr K ι' F' v d
  | _, _, .non => .non
  | _, _, .bl b => .bl b
  | _, _, .int i => .int i
  | _, _, .str x => .str x
  | _, _, .lst h hs => .lst (hF _ _ h) (DrAll.mono hι hF hs)
  | _, _, .tup h hs => .tup (hF _ _ h) (DrAll.mono hι hF hs)
  | _, _, .robj h => .robj (by
      obtain ⟨t, rfl⟩ := hι
      rw [List.getElem?_append_left (List.getElem?_eq_some_iff.mp h).1]; exact h)
  | _, _, .scr h hs => .scr (hF.seq h) (DrAll.mono hι hF hs)
  | _, _, .dct h hl hs => .dct (hF _ _ h) hl (DrAll.mono hι hF hs)
theorem DrAll.mono (hι : ι <+: ι') (hF : Ex F F') : ∀ {vs : List V} {ds : List D}, DrAll K ι F vs ds → DrAll K ι' F' vs ds
  | _, _, .nil => .nil
  | _, _, .cons h hs => .cons (Dr.mono hι hF h) (DrAll.mono hι hF hs)
end
theorem DrAll.length : ∀ {vs : List V} {ds : List D}, DrAll K ι F vs ds → vs.length = ds.length
  | _, _, .nil => rfl
  | _, _, .cons _ h => congrArg (· + 1) (DrAll.length h)
theorem DrAll.get : ∀ {vs : List V} {ds : List D} {i : Nat} {d : D}, DrAll K ι F vs ds → ds[i]? = some d → ∃ v, vs[i]? = some v ∧ Dr K ι F v d
  | _, _, _, _, .nil, e => by simp at e
  | _, _, 0, _, .cons h _, e => by simp at e; subst e; exact ⟨_, rfl, h⟩
  | _, _, i + 1, _, .cons _ h, e => by
    obtain ⟨v, h1, h2⟩ := DrAll.get (i := i) h (by simpa using e)
    exact ⟨v, by simpa using h1, h2⟩
theorem DrAll.getV : ∀ {vs : List V} {ds : List D} {i : Nat} {v : V}, DrAll K ι F vs ds → vs[i]? = some v → ∃ d, ds[i]? = some d ∧ Dr K ι F v d
  | _, _, _, _, .nil, e => by simp at e
  | _, _, 0, _, .cons h _, e => by simp at e; subst e; exact ⟨_, rfl, h⟩
  | _, _, i + 1, _, .cons _ h, e => by
    obtain ⟨v, h1, h2⟩ := DrAll.getV (i := i) h (by simpa using e)
    exact ⟨v, by simpa using h1, h2⟩
theorem DrAll.append : ∀ {vs ws : List V} {ds es : List D}, DrAll K ι F vs ds → DrAll K ι F ws es → DrAll K ι F (vs ++ ws) (ds ++ es)
  | _, _, _, _, .nil, h => h
  | _, _, _, _, .cons h hs, h' => .cons h (DrAll.append hs h')
theorem DrAll.one {v : V} {d : D} (h : Dr K ι F v d) : DrAll K ι F [v] [d] := .cons h .nil
theorem DrAll.take : ∀ {vs : List V} {ds : List D} (n : Nat), DrAll K ι F vs ds → DrAll K ι F (vs.take n) (ds.take n)
  | _, _, 0, _ => .nil
  | _, _, _ + 1, .nil => .nil
  | _, _, n + 1, .cons h hs => .cons h (DrAll.take n hs)
theorem DrAll.drop : ∀ {vs : List V} {ds : List D} (n : Nat), DrAll K ι F vs ds → DrAll K ι F (vs.drop n) (ds.drop n)
  | _, _, 0, h => h
  | _, _, _ + 1, .nil => .nil
  | _, _, n + 1, .cons _ hs => DrAll.drop n hs
theorem DrAll.set : ∀ {vs : List V} {ds : List D} (n : Nat) {v : V} {d : D}, DrAll K ι F vs ds → Dr K ι F v d → DrAll K ι F (vs.set n v) (ds.set n d)
  | _, _, _, _, _, .nil, _ => .nil
  | _, _, 0, _, _, .cons _ hs, h => .cons h hs
  | _, _, n + 1, _, _, .cons h0 hs, h => .cons h0 (DrAll.set n hs h)
theorem DrAll.eraseIdx : ∀ {vs : List V} {ds : List D} (n : Nat), DrAll K ι F vs ds → DrAll K ι F (vs.eraseIdx n) (ds.eraseIdx n)
  | _, _, _, .nil => .nil
  | _, _, 0, .cons _ hs => hs
  | _, _, n + 1, .cons h hs => .cons h (DrAll.eraseIdx n hs)
theorem DrAll.dropLast {vs : List V} {ds : List D} (h : DrAll K ι F vs ds) : DrAll K ι F vs.dropLast ds.dropLast := by
  rw [List.dropLast_eq_take, List.dropLast_eq_take, h.length]; exact h.take _
theorem DrAll.rep {vs : List V} {ds : List D} (h : DrAll K ι F vs ds) : ∀ k : Nat, DrAll K ι F (List.replicate k vs).flatten (List.replicate k ds).flatten
  | 0 => .nil
  | k + 1 => by
    rw [List.replicate_succ, List.replicate_succ, List.flatten_cons, List.flatten_cons]
    exact h.append (DrAll.rep h k)
theorem DrAll.snocInv {ds : List D} {v : V} : ∀ {vs : List V} {d : D}, DrAll K ι F vs ds → Dr K ι F v d → DrAll K ι F (vs ++ [v]) (ds ++ [d]) := fun h h' => h.append (.one h')
end

/-! ### worlds -/
structure Wd where
  ι : List Addr
  F : Hp
  T : Addr → Prop
  H : Hp

structure Step (W W' : Wd) : Prop where
  pre : W.ι <+: W'.ι
  exF : Ex W.F W'.F
  dom : ∀ b, W.H b ≠ none → W'.H b ≠ none
  keep : ∀ b o, W.H b = some o → ¬ W.T b → W'.H b = some o
  newT : ∀ b, W'.T b → W.T b ∨ W.H b = none
  newF : ∀ b, W.F b = none → W.H b ≠ none → ¬ W.T b → W'.F b = none
theorem Step.refl (W : Wd) : Step W W := ⟨List.prefix_refl _, Ex.refl _, fun _ h => h, fun _ _ h _ => h, fun _ h => .inl h, fun _ h _ _ => h⟩
theorem Step.trans {W W1 W2 : Wd} (a : Step W W1) (b : Step W1 W2) : Step W W2 where
  pre := a.pre.trans b.pre
  exF := a.exF.trans b.exF
  dom := fun x h => b.dom x (a.dom x h)
  keep := fun x o h ht => b.keep x o (a.keep x o h ht) fun h1 => (a.newT x h1).elim ht fun h2 => by rw [h] at h2; cases h2
  newT := fun x h => (b.newT x h).elim (a.newT x) fun h1 => .inr (by
    cases e : W.H x with
    | none => rfl
    | some o => exact absurd h1 (a.dom x (by rw [e]; exact fun z => by cases z)))
  newF := fun x h1 h2 h3 => b.newF x (a.newF x h1 h2 h3) (a.dom x h2) fun h4 => (a.newT x h4).elim h3 h2
theorem Step.dr {K : PySem.W.Frag} {W W' : Wd} (s : Step W W') {v : V} {d : D} (h : Dr K W.ι W.F v d) : Dr K W'.ι W'.F v d := h.mono s.pre s.exF
theorem Step.drAll {K : PySem.W.Frag} {W W' : Wd} (s : Step W W') {v : List V} {d : List D} (h : DrAll K W.ι W.F v d) : DrAll K W'.ι W'.F v d := h.mono s.pre s.exF

/-! ### the store -/
/-- a slot of a record: lk its value as it stands, a where its own list stands -/
def SlotR (K : PySem.W.Frag) (W : Wd) (lk : Option V) (a : Addr) : Slot → Prop
  | .no => True
  | .val d => ∃ v, lk = some v ∧ Dr K W.ι W.F v d
  | .own xs => lk = some (.ref a) ∧ W.T a ∧ W.F a = none ∧ ∃ vs, W.H a = some (.lst vs) ∧ DrAll K W.ι W.F vs xs
/-- the name is that of a class -/
def insC (c : Str) : Bool := !(decide (c = "") || decide (c = "#"))
/-- the object of a record: an instance of its class (c), a dict (c empty), or a dict with tuples of numbers as keys (#) -/
def RecO (K : PySem.W.Frag) (r : Rec) (fs : List (Str × V)) (o : HO) : Prop :=
  if insC r.c = true then ∃ dx, o = .ins (He.ga K r.c) dx fs else if r.c = "" then o = .dK (fs.map fun p => (keyOf p.1, p.2)) else o = .dT (fs.map fun p => (tkeyOf p.1, p.2))
structure RecR (K : PySem.W.Frag) (W : Wd) (r : Rec) (a : Addr) (fa : Str → Addr) : Prop where
  t : W.T a
  f : W.F a = none
  o : ∃ fs o, W.H a = some o ∧ RecO K r fs o ∧ fs.map (·.1) = r.fs.map (·.1) ∧ ∀ x sl, r.fs.lookup x = some sl → SlotR K W (fs.lookup x) (fa x) sl
structure StoreR (K : PySem.W.Frag) (W : Wd) (s : Sto) : Prop where
  len : W.ι.length = s.length
  nd : W.ι.Nodup
  ex : ∃ fa : Nat → Str → Addr, (∀ (n : Nat) r a, s[n]? = some r → W.ι[n]? = some a → RecR K W r a (fa n)) ∧
    ∀ (n : Nat) x xs r (n' : Nat) x' xs' r', s[n]? = some r → r.fs.lookup x = some (.own xs) → s[n']? = some r' → r'.fs.lookup x' = some (.own xs') → fa n x = fa n' x' → n = n' ∧ x = x'

structure Ok (K : PySem.W.Frag) (W : Wd) (s : Sto) : Prop where
  ex : Ex W.F W.H
  td : ∀ b, W.T b → W.H b ≠ none
  st : StoreR K W s

/-- what a new heap leaves of all records: all objects stay -/
theorem StoreR.kept {K : PySem.W.Frag} {W W' : Wd} {s : Sto} (h : StoreR K W s) (hι : W'.ι = W.ι) (hT : ∀ b, W.T b → W'.T b) (hF : Ex W.F W'.F) (hFn : ∀ b, W.T b → W.F b = none → W'.F b = none) (hH : ∀ b o, W.T b → W.H b = some o → W'.H b = some o) : StoreR K W' s := by
  refine ⟨by rw [hι]; exact h.len, by rw [hι]; exact h.nd, ?_⟩
  obtain ⟨fa, h1, h2⟩ := h.ex
  refine ⟨fa, fun n r a e1 e2 => ?_, h2⟩
  rw [hι] at e2
  obtain ⟨t, f, fs, o, ho, hr, hk, hs⟩ := h1 n r a e1 e2
  refine ⟨hT _ t, hFn _ t f, fs, o, hH _ _ t ho, hr, hk, fun x sl e => ?_⟩
  have q := hs x sl e
  cases sl with
  | no => trivial
  | val d =>
    obtain ⟨v, q1, q2⟩ := q
    exact ⟨v, q1, q2.mono (by rw [hι]; exact List.prefix_refl _) hF⟩
  | own xs =>
    obtain ⟨q1, q2, q3, vs, q4, q5⟩ := q
    exact ⟨q1, hT _ q2, hFn _ q2 q3, vs, hH _ _ q2 q4, q5.mono (by rw [hι]; exact List.prefix_refl _) hF⟩

/-! ### the slots of a frame -/
structure EnvR (K : PySem.W.Frag) (W0 W : Wd) (σ : St) (ρ : Env) : Prop where
  len : ρ.length = σ.length
  val : ∀ (i : Nat) d, ρ[i]? = some (.val d) → ∃ v, σ[i]? = some (some v) ∧ Dr K W.ι W.F v d
  own : ∃ oa : Nat → Addr, (∀ (i : Nat) xs, ρ[i]? = some (.own xs) → σ[i]? = some (some (.ref (oa i))) ∧ W0.H (oa i) = none ∧ W.F (oa i) = none ∧ ¬ W.T (oa i) ∧ ∃ vs, W.H (oa i) = some (.lst vs) ∧ DrAll K W.ι W.F vs xs) ∧
    ∀ (i j : Nat) xs ys, ρ[i]? = some (.own xs) → ρ[j]? = some (.own ys) → oa i = oa j → i = j
theorem EnvR.step {K : PySem.W.Frag} {W0 W W' : Wd} {σ : St} {ρ : Env} (h : EnvR K W0 W σ ρ) (s : Step W W') : EnvR K W0 W' σ ρ := by
  refine ⟨h.len, fun i d e => ?_, ?_⟩
  · obtain ⟨v, h1, h2⟩ := h.val i d e
    exact ⟨v, h1, s.dr h2⟩
  · obtain ⟨oa, h1, h2⟩ := h.own
    refine ⟨oa, fun i xs e => ?_, h2⟩
    obtain ⟨q1, q2, q3, q4, vs, q5, q6⟩ := h1 i xs e
    have hne : W.H (oa i) ≠ none := by rw [q5]; exact fun z => by cases z
    exact ⟨q1, q2, s.newF _ q3 hne q4, fun z => (s.newT _ z).elim q4 hne, vs, s.keep _ _ q5 q4, s.drAll q6⟩

/-! ### a new object -/
def Wd.new (W : Wd) (p : Addr) (o : HO) : Wd := { W with H := upd W.H p o }
def Wd.newF (W : Wd) (p : Addr) (o : HO) : Wd := { W with H := upd W.H p o, F := upd W.F p o }
theorem fnone {K : PySem.W.Frag} {W : Wd} {s : Sto} (ok : Ok K W s) {p : Addr} (hp : W.H p = none) : W.F p = none := by
  cases e : W.F p with
  | none => rfl
  | some o => have := ok.ex _ _ e; rw [hp] at this; cases this
theorem tnone {K : PySem.W.Frag} {W : Wd} {s : Sto} (ok : Ok K W s) {p : Addr} (hp : W.H p = none) : ¬ W.T p := fun h => ok.td p h hp
theorem step_new {K : PySem.W.Frag} {W : Wd} {s : Sto} (ok : Ok K W s) {p : Addr} {o : HO} (hp : W.H p = none) : Step W (W.new p o) ∧ Ok K (W.new p o) s := by
  have hx := Ex.new (o := o) hp
  refine ⟨⟨List.prefix_refl _, Ex.refl _, fun b h => ?_, fun b u h _ => hx b u h, fun b h => .inl h, fun b h _ _ => h⟩, ⟨ok.ex.trans hx, fun b h => ?_, ?_⟩⟩
  · cases e : W.H b with
    | none => exact absurd e h
    | some u => show upd W.H p o b ≠ none; rw [hx b u e]; exact fun z => by cases z
  · cases e : W.H b with
    | none => exact absurd e (ok.td b h)
    | some u => show upd W.H p o b ≠ none; rw [hx b u e]; exact fun z => by cases z
  · exact ok.st.kept rfl (fun _ h => h) (Ex.refl _) (fun _ _ h => h) fun b u _ h => hx b u h
theorem step_newF {K : PySem.W.Frag} {W : Wd} {s : Sto} (ok : Ok K W s) {p : Addr} {o : HO} (hp : W.H p = none) : Step W (W.newF p o) ∧ Ok K (W.newF p o) s := by
  have hx := Ex.new (o := o) hp
  have hf := Ex.new (o := o) (fnone ok hp)
  have hn : ∀ b, b ≠ p → W.F b = none → (W.newF p o).F b = none := fun b hb h => by show upd W.F p o b = none; rw [upd_ne hb]; exact h
  refine ⟨⟨List.prefix_refl _, hf, fun b h => ?_, fun b u h _ => hx b u h, fun b h => .inl h, fun b h h2 _ => hn b (fun z => h2 (by rw [z]; exact hp)) h⟩, ⟨fun a u h => ?_, fun b h => ?_, ?_⟩⟩
  · cases e : W.H b with
    | none => exact absurd e h
    | some u => show upd W.H p o b ≠ none; rw [hx b u e]; exact fun z => by cases z
  · show upd W.H p o a = some u
    by_cases ha : a = p
    · subst ha
      have h' : upd W.F a o a = some u := h
      rw [upd_same] at h'
      rw [upd_same]; exact h'
    · have h' : upd W.F p o a = some u := h
      rw [upd_ne ha] at h'
      rw [upd_ne ha]; exact ok.ex _ _ h'
  · cases e : W.H b with
    | none => exact absurd e (ok.td b h)
    | some u => show upd W.H p o b ≠ none; rw [hx b u e]; exact fun z => by cases z
  · refine ok.st.kept rfl (fun _ h => h) hf (fun b ht h => hn b (fun z => ok.td b ht (by rw [z]; exact hp)) h) fun b u _ h => hx b u h
end M

/-! M, part 2: expressions. -/
namespace M
open PySem L2

/-! ### what is said behind an expression -/
abbrev RA := Wd → V → D → Prop
abbrev RB := Wd → Wd → V → D → Prop
def rD (K : PySem.W.Frag) : RA := fun W v d => Dr K W.ι W.F v d
/-- .. or a list of the frame's own -/
def rO (K : PySem.W.Frag) : RA := fun W v d => Dr K W.ι W.F v d ∨ ∃ a xs vs, d = .list xs ∧ v = .ref a ∧ W.H a = some (.lst vs) ∧ ¬ W.T a ∧ DrAll K W.ι W.F vs xs
/-- .. or any list as it stands -/
def rU (K : PySem.W.Frag) : RA := fun W v d => Dr K W.ι W.F v d ∨ ∃ a xs vs, d = .list xs ∧ v = .ref a ∧ W.H a = some (.lst vs) ∧ DrAll K W.ι W.F vs xs
/-- a new list -/
def rN (K : PySem.W.Frag) : RB := fun W W' v d => ∃ p xs vs, d = .list xs ∧ v = .ref p ∧ W.H p = none ∧ W'.H p = some (.lst vs) ∧ W'.F p = none ∧ ¬ W'.T p ∧ DrAll K W'.ι W'.F vs xs
abbrev aft (R : RA) : RB := fun _ W' v d => R W' v d
section
variable {K : PySem.W.Frag} {W W' : Wd} {v : V} {d : D}
theorem rD.o (h : rD K W v d) : rO K W v d := .inl h
theorem rO.u (h : rO K W v d) : rU K W v d := by
  rcases h with h | ⟨a, xs, vs, h1, h2, h3, _, h5⟩
  · exact .inl h
  · exact .inr ⟨a, xs, vs, h1, h2, h3, h5⟩
theorem rD.u (h : rD K W v d) : rU K W v d := .inl h
theorem rN.o (h : rN K W W' v d) : rO K W' v d := by
  obtain ⟨p, xs, vs, h1, h2, h3, h4, h5, h6, h7⟩ := h
  exact .inr ⟨p, xs, vs, h1, h2, h4, h6, h7⟩
theorem rO.step (h : rO K W v d) (s : Step W W') : rO K W' v d := by
  rcases h with h | ⟨a, xs, vs, h1, h2, h3, h4, h5⟩
  · exact .inl (s.dr h)
  · have hne : W.H a ≠ none := by rw [h3]; exact fun z => by cases z
    exact .inr ⟨a, xs, vs, h1, h2, s.keep _ _ h3 h4, fun z => (s.newT _ z).elim h4 hne, s.drAll h5⟩
theorem rD.step (h : rD K W v d) (s : Step W W') : rD K W' v d := s.dr h
end

abbrev XE := Env → Sto → Out D
abbrev XT := Env → Sto → Out Bool
abbrev XA := Env → Sto → Out (List D)
def Out.bind {α β : Type} (x : Out α) (f : α → Sto → Out β) : Out β := match x with
  | .ok a s => f a s
  | .exc c s => .exc c s
  | .bad => .bad
def lift {α : Type} (o : Option α) (s : Sto) : Out α := match o with
  | some d => .ok d s
  | none => .bad
@[simp] theorem bind_ok {α β : Type} (a : α) (s : Sto) (f : α → Sto → Out β) : (Out.ok a s).bind f = f a s := rfl
@[simp] theorem bind_exc {α β : Type} (c : Str) (s : Sto) (f : α → Sto → Out β) : (Out.exc c s : Out α).bind f = .exc c s := rfl
@[simp] theorem bind_bad {α β : Type} (f : α → Sto → Out β) : (Out.bad : Out α).bind f = .bad := rfl
@[simp] theorem lift_some {α : Type} (a : α) (s : Sto) : lift (some a) s = .ok a s := rfl
@[simp] theorem lift_none {α : Type} (s : Sto) : lift (none : Option α) s = .bad := rfl

/-- an outcome o, from W, wished: Q of a value, E of an exception -/
def Post {α : Type} (K : PySem.W.Frag) (W : Wd) (o : Out α) (Q : α → Sto → Wd → Prop) (E : Str → Wd → Prop) : Prop :=
  match o with
  | .ok a s' => ∀ W', Step W W' → Ok K W' s' → Q a s' W'
  | .exc c s' => ∀ W', Step W W' → Ok K W' s' → E c W'
  | .bad => False
def wexc (K : PySem.W.Frag) (Wx : WX) (σ : St) : Str → Wd → Prop := fun c W' => Wx (.ref (He.ga K c)) none σ W'.H
theorem Post.mono {α : Type} {K : PySem.W.Frag} {W : Wd} {o : Out α} {Q Q' : α → Sto → Wd → Prop} {E : Str → Wd → Prop} (h : Post K W o Q E) (hQ : ∀ a s W', Step W W' → Ok K W' s → Q a s W' → Q' a s W') : Post K W o Q' E := by
  cases o with
  | ok a s => exact fun W' st ok => hQ a s W' st ok (h W' st ok)
  | exc c s => exact h
  | bad => exact h
theorem Post.bind {α β : Type} {K : PySem.W.Frag} {W : Wd} {o : Out α} {f : α → Sto → Out β} {Q : β → Sto → Wd → Prop} {E : Str → Wd → Prop} (h : Post K W (o.bind f) Q E) :
    Post K W o (fun a s W' => Post K W' (f a s) Q E) E := by
  cases o with
  | ok a s =>
    intro W' st ok
    have h' : Post K W (f a s) Q E := h
    show Post K W' (f a s) Q E
    cases e : f a s with
    | ok b s2 => rw [e] at h'; exact fun W2 st2 ok2 => h' W2 (st.trans st2) ok2
    | exc c s2 => rw [e] at h'; exact fun W2 st2 ok2 => h' W2 (st.trans st2) ok2
    | bad => rw [e] at h'; exact h'
  | exc c s => exact h
  | bad => exact h
theorem Post.lift {α : Type} {K : PySem.W.Frag} {W : Wd} {s : Sto} {o : Option α} {Q : α → Sto → Wd → Prop} {E : Str → Wd → Prop} (h : Post K W (M.lift o s) Q E) : ∃ a, o = some a ∧ ∀ W', Step W W' → Ok K W' s → Q a s W' := by
  cases o with
  | some a => exact ⟨a, rfl, h⟩
  | none => exact h.elim

def GX (K : PySem.W.Frag) (R : RB) (Wx : WX) (m : XE) : TE := fun σ H Q => ∃ W0 W ρ s, W.H = H ∧ Ok K W s ∧ EnvR K W0 W σ ρ ∧ Post K W (m ρ s) (fun d _ W' => ∀ v, R W W' v d → Q v W'.H) (wexc K Wx σ)
def GT (K : PySem.W.Frag) (Wx : WX) (m : XT) : TT := fun σ H Q => ∃ W0 W ρ s, W.H = H ∧ Ok K W s ∧ EnvR K W0 W σ ρ ∧ Post K W (m ρ s) (fun b _ W' => Q b W'.H) (wexc K Wx σ)
def GA (K : PySem.W.Frag) (Wx : WX) (m : XA) : TA := fun σ H Q => ∃ W0 W ρ s, W.H = H ∧ Ok K W s ∧ EnvR K W0 W σ ρ ∧ Post K W (m ρ s) (fun ds _ W' => ∀ vs, DrAll K W'.ι W'.F vs ds → Q vs W'.H) (wexc K Wx σ)

/-- from a state in hand -/
theorem GX.mk {K : PySem.W.Frag} {R : RB} {Wx : WX} {m : XE} {W0 W : Wd} {ρ : Env} {s : Sto} {σ : St} {Q : VK} (ok : Ok K W s) (e : EnvR K W0 W σ ρ) (h : Post K W (m ρ s) (fun d _ W' => ∀ v, R W W' v d → Q v W'.H) (wexc K Wx σ)) : GX K R Wx m σ W.H Q := ⟨W0, W, ρ, s, rfl, ok, e, h⟩
theorem GT.mk {K : PySem.W.Frag} {Wx : WX} {m : XT} {W0 W : Wd} {ρ : Env} {s : Sto} {σ : St} {Q : Bool → Hp → Prop} (ok : Ok K W s) (e : EnvR K W0 W σ ρ) (h : Post K W (m ρ s) (fun d _ W' => Q d W'.H) (wexc K Wx σ)) : GT K Wx m σ W.H Q := ⟨W0, W, ρ, s, rfl, ok, e, h⟩
theorem GA.mk {K : PySem.W.Frag} {Wx : WX} {m : XA} {W0 W : Wd} {ρ : Env} {s : Sto} {σ : St} {Q : List V → Hp → Prop} (ok : Ok K W s) (e : EnvR K W0 W σ ρ) (h : Post K W (m ρ s) (fun ds _ W' => ∀ vs, DrAll K W'.ι W'.F vs ds → Q vs W'.H) (wexc K Wx σ)) : GA K Wx m σ W.H Q := ⟨W0, W, ρ, s, rfl, ok, e, h⟩

section
variable {X : Cx} {e : Expr} {R R' : RB} {Wx : WX} {m : XE}
theorem peImp {t t' : TE} (h : PE X e t) (i : ∀ σ H Q, t' σ H Q → t σ H Q) : PE X e t' := ⟨fun pins s σ H Q I q => h.run pins s σ H Q I (i σ H Q q)⟩
theorem ptImp {t t' : TT} (h : PT X e t) (i : ∀ σ H Q, t' σ H Q → t σ H Q) : PT X e t' := ⟨fun pins s σ H Q I q => h.run pins s σ H Q I (i σ H Q q)⟩
theorem pwImp {t t' : TT} (h : PW X e t) (i : ∀ σ H Q, t' σ H Q → t σ H Q) : PW X e t' := ⟨fun wh pins s σ H Q I q => h.run wh pins s σ H Q I (i σ H Q q)⟩
theorem paImp {es : List Expr} {t t' : TA} (h : PA X es t) (i : ∀ σ H Q, t' σ H Q → t σ H Q) : PA X es t' := ⟨fun pos pins s σ H Q I q => h.run pos pins s σ H Q I (i σ H Q q)⟩
theorem psImp {st : Stmt} {t t' : TS} (h : PS X st t) (i : ∀ D σ H, t' D σ H → t D σ H) : PS X st t' := ⟨fun pins s σ H D I q => h.run pins s σ H D I (i D σ H q)⟩
theorem pssImp {st : List Stmt} {t t' : TS} (h : PSs X st t) (i : ∀ D σ H, t' D σ H → t D σ H) : PSs X st t' := ⟨fun pins s σ H D I q => h.run pins s σ H D I (i D σ H q)⟩
theorem piImp {tg it : Expr} {t t' : TI} (h : PI X tg it t) (i : ∀ σ H R, t' σ H R → t σ H R) : PI X tg it t' := ⟨fun pins s σ H R I q => h.run pins s σ H R I (i σ H R q)⟩

/-- weaker things said of the value -/
theorem gxWeak (h : PE X e (GX X.K R Wx m)) (i : ∀ W W' v d, R W W' v d → R' W W' v d) : PE X e (GX X.K R' Wx m) := peImp h fun σ H Q ⟨W0, W, ρ, s, e1, ok, en, p⟩ =>
  ⟨W0, W, ρ, s, e1, ok, en, p.mono fun a s W' _ _ q v r => q v (i W W' v a r)⟩
theorem DO (h : PE X e (GX X.K (aft (rD X.K)) Wx m)) : PE X e (GX X.K (aft (rO X.K)) Wx m) := gxWeak h fun _ _ _ _ r => rD.o r
theorem DU (h : PE X e (GX X.K (aft (rD X.K)) Wx m)) : PE X e (GX X.K (aft (rU X.K)) Wx m) := gxWeak h fun _ _ _ _ r => rD.u r
theorem OU (h : PE X e (GX X.K (aft (rO X.K)) Wx m)) : PE X e (GX X.K (aft (rU X.K)) Wx m) := gxWeak h fun _ _ _ _ r => rO.u r
theorem NO (h : PE X e (GX X.K (rN X.K) Wx m)) : PE X e (GX X.K (aft (rO X.K)) Wx m) := gxWeak h fun _ _ _ _ r => rN.o r
theorem NU (h : PE X e (GX X.K (rN X.K) Wx m)) : PE X e (GX X.K (aft (rU X.K)) Wx m) := OU (NO h)
/-- a new list is kept as it is from now on -/
theorem freezeW {K : PySem.W.Frag} {W W' : Wd} {s : Sto} {p : Addr} {vs : List V} {xs : List D} (st : Step W W') (ok : Ok K W' s) (h1 : W.H p = none) (h2 : W'.H p = some (.lst vs)) (h3 : W'.F p = none) (h4 : ¬ W'.T p) (h5 : DrAll K W'.ι W'.F vs xs) :
    Step W { W' with F := upd W'.F p (.lst vs) } ∧ Ok K { W' with F := upd W'.F p (.lst vs) } s ∧ Dr K W'.ι (upd W'.F p (.lst vs)) (.ref p) (.list xs) := by
  have hx : Ex W'.F (upd W'.F p (.lst vs)) := Ex.new h3
  refine ⟨⟨st.pre, st.exF.trans hx, st.dom, st.keep, st.newT, fun b q1 q2 q3 => ?_⟩, ⟨fun a o q => ?_, ok.td, ?_⟩, .lst upd_same (h5.mono (List.prefix_refl _) hx)⟩
  · show upd W'.F p (.lst vs) b = none
    rw [upd_ne (fun z => q2 (by rw [z]; exact h1))]
    exact st.newF b q1 q2 q3
  · have q' : upd W'.F p (.lst vs) a = some o := q
    by_cases ha : a = p
    · subst ha
      rw [upd_same] at q'
      show W'.H a = some o
      rw [h2]; exact q'
    · rw [upd_ne ha] at q'
      exact ok.ex _ _ q'
  · exact ok.st.kept rfl (fun _ h => h) hx (fun b hb q => by show upd W'.F p (.lst vs) b = none; rw [upd_ne (fun z => h4 (by rw [← z]; exact hb))]; exact q) fun _ _ _ h => h
theorem ND (h : PE X e (GX X.K (rN X.K) Wx m)) : PE X e (GX X.K (aft (rD X.K)) Wx m) := peImp h fun σ H Q ⟨W0, W, ρ, s, e1, ok, en, p⟩ =>
  ⟨W0, W, ρ, s, e1, ok, en, by
    cases ho : m ρ s with
    | ok d s' =>
      rw [ho] at p
      intro W' st ok' v ⟨q, xs, vs, h1, h2, h3, h4, h5, h6, h7⟩
      subst h1 h2
      obtain ⟨st2, ok2, dr⟩ := freezeW st ok' h3 h4 h5 h6 h7
      exact p _ st2 ok2 _ dr
    | exc c s' => rw [ho] at p; exact p
    | bad => rw [ho] at p; exact p⟩
end

/-! ### constants and names -/
section
variable {X : Cx} {Wx : WX} {pos : Pos}
def xC (d : D) : XE := fun _ s => .ok d s
theorem post_ok {α : Type} {K : PySem.W.Frag} {W : Wd} {a : α} {s : Sto} {Q : α → Sto → Wd → Prop} {E : Str → Wd → Prop} (ok : Ok K W s) (h : Post K W (.ok a s) Q E) : Q a s W := h W (Step.refl W) ok
theorem gx_c {K : PySem.W.Frag} {v : V} {d : D} (hd : ∀ ι F, Dr K ι F v d) : ∀ σ H Q, GX K (aft (rD K)) Wx (xC d) σ H Q → tC v σ H Q := by
  rintro σ H Q ⟨W0, W, ρ, s, rfl, ok, en, p⟩
  exact post_ok ok p v (hd _ _)
theorem d_int {i : Int} {j} : PE X (.Constant (.int i) j pos) (GX X.K (aft (rD X.K)) Wx (xC (.int i))) := peImp pe_int (gx_c fun _ _ => .int i)
theorem d_bl {b : Bool} {j} : PE X (.Constant (.bool b) j pos) (GX X.K (aft (rD X.K)) Wx (xC (.bool b))) := peImp pe_bl (gx_c fun _ _ => .bl b)
theorem d_non {j} : PE X (.Constant .none j pos) (GX X.K (aft (rD X.K)) Wx (xC .none)) := peImp pe_non (gx_c fun _ _ => .non)
theorem d_str {x : Str} {j} : PE X (.Constant (.str x) j pos) (GX X.K (aft (rD X.K)) Wx (xC (.str x))) := peImp pe_str (gx_c fun _ _ => .str x)
/-- a module's number -/
theorem d_gint {x : Str} {i : Int} (hg : Gl X x) (hm : ∃ t, X.mg x = some (.int i t)) (hd : (x == ("__debug__" : Str)) = false := by decide) : PE X (.Name x pos) (GX X.K (aft (rD X.K)) Wx (xC (.int i))) := by
  obtain ⟨t, hm⟩ := hm
  exact peImp (pe_glob (v := .int i) hg hm ⟨t, rfl⟩ hd) (gx_c fun _ _ => .int i)
/-- a slot that holds data -/
def xV (i : Nat) : XE := fun ρ s => match ρ[i]? with
  | some (.val d) => .ok d s
  | _ => .bad
/-- .. or a list of the frame's own, read at once -/
def xL (i : Nat) : XE := fun ρ s => match ρ[i]? with
  | some (.val d) => .ok d s
  | some (.own xs) => .ok (.list xs) s
  | _ => .bad
theorem gx_v {K : PySem.W.Frag} {i : Nat} : ∀ σ H Q, GX K (aft (rD K)) Wx (xV i) σ H Q → tVar i σ H Q := by
  rintro σ H Q ⟨W0, W, ρ, s, rfl, ok, en, p⟩
  unfold xV at p
  split at p
  · rename_i d e
    obtain ⟨v, h1, h2⟩ := en.val i d e
    exact ⟨v, h1, post_ok ok p v h2⟩
  · exact p.elim
theorem gx_l {K : PySem.W.Frag} {i : Nat} : ∀ σ H Q, GX K (aft (rO K)) Wx (xL i) σ H Q → tVar i σ H Q := by
  rintro σ H Q ⟨W0, W, ρ, s, rfl, ok, en, p⟩
  unfold xL at p
  split at p
  · rename_i d e
    obtain ⟨v, h1, h2⟩ := en.val i d e
    exact ⟨v, h1, post_ok ok p v (.inl h2)⟩
  · rename_i xs e
    obtain ⟨oa, h1, _⟩ := en.own
    obtain ⟨q1, q2, q3, q4, vs, q5, q6⟩ := h1 i xs e
    exact ⟨_, q1, post_ok ok p _ (.inr ⟨_, xs, vs, rfl, rfl, q5, q4, q6⟩)⟩
  · exact p.elim
theorem d_v (i : Nat) {x : Str} (hN : X.N[i]? = some x := by rfl) (hv : Vis X.env.scope x := by first | exact Or.inl rfl | exact Or.inr (Or.inl rfl) | exact Or.inr (Or.inr rfl)) (hd : (x == ("__debug__" : Str)) = false := by decide)
    (hcd : (x == ("__classdict__" : Str)) = false := by decide) : PE X (.Name x pos) (GX X.K (aft (rD X.K)) Wx (xV i)) := peImp (pe_var hN hv hd hcd) gx_v
theorem o_v (i : Nat) {x : Str} (hN : X.N[i]? = some x := by rfl) (hv : Vis X.env.scope x := by first | exact Or.inl rfl | exact Or.inr (Or.inl rfl) | exact Or.inr (Or.inr rfl)) (hd : (x == ("__debug__" : Str)) = false := by decide)
    (hcd : (x == ("__classdict__" : Str)) = false := by decide) : PE X (.Name x pos) (GX X.K (aft (rO X.K)) Wx (xL i)) := peImp (pe_var hN hv hd hcd) gx_l
end

/-! ### argument lists, displays -/
section
variable {X : Cx} {Wx : WX} {pos : Pos}
def aN : XA := fun _ s => .ok [] s
def aC (f : XE) (g : XA) : XA := fun ρ s => (f ρ s).bind fun d s1 => (g ρ s1).bind fun ds s2 => .ok (d :: ds) s2
theorem a_nil : PA X [] (GA X.K Wx aN) := paImp pa_nil fun σ H Q ⟨W0, W, ρ, s, e1, ok, en, p⟩ => by
  subst e1
  exact post_ok ok p [] .nil
theorem ga_cons {K : PySem.W.Frag} {f : XE} {g : XA} : ∀ σ H Q, GA K Wx (aC f g) σ H Q → tCons (GX K (aft (rD K)) Wx f) (GA K Wx g) σ H Q := by
  rintro σ H Q ⟨W0, W, ρ, s, rfl, ok, en, p⟩
  refine GX.mk ok en (Post.mono p.bind fun d s1 W1 st1 ok1 p1 v hv => ?_)
  refine GA.mk ok1 (en.step st1) (Post.mono (Post.bind p1) fun ds s2 W2 st2 ok2 p2 vs hvs => ?_)
  exact post_ok ok2 p2 (v :: vs) (.cons (st2.dr hv) hvs)
theorem a_cons {e : Expr} {es : List Expr} {f : XE} {g : XA} (ha : PE X e (GX X.K (aft (rD X.K)) Wx f)) (hr : PA X es (GA X.K Wx g)) (hs : starEach (e :: es) X.env = (false, eval e X.env) :: starEach es X.env := by rfl) :
    PA X (e :: es) (GA X.K Wx (aC f g)) := paImp (pa_cons ha hr hs) ga_cons
def xTup (g : XA) : XE := fun ρ s => (g ρ s).bind fun ds s1 => if ds.length ≤ sizeLine then .ok (.tuple ds) s1 else .bad
def xLst (g : XA) : XE := fun ρ s => (g ρ s).bind fun ds s1 => if ds.length ≤ sizeLine then .ok (.list ds) s1 else .bad
/-- a new tuple stands -/
theorem new_tup {K : PySem.W.Frag} {W : Wd} {s : Sto} {p : Addr} {vs : List V} {ds : List D} (ok : Ok K W s) (hp : W.H p = none) (h : DrAll K W.ι W.F vs ds) :
    Step W (W.newF p (.tup vs)) ∧ Ok K (W.newF p (.tup vs)) s ∧ Dr K (W.newF p (.tup vs)).ι (W.newF p (.tup vs)).F (.ref p) (.tuple ds) :=
  ⟨(step_newF ok hp).1, (step_newF ok hp).2, .tup upd_same (h.mono (List.prefix_refl _) (Ex.new (fnone ok hp)))⟩
theorem new_lst {K : PySem.W.Frag} {W : Wd} {s : Sto} {p : Addr} {vs : List V} {ds : List D} (ok : Ok K W s) (hp : W.H p = none) (h : DrAll K W.ι W.F vs ds) :
    Step W (W.new p (.lst vs)) ∧ Ok K (W.new p (.lst vs)) s ∧ rN K W (W.new p (.lst vs)) (.ref p) (.list ds) :=
  ⟨(step_new ok hp).1, (step_new ok hp).2, p, ds, vs, rfl, rfl, hp, upd_same, fnone ok hp, tnone ok hp, h⟩
theorem rN.back {K : PySem.W.Frag} {W W1 W2 : Wd} {v : V} {d : D} (st : Step W W1) (h : rN K W1 W2 v d) : rN K W W2 v d := by
  obtain ⟨p, xs, vs, h1, h2, h3, h4⟩ := h
  refine ⟨p, xs, vs, h1, h2, ?_, h4⟩
  cases e : W.H p with
  | none => rfl
  | some o => exact absurd h3 (st.dom p (by rw [e]; exact fun z => by cases z))
theorem d_tup {es : List Expr} {x1} {g : XA} (h : PA X es (GA X.K Wx g)) : PE X (.Tuple es x1 pos) (GX X.K (aft (rD X.K)) Wx (xTup g)) := peImp (pe_tup h) fun σ H Q ⟨W0, W, ρ, s, e1, ok, en, p⟩ => by
  subst e1
  refine GA.mk ok en (Post.mono p.bind fun ds s1 W1 st1 ok1 p1 vs hvs => ?_)
  by_cases hz : ds.length ≤ sizeLine
  · rw [if_pos hz] at p1
    refine ⟨by rw [hvs.length]; exact hz, fun q hq => ?_⟩
    obtain ⟨a1, a2, a3⟩ := new_tup ok1 hq hvs
    exact p1 _ a1 a2 _ a3
  · rw [if_neg hz] at p1; exact p1.elim
theorem n_lst {es : List Expr} {g : XA} (h : PA X es (GA X.K Wx g)) : PE X (.List es pos) (GX X.K (rN X.K) Wx (xLst g)) := peImp (pe_lst h) fun σ H Q ⟨W0, W, ρ, s, e1, ok, en, p⟩ => by
  subst e1
  refine GA.mk ok en (Post.mono p.bind fun ds s1 W1 st1 ok1 p1 vs hvs => ?_)
  by_cases hz : ds.length ≤ sizeLine
  · rw [if_pos hz] at p1
    refine ⟨by rw [hvs.length]; exact hz, fun q hq => ?_⟩
    obtain ⟨a1, a2, a3⟩ := new_lst ok1 hq hvs
    exact p1 _ a1 a2 _ (a3.back st1)
  · rw [if_neg hz] at p1; exact p1.elim
end

/-! ### operators -/
/-- r does g, from data to data, leaving the store -/
def OpD (K : PySem.W.Frag) (R : RB) (r : R2) (g : D → D → Option D) : Prop := ∀ (W : Wd) (s : Sto) (v1 v2 : V) (d1 d2 d : D) (Q : VK), Ok K W s → rU K W v1 d1 → rU K W v2 d2 → g d1 d2 = some d →
  (∀ v W', Step W W' → Ok K W' s → R W W' v d → Q v W'.H) → r v1 v2 W.H Q
def x1 (g : D → Option D) (f : XE) : XE := fun ρ s => (f ρ s).bind fun a s1 => lift (g a) s1
def x2 (g : D → D → Option D) (f1 f2 : XE) : XE := fun ρ s => (f1 ρ s).bind fun a s1 => (f2 ρ s1).bind fun b s2 => lift (g a b) s2
/-- R may be said from further back -/
class Back (R : RB) : Prop where
  back : ∀ {W W1 W2 : Wd} {v : V} {d : D}, Step W W1 → R W1 W2 v d → R W W2 v d
instance (R : RA) : Back (aft R) := ⟨fun _ h => h⟩
instance (K : PySem.W.Frag) : Back (rN K) := ⟨fun st h => h.back st⟩
section
variable {K : PySem.W.Frag} {R : RB} {Wx : WX} {r : R2} {g : D → D → Option D} {f1 f2 : XE}
theorem gx_2 [Back R] (o : OpD K R r g) : ∀ σ H Q, GX K R Wx (x2 g f1 f2) σ H Q → tOp r (GX K (aft (rO K)) Wx f1) (GX K (aft (rU K)) Wx f2) σ H Q := by
  rintro σ H Q ⟨W0, W, ρ, s, rfl, ok, en, p⟩
  refine GX.mk ok en (Post.mono p.bind fun d1 s1 W1 st1 ok1 p1 v1 hv1 => ?_)
  refine GX.mk ok1 (en.step st1) (Post.mono (Post.bind p1) fun d2 s2 W2 st2 ok2 p2 v2 hv2 => ?_)
  obtain ⟨d, e, q⟩ := p2.lift
  exact o W2 s2 v1 v2 d1 d2 d Q ok2 (rO.u (hv1.step st2)) hv2 e fun v W3 st3 ok3 hr => q W3 st3 ok3 v (Back.back (st1.trans st2) hr)
end
section
variable {X : Cx} {Wx : WX} {pos : Pos} {a b c : Expr} {f1 f2 f3 : XE} {R : RB}
theorem g_op [Back R] {op : Operator} {r : R2} {g : D → D → Option D} (ho : OpR X (binaryOp op) r) (o : OpD X.K R r g) (ha : PE X a (GX X.K (aft (rO X.K)) Wx f1)) (hb : PE X b (GX X.K (aft (rU X.K)) Wx f2)) : PE X (.BinOp a op b pos) (GX X.K R Wx (x2 g f1 f2)) :=
  peImp (pe_op ho ha hb) (gx_2 o)
theorem g_cmp [Back R] {op : CmpOp} {r : R2} {g : D → D → Option D} (ho : OpR X (compareOp op) r) (o : OpD X.K R r g) (ha : PE X a (GX X.K (aft (rO X.K)) Wx f1)) (hb : PE X b (GX X.K (aft (rU X.K)) Wx f2)) (hm : behindInMarks op b = false) : PE X (.Compare a [op] [b] pos) (GX X.K R Wx (x2 g f1 f2)) :=
  peImp (pe_cmpR ho ha hb hm) (gx_2 o)
def xB (f : XE) : XT := fun ρ s => (f ρ s).bind fun d s1 => match d with
  | .bool b => .ok b s1
  | _ => .bad
/-- a value that is a bool, as a test -/
theorem gt_b {K : PySem.W.Frag} {f : XE} : ∀ σ H (Q : Bool → Hp → Prop), GT K Wx (xB f) σ H Q → GX K (aft (rD K)) Wx f σ H fun x H1 => ∃ k, x = .bl k ∧ Q k H1 := by
  rintro σ H Q ⟨W0, W, ρ, s, rfl, ok, en, p⟩
  refine GX.mk ok en (Post.mono p.bind fun d1 s1 W1 st1 ok1 p1 v1 hv1 => ?_)
  cases hv1 with
  | bl k => exact ⟨k, rfl, post_ok ok1 p1⟩
  | _ => exact p1.elim
theorem t_cmp {op : CmpOp} {r : R2} {g : D → D → Option D} (ho : OpR X (compareOp op) r) (o : OpD X.K (aft (rD X.K)) r g) (ha : PE X a (GX X.K (aft (rO X.K)) Wx f1)) (hb : PE X b (GX X.K (aft (rU X.K)) Wx f2)) (hm : behindInMarks op b = false) : PT X (.Compare a [op] [b] pos) (GT X.K Wx (xB (x2 g f1 f2))) :=
  ptImp (pt_cmpR ho ha hb hm) fun σ H Q h => gx_2 o σ H _ (gt_b σ H Q h)
theorem t_val {e : Expr} {f : XE} (h : PE X e (GX X.K (aft (rD X.K)) Wx f)) (he : ∀ whole, isTrue e X.env whole = (do let v ← whole; standAt e.pos; holding [v] (truthy v)) := by intro _; rfl) : PT X e (GT X.K Wx (xB f)) :=
  ptImp (pt_val h he) gt_b
/-- a op b op' c -/
def x3 (g g' : D → D → Option D) (f1 f2 f3 : XE) : XE := fun ρ s => (f1 ρ s).bind fun a s1 => (f2 ρ s1).bind fun b s2 => (lift (g a b) s2).bind fun k s3 => match k with
  | .bool true => (f3 ρ s3).bind fun c s4 => lift (g' b c) s4
  | .bool false => .ok (.bool false) s3
  | _ => .bad
theorem gx_3 {K : PySem.W.Frag} {r r' : R2} {g g' : D → D → Option D} (o : OpD K (aft (rD K)) r g) (o' : OpD K (aft (rD K)) r' g') : ∀ σ H Q, GX K (aft (rD K)) Wx (x3 g g' f1 f2 f3) σ H Q → tChain r r' (GX K (aft (rO K)) Wx f1) (GX K (aft (rO K)) Wx f2) (GX K (aft (rU K)) Wx f3) σ H Q := by
  rintro σ H Q ⟨W0, W, ρ, s, rfl, ok, en, p⟩
  refine GX.mk ok en (Post.mono p.bind fun d1 s1 W1 st1 ok1 p1 v1 hv1 => ?_)
  refine GX.mk ok1 (en.step st1) (Post.mono (Post.bind p1) fun d2 s2 W2 st2 ok2 p2 v2 hv2 => ?_)
  obtain ⟨d, e, q⟩ := (Post.bind p2).lift
  refine o W2 s2 v1 v2 d1 d2 d _ ok2 (rO.u (hv1.step st2)) (rO.u hv2) e fun v W3 st3 ok3 hr => ?_
  have q := q W3 st3 ok3
  cases hr with
  | bl k =>
    refine ⟨k, rfl, ?_⟩
    cases k with
    | false => exact post_ok ok3 q _ (.bl false)
    | true =>
      rw [if_pos rfl]
      refine GX.mk ok3 (en.step ((st1.trans st2).trans st3)) (Post.mono (Post.bind q) fun d4 s4 W4 st4 ok4 p4 v4 hv4 => ?_)
      obtain ⟨d5, e5, q5⟩ := p4.lift
      exact o' W4 s4 v2 v4 d2 d4 d5 Q ok4 (rO.u (hv2.step (st3.trans st4))) hv4 e5 fun v W5 st5 ok5 hr5 => q5 W5 st5 ok5 v hr5
  | _ => exact q.elim
end
end M

/-! M, part 3: operators on data. -/
namespace M
open PySem L2
section
variable {K : PySem.W.Frag} {W : Wd} {s : Sto} {v : V}
theorem rU.non (h : rU K W v .none) : v = .non := by
  rcases h with h | ⟨_, _, _, h, _⟩
  · cases h; rfl
  · cases h
theorem rU.int {i : Int} (h : rU K W v (.int i)) : v = .int i := by
  rcases h with h | ⟨_, _, _, h, _⟩
  · cases h; rfl
  · cases h
theorem rU.bl {b : Bool} (h : rU K W v (.bool b)) : v = .bl b := by
  rcases h with h | ⟨_, _, _, h, _⟩
  · cases h; rfl
  · cases h
theorem rU.str {x : Str} (h : rU K W v (.str x)) : v = .str x := by
  rcases h with h | ⟨_, _, _, h, _⟩
  · cases h; rfl
  · cases h
theorem rU.list (ok : Ok K W s) {ds : List D} (h : rU K W v (.list ds)) : ∃ a vs, v = .ref a ∧ W.H a = some (.lst vs) ∧ DrAll K W.ι W.F vs ds := by
  rcases h with h | ⟨a, xs, vs, h1, h2, h3, h4⟩
  · cases h with
    | lst h1 h2 => exact ⟨_, _, rfl, ok.ex _ _ h1, h2⟩
  · cases h1; exact ⟨a, vs, h2, h3, h4⟩
theorem rU.tup (ok : Ok K W s) {ds : List D} (h : rU K W v (.tuple ds)) : ∃ a vs, v = .ref a ∧ W.F a = some (.tup vs) ∧ W.H a = some (.tup vs) ∧ DrAll K W.ι W.F vs ds := by
  rcases h with h | ⟨a, xs, vs, h1, h2, h3, h4⟩
  · cases h with
    | tup h1 h2 => exact ⟨_, _, rfl, h1, ok.ex _ _ h1, h2⟩
  · cases h1
theorem rU.scr (ok : Ok K W s) {ds : List D} (h : rU K W v (scrD ds)) : ∃ a vs, v = .ref a ∧ SqL K W.H a vs ∧ DrAll K W.ι W.F vs ds := by
  rcases h with h | ⟨a, xs, vs, h1, h2, h3, h4⟩
  · cases h with
    | scr h1 h2 => exact ⟨_, _, rfl, ok.ex.seq h1, h2⟩
  · cases h1
/-- data as HandS has it -/
theorem depth_all {ds : List D} {d : D} (h : d ∈ ds) : d.canLay0 = true ∨ True := .inr trivial
mutual
theorem Dr.dp {ι : List Addr} {F H : Hp} (e : Ex F H) : ∀ {v : V} {d : D}, Dr K ι F v d → d.canLay0 = true → Dp K H v d
  | _, _, .non, _ => .non
  | _, _, .bl b, _ => .bl b
  | _, _, .int i, _ => .int i
  | _, _, .str x, _ => .str x
  | _, _, .lst h hs, c => .lst (.inl (.inl (e _ _ h))) (DrAll.dp e hs (by simpa [PyData.canLay0] using c))
  | _, _, .tup h hs, c => .tup (.inl (.inl (e _ _ h))) (DrAll.dp e hs (by simpa [PyData.canLay0] using c))
  | _, _, .robj _, c => by simp [refD, PyData.canLay0] at c
  | _, _, .scr _ _, c => by simp [scrD, PyData.canLay0] at c
theorem DrAll.dp {ι : List Addr} {F H : Hp} (e : Ex F H) : ∀ {vs : List V} {ds : List D}, DrAll K ι F vs ds → PyData.canLayAll0 ds = true → DpAll K H vs ds
  | _, _, .nil, _ => .nil
  | _ :: _, d :: ds, .cons h hs, c => by
    have c' : (PyData.canLay0 d && PyData.canLayAll0 ds) = true := by rw [PyData.canLayAll0] at c; exact c
    rw [Bool.and_eq_true] at c'
    exact .cons (Dr.dp e h c'.1) (DrAll.dp e hs c'.2)
end
theorem rU.dp (ok : Ok K W s) {d : D} (h : rU K W v d) (c : d.canLay0 = true) : Dp K W.H v d := by
  rcases h with h | ⟨a, xs, vs, h1, h2, h3, h4⟩
  · exact h.dp ok.ex c
  · subst h1 h2
    exact .lst (.inl (.inl h3)) (h4.dp ok.ex (by simpa [PyData.canLay0] using c))
theorem lay_of {d : D} (h : SeqAt.shaped d = true) : d.canLay0 = true := SeqAt.canLay_of_shaped h
end

/-! ### == and its like -/
def eqD (a b : D) : Option D := if (SeqAt.shaped a && SeqAt.shaped b) = true then some (.bool (PyData.eqv a b)) else none
def neD (a b : D) : Option D := if (SeqAt.shaped a && SeqAt.shaped b) = true then some (.bool (!PyData.eqv a b)) else none
section
variable {K : PySem.W.Frag}
theorem o_eq : OpD K (aft (rD K)) (rEqD K) eqD := by
  intro W s v1 v2 d1 d2 d Q ok h1 h2 e q
  unfold eqD at e
  split at e
  · rename_i c
    rw [Bool.and_eq_true] at c
    cases e
    exact ⟨d1, d2, h1.dp ok (lay_of c.1), h2.dp ok (lay_of c.2), c.1, c.2, q _ W (Step.refl W) ok (.bl _)⟩
  · cases e
theorem o_ne : OpD K (aft (rD K)) (rNeD K) neD := by
  intro W s v1 v2 d1 d2 d Q ok h1 h2 e q
  unfold neD at e
  split at e
  · rename_i c
    rw [Bool.and_eq_true] at c
    cases e
    exact ⟨d1, d2, h1.dp ok (lay_of c.1), h2.dp ok (lay_of c.2), c.1, c.2, q _ W (Step.refl W) ok (.bl _)⟩
  · cases e

/-! ### ints -/
def i2 (g : Int → Int → D) : D → D → Option D
  | .int i, .int j => some (g i j)
  | _, _ => none
def i2c (C : Int → Int → Bool) (g : Int → Int → D) : D → D → Option D
  | .int i, .int j => if C i j = true then some (g i j) else none
  | _, _ => none
theorem o_i0 {g : Int → Int → V} {g' : Int → Int → D} (hg : ∀ i j ι F, Dr K ι F (g i j) (g' i j)) : OpD K (aft (rD K)) (rI0 g) (i2 g') := by
  intro W s v1 v2 d1 d2 d Q ok h1 h2 e q
  unfold i2 at e
  split at e
  · cases e
    exact ⟨_, _, h1.int, h2.int, q _ W (Step.refl W) ok (hg _ _ _ _)⟩
  · cases e
theorem o_ic {C : Int → Int → Prop} {C' : Int → Int → Bool} {g : Int → Int → V} {g' : Int → Int → D} (hC : ∀ i j, C' i j = true → C i j) (hg : ∀ i j ι F, Dr K ι F (g i j) (g' i j)) : OpD K (aft (rD K)) (rI C g) (i2c C' g') := by
  intro W s v1 v2 d1 d2 d Q ok h1 h2 e q
  unfold i2c at e
  split at e
  · split at e
    · rename_i c
      cases e
      exact ⟨_, _, h1.int, h2.int, hC _ _ c, q _ W (Step.refl W) ok (hg _ _ _ _)⟩
    · cases e
  · cases e
def subD : D → D → Option D := i2 fun i j => .int (i - j)
def modD : D → D → Option D := i2c (fun _ j => decide (0 < j)) fun i j => .int (i % j)
def fdivD : D → D → Option D := i2c (fun _ j => decide (0 < j ∧ j < 1073741824)) fun i j => .int (i / j)
def powD : D → D → Option D := i2c (fun i j => decide (0 ≤ j ∧ j ≤ 1000000 ∧ i.natAbs < 2 ^ 64)) fun i j => .int (i ^ j.toNat)
theorem o_sub : OpD K (aft (rD K)) (rI0 fun i j => .int (i - j)) subD := o_i0 fun _ _ _ _ => .int _
theorem o_mod : OpD K (aft (rD K)) (rI (fun _ j => 0 < j) fun i j => .int (i % j)) modD := o_ic (fun _ _ h => of_decide_eq_true h) fun _ _ _ _ => .int _
theorem o_fdiv : OpD K (aft (rD K)) (rI CDiv fun i j => .int (i / j)) fdivD := o_ic (fun _ _ h => (of_decide_eq_true h : _ ∧ _)) fun _ _ _ _ => .int _
theorem o_pow : OpD K (aft (rD K)) (rI CPow fun i j => .int (i ^ j.toNat)) powD := o_ic (fun _ _ h => (of_decide_eq_true h : _ ∧ _ ∧ _)) fun _ _ _ _ => .int _
def ltD : D → D → Option D := i2 fun i j => .bool (decide (i < j))
def leD : D → D → Option D := i2 fun i j => .bool (decide (i ≤ j))
def gtD : D → D → Option D := i2 fun i j => .bool (decide (j < i))
def geD : D → D → Option D := i2 fun i j => .bool (decide (j ≤ i))
theorem o_lt : OpD K (aft (rD K)) (rI0 fun i j => .bl (decide (i < j))) ltD := o_i0 fun _ _ _ _ => .bl _
theorem o_le : OpD K (aft (rD K)) (rI0 fun i j => .bl (decide (i ≤ j))) leD := o_i0 fun _ _ _ _ => .bl _
theorem o_gt : OpD K (aft (rD K)) (rI0 fun i j => .bl (decide (j < i))) gtD := o_i0 fun _ _ _ _ => .bl _
theorem o_ge : OpD K (aft (rD K)) (rI0 fun i j => .bl (decide (j ≤ i))) geD := o_i0 fun _ _ _ _ => .bl _

/-! ### + and * of any kind -/
def rAddA (K : PySem.W.Frag) : R2 := fun x y H Q => (∃ i j, x = .int i ∧ y = .int j ∧ Q (.int (i + j)) H) ∨ (∃ i j, x = .str i ∧ y = .str j ∧ i.length + j.length ≤ sizeLine ∧ Q (.str (i ++ j)) H) ∨ rCat x y H Q ∨ rCatA K x y H Q
theorem op_addA {X : Cx} : OpR X (binaryOp .Add) (rAddA X.K) := op_add.or (op_add_str.or (op_cat.or op_catA))
def addD : D → D → Option D
  | .int i, .int j => some (.int (i + j))
  | .str x, .str y => if x.length + y.length ≤ sizeLine then some (.str (x ++ y)) else none
  | .list xs, .list ys => if xs.length + ys.length ≤ sizeLine then some (.list (xs ++ ys)) else none
  | .tuple xs, .tuple ys => if xs.length + ys.length ≤ sizeLine then some (.tuple (xs ++ ys)) else none
  | _, _ => none
/-- a new list, kept as it is -/
theorem new_lstF {W : Wd} {s : Sto} {p : Addr} {vs : List V} {ds : List D} (ok : Ok K W s) (hp : W.H p = none) (h : DrAll K W.ι W.F vs ds) :
    Step W (W.newF p (.lst vs)) ∧ Ok K (W.newF p (.lst vs)) s ∧ Dr K (W.newF p (.lst vs)).ι (W.newF p (.lst vs)).F (.ref p) (.list ds) :=
  ⟨(step_newF ok hp).1, (step_newF ok hp).2, .lst upd_same (h.mono (List.prefix_refl _) (Ex.new (fnone ok hp)))⟩
theorem dr_ref_tup {W : Wd} {a : Addr} {vs : List V} {ds : List D} (h1 : W.F a = some (.tup vs)) (h2 : DrAll K W.ι W.F vs ds) : Dr K W.ι W.F (.ref a) (.tuple ds) := .tup h1 h2
theorem DrAll.nil_iff {ι : List Addr} {F : Hp} {vs : List V} {ds : List D} (h : DrAll K ι F vs ds) : vs = [] ↔ ds = [] := by
  cases h <;> simp
theorem o_add : OpD K (aft (rD K)) (rAddA K) addD := by
  intro W s v1 v2 d1 d2 d Q ok h1 h2 e q
  unfold addD at e
  split at e
  · cases e
    exact .inl ⟨_, _, h1.int, h2.int, q _ W (Step.refl W) ok (.int _)⟩
  · split at e
    · rename_i hz
      cases e
      exact .inr (.inl ⟨_, _, h1.str, h2.str, hz, q _ W (Step.refl W) ok (.str _)⟩)
    · cases e
  · split at e
    · rename_i hz
      cases e
      obtain ⟨a, vs, e1, e2, e3⟩ := h1.list ok
      obtain ⟨b, ws, f1, f2, f3⟩ := h2.list ok
      refine .inr (.inr (.inl ⟨a, b, vs, ws, e1, f1, e2, f2, by rw [e3.length, f3.length]; exact hz, fun p hp => ?_⟩))
      obtain ⟨a1, a2, a3⟩ := new_lstF ok hp (e3.append f3)
      exact q _ _ a1 a2 a3
    · cases e
  · split at e
    · rename_i xs ys hz
      cases e
      obtain ⟨a, vs, e1, e0, e2, e3⟩ := h1.tup ok
      obtain ⟨b, ws, f1, f0, f2, f3⟩ := h2.tup ok
      subst e1 f1
      refine .inr (.inr (.inr ⟨a, b, vs, ws, rfl, rfl, SqT.of e2, SqT.of f2, by rw [e3.length, f3.length]; exact hz, fun hn => ?_, fun _ hn => ?_, fun _ _ p hp => ?_⟩))
      · have : xs = [] := e3.nil_iff.mp hn
        subst this
        exact q _ W (Step.refl W) ok (.tup f0 f3)
      · have : ys = [] := f3.nil_iff.mp hn
        subst this
        rw [List.append_nil] at q
        exact q _ W (Step.refl W) ok (.tup e0 e3)
      · obtain ⟨a1, a2, a3⟩ := new_tup ok hp (e3.append f3)
        exact q _ _ a1 a2 a3
    · cases e
  · cases e
/-- xs + ys, for a name that is changed later -/
def catD : D → D → Option D
  | .list xs, .list ys => if xs.length + ys.length ≤ sizeLine then some (.list (xs ++ ys)) else none
  | _, _ => none
theorem o_cat : OpD K (rN K) rCat catD := by
  intro W s v1 v2 d1 d2 d Q ok h1 h2 e q
  unfold catD at e
  split at e
  · split at e
    · rename_i hz
      cases e
      obtain ⟨a, vs, e1, e2, e3⟩ := h1.list ok
      obtain ⟨b, ws, f1, f2, f3⟩ := h2.list ok
      refine ⟨a, b, vs, ws, e1, f1, e2, f2, by rw [e3.length, f3.length]; exact hz, fun p hp => ?_⟩
      obtain ⟨a1, a2, a3⟩ := new_lst ok hp (e3.append f3)
      exact q _ _ a1 a2 a3
    · cases e
  · cases e
def rMulA : R2 := fun x y H Q => rI CMul (fun i j => .int (i * j)) x y H Q ∨ rRep x y H Q
theorem op_mulA {X : Cx} : OpR X (binaryOp .Mult) rMulA := op_mul.or op_rep
def small (i : Int) : Bool := Nat.ble i.natAbs 1000000000000000000
theorem small_iff {i : Int} : small i = true ↔ i.natAbs ≤ 1000000000000000000 := ⟨Nat.le_of_ble_eq_true, Nat.ble_eq_true_of_le⟩
def cMul (i j : Int) : Bool := small i || small j
def repOk (n : Nat) (k : Int) : Bool := small k && Nat.ble (n * k.toNat) sizeLine
theorem cMul_of {i j : Int} (h : cMul i j = true) : (-(2 ^ 64) < i ∧ i < 2 ^ 64) ∨ (-(2 ^ 64) < j ∧ j < 2 ^ 64) := by
  have e : (2 : Int) ^ 64 = 18446744073709551616 := by decide
  unfold cMul at h
  rw [Bool.or_eq_true, small_iff, small_iff] at h
  rw [e]
  omega
theorem repOk_to {n : Nat} {k : Int} (h : repOk n k = true) : -(2 ^ 63) ≤ k ∧ k < 2 ^ 63 ∧ n * k.toNat ≤ sizeLine := by
  have e : (2 : Int) ^ 63 = 9223372036854775808 := by decide
  unfold repOk at h
  rw [Bool.and_eq_true, small_iff] at h
  have h2 := Nat.le_of_ble_eq_true h.2
  rw [e]
  omega
def mulD : D → D → Option D
  | .int i, .int j => if cMul i j = true then some (.int (i * j)) else none
  | .list xs, .int k => if repOk xs.length k = true then some (.list (List.replicate k.toNat xs).flatten) else none
  | _, _ => none
theorem o_mul : OpD K (aft (rD K)) rMulA mulD := by
  intro W s v1 v2 d1 d2 d Q ok h1 h2 e q
  unfold mulD at e
  split at e
  · split at e
    · rename_i hz
      cases e
      exact .inl ⟨_, _, h1.int, h2.int, cMul_of hz, q _ W (Step.refl W) ok (.int _)⟩
    · cases e
  · split at e
    · rename_i xs k hz
      cases e
      obtain ⟨a, vs, e1, e2, e3⟩ := h1.list ok
      have hz' : -(2 ^ 63) ≤ k ∧ k < 2 ^ 63 ∧ xs.length * k.toNat ≤ sizeLine := repOk_to hz
      refine .inr ⟨a, k, vs, e1, h2.int, e2, hz'.1, hz'.2.1, by rw [e3.length]; exact hz'.2.2, fun p hp => ?_⟩
      obtain ⟨a1, a2, a3⟩ := new_lstF ok hp (e3.rep k.toNat)
      exact q _ _ a1 a2 a3
    · cases e
  · cases e
/-- [x] * n, for a name that is changed later -/
def repD : D → D → Option D
  | .list xs, .int k => if repOk xs.length k = true then some (.list (List.replicate k.toNat xs).flatten) else none
  | _, _ => none
theorem o_rep : OpD K (rN K) rRep repD := by
  intro W s v1 v2 d1 d2 d Q ok h1 h2 e q
  unfold repD at e
  split at e
  · split at e
    · rename_i xs k hz
      cases e
      obtain ⟨a, vs, e1, e2, e3⟩ := h1.list ok
      have hz' : -(2 ^ 63) ≤ k ∧ k < 2 ^ 63 ∧ xs.length * k.toNat ≤ sizeLine := repOk_to hz
      refine ⟨a, k, vs, e1, h2.int, e2, hz'.1, hz'.2.1, by rw [e3.length]; exact hz'.2.2, fun p hp => ?_⟩
      obtain ⟨a1, a2, a3⟩ := new_lst ok hp (e3.rep k.toNat)
      exact q _ _ a1 a2 a3
    · cases e
  · cases e

/-! ### in -/
def rInT (K : PySem.W.Frag) : R2 := fun x y H Q => ∃ d ds, Dp K H x d ∧ Dp K H y (.tuple ds) ∧ SeqAt.shaped d = true ∧ SeqAt.shaped (.tuple ds) = true ∧ Q (.bl (ds.any fun z => PyData.eqv z d)) H
def rNiT (K : PySem.W.Frag) : R2 := fun x y H Q => ∃ d ds, Dp K H x d ∧ Dp K H y (.tuple ds) ∧ SeqAt.shaped d = true ∧ SeqAt.shaped (.tuple ds) = true ∧ Q (.bl (!ds.any fun z => PyData.eqv z d)) H
theorem op_inT {X : Cx} (hu : X.A.units + 65 < cLine) : OpR X (compareOp .In) (rInT X.K) := by
  intro pins s σ H x y v u Q I rx ry h
  obtain ⟨d, ds, hd, he, sd, se, q⟩ := h
  obtain ⟨as, r1⟩ := Dp.reads I d x v hd rx
  obtain ⟨bs, r2⟩ := Dp.reads I (.tuple ds) y u he ry
  exact SeqAt.in_tuple_reads r2 r1 (SeqAt.canLay_of_shaped se) (SeqAt.canLay_of_shaped sd) (PyProof.Rows.room_in_shaped sd hu) ⟨.bl _, H, I, rfl, q⟩
theorem op_niT {X : Cx} (hu : X.A.units + 65 < cLine) : OpR X (compareOp .NotIn) (rNiT X.K) := by
  intro pins s σ H x y v u Q I rx ry h
  obtain ⟨d, ds, hd, he, sd, se, q⟩ := h
  obtain ⟨as, r1⟩ := Dp.reads I d x v hd rx
  obtain ⟨bs, r2⟩ := Dp.reads I (.tuple ds) y u he ry
  exact SeqAt.notIn_tuple_reads r2 r1 (SeqAt.canLay_of_shaped se) (SeqAt.canLay_of_shaped sd) (PyProof.Rows.room_in_shaped sd hu) ⟨.bl _, H, I, rfl, q⟩
/-- a sign in a text; a thing in a list, in a tuple -/
def rInA (K : PySem.W.Frag) : R2 := fun x y H Q => (∃ (c : Nat) (z : Str), x = .str ⟨#[c]⟩ ∧ y = .str z ∧ Q (.bl (decide (c ∈ z.cps.toList))) H) ∨ rInD K x y H Q ∨ rInT K x y H Q
def rNiA (K : PySem.W.Frag) : R2 := fun x y H Q => (∃ (c : Nat) (z : Str), x = .str ⟨#[c]⟩ ∧ y = .str z ∧ Q (.bl (!decide (c ∈ z.cps.toList))) H) ∨ rNotInD K x y H Q ∨ rNiT K x y H Q
theorem op_inA {X : Cx} (hu : X.A.units + 65 < cLine) : OpR X (compareOp .In) (rInA X.K) := op_in_sign.or ((op_inD hu).or (op_inT hu))
theorem op_niA {X : Cx} (hu : X.A.units + 65 < cLine) : OpR X (compareOp .NotIn) (rNiA X.K) := op_notIn_sign.or ((op_notInD hu).or (op_niT hu))
def inB : D → D → Option Bool
  | .str ⟨⟨[c]⟩⟩, .str z => some (decide (c ∈ z.cps.toList))
  | d, .list ds => if (SeqAt.shaped d && SeqAt.shaped (.list ds)) = true then some (ds.any fun z => PyData.eqv z d) else none
  | d, .tuple ds => if (SeqAt.shaped d && SeqAt.shaped (.tuple ds)) = true then some (ds.any fun z => PyData.eqv z d) else none
  | _, _ => none
def inD (a b : D) : Option D := (inB a b).map .bool
def niD (a b : D) : Option D := (inB a b).map fun k => .bool (!k)
theorem o_in : OpD K (aft (rD K)) (rInA K) inD := by
  intro W s v1 v2 d1 d2 d Q ok h1 h2 e q
  unfold inD at e
  obtain ⟨k, hk, rfl⟩ := Option.map_eq_some_iff.mp e
  have q' := q (.bl k) W (Step.refl W) ok (.bl k)
  unfold inB at hk
  split at hk
  · cases hk
    exact .inl ⟨_, _, h1.str, h2.str, q'⟩
  · split at hk
    · rename_i c
      rw [Bool.and_eq_true] at c
      cases hk
      exact .inr (.inl ⟨_, _, h1.dp ok (lay_of c.1), h2.dp ok (lay_of c.2), c.1, c.2, q'⟩)
    · cases hk
  · split at hk
    · rename_i c
      rw [Bool.and_eq_true] at c
      cases hk
      exact .inr (.inr ⟨_, _, h1.dp ok (lay_of c.1), h2.dp ok (lay_of c.2), c.1, c.2, q'⟩)
    · cases hk
  · cases hk
theorem o_ni : OpD K (aft (rD K)) (rNiA K) niD := by
  intro W s v1 v2 d1 d2 d Q ok h1 h2 e q
  unfold niD at e
  obtain ⟨k, hk, rfl⟩ := Option.map_eq_some_iff.mp e
  have q' := q (.bl (!k)) W (Step.refl W) ok (.bl (!k))
  unfold inB at hk
  split at hk
  · cases hk
    exact .inl ⟨_, _, h1.str, h2.str, q'⟩
  · split at hk
    · rename_i c
      rw [Bool.and_eq_true] at c
      cases hk
      exact .inr (.inl ⟨_, _, h1.dp ok (lay_of c.1), h2.dp ok (lay_of c.2), c.1, c.2, q'⟩)
    · cases hk
  · split at hk
    · rename_i c
      rw [Bool.and_eq_true] at c
      cases hk
      exact .inr (.inr ⟨_, _, h1.dp ok (lay_of c.1), h2.dp ok (lay_of c.2), c.1, c.2, q'⟩)
    · cases hk
  · cases hk

/-! ### items -/
def rIxA (K : PySem.W.Frag) : R2 := rIx K
def ixD : D → D → Option D
  | .list ds, .int i => atI ds i
  | .tuple ds, .int i => atI ds i
  | .str z, .int i => if z.length ≤ sizeLine then (atI z.cps.toList i).map fun c => .str ⟨#[c]⟩ else none
  | .dict [(.none, .list ds)], .int i => atI ds i
  | _, _ => none
theorem atI_of {ι : List Addr} {F : Hp} {vs : List V} {ds : List D} {i : Int} {d : D} (h : DrAll K ι F vs ds) (e : atI ds i = some d) : ∃ v, atI vs i = some v ∧ Dr K ι F v d := by
  unfold atI at e ⊢
  obtain ⟨j, h1, h2⟩ := Option.bind_eq_some_iff.mp e
  obtain ⟨v, h3, h4⟩ := h.get h2
  exact ⟨v, by rw [h.length, h1]; exact h3, h4⟩
theorem o_ix : OpD K (aft (rD K)) (rIx K) ixD := by
  intro W s v1 v2 d1 d2 d Q ok h1 h2 e q
  unfold ixD at e
  split at e
  · obtain ⟨a, vs, e1, e2, e3⟩ := h1.list ok
    obtain ⟨v, g1, g2⟩ := atI_of e3 e
    exact .inl ⟨a, vs, _, v, e1, h2.int, SqL.of e2, g1, q _ W (Step.refl W) ok g2⟩
  · obtain ⟨a, vs, e1, _, e2, e3⟩ := h1.tup ok
    obtain ⟨v, g1, g2⟩ := atI_of e3 e
    exact .inr (.inl ⟨a, vs, _, v, e1, h2.int, SqT.of e2, g1, q _ W (Step.refl W) ok g2⟩)
  · split at e
    · rename_i hz
      obtain ⟨c, hc, rfl⟩ := Option.map_eq_some_iff.mp e
      exact .inr (.inr ⟨_, _, c, h1.str, h2.int, hz, hc, q _ W (Step.refl W) ok (.str _)⟩)
    · cases e
  · rename_i ds i
    have h1' : rU K W v1 (scrD ds) := h1
    obtain ⟨a, vs, e1, e2, e3⟩ := h1'.scr ok
    obtain ⟨v, g1, g2⟩ := atI_of e3 e
    exact .inl ⟨a, vs, _, v, e1, h2.int, e2, g1, q _ W (Step.refl W) ok g2⟩
  · cases e
end
section
variable {X : Cx} {Wx : WX} {pos : Pos} {a b : Expr} {f1 f2 : XE}
theorem d_ix (ha : PE X a (GX X.K (aft (rO X.K)) Wx f1)) (hb : PE X b (GX X.K (aft (rU X.K)) Wx f2)) (hs : PlainIx b := by exact fun _ _ => rfl) : PE X (.Subscript a b pos) (GX X.K (aft (rD X.K)) Wx (x2 ixD f1 f2)) :=
  peImp (pe_ix ix_seq ha hb hs) (gx_2 o_ix)
end
end M

/-! M, part 4: tests, cuts, calls of built-ins. -/
namespace M
open PySem L2
section
variable {X : Cx} {Wx : WX} {pos : Pos} {a b c : Expr} {rest : List Expr} {f1 f2 f3 : XE} {t u : XT} {R : RB}
/-! ### and, or, not, if -/
def tAnd2 (t u : XT) : XT := fun ρ s => (t ρ s).bind fun k s1 => if k = true then u ρ s1 else .ok false s1
def tOr2 (t u : XT) : XT := fun ρ s => (t ρ s).bind fun k s1 => if k = true then .ok true s1 else u ρ s1
def tNot1 (t : XT) : XT := fun ρ s => (t ρ s).bind fun k s1 => .ok (!k) s1
theorem w_and1 (h : PT X a (GT X.K Wx t)) : PW X (.BoolOp .And [a] pos) (GT X.K Wx t) := pw_and1 h
theorem w_or1 (h : PT X a (GT X.K Wx t)) : PW X (.BoolOp .Or [a] pos) (GT X.K Wx t) := pw_or1 h
theorem w_and (h : PT X a (GT X.K Wx t)) (h2 : PW X (.BoolOp .And (b :: rest) pos) (GT X.K Wx u)) : PW X (.BoolOp .And (a :: b :: rest) pos) (GT X.K Wx (tAnd2 t u)) := pwImp (pw_and h h2) fun σ H Q ⟨W0, W, ρ, s, e1, ok, en, p⟩ => by
  subst e1
  refine GT.mk ok en (Post.mono p.bind fun k s1 W1 st1 ok1 p1 => ?_)
  cases k with
  | true => exact GT.mk ok1 (en.step st1) p1
  | false => exact post_ok ok1 p1
theorem w_or (h : PT X a (GT X.K Wx t)) (h2 : PW X (.BoolOp .Or (b :: rest) pos) (GT X.K Wx u)) : PW X (.BoolOp .Or (a :: b :: rest) pos) (GT X.K Wx (tOr2 t u)) := pwImp (pw_or h h2) fun σ H Q ⟨W0, W, ρ, s, e1, ok, en, p⟩ => by
  subst e1
  refine GT.mk ok en (Post.mono p.bind fun k s1 W1 st1 ok1 p1 => ?_)
  cases k with
  | false => exact GT.mk ok1 (en.step st1) p1
  | true => exact post_ok ok1 p1
theorem t_w (h : PW X a (GT X.K Wx t)) : PT X a (GT X.K Wx t) := h.pt
theorem t_not (h : PT X a (GT X.K Wx t)) : PT X (.UnaryOp .Not a pos) (GT X.K Wx (tNot1 t)) := ptImp (pt_not h) fun σ H Q ⟨W0, W, ρ, s, e1, ok, en, p⟩ => by
  subst e1
  exact GT.mk ok en (Post.mono p.bind fun k s1 W1 st1 ok1 p1 => post_ok ok1 p1)
/-- the same as values -/
def xAnd (f g : XE) : XE := fun ρ s => (f ρ s).bind fun d s1 => match d with
  | .bool true => g ρ s1
  | .bool false => .ok (.bool false) s1
  | _ => .bad
def xOr (f g : XE) : XE := fun ρ s => (f ρ s).bind fun d s1 => match d with
  | .bool false => g ρ s1
  | .bool true => .ok (.bool true) s1
  | _ => .bad
def xNot (f : XE) : XE := fun ρ s => (f ρ s).bind fun d s1 => match d with
  | .bool k => .ok (.bool !k) s1
  | _ => .bad
theorem d_one {op} (h : PE X a (GX X.K R Wx f1)) : PE X (.BoolOp op [a] pos) (GX X.K R Wx f1) := pe_one h
theorem d_and (h : PE X a (GX X.K (aft (rD X.K)) Wx f1)) (h2 : PE X (.BoolOp .And (b :: rest) pos) (GX X.K (aft (rD X.K)) Wx f2)) : PE X (.BoolOp .And (a :: b :: rest) pos) (GX X.K (aft (rD X.K)) Wx (xAnd f1 f2)) := peImp (pe_and h h2) fun σ H Q ⟨W0, W, ρ, s, e1, ok, en, p⟩ => by
  subst e1
  refine GX.mk ok en (Post.mono p.bind fun d1 s1 W1 st1 ok1 p1 v1 hv1 => ?_)
  cases hv1 with
  | bl k =>
    refine ⟨k, rfl, ?_⟩
    cases k with
    | true => rw [if_pos rfl]; exact GX.mk ok1 (en.step st1) p1
    | false => exact post_ok ok1 p1 _ (.bl false)
  | _ => exact p1.elim
theorem d_or (h : PE X a (GX X.K (aft (rD X.K)) Wx f1)) (h2 : PE X (.BoolOp .Or (b :: rest) pos) (GX X.K (aft (rD X.K)) Wx f2)) : PE X (.BoolOp .Or (a :: b :: rest) pos) (GX X.K (aft (rD X.K)) Wx (xOr f1 f2)) := peImp (pe_or h h2) fun σ H Q ⟨W0, W, ρ, s, e1, ok, en, p⟩ => by
  subst e1
  refine GX.mk ok en (Post.mono p.bind fun d1 s1 W1 st1 ok1 p1 v1 hv1 => ?_)
  cases hv1 with
  | bl k =>
    refine ⟨k, rfl, ?_⟩
    cases k with
    | true => rw [if_pos rfl]; exact post_ok ok1 p1 _ (.bl true)
    | false => rw [if_neg Bool.false_ne_true]; exact GX.mk ok1 (en.step st1) p1
  | _ => exact p1.elim
def xTest (t : XT) : XE := fun ρ s => (t ρ s).bind fun k s1 => .ok (.bool k) s1
def xIf (t : XT) (f g : XE) : XE := fun ρ s => (t ρ s).bind fun k s1 => if k = true then f ρ s1 else g ρ s1
theorem d_if [Back R] (h : PT X c (GT X.K Wx t)) (h1 : PE X a (GX X.K R Wx f1)) (h2 : PE X b (GX X.K R Wx f2)) : PE X (.IfExp c a b pos) (GX X.K R Wx (xIf t f1 f2)) := peImp (pe_ifExp h h1 h2) fun σ H Q ⟨W0, W, ρ, s, e1, ok, en, p⟩ => by
  subst e1
  refine GT.mk ok en (Post.mono p.bind fun k s1 W1 st1 ok1 p1 => ?_)
  cases k with
  | true => rw [if_pos rfl]; rw [if_pos rfl] at p1; exact GX.mk ok1 (en.step st1) (p1.mono fun d s2 W2 st2 ok2 q v r => q v (Back.back st1 r))
  | false => rw [if_neg Bool.false_ne_true]; rw [if_neg Bool.false_ne_true] at p1; exact GX.mk ok1 (en.step st1) (p1.mono fun d s2 W2 st2 ok2 q v r => q v (Back.back st1 r))
/-! ### is None -/
def isNb : D → Bool
  | .none => true
  | _ => false
def isND (d : D) : D := .bool (isNb d)
def notND (d : D) : D := .bool (!isNb d)
def x1t (g : D → D) (f : XE) : XE := fun ρ s => (f ρ s).bind fun a s1 => .ok (g a) s1
theorem isN_of {K : PySem.W.Frag} {W : Wd} {v : V} {d : D} (h : rU K W v d) : decide (v = .non) = isNb d := by
  rcases h with h | ⟨a, xs, vs, h1, h2, _⟩
  · cases h <;> simp [refD, scrD, dctD, isNb]
  · subst h1 h2; simp [isNb]
theorem d_isN {j pos'} (h : PE X a (GX X.K (aft (rU X.K)) Wx f1)) (hm : behindInMarks .Is (.Constant .none j pos') = false := by first | exact nobehind _ (by decide) (by decide) | rfl) : PE X (.Compare a [.Is] [.Constant .none j pos'] pos) (GX X.K (aft (rD X.K)) Wx (x1t isND f1)) := peImp (pe_cmp (pc_isN h) hm) fun σ H Q ⟨W0, W, ρ, s, e1, ok, en, p⟩ => by
  subst e1
  refine GX.mk ok en (Post.mono p.bind fun d1 s1 W1 st1 ok1 p1 v1 hv1 => ?_)
  rw [isN_of hv1]
  exact post_ok ok1 p1 _ (.bl _)
theorem d_notN {j pos'} (h : PE X a (GX X.K (aft (rU X.K)) Wx f1)) (hm : behindInMarks .IsNot (.Constant .none j pos') = false := by first | exact nobehind _ (by decide) (by decide) | rfl) : PE X (.Compare a [.IsNot] [.Constant .none j pos'] pos) (GX X.K (aft (rD X.K)) Wx (x1t notND f1)) := peImp (pe_cmp (pc_notN h) hm) fun σ H Q ⟨W0, W, ρ, s, e1, ok, en, p⟩ => by
  subst e1
  refine GX.mk ok en (Post.mono p.bind fun d1 s1 W1 st1 ok1 p1 v1 hv1 => ?_)
  rw [isN_of hv1]
  exact post_ok ok1 p1 _ (.bl _)
theorem t_isN {j pos'} (h : PE X a (GX X.K (aft (rU X.K)) Wx f1)) (hm : behindInMarks .Is (.Constant .none j pos') = false := by first | exact nobehind _ (by decide) (by decide) | rfl) : PT X (.Compare a [.Is] [.Constant .none j pos'] pos) (GT X.K Wx (xB (x1t isND f1))) := ptImp (pt_cmp (pc_isN h) hm) fun σ H Q h => by
  obtain ⟨W0, W, ρ, s, e1, ok, en, p⟩ := gt_b σ H Q h
  subst e1
  refine GX.mk ok en (Post.mono p.bind fun d1 s1 W1 st1 ok1 p1 v1 hv1 => ?_)
  rw [isN_of hv1]
  exact post_ok ok1 p1 _ (.bl _)
theorem t_notN {j pos'} (h : PE X a (GX X.K (aft (rU X.K)) Wx f1)) (hm : behindInMarks .IsNot (.Constant .none j pos') = false := by first | exact nobehind _ (by decide) (by decide) | rfl) : PT X (.Compare a [.IsNot] [.Constant .none j pos'] pos) (GT X.K Wx (xB (x1t notND f1))) := ptImp (pt_cmp (pc_notN h) hm) fun σ H Q h => by
  obtain ⟨W0, W, ρ, s, e1, ok, en, p⟩ := gt_b σ H Q h
  subst e1
  refine GX.mk ok en (Post.mono p.bind fun d1 s1 W1 st1 ok1 p1 v1 hv1 => ?_)
  rw [isN_of hv1]
  exact post_ok ok1 p1 _ (.bl _)
/-! ### -x -/
def negD : D → Option D
  | .int i => some (.int (-i))
  | _ => none
theorem d_neg (h : PE X a (GX X.K (aft (rD X.K)) Wx f1)) : PE X (.UnaryOp .USub a pos) (GX X.K (aft (rD X.K)) Wx (x1 negD f1)) := peImp (pe_un un_neg h) fun σ H Q ⟨W0, W, ρ, s, e1, ok, en, p⟩ => by
  subst e1
  refine GX.mk ok en (Post.mono p.bind fun d1 s1 W1 st1 ok1 p1 v1 hv1 => ?_)
  obtain ⟨d, e, q⟩ := p1.lift
  unfold negD at e
  split at e
  · cases e
    exact ⟨_, rU.int (.inl hv1), q W1 (Step.refl _) ok1 _ (.int _)⟩
  · cases e
/-! ### truth -/
def truD : D → Option Bool
  | .none => some false
  | .bool b => some b
  | .int i => some (i != 0)
  | .str x => if x.length ≤ sizeLine then some ((x.length : Int) != 0) else none
  | .list ds => some !ds.isEmpty
  | .tuple ds => some !ds.isEmpty
  | .dict _ => none
def tTru (f : XE) : XT := fun ρ s => (f ρ s).bind fun d s1 => lift (truD d) s1
theorem isEmpty_dr {ι : List Addr} {F : Hp} {K : PySem.W.Frag} {vs : List V} {ds : List D} (h : DrAll K ι F vs ds) : vs.isEmpty = ds.isEmpty := by cases h <;> rfl
theorem tru_of {K : PySem.W.Frag} {W : Wd} {s : Sto} (ok : Ok K W s) {v : V} {d : D} {k : Bool} (h : rU K W v d) (e : truD d = some k) : TruV K v W.H k := by
  cases d with
  | none => rw [rU.non h]; cases e; rfl
  | bool b => rw [rU.bl h]; cases e; rfl
  | int i => rw [rU.int h]; cases e; rfl
  | str x =>
    rw [rU.str h]
    have e' : (if x.length ≤ sizeLine then some ((x.length : Int) != 0) else none) = some k := e
    split at e'
    · rename_i hz
      cases e'; exact ⟨hz, rfl⟩
    · cases e'
  | list ds =>
    obtain ⟨a, vs, rfl, h2, h3⟩ := h.list ok
    cases e
    exact .inl ⟨vs, SqL.of h2, by rw [isEmpty_dr h3]⟩
  | tuple ds =>
    obtain ⟨a, vs, rfl, _, h2, h3⟩ := h.tup ok
    cases e
    exact .inr (.inl ⟨vs, SqT.of h2, by rw [isEmpty_dr h3]⟩)
  | dict _ => cases e
theorem t_tru (h : PE X a (GX X.K (aft (rU X.K)) Wx f1)) (he : ∀ whole, isTrue a X.env whole = (do let v ← whole; standAt a.pos; holding [v] (truthy v)) := by intro _; rfl) : PT X a (GT X.K Wx (tTru f1)) := ptImp (pt_truth h he) fun σ H Q ⟨W0, W, ρ, s, e1, ok, en, p⟩ => by
  subst e1
  refine GX.mk ok en (Post.mono p.bind fun d1 s1 W1 st1 ok1 p1 v1 hv1 => ?_)
  obtain ⟨k, e, q⟩ := p1.lift
  exact ⟨k, tru_of ok1 hv1 e, q W1 (Step.refl _) ok1⟩
/-- not x, by truth, as a value -/
def xNotT (f : XE) : XE := fun ρ s => (f ρ s).bind fun d s1 => (lift (truD d) s1).bind fun k s2 => .ok (.bool !k) s2
theorem d_notT (h : PE X a (GX X.K (aft (rU X.K)) Wx f1)) : PE X (.UnaryOp .Not a pos) (GX X.K (aft (rD X.K)) Wx (xNotT f1)) := peImp (pe_notT h) fun σ H Q ⟨W0, W, ρ, s, e1, ok, en, p⟩ => by
  subst e1
  refine GX.mk ok en (Post.mono p.bind fun d1 s1 W1 st1 ok1 p1 v1 hv1 => ?_)
  obtain ⟨k, e, q⟩ := (Post.bind p1).lift
  exact ⟨k, tru_of ok1 hv1 e, post_ok ok1 (q W1 (Step.refl _) ok1) _ (.bl _)⟩

/-! ### cuts -/
abbrev XO := Env → Sto → Out (Option Int)
def GO (K : PySem.W.Frag) (Wx : WX) (m : XO) : TO := fun σ H Q => ∃ W0 W ρ s, W.H = H ∧ Ok K W s ∧ EnvR K W0 W σ ρ ∧ Post K W (m ρ s) (fun b _ W' => Q b W'.H) (wexc K Wx σ)
theorem GO.mk {K : PySem.W.Frag} {m : XO} {W0 W : Wd} {ρ : Env} {s : Sto} {σ : St} {Q : Option Int → Hp → Prop} (ok : Ok K W s) (e : EnvR K W0 W σ ρ) (h : Post K W (m ρ s) (fun d _ W' => Q d W'.H) (wexc K Wx σ)) : GO K Wx m σ W.H Q := ⟨W0, W, ρ, s, rfl, ok, e, h⟩
def oN : XO := fun _ s => .ok none s
def oS (f : XE) : XO := fun ρ s => (f ρ s).bind fun d s1 => match d with
  | .int i => .ok (some i) s1
  | _ => .bad
theorem poImp {e : Option Expr} {t t' : TO} (h : PO X e t) (i : ∀ σ H Q, t' σ H Q → t σ H Q) : PO X e t' := ⟨fun pins s σ H Q I q => h.run pins s σ H Q I (i σ H Q q)⟩
theorem s_none : PO X none (GO X.K Wx oN) := poImp po_none fun σ H Q ⟨W0, W, ρ, s, e1, ok, en, p⟩ => by
  subst e1
  exact post_ok ok p
theorem s_some (h : PE X a (GX X.K (aft (rD X.K)) Wx f1)) : PO X (some a) (GO X.K Wx (oS f1)) := poImp (po_some h) fun σ H Q ⟨W0, W, ρ, s, e1, ok, en, p⟩ => by
  subst e1
  refine GX.mk ok en (Post.mono p.bind fun d1 s1 W1 st1 ok1 p1 v1 hv1 => ?_)
  cases hv1 with
  | int i => exact ⟨i, rfl, post_ok ok1 p1⟩
  | _ => exact p1.elim
def cutD (ds : List D) (lo hi : Option Int) : List D := (ds.drop (HT.sIx ds.length 0 lo)).take (HT.sIx ds.length ds.length hi - HT.sIx ds.length 0 lo)
def sliD (d : D) (lo hi : Option Int) : Option D := match d with
  | .list ds => some (.list (cutD ds lo hi))
  | .tuple ds => some (.tuple (cutD ds lo hi))
  | .str z => if z.length ≤ sizeLine then some (.str (cutS z lo hi)) else none
  | _ => none
def sliN (d : D) (lo hi : Option Int) : Option D := match d with
  | .list ds => some (.list (cutD ds lo hi))
  | _ => none
def xSl (g : D → Option Int → Option Int → Option D) (f : XE) (l h : XO) : XE := fun ρ s => (f ρ s).bind fun d s1 => (l ρ s1).bind fun i s2 => (h ρ s2).bind fun j s3 => lift (g d i j) s3
theorem cut_dr {K : PySem.W.Frag} {ι : List Addr} {F : Hp} {vs : List V} {ds : List D} {lo hi : Option Int} (h : DrAll K ι F vs ds) : DrAll K ι F (cutV vs lo hi) (cutD ds lo hi) := by
  unfold cutV cutD
  rw [h.length]
  exact (h.drop _).take _
def SlD (K : PySem.W.Frag) (R : RB) (r : V → Option Int → Option Int → Hp → VK → Prop) (g : D → Option Int → Option Int → Option D) : Prop := ∀ (W : Wd) (s : Sto) (v : V) (d d' : D) (i j : Option Int) (Q : VK), Ok K W s → rU K W v d → g d i j = some d' →
  (∀ v W', Step W W' → Ok K W' s → R W W' v d' → Q v W'.H) → r v i j W.H Q
def rSlAll (K : PySem.W.Frag) : V → Option Int → Option Int → Hp → VK → Prop := fun x lo hi H Q => rSlL K x lo hi H Q ∨ rSlA K x lo hi H Q ∨ rSlS x lo hi H Q
theorem sl_all : SlR X (rSlAll X.K) := sl_list.or (sl_tupA.or sl_str)
theorem o_sl {K : PySem.W.Frag} : SlD K (aft (rD K)) (rSlAll K) sliD := by
  intro W s v d d' i j Q ok h e q
  unfold sliD at e
  split at e
  · cases e
    obtain ⟨a, vs, rfl, h2, h3⟩ := h.list ok
    refine .inl ⟨a, vs, rfl, SqL.of h2, fun p hp => ?_⟩
    obtain ⟨a1, a2, a3⟩ := new_lstF ok hp (cut_dr h3)
    exact q _ _ a1 a2 a3
  · cases e
    obtain ⟨a, vs, rfl, h1, h2, h3⟩ := h.tup ok
    refine .inr (.inl ⟨a, vs, rfl, SqT.of h2, fun hw => ?_, fun hw p hp => ?_⟩)
    · refine q _ W (Step.refl W) ok ?_
      have e1 : HT.sIx vs.length 0 i = 0 := hw.1
      have e2 : HT.sIx vs.length vs.length j = vs.length := hw.2
      unfold cutD
      rw [← h3.length, e1, e2, List.drop_zero, Nat.sub_zero, h3.length, List.take_length]
      exact .tup h1 h3
    · obtain ⟨a1, a2, a3⟩ := new_tup ok hp (cut_dr (lo := i) (hi := j) h3)
      exact q _ _ a1 a2 a3
  · split at e
    · rename_i hz
      cases e
      exact .inr (.inr ⟨_, h.str, hz, q _ W (Step.refl W) ok (.str _)⟩)
    · cases e
  · cases e
theorem o_slN {K : PySem.W.Frag} : SlD K (rN K) (rSlL K) sliN := by
  intro W s v d d' i j Q ok h e q
  unfold sliN at e
  split at e
  · cases e
    obtain ⟨a, vs, rfl, h2, h3⟩ := h.list ok
    refine ⟨a, vs, rfl, SqL.of h2, fun p hp => ?_⟩
    obtain ⟨a1, a2, a3⟩ := new_lst ok hp (cut_dr h3)
    exact q _ _ a1 a2 a3
  · cases e
theorem gx_sl {K : PySem.W.Frag} [Back R] {r : V → Option Int → Option Int → Hp → VK → Prop} {g : D → Option Int → Option Int → Option D} {l h : XO} (o : SlD K R r g) : ∀ σ H Q, GX K R Wx (xSl g f1 l h) σ H Q → tSl r (GX K (aft (rO K)) Wx f1) (GO K Wx l) (GO K Wx h) σ H Q := by
  rintro σ H Q ⟨W0, W, ρ, s, rfl, ok, en, p⟩
  refine GX.mk ok en (Post.mono p.bind fun d1 s1 W1 st1 ok1 p1 v1 hv1 => ?_)
  refine GO.mk ok1 (en.step st1) (Post.mono (Post.bind p1) fun i s2 W2 st2 ok2 p2 => ?_)
  refine GO.mk ok2 (en.step (st1.trans st2)) (Post.mono (Post.bind p2) fun j s3 W3 st3 ok3 p3 => ?_)
  obtain ⟨d, e, q⟩ := p3.lift
  exact o W3 s3 v1 d1 d i j Q ok3 (rO.u (hv1.step (st2.trans st3))) e fun v W4 st4 ok4 hr => q W4 st4 ok4 v (Back.back ((st1.trans st2).trans st3) hr)
theorem d_sl {lo hi : Option Expr} {p2 : Pos} {l h : XO} (ha : PE X a (GX X.K (aft (rO X.K)) Wx f1)) (hl : PO X lo (GO X.K Wx l)) (hh : PO X hi (GO X.K Wx h)) : PE X (.Subscript a (.Slice lo hi none p2) pos) (GX X.K (aft (rD X.K)) Wx (xSl sliD f1 l h)) := peImp (pe_slice sl_all ha hl hh) (gx_sl o_sl)
theorem n_sl {lo hi : Option Expr} {p2 : Pos} {l h : XO} (ha : PE X a (GX X.K (aft (rO X.K)) Wx f1)) (hl : PO X lo (GO X.K Wx l)) (hh : PO X hi (GO X.K Wx h)) : PE X (.Subscript a (.Slice lo hi none p2) pos) (GX X.K (rN X.K) Wx (xSl sliN f1 l h)) := peImp (pe_slice sl_list ha hl hh) (gx_sl o_slN)

/-! ### built-ins of one argument, read at once -/
def C1D (K : PySem.W.Frag) (R : RB) (r : List V → Hp → VK → Prop) (g : D → Option D) : Prop := ∀ (W : Wd) (s : Sto) (v : V) (d d' : D) (Q : VK), Ok K W s → rU K W v d → g d = some d' →
  (∀ v W', Step W W' → Ok K W' s → R W W' v d' → Q v W'.H) → r [v] W.H Q
theorem gx_c1 {K : PySem.W.Frag} [Back R] {r : List V → Hp → VK → Prop} {g : D → Option D} (o : C1D K R r g) : ∀ σ H Q, GX K R Wx (x1 g f1) σ H Q → tCB r (tCons (GX K (aft (rU K)) Wx f1) tNil) σ H Q := by
  rintro σ H Q ⟨W0, W, ρ, s, rfl, ok, en, p⟩
  refine GX.mk ok en (Post.mono p.bind fun d1 s1 W1 st1 ok1 p1 v1 hv1 => ?_)
  obtain ⟨d, e, q⟩ := p1.lift
  exact o W1 s1 v1 d1 d Q ok1 hv1 e fun v W4 st4 ok4 hr => q W4 st4 ok4 v (Back.back st1 hr)
theorem d_b1 [Back R] {x : Str} {id : String} {p : Pos} {r : List V → Hp → VK → Prop} {g : D → Option D} (o : C1D X.K R r g) (hc : CallR X (.builtin id) r) (hg : Gl X x) (hm : X.mg x = none) (hv : bootBuiltins x = some (.builtin id)) (ha : PE X a (GX X.K (aft (rU X.K)) Wx f1))
    (hs : starEach (a :: []) X.env = (false, eval a X.env) :: starEach [] X.env := by rfl) (hn : x ≠ "__name__" := by decide) (hd : (x == ("__debug__" : Str)) = false := by decide) : PE X (.Call (.Name x p) [a] [] pos) (GX X.K R Wx (x1 g f1)) :=
  peImp (pe_callB hc hg hm hv (pa_cons ha pa_nil hs) hn hd hs) (gx_c1 o)
theorem d_t1 [Back R] {x : Str} {T : String} {p : Pos} {r : List V → Hp → VK → Prop} {g : D → Option D} (o : C1D X.K R r g) (hc : CallR X (.type T) r) (hg : Gl X x) (hm : X.mg x = none) (hv : bootBuiltins x = some (.type T)) (ha : PE X a (GX X.K (aft (rU X.K)) Wx f1))
    (hs : starEach (a :: []) X.env = (false, eval a X.env) :: starEach [] X.env := by rfl) (hn : x ≠ "__name__" := by decide) (hd : (x == ("__debug__" : Str)) = false := by decide) : PE X (.Call (.Name x p) [a] [] pos) (GX X.K R Wx (x1 g f1)) :=
  peImp (pe_callTy hc hg hm hv (pa_cons ha pa_nil hs) hn hd hs) (gx_c1 o)
def lenD : D → Option D
  | .list ds => some (.int ds.length)
  | .tuple ds => some (.int ds.length)
  | .str x => if x.length ≤ sizeLine then some (.int x.length) else none
  | .dict [(.none, .list ds)] => some (.int ds.length)
  | _ => none
theorem o_len {K : PySem.W.Frag} : C1D K (aft (rD K)) (fun xs H Q => ∃ x n, xs = [x] ∧ LenV K x H n ∧ Q (.int n) H) lenD := by
  intro W s v d d' Q ok h e q
  unfold lenD at e
  split at e
  · rename_i ds
    cases e
    obtain ⟨a, vs, rfl, h2, h3⟩ := h.list ok
    exact ⟨_, ds.length, rfl, .inl ⟨vs, SqL.of h2, h3.length.symm⟩, q _ W (Step.refl W) ok (.int _)⟩
  · rename_i ds
    cases e
    obtain ⟨a, vs, rfl, _, h2, h3⟩ := h.tup ok
    exact ⟨_, ds.length, rfl, .inr ⟨vs, SqT.of h2, h3.length.symm⟩, q _ W (Step.refl W) ok (.int _)⟩
  · split at e
    · rename_i x hz
      cases e
      exact ⟨v, x.length, rfl, by rw [h.str]; exact ⟨hz, rfl⟩, q _ W (Step.refl W) ok (.int _)⟩
    · cases e
  · rename_i ds
    cases e
    obtain ⟨a, vs, rfl, h2, h3⟩ := rU.scr (ds := ds) ok h
    exact ⟨_, ds.length, rfl, .inl ⟨vs, h2, h3.length.symm⟩, q _ W (Step.refl W) ok (.int _)⟩
  · cases e
def tupD : D → Option D
  | .list ds => some (.tuple ds)
  | .tuple ds => some (.tuple ds)
  | _ => none
theorem o_tuple {K : PySem.W.Frag} : C1D K (aft (rD K)) (fun xs H Q => ∃ p ys, xs = [.ref p] ∧ ((SqL K H p ys ∧ ∀ l, H l = none → Q (.ref l) (upd H l (.tup ys))) ∨ (SqT K H p ys ∧ Q (.ref p) H))) tupD := by
  intro W s v d d' Q ok h e q
  unfold tupD at e
  split at e
  · cases e
    obtain ⟨a, vs, rfl, h2, h3⟩ := h.list ok
    refine ⟨a, vs, rfl, .inl ⟨SqL.of h2, fun p hp => ?_⟩⟩
    obtain ⟨a1, a2, a3⟩ := new_tup ok hp h3
    exact q _ _ a1 a2 a3
  · cases e
    obtain ⟨a, vs, rfl, h1, h2, h3⟩ := h.tup ok
    exact ⟨a, vs, rfl, .inr ⟨SqT.of h2, q _ W (Step.refl W) ok (.tup h1 h3)⟩⟩
  · cases e
def lstD : D → Option D
  | .list ds => some (.list ds)
  | .tuple ds => some (.list ds)
  | _ => none
theorem o_list {K : PySem.W.Frag} : C1D K (rN K) (fun xs H Q => ∃ p ys, xs = [.ref p] ∧ (SqL K H p ys ∨ SqT K H p ys) ∧ ∀ l, H l = none → Q (.ref l) (upd H l (.lst ys))) lstD := by
  intro W s v d d' Q ok h e q
  unfold lstD at e
  split at e
  · cases e
    obtain ⟨a, vs, rfl, h2, h3⟩ := h.list ok
    refine ⟨a, vs, rfl, .inl (SqL.of h2), fun p hp => ?_⟩
    obtain ⟨a1, a2, a3⟩ := new_lst ok hp h3
    exact q _ _ a1 a2 a3
  · cases e
    obtain ⟨a, vs, rfl, _, h2, h3⟩ := h.tup ok
    refine ⟨a, vs, rfl, .inr (SqT.of h2), fun p hp => ?_⟩
    obtain ⟨a1, a2, a3⟩ := new_lst ok hp h3
    exact q _ _ a1 a2 a3
  · cases e
def intOfD : D → Option D
  | .int i => some (.int i)
  | .bool k => some (.int (if k then 1 else 0))
  | _ => none
theorem o_int {K : PySem.W.Frag} : C1D K (aft (rD K)) (fun xs H Q => (∃ i, xs = [.int i] ∧ Q (.int i) H) ∨ ∃ k, xs = [.bl k] ∧ Q (.int (if k then 1 else 0)) H) intOfD := by
  intro W s v d d' Q ok h e q
  unfold intOfD at e
  split at e
  · cases e
    exact .inl ⟨_, by rw [h.int], q _ W (Step.refl W) ok (.int _)⟩
  · cases e
    exact .inr ⟨_, by rw [h.bl], q _ W (Step.refl W) ok (.int _)⟩
  · cases e
/-- a list of ints -/
def intsOf : List D → Option (List Int)
  | [] => some []
  | .int i :: r => (intsOf r).map (i :: ·)
  | _ :: _ => none
theorem ints_dr {K : PySem.W.Frag} {ι : List Addr} {F : Hp} : ∀ {vs : List V} {ds : List D} {ns : List Int}, DrAll K ι F vs ds → intsOf ds = some ns → vs = ns.map V.int
  | _, [], _, h, e => by cases e; cases h; rfl
  | _, d :: r, ns, h, e => by
    unfold intsOf at e
    split at e
    · cases ‹_ :: _ = []›
    · rename_i i r' e0
      cases e0
      obtain ⟨ms, e1, rfl⟩ := Option.map_eq_some_iff.mp e
      cases h with
      | cons h1 h2 =>
        cases h1
        rw [ints_dr h2 e1, List.map_cons]
    · cases e
theorem dr_ints {K : PySem.W.Frag} {ι : List Addr} {F : Hp} : ∀ ns : List Int, DrAll K ι F (ns.map V.int) (ns.map PyData.int)
  | [] => .nil
  | n :: r => .cons (.int n) (dr_ints r)
@[simp] theorem intsOf_map : ∀ ns : List Int, intsOf (ns.map PyData.int) = some ns
  | [] => rfl
  | n :: r => by show (intsOf (r.map PyData.int)).map (n :: ·) = _; rw [intsOf_map r]; rfl
end
end M

/-! M, part 5: statements, defs. -/
namespace M
open PySem L2
open PyProof.Rows (envOfC)

inductive Res where
  | next (ρ : Env) (s : Sto)
  | ret (d : D) (s : Sto)
  | exc (c : Str) (ρ : Env) (s : Sto)
  | brk (ρ : Env) (s : Sto)
  | cont (ρ : Env) (s : Sto)
  | bad
abbrev XS := Env → Sto → Res

structure Mon (W W' : Wd) : Prop where
  pre : W.ι <+: W'.ι
  exF : Ex W.F W'.F
theorem Mon.refl (W : Wd) : Mon W W := ⟨List.prefix_refl _, Ex.refl _⟩
theorem Mon.trans {W W1 W2 : Wd} (a : Mon W W1) (b : Mon W1 W2) : Mon W W2 := ⟨a.pre.trans b.pre, a.exF.trans b.exF⟩
theorem Step.mon {W W' : Wd} (s : Step W W') : Mon W W' := ⟨s.pre, s.exF⟩
theorem Mon.dr {K : PySem.W.Frag} {W W' : Wd} (s : Mon W W') {v : V} {d : D} (h : Dr K W.ι W.F v d) : Dr K W'.ι W'.F v d := h.mono s.pre s.exF
theorem Mon.drAll {K : PySem.W.Frag} {W W' : Wd} (s : Mon W W') {v : List V} {d : List D} (h : DrAll K W.ι W.F v d) : DrAll K W'.ι W'.F v d := h.mono s.pre s.exF

/-- a frame's state -/
structure St2 (K : PySem.W.Frag) (W0 W : Wd) (σ : St) (ρ : Env) (s : Sto) : Prop where
  st : Step W0 W
  ok : Ok K W s
  en : EnvR K W0 W σ ρ

def PS (K : PySem.W.Frag) (Wx : WX) (W0 W : Wd) (D : Ends) (r : Res) : Prop :=
  match r with
  | .next ρ s => ∀ σ W', Mon W W' → St2 K W0 W' σ ρ s → D.nx σ W'.H
  | .ret d s => ∀ v W', Step W0 W' → Ok K W' s → Dr K W'.ι W'.F v d → D.rt v W'.H
  | .exc c ρ s => ∀ σ W', Mon W W' → St2 K W0 W' σ ρ s → Wx (.ref (He.ga K c)) none σ W'.H
  | .brk ρ s => ∀ σ W', Mon W W' → St2 K W0 W' σ ρ s → D.bk σ W'.H
  | .cont ρ s => ∀ σ W', Mon W W' → St2 K W0 W' σ ρ s → D.ct σ W'.H
  | .bad => False
theorem PS.later {K : PySem.W.Frag} {Wx : WX} {W0 W W1 : Wd} {D : Ends} {r : Res} (h : PS K Wx W0 W D r) (m : Mon W W1) : PS K Wx W0 W1 D r := by
  cases r with
  | next ρ s => exact fun σ W' m' q => h σ W' (m.trans m') q
  | ret d s => exact h
  | exc c ρ s => exact fun σ W' m' q => h σ W' (m.trans m') q
  | brk ρ s => exact fun σ W' m' q => h σ W' (m.trans m') q
  | cont ρ s => exact fun σ W' m' q => h σ W' (m.trans m') q
  | bad => exact h
def GS (K : PySem.W.Frag) (Wx : WX) (b : XS) : TS := fun D σ H => ∃ W0 W ρ s, W.H = H ∧ St2 K W0 W σ ρ s ∧ PS K Wx W0 W D (b ρ s)
theorem GS.mk {K : PySem.W.Frag} {Wx : WX} {b : XS} {W0 W : Wd} {ρ : Env} {s : Sto} {σ : St} {D : Ends} (h : St2 K W0 W σ ρ s) (p : PS K Wx W0 W D (b ρ s)) : GS K Wx b D σ W.H := ⟨W0, W, ρ, s, rfl, h, p⟩

def stX {α : Type} (f : Env → Sto → Out α) (k : α → XS) : XS := fun ρ s => match f ρ s with
  | .ok d s1 => k d ρ s1
  | .exc c s1 => .exc c ρ s1
  | .bad => .bad
/-- an expression within a statement -/
theorem PS.x {α : Type} {K : PySem.W.Frag} {Wx : WX} {W0 W : Wd} {D : Ends} {f : Env → Sto → Out α} {k : α → XS} {ρ : Env} {s : Sto} {σ : St} (h : St2 K W0 W σ ρ s) (p : PS K Wx W0 W D (stX f k ρ s)) :
    Post K W (f ρ s) (fun d s1 W1 => St2 K W0 W1 σ ρ s1 ∧ PS K Wx W0 W1 D (k d ρ s1)) (wexc K Wx σ) := by
  unfold stX at p
  cases e : f ρ s with
  | ok d s1 =>
    rw [e] at p
    exact fun W1 st1 ok1 => ⟨⟨h.st.trans st1, ok1, h.en.step st1⟩, PS.later p st1.mon⟩
  | exc c s1 =>
    rw [e] at p
    exact fun W1 st1 ok1 => p σ W1 st1.mon ⟨h.st.trans st1, ok1, h.en.step st1⟩
  | bad => rw [e] at p; exact p

/-! ### slots stored -/
theorem get_set {α : Type} {l : List α} {i j : Nat} {x y : α} (h : (l.set i x)[j]? = some y) : (j = i ∧ y = x) ∨ (j ≠ i ∧ l[j]? = some y) := by
  by_cases hij : j = i
  · subst hij
    rw [List.getElem?_set] at h
    simp only [if_true] at h
    split at h
    · exact .inl ⟨rfl, (Option.some.inj h).symm⟩
    · cases h
  · rw [List.getElem?_set_ne (Ne.symm hij)] at h
    exact .inr ⟨hij, h⟩
theorem EnvR.lt {K : PySem.W.Frag} {W0 W : Wd} {σ : St} {ρ : Env} (h : EnvR K W0 W σ ρ) {i : Nat} {x : Slot} (e : ρ[i]? = some x) : i < σ.length := by
  rw [← h.len]; exact (List.getElem?_eq_some_iff.mp e).1
theorem EnvR.set {K : PySem.W.Frag} {W0 W : Wd} {σ : St} {ρ : Env} (h : EnvR K W0 W σ ρ) {i : Nat} {v : V} {d : D} (r : Dr K W.ι W.F v d) : EnvR K W0 W (σ.set i (some v)) (ρ.set i (.val d)) := by
  refine ⟨by rw [List.length_set, List.length_set]; exact h.len, fun j d' e => ?_, ?_⟩
  · rcases get_set e with ⟨rfl, e1⟩ | ⟨hj, e1⟩
    · cases e1
      have hlt : j < ρ.length := by
        have := (List.getElem?_eq_some_iff.mp e).1
        rwa [List.length_set] at this
      exact ⟨v, List.getElem?_set_self (by rw [← h.len]; exact hlt), r⟩
    · obtain ⟨w, q1, q2⟩ := h.val j d' e1
      exact ⟨w, by rw [List.getElem?_set_ne (Ne.symm hj)]; exact q1, q2⟩
  · obtain ⟨oa, h1, h2⟩ := h.own
    refine ⟨oa, fun j xs e => ?_, fun j k xs ys e1 e2 => ?_⟩
    · rcases get_set e with ⟨rfl, e1⟩ | ⟨hj, e1⟩
      · cases e1
      · obtain ⟨q1, q⟩ := h1 j xs e1
        exact ⟨by rw [List.getElem?_set_ne (Ne.symm hj)]; exact q1, q⟩
    · rcases get_set e1 with ⟨rfl, e3⟩ | ⟨_, e3⟩
      · cases e3
      · rcases get_set e2 with ⟨rfl, e4⟩ | ⟨_, e4⟩
        · cases e4
        · exact h2 j k xs ys e3 e4
theorem EnvR.setOwn {K : PySem.W.Frag} {W0 W W' : Wd} {σ : St} {ρ : Env} (h : EnvR K W0 W σ ρ) (st0 : Step W0 W) (st : Step W W') {i : Nat} {p : Addr} {vs : List V} {xs : List D} (h1 : W.H p = none) (h2 : W'.H p = some (.lst vs)) (h3 : W'.F p = none) (h4 : ¬ W'.T p) (h5 : DrAll K W'.ι W'.F vs xs) :
    EnvR K W0 W' (σ.set i (some (.ref p))) (ρ.set i (.own xs)) := by
  have h' := h.step st
  have hw0 : W0.H p = none := by
    cases e : W0.H p with
    | none => rfl
    | some o => exact absurd h1 (st0.dom p (by rw [e]; exact fun z => by cases z))
  refine ⟨by rw [List.length_set, List.length_set]; exact h.len, fun j d' e => ?_, ?_⟩
  · rcases get_set e with ⟨rfl, e1⟩ | ⟨hj, e1⟩
    · cases e1
    · obtain ⟨w, q1, q2⟩ := h'.val j d' e1
      exact ⟨w, by rw [List.getElem?_set_ne (Ne.symm hj)]; exact q1, q2⟩
  · obtain ⟨oa, g1, g2⟩ := h.own
    have np : ∀ (j : Nat) ys, ρ[j]? = some (.own ys) → oa j ≠ p := fun j ys e z => by
      obtain ⟨_, _, _, _, ws, q5, _⟩ := g1 j ys e
      rw [z, h1] at q5; cases q5
    refine ⟨fun j => if j = i then p else oa j, fun j ys e => ?_, fun j k ys zs e1 e2 eq => ?_⟩
    · rcases get_set e with ⟨rfl, e1⟩ | ⟨hj, e1⟩
      · cases e1
        have hlt : j < ρ.length := by
          have := (List.getElem?_eq_some_iff.mp e).1
          rwa [List.length_set] at this
        simp only [if_true]
        exact ⟨List.getElem?_set_self (by rw [← h.len]; exact hlt), hw0, h3, h4, vs, h2, h5⟩
      · obtain ⟨q1, q2, q3, q4, ws, q5, q6⟩ := g1 j ys e1
        have hne : W.H (oa j) ≠ none := by rw [q5]; exact fun z => by cases z
        simp only [if_neg hj]
        exact ⟨by rw [List.getElem?_set_ne (Ne.symm hj)]; exact q1, q2, st.newF _ q3 hne q4, fun z => (st.newT _ z).elim q4 hne, ws, st.keep _ _ q5 q4, st.drAll q6⟩
    · rcases get_set e1 with ⟨rfl, e3⟩ | ⟨hj, e3⟩
      · rcases get_set e2 with ⟨rfl, e4⟩ | ⟨hk, e4⟩
        · rfl
        · simp only [if_true, if_neg hk] at eq
          exact absurd eq.symm (np k zs e4)
      · rcases get_set e2 with ⟨rfl, e4⟩ | ⟨hk, e4⟩
        · simp only [if_true, if_neg hj] at eq
          exact absurd eq (np j ys e3)
        · simp only [if_neg hj, if_neg hk] at eq
          exact g2 j k ys zs e3 e4 eq
/-- a list of the frame's own is changed in its place -/
theorem own_upd {K : PySem.W.Frag} {W0 W : Wd} {σ : St} {ρ : Env} {s : Sto} (h : St2 K W0 W σ ρ s) {i : Nat} {xs : List D} (e : ρ[i]? = some (.own xs)) :
    ∃ a vs, σ[i]? = some (some (.ref a)) ∧ W.H a = some (.lst vs) ∧ ¬ W.T a ∧ DrAll K W.ι W.F vs xs ∧ ∀ vs' xs', DrAll K W.ι W.F vs' xs' → ∃ W', W'.H = upd W.H a (.lst vs') ∧ W'.ι = W.ι ∧ W'.F = W.F ∧ Mon W W' ∧ St2 K W0 W' σ (ρ.set i (.own xs')) s := by
  obtain ⟨oa, h1, h2⟩ := h.en.own
  obtain ⟨q1, q2, q3, q4, vs, q5, q6⟩ := h1 i xs e
  refine ⟨oa i, vs, q1, q5, q4, q6, fun vs' xs' hd => ⟨{ W with H := upd W.H (oa i) (.lst vs') }, rfl, rfl, rfl, ⟨List.prefix_refl _, Ex.refl _⟩, ?_, ?_, ?_⟩⟩
  · have ne : ∀ b, W0.H b ≠ none → b ≠ oa i := fun b hb z => hb (by rw [z]; exact q2)
    refine ⟨h.st.pre, h.st.exF, fun b hb => ?_, fun b o hb ht => ?_, h.st.newT, h.st.newF⟩
    · show upd W.H (oa i) _ b ≠ none
      rw [upd_ne (ne b hb)]; exact h.st.dom b hb
    · show upd W.H (oa i) _ b = some o
      rw [upd_ne (ne b (by rw [hb]; exact fun z => by cases z))]; exact h.st.keep b o hb ht
  · have nt : ∀ b, W.T b → b ≠ oa i := fun b hb z => q4 (by rw [← z]; exact hb)
    refine ⟨fun b o hb => ?_, fun b hb => ?_, ?_⟩
    · show upd W.H (oa i) _ b = some o
      rw [upd_ne (fun z => by rw [z, q3] at hb; cases hb)]; exact h.ok.ex b o hb
    · show upd W.H (oa i) _ b ≠ none
      rw [upd_ne (nt b hb)]; exact h.ok.td b hb
    · exact h.ok.st.kept rfl (fun _ z => z) (Ex.refl _) (fun _ _ z => z) fun b o hb z => by
        show upd W.H (oa i) _ b = some o
        rw [upd_ne (nt b hb)]; exact z
  · refine ⟨by rw [List.length_set]; exact h.en.len, fun j d' e' => ?_, oa, fun j ys e' => ?_, fun j k ys zs e1 e2 eq => ?_⟩
    · rcases get_set e' with ⟨rfl, e1⟩ | ⟨hj, e1⟩
      · cases e1
      · exact h.en.val j d' e1
    · rcases get_set e' with ⟨rfl, e1⟩ | ⟨hj, e1⟩
      · cases e1
        exact ⟨q1, q2, q3, q4, vs', upd_same, hd⟩
      · obtain ⟨p1, p2, p3, p4, ws, p5, p6⟩ := h1 j ys e1
        refine ⟨p1, p2, p3, p4, ws, ?_, p6⟩
        show upd W.H (oa i) _ (oa j) = _
        rw [upd_ne (fun z => hj (h2 j i ys xs e1 e z))]; exact p5
    · rcases get_set e1 with ⟨rfl, e3⟩ | ⟨hj, e3⟩
      · rcases get_set e2 with ⟨rfl, e4⟩ | ⟨hk, e4⟩
        · rfl
        · exact h2 _ _ _ _ e e4 eq
      · rcases get_set e2 with ⟨rfl, e4⟩ | ⟨hk, e4⟩
        · exact h2 _ _ _ _ e3 e eq
        · exact h2 j k ys zs e3 e4 eq
/-- a list of the frame's own is kept as it is from now on -/
def frz (i : Nat) (ρ : Env) : Env := match ρ[i]? with
  | some (.own xs) => ρ.set i (.val (.list xs))
  | _ => ρ
theorem frz_ok {K : PySem.W.Frag} {W0 W : Wd} {σ : St} {ρ : Env} {s : Sto} (h : St2 K W0 W σ ρ s) (i : Nat) : ∃ W', W'.H = W.H ∧ Mon W W' ∧ St2 K W0 W' σ (frz i ρ) s := by
  unfold frz
  split
  · rename_i xs e
    obtain ⟨oa, h1, h2⟩ := h.en.own
    obtain ⟨q1, q2, q3, q4, vs, q5, q6⟩ := h1 i xs e
    have hx : Ex W.F (upd W.F (oa i) (.lst vs)) := Ex.new q3
    have nt : ∀ b, W.T b → b ≠ oa i := fun b hb z => q4 (by rw [← z]; exact hb)
    have nf : ∀ b, b ≠ oa i → W.F b = none → upd W.F (oa i) (.lst vs) b = none := fun b hb z => by rw [upd_ne hb]; exact z
    refine ⟨{ W with F := upd W.F (oa i) (.lst vs) }, rfl, ⟨List.prefix_refl _, hx⟩, ?_, ?_, ?_⟩
    · exact ⟨h.st.pre, h.st.exF.trans hx, h.st.dom, h.st.keep, h.st.newT, fun b p1 p2 p3 => nf b (fun z => p2 (by rw [z]; exact q2)) (h.st.newF b p1 p2 p3)⟩
    · refine ⟨fun b o hb => ?_, h.ok.td, ?_⟩
      · have hb' : upd W.F (oa i) (.lst vs) b = some o := hb
        by_cases z : b = oa i
        · subst z; rw [upd_same] at hb'; show W.H (oa i) = some o; rw [q5]; exact hb'
        · rw [upd_ne z] at hb'; exact h.ok.ex b o hb'
      · exact h.ok.st.kept rfl (fun _ z => z) hx (fun b hb z => nf b (nt b hb) z) fun _ _ _ z => z
    · refine ⟨by rw [List.length_set]; exact h.en.len, fun j d' e' => ?_, oa, fun j ys e' => ?_, fun j k ys zs e1 e2 eq => ?_⟩
      · rcases get_set e' with ⟨rfl, e1⟩ | ⟨hj, e1⟩
        · cases e1
          exact ⟨_, q1, .lst upd_same (q6.mono (List.prefix_refl _) hx)⟩
        · obtain ⟨w, p1, p2⟩ := h.en.val j d' e1
          exact ⟨w, p1, p2.mono (List.prefix_refl _) hx⟩
      · rcases get_set e' with ⟨rfl, e1⟩ | ⟨hj, e1⟩
        · cases e1
        · obtain ⟨p1, p2, p3, p4, ws, p5, p6⟩ := h1 j ys e1
          exact ⟨p1, p2, nf _ (fun z => hj (h2 j i ys xs e1 e z)) p3, p4, ws, p5, p6.mono (List.prefix_refl _) hx⟩
      · rcases get_set e1 with ⟨rfl, e3⟩ | ⟨hj, e3⟩
        · cases e3
        · rcases get_set e2 with ⟨rfl, e4⟩ | ⟨hk, e4⟩
          · cases e4
          · exact h2 j k ys zs e3 e4 eq
  · exact ⟨W, rfl, Mon.refl W, h⟩

/-! ### statements -/
section
variable {X : Cx} {Wx : WX} {pos : Pos} {e : Expr} {f : XE} {b b1 b2 : XS} {st : Stmt} {rest : List Stmt} {t : XT}
/-- ahead of a statement (or a block) lists of the frame's own are kept as they are -/
def sFrz (i : Nat) (b : XS) : XS := fun ρ s => b (frz i ρ) s
theorem gs_frz {K : PySem.W.Frag} {i : Nat} : ∀ D σ H, GS K Wx (sFrz i b) D σ H → GS K Wx b D σ H := by
  rintro D σ H ⟨W0, W, ρ, s, rfl, h, p⟩
  obtain ⟨W', e, m, h'⟩ := frz_ok h i
  rw [← e]
  exact GS.mk h' (PS.later p m)
theorem p_frz (i : Nat) (h : L2.PS X st (GS X.K Wx b)) : L2.PS X st (GS X.K Wx (sFrz i b)) := psImp h gs_frz
theorem pp_frz (i : Nat) (h : PSs X rest (GS X.K Wx b)) : PSs X rest (GS X.K Wx (sFrz i b)) := pssImp h gs_frz
def sNil : XS := fun ρ s => .next ρ s
def sSeq (b1 b2 : XS) : XS := fun ρ s => match b1 ρ s with
  | .next ρ1 s1 => b2 ρ1 s1
  | r => r
theorem pp_nil : PSs X [] (GS X.K Wx sNil) := pssImp pss_nil fun D σ H ⟨W0, W, ρ, s, e1, h, p⟩ => by
  subst e1; exact p σ W (Mon.refl W) h
theorem pp_cons (h1 : L2.PS X st (GS X.K Wx b1)) (h2 : PSs X rest (GS X.K Wx b2)) : PSs X (st :: rest) (GS X.K Wx (sSeq b1 b2)) := pssImp (pss_cons h1 h2) fun D σ H ⟨W0, W, ρ, s, e1, h, p⟩ => by
  subst e1
  refine GS.mk h ?_
  unfold sSeq at p
  cases e : b1 ρ s with
  | next ρ1 s1 => rw [e] at p; exact fun σ' W' m q => GS.mk q (PS.later p m)
  | ret d s1 => rw [e] at p; exact p
  | exc c ρ1 s1 => rw [e] at p; exact p
  | brk ρ1 s1 => rw [e] at p; exact p
  | cont ρ1 s1 => rw [e] at p; exact p
  | bad => rw [e] at p; exact p
theorem pp_one (h : L2.PS X st (GS X.K Wx b)) : PSs X [st] (GS X.K Wx b) := pss_one h
theorem p_pass : L2.PS X (.Pass pos) (GS X.K Wx sNil) := psImp ps_pass fun D σ H ⟨W0, W, ρ, s, e1, h, p⟩ => by
  subst e1; exact p σ W (Mon.refl W) h
def sCont : XS := fun ρ s => .cont ρ s
theorem p_continue : L2.PS X (.Continue pos) (GS X.K Wx sCont) := psImp ps_continue fun D σ H ⟨W0, W, ρ, s, e1, h, p⟩ => by
  subst e1; exact p σ W (Mon.refl W) h
/-- a value dropped -/
def sDrop (f : XE) : XS := stX f fun _ ρ s => .next ρ s
theorem p_expr {R : RB} (h : PE X e (GX X.K R Wx f)) (hs : swapsWith e none pos.line X.env = pure false := by rfl) : L2.PS X (.Expr e pos) (GS X.K Wx (sDrop f)) := psImp (ps_expr h hs) fun D σ H ⟨W0, W, ρ, s, e1, h, p⟩ => by
  subst e1
  exact GX.mk h.ok h.en (Post.mono (PS.x h p) fun d s1 W1 _ _ q v _ => q.2 σ W1 (Mon.refl W1) q.1)
/-- name = value -/
def sSet (i : Nat) (f : XE) : XS := stX f fun d ρ s => .next (ρ.set i (.val d)) s
theorem p_set {i : Nat} {x : Str} {pos' : Pos} (hN : X.N.Nodup) (he : PE X e (GX X.K (aft (rD X.K)) Wx f)) (hi : X.N[i]? = some x := by rfl) (hx : Loc X.env.scope x := by first | exact Or.inl rfl | exact Or.inr rfl) (hs : swapsWith e (some (.Name x pos')) pos.line X.env = pure false := by rfl)
    (hf : X.fn x = true ∨ X.env.scope.names.lookup x = some .local := by first | exact .inl rfl | exact .inr rfl | assumption) : L2.PS X (.Assign [.Name x pos'] e pos) (GS X.K Wx (sSet i f)) := psImp (ps_set hN hi hx he hs hf) fun D σ H ⟨W0, W, ρ, s, e1, h, p⟩ => by
  subst e1
  exact GX.mk h.ok h.en (Post.mono (PS.x h p) fun d s1 W1 _ _ q v hv => q.2 _ W1 (Mon.refl W1) ⟨q.1.st, q.1.ok, q.1.en.set hv⟩)
/-- name = a new list, of the frame's own -/
def ownOf (d : D) (i : Nat) : XS := fun ρ s => match d with
  | .list xs => .next (ρ.set i (.own xs)) s
  | _ => .bad
def sOwn (i : Nat) (f : XE) : XS := stX f fun d => ownOf d i
theorem p_own {i : Nat} {x : Str} {pos' : Pos} (hN : X.N.Nodup) (he : PE X e (GX X.K (rN X.K) Wx f)) (hi : X.N[i]? = some x := by rfl) (hx : Loc X.env.scope x := by first | exact Or.inl rfl | exact Or.inr rfl) (hs : swapsWith e (some (.Name x pos')) pos.line X.env = pure false := by rfl)
    (hf : X.fn x = true ∨ X.env.scope.names.lookup x = some .local := by first | exact .inl rfl | exact .inr rfl | assumption) : L2.PS X (.Assign [.Name x pos'] e pos) (GS X.K Wx (sOwn i f)) := psImp (ps_set hN hi hx he hs hf) fun D σ H ⟨W0, W, ρ, s, e1, h, p⟩ => by
  subst e1
  refine GX.mk h.ok h.en (Post.mono (PS.x h p) fun d s1 W1 st1 ok1 q v hv => ?_)
  obtain ⟨p', xs, vs, h1, h2, h3, h4, h5, h6, h7⟩ := hv
  subst h1 h2
  exact q.2 _ W1 (Mon.refl W1) ⟨q.1.st, q.1.ok, h.en.setOwn h.st st1 h3 h4 h5 h6 h7⟩
def sRet (f : XE) : XS := stX f fun d _ s => .ret d s
theorem p_ret (he : PE X e (GX X.K (aft (rD X.K)) Wx f)) : L2.PS X (.Return (some e) pos) (GS X.K Wx (sRet f)) := psImp (ps_ret he) fun D σ H ⟨W0, W, ρ, s, e1, h, p⟩ => by
  subst e1
  exact GX.mk h.ok h.en (Post.mono (PS.x h p) fun d s1 W1 _ _ q v hv => q.2 v W1 q.1.st q.1.ok hv)
def sRetN : XS := fun _ s => .ret .none s
theorem p_retN : L2.PS X (.Return none pos) (GS X.K Wx sRetN) := psImp ps_retN fun D σ H ⟨W0, W, ρ, s, e1, h, p⟩ => by
  subst e1
  exact p .non W h.st h.ok .non
def sIf (t : XT) (b1 b2 : XS) : XS := stX t fun k => if k = true then b1 else b2
theorem p_if {c : Expr} {l1 l2 : List Stmt} (hc : PT X c (GT X.K Wx t)) (h1 : PSs X l1 (GS X.K Wx b1)) (h2 : PSs X l2 (GS X.K Wx b2)) : L2.PS X (.If c l1 l2 pos) (GS X.K Wx (sIf t b1 b2)) := psImp (ps_if hc h1 h2) fun D σ H ⟨W0, W, ρ, s, e1, h, p⟩ => by
  subst e1
  refine GT.mk h.ok h.en (Post.mono (PS.x h p) fun k s1 W1 _ _ q => ?_)
  obtain ⟨q1, q2⟩ := q
  cases k with
  | true => exact GS.mk q1 q2
  | false => exact GS.mk q1 q2
/-- name += e (ints) -/
def augK (g : Int → Int → Int) (i : Nat) (a : Int) (d : D) : XS := fun ρ s => match d with
  | .int c => .next (ρ.set i (.val (.int (g a c)))) s
  | _ => .bad
def sAug (g : Int → Int → Int) (i : Nat) (f : XE) : XS := fun ρ s => match ρ[i]? with
  | some (.val (.int a)) => stX f (augK g i a) ρ s
  | _ => .bad
theorem gs_aug {K : PySem.W.Frag} {g : Int → Int → Int} {i : Nat} : ∀ D σ H, GS K Wx (sAug g i f) D σ H → tAug i (GX K (aft (rD K)) Wx f) (ipI g) D σ H := by
  rintro D σ H ⟨W0, W, ρ, s, rfl, h, p⟩
  unfold sAug at p
  split at p
  · rename_i a e
    obtain ⟨v, h1, h2⟩ := h.en.val i _ e
    cases h2
    refine ⟨_, h1, GX.mk h.ok h.en (Post.mono (PS.x h p) fun d s1 W1 _ _ q v hv => ?_)⟩
    cases hv with
    | int c => exact ⟨a, c, rfl, rfl, q.2 _ W1 (Mon.refl W1) ⟨q.1.st, q.1.ok, q.1.en.set (.int _)⟩⟩
    | _ => exact q.2.elim
  · exact p.elim
theorem p_augAdd {i : Nat} {x : Str} {pos' : Pos} (hN : X.N.Nodup) (he : PE X e (GX X.K (aft (rD X.K)) Wx f)) (hi : X.N[i]? = some x := by rfl) (hx : Loc X.env.scope x := by first | exact Or.inl rfl | exact Or.inr rfl)
    (hf : X.fn x = true ∨ X.env.scope.names.lookup x = some .local := by first | exact .inl rfl | exact .inr rfl | assumption) : L2.PS X (.AugAssign (.Name x pos') .Add e pos) (GS X.K Wx (sAug (fun a c => a + c) i f)) := psImp (ps_aug hN hi hx he ip_add hf) gs_aug
/-- x.append(e), x a list of the frame's own -/
def appK (i : Nat) (xs : List D) (d : D) : XS := fun ρ s => if xs.length < sizeLine then .next (ρ.set i (.own (xs ++ [d]))) s else .bad
def sApp (i : Nat) (f : XE) : XS := fun ρ s => match ρ[i]? with
  | some (.own xs) => stX f (appK i xs) ρ s
  | _ => .bad
theorem p_app {i : Nat} {x : Str} {p1 p2 : Pos} (he : PE X e (GX X.K (aft (rD X.K)) Wx f)) (hN : X.N[i]? = some x := by rfl) (hv : Vis X.env.scope x := by first | exact Or.inl rfl | exact Or.inr (Or.inl rfl) | exact Or.inr (Or.inr rfl)) (hd : (x == ("__debug__" : Str)) = false := by decide)
    (hcd : (x == ("__classdict__" : Str)) = false := by decide) (hst : starEach (e :: []) X.env = (false, eval e X.env) :: starEach [] X.env := by rfl)
    (hs : swapsWith (.Call (.Attribute (.Name x p1) "append" p2) [e] [] pos) none pos.line X.env = pure false := by rfl)
    (hE : ∀ {r : V → List V → Hp → VK → Prop} {to : TE} {t : TA}, MtR X "list.append" r → PE X (.Name x p1) to → PA X (e :: []) t → PE X (.Call (.Attribute (.Name x p1) "append" p2) [e] [] pos) (tBM X.K "list" r to t) := by
      intro r to t h1 h2 h3; exact pe_bm PySem.F.plainAttrs_list PySem.F.slot_list_append PySem.F.type_list_append h1 h2 h3) :
    L2.PS X (.Expr (.Call (.Attribute (.Name x p1) "append" p2) [e] [] pos) pos) (GS X.K Wx (sApp i f)) := psImp (ps_expr (hE mt_append (pe_var hN hv hd hcd) (pa_cons he pa_nil hst)) hs) fun D σ H ⟨W0, W, ρ, s, e1, h, p⟩ => by
  subst e1
  unfold sApp at p
  split at p
  · rename_i xs e
    obtain ⟨a, vs, h1, h2, _, _, _⟩ := own_upd h e
    refine ⟨_, h1, .inl ⟨rfl, _, SqL.of h2⟩, GX.mk h.ok h.en (Post.mono (PS.x h p) fun d s1 W1 _ _ q v hv => ?_)⟩
    obtain ⟨q1, q2⟩ := q
    obtain ⟨a', vs', g1, g2, g3, g4, g5⟩ := own_upd q1 e
    have ea : a' = a := by rw [h1] at g1; cases g1; rfl
    subst ea
    unfold appK at q2
    split at q2
    · rename_i hz
      refine ⟨_, vs', v, rfl, rfl, g2, by rw [g4.length]; exact hz, ?_⟩
      obtain ⟨W2, k1, _, _, k4, k5⟩ := g5 (vs' ++ [v]) (xs ++ [d]) (g4.append (.one hv))
      rw [← k1]
      exact q2 σ W2 k4 k5
    · exact q2.elim
  · exact p.elim
/-- x.extend(e) -/
def extK (i : Nat) (xs : List D) (d : D) : XS := fun ρ s => match d with
  | .list ys => if xs.length + ys.length ≤ sizeLine then .next (ρ.set i (.own (xs ++ ys))) s else .bad
  | _ => .bad
def sExt (i : Nat) (f : XE) : XS := fun ρ s => match ρ[i]? with
  | some (.own xs) => stX f (extK i xs) ρ s
  | _ => .bad
theorem p_ext {i : Nat} {x : Str} {p1 p2 : Pos} (he : PE X e (GX X.K (aft (rD X.K)) Wx f)) (hN : X.N[i]? = some x := by rfl) (hv : Vis X.env.scope x := by first | exact Or.inl rfl | exact Or.inr (Or.inl rfl) | exact Or.inr (Or.inr rfl)) (hd : (x == ("__debug__" : Str)) = false := by decide)
    (hcd : (x == ("__classdict__" : Str)) = false := by decide) (hst : starEach (e :: []) X.env = (false, eval e X.env) :: starEach [] X.env := by rfl)
    (hs : swapsWith (.Call (.Attribute (.Name x p1) "extend" p2) [e] [] pos) none pos.line X.env = pure false := by rfl)
    (hE : ∀ {r : V → List V → Hp → VK → Prop} {to : TE} {t : TA}, MtR X "list.extend" r → PE X (.Name x p1) to → PA X (e :: []) t → PE X (.Call (.Attribute (.Name x p1) "extend" p2) [e] [] pos) (tBM X.K "list" r to t) := by
      intro r to t h1 h2 h3; exact pe_bm PySem.F.plainAttrs_list PySem.F.slot_list_extend PySem.F.type_list_extend h1 h2 h3) :
    L2.PS X (.Expr (.Call (.Attribute (.Name x p1) "extend" p2) [e] [] pos) pos) (GS X.K Wx (sExt i f)) := psImp (ps_expr (hE mt_extend (pe_var hN hv hd hcd) (pa_cons he pa_nil hst)) hs) fun D σ H ⟨W0, W, ρ, s, e1, h, p⟩ => by
  subst e1
  unfold sExt at p
  split at p
  · rename_i xs e
    obtain ⟨a, vs, h1, h2, _, _, _⟩ := own_upd h e
    refine ⟨_, h1, .inl ⟨rfl, _, SqL.of h2⟩, GX.mk h.ok h.en (Post.mono (PS.x h p) fun d s1 W1 _ _ q v hv => ?_)⟩
    obtain ⟨q1, q2⟩ := q
    obtain ⟨a', vs', g1, g2, g3, g4, g5⟩ := own_upd q1 e
    have ea : a' = a := by rw [h1] at g1; cases g1; rfl
    subst ea
    unfold extK at q2
    split at q2
    · rename_i ys
      split at q2
      · rename_i hz
        cases hv with
        | lst hb hys =>
          refine ⟨_, _, vs', _, rfl, rfl, g2, q1.ok.ex _ _ hb, by rw [g4.length, hys.length]; exact hz, ?_⟩
          obtain ⟨W2, k1, _, _, k4, k5⟩ := g5 _ (xs ++ ys) (g4.append hys)
          rw [← k1]
          exact q2 σ W2 k4 k5
      · exact q2.elim
    · exact q2.elim
  · exact p.elim
/-! ### raise -/
def sRaise (c : Str) : XS := fun ρ s => .exc c ρ s
theorem p_raise {x m : Str} {j : Nat} {p1 p2 p3 pos2 : Pos} (hc : X.calm = true) (tk : Takes X Wx) (q : PySem.W.excIn X.K (He.ga X.K x) He.veBase "ValueError.__new__" = true) (gC : X.mg x = some (.ref (He.ga X.K x))) (kC : PySem.W.keepIn X.K (.ref (He.ga X.K x)) = true)
    (r : Raises X (.ref (He.ga X.K x))) (hg : Gl X x) (hdb : (x == ("__debug__" : Str)) = false := by decide) : L2.PS X (.Raise (some (.Call (.Name x p1) [.Constant (.str m) j p2] [] p3)) none pos2) (GS X.K Wx (sRaise x)) :=
  psImp (ps_raise hc tk (pmk_own PySem.F.excBase_ValueError q gC kC r hg hdb)) fun D σ H ⟨W0, W, ρ, s, e1, h, p⟩ => by
    subst e1
    exact p σ W (Mon.refl W) h
end

/-! ### a def -/
def startD (n : Nat) (ds : List D) : Env := ds.map .val ++ List.replicate (n - ds.length) .no
def runB (b : XS) (n : Nat) (ds : List D) (s : Sto) : Out D := match b (startD n ds) s with
  | .ret d s' => .ok d s'
  | .next _ s' => .ok .none s'
  | .exc c _ s' => .exc c s'
  | _ => .bad
abbrev Fn := List D → Sto → Out D
/-- a def's promise: it does m -/
def spM (K : PySem.W.Frag) (n : Nat) (m : Fn) : Sp := fun vs H Q E => ∃ W s ds, W.H = H ∧ Ok K W s ∧ ds.length = n ∧ DrAll K W.ι W.F vs ds ∧
  Post K W (m ds s) (fun d _ W' => ∀ v, Dr K W'.ι W'.F v d → Q v W'.H) (fun c W' => E (.ref (He.ga K c)) none W'.H)
theorem env_start {K : PySem.W.Frag} {W : Wd} {N : List Str} {vs : List V} {ds : List D} (h : DrAll K W.ι W.F vs ds) : EnvR K W W (L2.start N vs) (startD N.length ds) := by
  unfold L2.start startD
  refine ⟨by simp [h.length], fun i d e => ?_, fun _ => 0, fun i xs e => ?_, fun i j xs ys e => ?_⟩
  · by_cases hi : i < ds.length
    · rw [List.getElem?_append_left (by simpa using hi), List.getElem?_map] at e
      obtain ⟨d', e1, e2⟩ := Option.map_eq_some_iff.mp e
      cases e2
      obtain ⟨v, h1, h2⟩ := h.get e1
      exact ⟨v, by rw [List.getElem?_append_left (by rw [List.length_map, h.length]; exact hi), List.getElem?_map, h1]; rfl, h2⟩
    · rw [List.getElem?_append_right (by simpa using hi), List.getElem?_replicate] at e
      split at e <;> cases e
  · by_cases hi : i < ds.length
    · rw [List.getElem?_append_left (by simpa using hi), List.getElem?_map] at e
      obtain ⟨d', e1, e2⟩ := Option.map_eq_some_iff.mp e
      cases e2
    · rw [List.getElem?_append_right (by simpa using hi), List.getElem?_replicate] at e
      split at e <;> cases e
  · by_cases hi : i < ds.length
    · rw [List.getElem?_append_left (by simpa using hi), List.getElem?_map] at e
      obtain ⟨d', e1, e2⟩ := Option.map_eq_some_iff.mp e
      cases e2
    · rw [List.getElem?_append_right (by simpa using hi), List.getElem?_replicate] at e
      split at e <;> cases e
/-- a def's wish -/
abbrev wE (E : XK) : WX := fun cls d _ H => E cls d H
theorem fn_rule {P : Program} {w : World} {K : PySem.W.Frag} {mg : Str → Option Value} {base : Heap} {x qual : Str} {params : Arguments} {body : List Stmt} {scope : Scope} {f : Addr} {fd : FuncData} {N ps : List Str} {k : Nat} {b : XS}
    (F : FunD K x qual params body scope [] [] f fd) (S : FnScope N ps scope)
    (hb : ∀ (cdv : Value) (A : Around) (outer : List PySem.Env) (s : Shared) (H : Hp) (E : XK), Room k (A.deeper (envOfC qual scope s.heap.objs.size f cdv)) → PSs (cxOf (L2.CX P w) P w K mg base N qual scope f cdv A outer s H E) body (GS K (wE E) b)) :
    FnOk P w K mg base (L2.CX P w) (k + 1) f fd ps (spM K ps.length (runB b N.length)) := by
  refine F.ok S (fun vs H Q E h => ?_) (fun cdv A outer s H vs Q E hr h => ⟨_, hb cdv A outer s H E hr, ?_⟩)
  · obtain ⟨W, s, ds, _, _, hl, hd, _⟩ := h
    rw [hd.length]; exact hl
  · obtain ⟨W, s1, ds, rfl, ok, hl, hd, p⟩ := h
    refine GS.mk (W0 := W) (ρ := startD N.length ds) (s := s1) ⟨Step.refl W, ok, env_start hd⟩ ?_
    unfold runB at p
    cases e : b (startD N.length ds) s1 with
    | next ρ' s' => rw [e] at p; exact fun σ' W' _ q => p W' q.st q.ok .non .non
    | ret d s' => rw [e] at p; exact fun v W' st ok hv => p W' st ok v hv
    | exc c ρ' s' => rw [e] at p; exact fun σ' W' _ q => p W' q.st q.ok
    | brk ρ' s' => rw [e] at p; exact p.elim
    | cont ρ' s' => rw [e] at p; exact p.elim
    | bad => rw [e] at p; exact p.elim
/-- f(..) -/
def xCall (n : Nat) (m : Fn) (g : XA) : XE := fun ρ s => (g ρ s).bind fun ds s1 => if ds.length = n then m ds s1 else .bad
section
variable {X : Cx} {Wx : WX} {g : XA} {n : Nat} {m : Fn}
theorem gx_call {K : PySem.W.Frag} : ∀ σ H Q, GX K (aft (rD K)) Wx (xCall n m g) σ H Q → tCallS (spM K n m) (WE Wx) (GA K Wx g) σ H Q := by
  rintro σ H Q ⟨W0, W, ρ, s, rfl, ok, en, p⟩
  refine GA.mk ok en (Post.mono p.bind fun ds s1 W1 st1 ok1 p1 vs hvs => ?_)
  by_cases hz : ds.length = n
  · rw [if_pos hz] at p1
    exact ⟨W1, s1, ds, rfl, ok1, hz, hvs, p1⟩
  · rw [if_neg hz] at p1; exact p1.elim
theorem d_call {k : Nat} {f : Addr} {fd : FuncData} {ps : List Str} {x : Str} {p pos : Pos} {e : Expr} {es : List Expr} (F : FnOk X.prog X.w X.K X.mg X.base (L2.CX X.prog X.w) k f fd ps (spM X.K n m)) (hr : Room k X.A) (hg : Gl X x) (hm : X.mg x = some (.ref f)) (hk : PySem.W.keepIn X.K (.ref f) = true)
    (hb : Binds X.K fd ps []) (tk : Takes X Wx) (ha : PA X (e :: es) (GA X.K Wx g)) (hdb : (x == ("__debug__" : Str)) = false := by decide) (he : starEach (e :: es) X.env = (false, eval e X.env) :: starEach es X.env := by rfl)
    (hpl : (backTo pos (starEach es X.env)).any (·.1) = false := by rfl) : PE X (.Call (.Name x p) (e :: es) [] pos) (GX X.K (aft (rD X.K)) Wx (xCall n m g)) :=
  peImp (pe_callS F hr hg hm hk hb (fun σ => passAt tk σ) ha hdb he hpl) gx_call
theorem d_call0 {k : Nat} {f : Addr} {fd : FuncData} {ps : List Str} {x : Str} {p pos : Pos} (F : FnOk X.prog X.w X.K X.mg X.base (L2.CX X.prog X.w) k f fd ps (spM X.K 0 m)) (hr : Room k X.A) (hg : Gl X x) (hm : X.mg x = some (.ref f)) (hk : PySem.W.keepIn X.K (.ref f) = true)
    (hb : Binds X.K fd ps []) (tk : Takes X Wx) (hdb : (x == ("__debug__" : Str)) = false := by decide) : PE X (.Call (.Name x p) [] [] pos) (GX X.K (aft (rD X.K)) Wx (xCall 0 m aN)) := by
  refine ⟨fun pins s σ H Q I h => ?_⟩
  refine wpAny_Call_Name_kw (ld_glob I hg hm ?_ hdb)
  refine PySem.W.callWith_K0 I.kIn hk (run_fnS (vs := []) (us := []) F hr hb (E := WE Wx) (passAt tk σ) I .nil ?_)
  obtain ⟨W0, W, ρ, s1, rfl, ok, en, p⟩ := h
  exact ⟨W, s1, [], rfl, ok, rfl, .nil, p⟩
end
end M

/-! M, part 6: what is walked; for, while, comprehensions. -/
namespace M
open PySem L2
open PyProof.Rows (envOfC)

/-- an iterator that gives ds, from W1 on -/
def IterOk (K : PySem.W.Frag) (J : It) (W1 : Wd) (ds : List D) : Prop := ∃ G Y, Walk J ds.length G Y ∧ (∀ W2 s2, Mon W1 W2 → Ok K W2 s2 → G W2.H) ∧
  ∀ i v W2 s2 H', i < ds.length → Mon W1 W2 → Ok K W2 s2 → Y i W2.H v H' → ∃ W3 d, W3.H = H' ∧ Step W2 W3 ∧ Ok K W3 s2 ∧ ds[i]? = some d ∧ Dr K W3.ι W3.F v d
abbrev XI := Env → Sto → Out (List D)
def GI (K : PySem.W.Frag) (Wx : WX) (m : XI) : TI := fun σ H R => ∃ W0 W ρ s, W.H = H ∧ Ok K W s ∧ EnvR K W0 W σ ρ ∧ Post K W (m ρ s) (fun ds _ W' => ∀ J, IterOk K J W' ds → R J W'.H) (wexc K Wx σ)
theorem GI.mk {K : PySem.W.Frag} {Wx : WX} {m : XI} {W0 W : Wd} {ρ : Env} {s : Sto} {σ : St} {R : It → Hp → Prop} (ok : Ok K W s) (e : EnvR K W0 W σ ρ) (h : Post K W (m ρ s) (fun ds _ W' => ∀ J, IterOk K J W' ds → R J W'.H) (wexc K Wx σ)) : GI K Wx m σ W.H R := ⟨W0, W, ρ, s, rfl, ok, e, h⟩
section
variable {K : PySem.W.Frag} {W : Wd} {a : Addr} {vs : List V} {ds : List D}
theorem it_list (h : W.F a = some (.lst vs)) (hd : DrAll K W.ι W.F vs ds) : IterOk K (Itl K a) W ds := by
  refine ⟨_, _, by rw [← hd.length]; exact walk_list (xs := vs), fun W2 s2 m ok => SqL.of (ok.ex _ _ (m.exF _ _ h)), fun i v W2 s2 H' hi m ok y => ?_⟩
  obtain ⟨e1, e2⟩ := y
  obtain ⟨d, h1, h2⟩ := hd.getV e2
  exact ⟨W2, d, e1.symm, Step.refl _, ok, h1, m.dr h2⟩
theorem it_tup (h : W.F a = some (.tup vs)) (hd : DrAll K W.ι W.F vs ds) : IterOk K (Itt K a) W ds := by
  refine ⟨_, _, by rw [← hd.length]; exact walk_tup (xs := vs), fun W2 s2 m ok => SqT.of (ok.ex _ _ (m.exF _ _ h)), fun i v W2 s2 H' hi m ok y => ?_⟩
  obtain ⟨e1, e2⟩ := y
  obtain ⟨d, h1, h2⟩ := hd.getV e2
  exact ⟨W2, d, e1.symm, Step.refl _, ok, h1, m.dr h2⟩
/-- lo, lo + 1, .., n of them -/
def rngD (lo : Int) (n : Nat) : List D := (List.range n).map fun (i : Nat) => PyData.int (lo + (i : Int))
theorem rngD_len (lo : Int) (n : Nat) : (rngD lo n).length = n := by unfold rngD; simp
theorem it_rng {lo : Int} {n : Nat} : IterOk K (Itr lo n) W (rngD lo n) := by
  refine ⟨_, _, by rw [rngD_len]; exact walk_range, fun W2 s2 m ok => trivial, fun i v W2 s2 H' hi m ok y => ?_⟩
  obtain ⟨e1, e2⟩ := y
  subst e2
  rw [rngD_len] at hi
  exact ⟨W2, .int (lo + (i : Int)), e1.symm, Step.refl _, ok, by unfold rngD; simp [hi], .int _⟩
def strD (x : Str) : List D := x.cps.toList.map fun c => .str ⟨#[c]⟩
theorem it_str {x : Str} : IterOk K (Its x) W (strD x) := by
  refine ⟨_, _, by unfold strD; rw [List.length_map, Array.length_toList]; exact walk_str, fun W2 s2 m ok => trivial, fun i v W2 s2 H' hi m ok y => ?_⟩
  obtain ⟨e1, c, e2, e3⟩ := y
  subst e3
  exact ⟨W2, .str ⟨#[c]⟩, e1.symm, Step.refl _, ok, by unfold strD; rw [List.getElem?_map, Array.getElem?_toList, e2]; rfl, .str _⟩
end

section
variable {X : Cx} {Wx : WX} {tg e : Expr} {f : XE} {g : XA} {pos p : Pos}
/-- a list, a tuple that stays -/
def iSeq (f : XE) : XI := fun ρ s => (f ρ s).bind fun d s1 => match d with
  | .list ds => .ok ds s1
  | .tuple ds => .ok ds s1
  | _ => .bad
def iListOnly (f : XE) : XI := fun ρ s => (f ρ s).bind fun d s1 => match d with
  | .list ds => .ok ds s1
  | _ => .bad
def iTupOnly (f : XE) : XI := fun ρ s => (f ρ s).bind fun d s1 => match d with
  | .tuple ds => .ok ds s1
  | _ => .bad
theorem i_list (h : PE X e (GX X.K (aft (rD X.K)) Wx f)) : PI X tg e (GI X.K Wx (iListOnly f)) := piImp (pi_list h) fun σ H R ⟨W0, W, ρ, s, e1, ok, en, q⟩ => by
  subst e1
  refine GX.mk ok en (Post.mono q.bind fun d s1 W1 st1 ok1 q1 v hv => ?_)
  cases hv with
  | lst h1 h2 => exact ⟨_, rfl, ⟨_, SqL.of (ok1.ex _ _ h1)⟩, post_ok ok1 q1 _ (it_list h1 h2)⟩
  | _ => exact q1.elim
theorem i_tup (h : PE X e (GX X.K (aft (rD X.K)) Wx f)) : PI X tg e (GI X.K Wx (iTupOnly f)) := piImp (pi_tup h) fun σ H R ⟨W0, W, ρ, s, e1, ok, en, q⟩ => by
  subst e1
  refine GX.mk ok en (Post.mono q.bind fun d s1 W1 st1 ok1 q1 v hv => ?_)
  cases hv with
  | tup h1 h2 => exact ⟨_, rfl, ⟨_, SqT.of (ok1.ex _ _ h1)⟩, post_ok ok1 q1 _ (it_tup h1 h2)⟩
  | _ => exact q1.elim
def iStrD (f : XE) : XI := fun ρ s => (f ρ s).bind fun d s1 => match d with
  | .str x => .ok (strD x) s1
  | _ => .bad
theorem i_str (h : PE X e (GX X.K (aft (rD X.K)) Wx f)) : PI X tg e (GI X.K Wx (iStrD f)) := piImp (pi_str h) fun σ H R ⟨W0, W, ρ, s, e1, ok, en, q⟩ => by
  subst e1
  refine GX.mk ok en (Post.mono q.bind fun d s1 W1 st1 ok1 q1 v hv => ?_)
  cases hv with
  | str x => exact ⟨x, rfl, post_ok ok1 q1 _ it_str⟩
  | _ => exact q1.elim
def rngOk (i : Int) : Bool := small i
theorem rngOk_to {i : Int} (h : rngOk i = true) : -(2 ^ 62) ≤ i ∧ i < 2 ^ 62 := by
  have e : (2 : Int) ^ 62 = 4611686018427387904 := by decide
  unfold rngOk at h
  rw [small_iff] at h
  rw [e]
  omega
def iR1 (g : XA) : XI := fun ρ s => (g ρ s).bind fun ds s1 => match ds with
  | [.int n] => if rngOk n = true then .ok (rngD 0 n.toNat) s1 else .bad
  | _ => .bad
def iR2 (g : XA) : XI := fun ρ s => (g ρ s).bind fun ds s1 => match ds with
  | [.int i, .int n] => if (rngOk i && rngOk n) = true then .ok (rngD i (n - i).toNat) s1 else .bad
  | _ => .bad
theorem i_r1 {a : Expr} (hg : Gl X "range") (hm : X.mg "range" = none) (ha : PA X [a] (GA X.K Wx g)) (hs : starEach [a] X.env = [(false, eval a X.env)] := by rfl) : PI X tg (.Call (.Name "range" p) [a] [] pos) (GI X.K Wx (iR1 g)) :=
  piImp (pi_range1 hg hm ha hs) fun σ H R ⟨W0, W, ρ, s, e1, ok, en, q⟩ => by
    subst e1
    refine GA.mk ok en (Post.mono q.bind fun ds s1 W1 st1 ok1 q1 vs hvs => ?_)
    split at q1
    · rename_i n
      split at q1
      · rename_i hz
        cases hvs with
        | cons h1 h2 =>
          cases h2
          cases h1
          have hz' : -(2 ^ 62) ≤ n ∧ n < 2 ^ 62 := rngOk_to hz
          exact ⟨n, rfl, hz'.1, hz'.2, post_ok ok1 q1 _ it_rng⟩
      · exact q1.elim
    · exact q1.elim
theorem i_r2 {a b : Expr} (hg : Gl X "range") (hm : X.mg "range" = none) (ha : PA X [a, b] (GA X.K Wx g)) (hs : starEach [a, b] X.env = [(false, eval a X.env), (false, eval b X.env)] := by rfl) (hs2 : starEach [b] X.env = [(false, eval b X.env)] := by rfl) :
    PI X tg (.Call (.Name "range" p) [a, b] [] pos) (GI X.K Wx (iR2 g)) :=
  piImp (pi_range2 hg hm ha hs hs2) fun σ H R ⟨W0, W, ρ, s, e1, ok, en, q⟩ => by
    subst e1
    refine GA.mk ok en (Post.mono q.bind fun ds s1 W1 st1 ok1 q1 vs hvs => ?_)
    split at q1
    · rename_i i n
      split at q1
      · rename_i hz
        rw [Bool.and_eq_true] at hz
        cases hvs with
        | cons h1 h2 =>
          cases h2 with
          | cons h3 h4 =>
            cases h4
            cases h1
            cases h3
            have hz1 : -(2 ^ 62) ≤ i ∧ i < 2 ^ 62 := rngOk_to hz.1
            have hz2 : -(2 ^ 62) ≤ n ∧ n < 2 ^ 62 := rngOk_to hz.2
            exact ⟨i, n, rfl, ⟨hz1.1, hz1.2, hz2.1, hz2.2⟩, post_ok ok1 q1 _ it_rng⟩
      · exact q1.elim
    · exact q1.elim
/-- enumerate(a list) -/
def enumD : Nat → List D → List D
  | _, [] => []
  | n, d :: ds => .tuple [.int (n : Int), d] :: enumD (n + 1) ds
theorem enumD_len : ∀ (n : Nat) (ds : List D), (enumD n ds).length = ds.length
  | _, [] => rfl
  | n, d :: ds => by unfold enumD; rw [List.length_cons, List.length_cons, enumD_len]
theorem enumD_get : ∀ (n : Nat) (ds : List D) (i : Nat), (enumD n ds)[i]? = ds[i]?.map fun d => .tuple [.int ((n + i : Nat) : Int), d]
  | _, [], i => by simp [enumD]
  | n, d :: ds, 0 => by simp [enumD]
  | n, d :: ds, i + 1 => by
    unfold enumD
    rw [List.getElem?_cons_succ, List.getElem?_cons_succ, enumD_get]
    have e : n + 1 + i = n + (i + 1) := by omega
    rw [e]
theorem it_enum {K : PySem.W.Frag} {W : Wd} {a : Addr} {vs : List V} {ds : List D} (h : W.F a = some (.lst vs)) (hd : DrAll K W.ι W.F vs ds) : IterOk K (Ite K a) W (enumD 0 ds) := by
  refine ⟨_, _, by rw [enumD_len, ← hd.length]; exact walk_enum (xs := vs), fun W2 s2 m ok => SqL.of (ok.ex _ _ (m.exF _ _ h)), fun i v W2 s2 H' hi m ok y => ?_⟩
  obtain ⟨T, x, y, rfl, hT, rfl, e1, e2⟩ := y
  cases e1
  obtain ⟨d, h1, h2⟩ := hd.getV e2
  obtain ⟨a1, a2, a3⟩ := new_tup ok hT (.cons (.int (i : Int)) (.one (m.dr h2)))
  exact ⟨_, _, rfl, a1, a2, by rw [enumD_get, h1]; simp, a3⟩
def iEnumD (g : XA) : XI := fun ρ s => (g ρ s).bind fun ds s1 => match ds with
  | [.list ds] => .ok (enumD 0 ds) s1
  | _ => .bad
theorem i_enum {elts : List Expr} {kk : Nat} {tpos : Pos} (hg : Gl X "enumerate") (hm : X.mg "enumerate" = none) (ha : PA X [e] (GA X.K Wx g)) (hs : starEach [e] X.env = [(false, eval e X.env)] := by rfl) :
    PI X (.Tuple elts kk tpos) (.Call (.Name "enumerate" p) [e] [] pos) (GI X.K Wx (iEnumD g)) :=
  piImp (pi_enum hg hm ha hs) fun σ H R ⟨W0, W, ρ, s, e1, ok, en, q⟩ => by
    subst e1
    refine GA.mk ok en (Post.mono q.bind fun ds s1 W1 st1 ok1 q1 vs hvs => ?_)
    split at q1
    · cases hvs with
      | cons h1 h2 =>
        cases h2
        cases h1 with
        | lst h3 h4 => exact ⟨_, _, rfl, SqL.of (ok1.ex _ _ h3), post_ok ok1 q1 _ (it_enum h3 h4)⟩
    · exact q1.elim

/-! ### targets -/
abbrev XG := D → Env → Option Env
/-- names js may be stored -/
def GG (K : PySem.W.Frag) (js : List Nat) (t : XG) : TG := fun v σ H Q => ∃ W0 W ρ s d, W.H = H ∧ Ok K W s ∧ EnvR K W0 W σ ρ ∧ Dr K W.ι W.F v d ∧ ∃ ρ', t d ρ = some ρ' ∧ ∀ σ', EnvR K W0 W σ' ρ' → wipe σ' js = wipe σ js → Q σ' W.H
def gN (i : Nat) : XG := fun d ρ => some (ρ.set i (.val d))
theorem wipe_set {σ : St} {i : Nat} {x : Option V} : ∀ {js : List Nat}, i ∈ js → wipe (σ.set i x) js = wipe σ js
  | [], h => by simp at h
  | j :: js, h => by
    unfold wipe
    by_cases hj : j = i
    · subst hj
      by_cases hm : j ∈ js
      · rw [wipe_set hm]
      · have e : ∀ (js : List Nat) (τ : St), j ∉ js → wipe (τ.set j x) js = (wipe τ js).set j x := by
          intro js
          induction js with
          | nil => intro τ _; rfl
          | cons k ks ih =>
            intro τ hk
            unfold wipe
            rw [ih τ (fun z => hk (List.mem_cons_of_mem _ z)), List.set_comm _ _ (fun z => hk (by rw [z]; exact List.mem_cons_self))]
        rw [e js σ hm, List.set_set]
    · rw [wipe_set ((List.mem_cons.mp h).resolve_left (Ne.symm hj))]
theorem g_name {i : Nat} {x : Str} {js : List Nat} (hN : X.N.Nodup) (hi : X.N[i]? = some x := by rfl) (hx : Loc X.env.scope x := by first | exact Or.inl rfl | exact Or.inr rfl) (hj : i ∈ js := by decide)
    (hf : X.fn x = true ∨ X.env.scope.names.lookup x = some .local := by first | exact .inl rfl | exact .inr rfl | assumption) : PG X (.Name x pos) (GG X.K js (gN i)) := by
  have h := pg_name (X := X) (pos := pos) hN hi hx hf
  refine ⟨fun pins s σ H v u Q I r q => h.run pins s σ H v u Q I r ?_⟩
  obtain ⟨W0, W, ρ, s1, d, rfl, ok, en, dr, ρ', e, k⟩ := q
  cases e
  exact k _ (en.set dr) (wipe_set hj)
/-- several targets, from the left -/
abbrev XGs := List D → Env → Option Env
def GGs (K : PySem.W.Frag) (js : List Nat) (t : XGs) : TGs := fun vs σ H Q => ∃ W0 W ρ s ds, W.H = H ∧ Ok K W s ∧ EnvR K W0 W σ ρ ∧ DrAll K W.ι W.F vs ds ∧ ∃ ρ', t ds ρ = some ρ' ∧ ∀ σ', EnvR K W0 W σ' ρ' → wipe σ' js = wipe σ js → Q σ' W.H
def gsN : XGs := fun ds ρ => match ds with
  | [] => some ρ
  | _ => none
def gsC (t : XG) (u : XGs) : XGs := fun ds ρ => match ds with
  | d :: ds => (t d ρ).bind (u ds)
  | [] => none
theorem g_nil {js : List Nat} : PGs X [] (GGs X.K js gsN) := by
  refine ⟨fun pins s σ H vs us Q I r q => (pgs_nil (X := X)).run pins s σ H vs us Q I r ?_⟩
  obtain ⟨W0, W, ρ, s1, ds, rfl, ok, en, dr, ρ', e, k⟩ := q
  cases dr with
  | nil => cases e; exact ⟨rfl, k _ en rfl⟩
  | cons _ _ => cases e
theorem g_cons {e : Expr} {es : List Expr} {t : XG} {u : XGs} {js : List Nat} (h1 : PG X e (GG X.K js t)) (h2 : PGs X es (GGs X.K js u)) (hs : (assignEach (e :: es) X.env).map (·.2) = assign e X.env :: (assignEach es X.env).map (·.2) := by rfl) : PGs X (e :: es) (GGs X.K js (gsC t u)) := by
  refine ⟨fun pins s σ H vs us Q I r q => (pgs_cons h1 h2 hs).run pins s σ H vs us Q I r ?_⟩
  obtain ⟨W0, W, ρ, s1, ds, rfl, ok, en, dr, ρ', e, k⟩ := q
  cases dr with
  | nil => cases e
  | cons d1 d2 =>
    obtain ⟨ρ1, e1, e2⟩ := Option.bind_eq_some_iff.mp (show (t _ ρ).bind (u _) = some ρ' from e)
    refine ⟨_, _, rfl, W0, W, ρ, s1, _, rfl, ok, en, d1, ρ1, e1, fun σ1 en1 w1 => ?_⟩
    exact ⟨W0, W, ρ1, s1, _, rfl, ok, en1, d2, ρ', e2, fun σ2 en2 w2 => k σ2 en2 (w2.trans w1)⟩
def gT (n : Nat) (u : XGs) : XG := fun d ρ => match d with
  | .tuple ds => if ds.length = n then u ds ρ else none
  | _ => none
theorem g_tup {es : List Expr} {k n : Nat} {u : XGs} {js : List Nat} (hc : X.calm = true) (h : PGs X es (GGs X.K js u)) (hn : (assignEach es X.env).length = n := by rfl) (hst : (assignEach es X.env).findIdx? (·.1) = none := by rfl) : PG X (.Tuple es k pos) (GG X.K js (gT n u)) := by
  refine ⟨fun pins s σ H v w Q I r q => (pg_tup hc h hn hst).run pins s σ H v w Q I r ?_⟩
  obtain ⟨W0, W, ρ, s1, d, rfl, ok, en, dr, ρ', e, k⟩ := q
  unfold gT at e
  cases dr with
  | tup h1 h2 =>
    have e' : (if _ then u _ ρ else none) = some ρ' := e
    split at e'
    · rename_i hz
      exact ⟨_, _, rfl, SqT.of (ok.ex _ _ h1), by rw [h2.length]; exact hz, W0, W, ρ, s1, _, rfl, ok, en, h2, ρ', e', k⟩
    · cases e'
  | _ => cases e

/-! ### for -/
def forL (t : XG) (b : XS) : List D → XS
  | [] => fun ρ s => .next ρ s
  | d :: ds => fun ρ s => match t d ρ with
    | none => .bad
    | some ρ1 => match b ρ1 s with
      | .next ρ2 s2 => forL t b ds ρ2 s2
      | .cont ρ2 s2 => forL t b ds ρ2 s2
      | .brk ρ2 s2 => .next ρ2 s2
      | r => r
def sFor (m : XI) (t : XG) (b : XS) : XS := stX m (forL t b)
theorem PS.next {K : PySem.W.Frag} {W0 W : Wd} {D : Ends} {σ : St} {ρ : Env} {s : Sto} (p : PS K Wx W0 W D (.next ρ s)) (h : St2 K W0 W σ ρ s) : D.nx σ W.H := p σ W (Mon.refl W) h
theorem p_for {iter : Expr} {body : List Stmt} {m : XI} {t : XG} {b : XS} {js : List Nat} (hp : PassesOwn (model X.prog X.w) X.A X.env X.xe) (hc : X.calm = true) (hi : PI X tg iter (GI X.K Wx m)) (hg : PG X tg (GG X.K js t)) (hb : PSs X body (GS X.K Wx b))
    (hs : ∀ x, foldedSetIterable iter X.env x = pure x := by intro _; rfl) : L2.PS X (.For tg iter body [] pos) (GS X.K Wx (sFor m t b)) := psImp (ps_for hp hc hi hg hb hs) fun D σ H ⟨W0, W, ρ, s, e1, h, q⟩ => by
  subst e1
  refine GI.mk h.ok h.en (Post.mono (PS.x h q) fun ds s1 W1 _ _ q1 J hJ => ?_)
  obtain ⟨h1, q1⟩ := q1
  obtain ⟨G, Y, hw, hG, hY⟩ := hJ
  refine for_it hw (fun i σ H => ∃ W2 ρ2 s2, W2.H = H ∧ Mon W1 W2 ∧ St2 X.K W0 W2 σ ρ2 s2 ∧ PS X.K Wx W0 W2 D (forL t b (ds.drop i) ρ2 s2)) ⟨W1, ρ, s1, rfl, Mon.refl _, h1, q1⟩ ?_ ?_ ?_
  · rintro i σ2 H2 _ ⟨W2, ρ2, s2, rfl, m2, h2, _⟩
    exact hG W2 s2 m2 h2.ok
  · rintro i x σ2 H2 H3 hi ⟨W2, ρ2, s2, rfl, m2, h2, q2⟩ hy
    obtain ⟨W3, d, rfl, st3, ok3, hd, dr⟩ := hY i x W2 s2 H3 hi m2 h2.ok hy
    have h3 : St2 X.K W0 W3 σ2 ρ2 s2 := ⟨h2.st.trans st3, ok3, h2.en.step st3⟩
    have q3 := PS.later q2 st3.mon
    have ed : ds.drop i = d :: ds.drop (i + 1) := by
      obtain ⟨hl, e⟩ := List.getElem?_eq_some_iff.mp hd
      rw [List.drop_eq_getElem_cons hl, e]
    rw [ed] at q3
    unfold forL at q3
    cases et : t d ρ2 with
    | none => rw [et] at q3; exact q3.elim
    | some ρ3 =>
      rw [et] at q3
      refine ⟨W0, W3, ρ2, s2, d, rfl, ok3, h3.en, dr, ρ3, et, fun σ3 en3 _ => GS.mk ⟨h3.st, ok3, en3⟩ ?_⟩
      have q3' : PS X.K Wx W0 W3 D (match b ρ3 s2 with | .next ρ2 s2 => forL t b (ds.drop (i + 1)) ρ2 s2 | .cont ρ2 s2 => forL t b (ds.drop (i + 1)) ρ2 s2 | .brk ρ2 s2 => .next ρ2 s2 | r => r) := q3
      have mm := m2.trans st3.mon
      cases eb : b ρ3 s2 with
      | next ρ4 s4 => rw [eb] at q3'; exact fun σ4 W4 m4 h4 => ⟨W4, ρ4, s4, rfl, mm.trans m4, h4, PS.later q3' m4⟩
      | cont ρ4 s4 => rw [eb] at q3'; exact fun σ4 W4 m4 h4 => ⟨W4, ρ4, s4, rfl, mm.trans m4, h4, PS.later q3' m4⟩
      | brk ρ4 s4 => rw [eb] at q3'; exact q3'
      | ret d s4 => rw [eb] at q3'; exact q3'
      | exc c ρ4 s4 => rw [eb] at q3'; exact q3'
      | bad => rw [eb] at q3'; exact q3'
  · rintro σ2 H2 ⟨W2, ρ2, s2, rfl, m2, h2, q2⟩
    rw [List.drop_length] at q2
    exact PS.next q2 h2

/-! ### while -/
def whileN (t : XT) (b : XS) : Nat → XS
  | 0 => fun _ _ => .bad
  | n + 1 => fun ρ s => match t ρ s with
    | .ok true s1 => match b ρ s1 with
      | .next ρ2 s2 => whileN t b n ρ2 s2
      | .cont ρ2 s2 => whileN t b n ρ2 s2
      | .brk ρ2 s2 => .next ρ2 s2
      | r => r
    | .ok false s1 => .next ρ s1
    | .exc c s1 => .exc c ρ s1
    | .bad => .bad
theorem p_while {c : Expr} {body : List Stmt} {t : XT} {b : XS} {n : Nat} (hp : PassesOwn (model X.prog X.w) X.A X.env X.xe) (hc : PT X c (GT X.K Wx t)) (hb : PSs X body (GS X.K Wx b)) : L2.PS X (.While c body [] pos) (GS X.K Wx (whileN t b n)) := psImp (ps_while hp hc hb) fun D σ H ⟨W0, W, ρ, s, e1, h, q⟩ => by
  subst e1
  refine ⟨fun k σ H => ∃ W2 ρ2 s2, W2.H = H ∧ St2 X.K W0 W2 σ ρ2 s2 ∧ PS X.K Wx W0 W2 D (whileN t b k ρ2 s2), ⟨n, W, ρ, s, rfl, h, q⟩, ?_⟩
  rintro k σ2 H2 ⟨W2, ρ2, s2, rfl, h2, q2⟩
  cases k with
  | zero => exact q2.elim
  | succ k =>
    have q3 : PS X.K Wx W0 W2 D (stX t (fun k' ρ s1 => match k' with | true => (match b ρ s1 with | .next ρ2 s2 => whileN t b k ρ2 s2 | .cont ρ2 s2 => whileN t b k ρ2 s2 | .brk ρ2 s2 => .next ρ2 s2 | r => r) | false => .next ρ s1) ρ2 s2) := by
      have q2' : PS X.K Wx W0 W2 D (match t ρ2 s2 with | .ok true s1 => (match b ρ2 s1 with | .next ρ2 s2 => whileN t b k ρ2 s2 | .cont ρ2 s2 => whileN t b k ρ2 s2 | .brk ρ2 s2 => .next ρ2 s2 | r => r) | .ok false s1 => .next ρ2 s1 | .exc c s1 => .exc c ρ2 s1 | .bad => .bad) := q2
      unfold stX
      cases et : t ρ2 s2 with
      | ok k' s1 => rw [et] at q2'; cases k' <;> exact q2'
      | exc c s1 => rw [et] at q2'; exact q2'
      | bad => rw [et] at q2'; exact q2'
    refine GT.mk h2.ok h2.en (Post.mono (PS.x h2 q3) fun k' s3 W3 _ _ q4 => ?_)
    obtain ⟨h3, q4⟩ := q4
    cases k' with
    | false => rw [if_neg Bool.false_ne_true]; exact PS.next q4 h3
    | true =>
      rw [if_pos rfl]
      refine ⟨fun σ H => ∃ W4 ρ4 s4, W4.H = H ∧ St2 X.K W0 W4 σ ρ4 s4 ∧ PS X.K Wx W0 W4 D (whileN t b k ρ4 s4), fun σ' H' h' => ⟨k, Nat.lt_succ_self k, h'⟩, GS.mk h3 ?_⟩
      have q5 : PS X.K Wx W0 W3 D (match b ρ2 s3 with | .next ρ2 s2 => whileN t b k ρ2 s2 | .cont ρ2 s2 => whileN t b k ρ2 s2 | .brk ρ2 s2 => .next ρ2 s2 | r => r) := q4
      cases eb : b ρ2 s3 with
      | next ρ4 s4 => rw [eb] at q5; exact fun σ4 W4 m4 h4 => ⟨W4, ρ4, s4, rfl, h4, PS.later q5 m4⟩
      | cont ρ4 s4 => rw [eb] at q5; exact fun σ4 W4 m4 h4 => ⟨W4, ρ4, s4, rfl, h4, PS.later q5 m4⟩
      | brk ρ4 s4 => rw [eb] at q5; exact q5
      | ret d s4 => rw [eb] at q5; exact q5
      | exc c ρ4 s4 => rw [eb] at q5; exact q5
      | bad => rw [eb] at q5; exact q5
end
end M

/-! M, part 7: comprehensions; more built-ins. -/
namespace M
open PySem L2
open PyProof.Rows (envOfC)

def wipeD (ρ : Env) : List Nat → Env
  | [] => ρ
  | v :: vs => (wipeD ρ vs).set v .no
theorem EnvR.setNo {K : PySem.W.Frag} {W0 W : Wd} {σ : St} {ρ : Env} (h : EnvR K W0 W σ ρ) (i : Nat) : EnvR K W0 W (σ.set i none) (ρ.set i .no) := by
  refine ⟨by rw [List.length_set, List.length_set]; exact h.len, fun j d' e => ?_, ?_⟩
  · rcases get_set e with ⟨rfl, e1⟩ | ⟨hj, e1⟩
    · cases e1
    · obtain ⟨w, q1, q2⟩ := h.val j d' e1
      exact ⟨w, by rw [List.getElem?_set_ne (Ne.symm hj)]; exact q1, q2⟩
  · obtain ⟨oa, h1, h2⟩ := h.own
    refine ⟨oa, fun j xs e => ?_, fun j k xs ys e1 e2 => ?_⟩
    · rcases get_set e with ⟨rfl, e1⟩ | ⟨hj, e1⟩
      · cases e1
      · obtain ⟨q1, q⟩ := h1 j xs e1
        exact ⟨by rw [List.getElem?_set_ne (Ne.symm hj)]; exact q1, q⟩
    · rcases get_set e1 with ⟨rfl, e3⟩ | ⟨_, e3⟩
      · cases e3
      · rcases get_set e2 with ⟨rfl, e4⟩ | ⟨_, e4⟩
        · cases e4
        · exact h2 j k xs ys e3 e4
theorem EnvR.wipe {K : PySem.W.Frag} {W0 W : Wd} {σ : St} {ρ : Env} (h : EnvR K W0 W σ ρ) : ∀ vs : List Nat, EnvR K W0 W (L2.wipe σ vs) (wipeD ρ vs)
  | [] => h
  | v :: vs => (EnvR.wipe h vs).setNo v
theorem wipe_none {σ : St} {j : Nat} : ∀ {vs : List Nat}, j ∈ vs → ∀ x, (L2.wipe σ vs)[j]? = some x → x = none
  | [], h, _, _ => by simp at h
  | v :: vs, h, x, e => by
    unfold L2.wipe at e
    rcases get_set e with ⟨_, e1⟩ | ⟨hj, e1⟩
    · exact e1
    · exact wipe_none ((List.mem_cons.mp h).resolve_left hj) x e1
theorem wipe_get {σ : St} {j : Nat} : ∀ {vs : List Nat}, j ∉ vs → (L2.wipe σ vs)[j]? = σ[j]?
  | [], _ => rfl
  | v :: vs, h => by
    unfold L2.wipe
    rw [List.getElem?_set_ne (fun z => h (by rw [z]; exact List.mem_cons_self))]
    exact wipe_get fun z => h (List.mem_cons_of_mem _ z)
theorem wipe_wipe {σ : St} {vs : List Nat} : L2.wipe (L2.wipe σ vs) vs = L2.wipe σ vs := by
  apply List.ext_getElem?
  intro j
  by_cases hj : j ∈ vs
  · cases e : (L2.wipe σ vs)[j]? with
    | none =>
      rw [List.getElem?_eq_none_iff] at e
      rw [List.getElem?_eq_none_iff, wipe_length]
      exact e
    | some x =>
      have hx := wipe_none hj x e
      subst hx
      obtain ⟨hl, _⟩ := List.getElem?_eq_some_iff.mp e
      have hl2 : j < (L2.wipe (L2.wipe σ vs) vs).length := by rw [wipe_length]; exact hl
      have e2 := List.getElem?_eq_getElem hl2
      rw [e2]
      exact congrArg some (wipe_none hj _ e2)
  · rw [wipe_get hj]

def Out.nx {α : Type} (o : Out α) : Out α := match o with
  | .exc _ _ => .bad
  | o => o
@[simp] theorem nx_ok {α : Type} (a : α) (s : Sto) : (Out.ok a s).nx = .ok a s := rfl
@[simp] theorem nx_exc {α : Type} (c : Str) (s : Sto) : (Out.exc c s : Out α).nx = .bad := rfl
@[simp] theorem nx_bad {α : Type} : (Out.bad : Out α).nx = .bad := rfl
abbrev W0x : WX := fun _ _ _ _ => False
theorem Post.nx {α : Type} {K : PySem.W.Frag} {W : Wd} {o : Out α} {Q : α → Sto → Wd → Prop} {E : Str → Wd → Prop} {E' : Str → Wd → Prop} (h : Post K W o.nx Q E) : Post K W o Q E' := by
  cases o with
  | ok a s => exact h
  | exc c s => exact h.elim
  | bad => exact h
theorem Post.exc {α : Type} {K : PySem.W.Frag} {W : Wd} {o : Out α} {Q : α → Sto → Wd → Prop} {E E' : Str → Wd → Prop} (h : Post K W o Q E) (i : ∀ c W', E c W' → E' c W') : Post K W o Q E' := by
  cases o with
  | ok a s => exact h
  | exc c s => exact fun W' st ok => i c W' (h W' st ok)
  | bad => exact h
def tAll : XT := fun _ s => .ok true s
def compL (t : XG) (c : XT) (e : XE) (vs : List Nat) : List D → List D → Env → Sto → Out (List D)
  | [], acc, _, s => .ok acc s
  | d :: ds, acc, ρ, s => match t d (wipeD ρ vs) with
    | none => .bad
    | some ρ1 => (c ρ1 s).nx.bind fun k s1 => if k = true then (e ρ1 s1).nx.bind fun y s2 => if acc.length < sizeLine then compL t c e vs ds (acc ++ [y]) ρ s2 else .bad else compL t c e vs ds acc ρ s1
def xComp (m : XI) (t : XG) (c : XT) (e : XE) (vs : List Nat) : XE := fun ρ s => (m ρ s).bind fun ds s1 => (compL t c e vs ds [] ρ s1).bind fun ys s2 => .ok (.list ys) s2
/-- a cell that W1 does not know is changed -/
theorem cell_upd {K : PySem.W.Frag} {W1 W2 : Wd} {s : Sto} {p : Addr} {o : HO} (st : Step W1 W2) (ok : Ok K W2 s) (h1 : W1.H p = none) (h3 : W2.F p = none) (h4 : ¬ W2.T p) : Step W1 { W2 with H := upd W2.H p o } ∧ Ok K { W2 with H := upd W2.H p o } s := by
  have nt : ∀ b, W2.T b → b ≠ p := fun b hb z => h4 (by rw [← z]; exact hb)
  refine ⟨⟨st.pre, st.exF, fun b hb => ?_, fun b u hb ht => ?_, st.newT, st.newF⟩, ⟨fun b u hb => ?_, fun b hb => ?_, ?_⟩⟩
  · show upd W2.H p o b ≠ none
    rw [upd_ne (fun z => hb (by rw [z]; exact h1))]; exact st.dom b hb
  · show upd W2.H p o b = some u
    rw [upd_ne (fun z => by rw [z, h1] at hb; cases hb)]; exact st.keep b u hb ht
  · show upd W2.H p o b = some u
    rw [upd_ne (fun z => by rw [z, h3] at hb; cases hb)]; exact ok.ex b u hb
  · show upd W2.H p o b ≠ none
    rw [upd_ne (nt b hb)]; exact ok.td b hb
  · exact ok.st.kept rfl (fun _ z => z) (Ex.refl _) (fun _ _ z => z) fun b u hb z => by
      show upd W2.H p o b = some u
      rw [upd_ne (nt b hb)]; exact z
/-- the base of what is wished stays -/
theorem Post.from {α : Type} {K : PySem.W.Frag} {W W1 : Wd} {o : Out α} {Q : α → Sto → Wd → Prop} {E : Str → Wd → Prop} (h : Post K W o Q E) (st : Step W W1) : Post K W1 o Q E := by
  cases o with
  | ok a s => exact fun W' st' ok => h W' (st.trans st') ok
  | exc c s => exact fun W' st' ok => h W' (st.trans st') ok
  | bad => exact h
theorem Post.bindB {α β : Type} {K : PySem.W.Frag} {W W1 : Wd} {o : Out α} {f : α → Sto → Out β} {Q : β → Sto → Wd → Prop} {E : Str → Wd → Prop} (h : Post K W (o.bind f) Q E) (st : Step W W1) : Post K W1 o (fun a s _ => Post K W (f a s) Q E) E := by
  cases o with
  | ok a s => exact fun W' _ _ => h
  | exc c s => exact fun W' st' ok => h W' (st.trans st') ok
  | bad => exact h
section
variable {X : Cx} {Wx : WX} {pos : Pos}
theorem gx_comp {K : PySem.W.Frag} {m : XI} {t : XG} {c : XT} {e : XE} {vs : List Nat} : ∀ σ H Q, GX K (rN K) Wx (xComp m t c e vs) σ H Q → tLc (GI K Wx m) (GG K vs t) (GT K W0x c) (GX K (aft (rD K)) W0x e) vs σ H Q := by
  rintro σ H Q ⟨W0, W, ρ, s, rfl, ok, en, p⟩
  refine GI.mk ok en (Post.mono p.bind fun ds s1 W1 st1 ok1 p1 J hJ P hP => ?_)
  obtain ⟨G, Y, hw, hG, hY⟩ := hJ
  have hPW : W.H P = none := by
    cases q : W.H P with
    | none => rfl
    | some o => exact absurd hP (st1.dom P (by rw [q]; exact fun z => by cases z))
  have en1 := en.step st1
  refine lc_it hw (fun i H => ∃ W2 s2 accD accV, W2.H = H ∧ Step W1 W2 ∧ Ok K W2 s2 ∧ W2.H P = some (.lst accV) ∧ W2.F P = none ∧ ¬ W2.T P ∧ DrAll K W2.ι W2.F accV accD ∧
      Post K W1 ((compL t c e vs (ds.drop i) accD ρ s2).bind fun ys s2 => .ok (.list ys) s2) (fun d _ W' => ∀ v, rN K W W' v d → Q v W'.H) (wexc K Wx σ)) ?_ ?_ ?_ ?_
  · obtain ⟨a1, a2⟩ := step_new (o := .lst []) ok1 hP
    refine ⟨_, s1, [], [], rfl, a1, a2, upd_same, fnone ok1 hP, tnone ok1 hP, .nil, ?_⟩
    rw [List.drop_zero]
    exact p1
  · rintro i H2 _ ⟨W2, s2, accD, accV, rfl, st2, ok2, _⟩
    exact hG W2 s2 st2.mon ok2
  · rintro i x H2 H3 hi ⟨W2, s2, accD, accV, rfl, st2, ok2, g1, g2, g3, g4, q⟩ hy
    obtain ⟨W3, d, rfl, st3, ok3, hd, dr⟩ := hY i x W2 s2 H3 hi st2.mon ok2 hy
    have ed : ds.drop i = d :: ds.drop (i + 1) := by
      obtain ⟨hl, e⟩ := List.getElem?_eq_some_iff.mp hd
      rw [List.drop_eq_getElem_cons hl, e]
    rw [ed] at q
    unfold compL at q
    have st13 := st2.trans st3
    have en3 := (en1.step st13).wipe vs
    cases et : t d (wipeD ρ vs) with
    | none => rw [et] at q; exact q.elim
    | some ρ1 =>
      rw [et] at q
      refine ⟨W0, W3, wipeD ρ vs, s2, d, rfl, ok3, en3, dr, ρ1, et, fun σ' en' hw' => ⟨hw'.trans wipe_wipe, ?_⟩⟩
      have q1 : Post K W1 (((c ρ1 s2).nx.bind fun k s1 => if k = true then (e ρ1 s1).nx.bind fun y s2 => if accD.length < sizeLine then compL t c e vs (ds.drop (i + 1)) (accD ++ [y]) ρ s2 else .bad else compL t c e vs (ds.drop (i + 1)) accD ρ s1).bind fun ys s2 => .ok (.list ys) s2) (fun d _ W' => ∀ v, rN K W W' v d → Q v W'.H) (wexc K Wx σ) := q
      have hne : W2.H P ≠ none := by rw [g1]; exact fun z => by cases z
      have q2 := Post.bindB q1 (W1 := W3) st13
      have q3 : Post K W3 (c ρ1 s2).nx (fun k s1 _ => Post K W1 ((if k = true then (e ρ1 s1).nx.bind fun y s2 => if accD.length < sizeLine then compL t c e vs (ds.drop (i + 1)) (accD ++ [y]) ρ s2 else .bad else compL t c e vs (ds.drop (i + 1)) accD ρ s1).bind fun ys s2 => .ok (.list ys) s2) (fun d _ W' => ∀ v, rN K W W' v d → Q v W'.H) (wexc K Wx σ)) (wexc K Wx σ) := by
        cases ho : (c ρ1 s2).nx with
        | ok a s => rw [ho] at q1; exact fun W' _ _ => q1
        | exc c s => rw [ho] at q1; exact fun W' st' ok' => q1 W' (st13.trans st') ok'
        | bad => rw [ho] at q1; exact q1
      refine GT.mk ok3 en' (Post.mono (Post.nx q3) fun k s4 W4 st4 ok4 q4 => ?_)
      have st14 := st13.trans st4
      have st24 := st3.trans st4
      have c1 := st24.keep _ _ g1 g3
      have c2 := st24.newF _ g2 hne g3
      have c3 : ¬ W4.T P := fun z => (st24.newT _ z).elim g3 hne
      have c4 := st24.drAll g4
      cases k with
      | false =>
        rw [if_neg Bool.false_ne_true]
        rw [if_neg Bool.false_ne_true] at q4
        exact ⟨W4, s4, accD, accV, rfl, st14, ok4, c1, c2, c3, c4, q4⟩
      | true =>
        rw [if_pos rfl]
        rw [if_pos rfl] at q4
        have q5 : Post K W4 (e ρ1 s4).nx (fun y s5 _ => Post K W1 ((if accD.length < sizeLine then compL t c e vs (ds.drop (i + 1)) (accD ++ [y]) ρ s5 else .bad).bind fun ys s2 => .ok (.list ys) s2) (fun d _ W' => ∀ v, rN K W W' v d → Q v W'.H) (wexc K Wx σ)) (wexc K Wx σ) := by
          cases ho : (e ρ1 s4).nx with
          | ok a s => rw [ho] at q4; exact fun W' _ _ => q4
          | exc c s => rw [ho] at q4; exact fun W' st' ok' => q4 W' (st14.trans st') ok'
          | bad => rw [ho] at q4; exact q4
        refine GX.mk ok4 (en'.step st4) (Post.mono (Post.nx q5) fun y s5 W5 st5 ok5 q6 v hv => ?_)
        have hne4 : W4.H P ≠ none := by rw [c1]; exact fun z => by cases z
        have e1 := st5.keep _ _ c1 c3
        have e2 := st5.newF _ c2 hne4 c3
        have e3 : ¬ W5.T P := fun z => (st5.newT _ z).elim c3 hne4
        have e4 := st5.drAll c4
        by_cases hz : accD.length < sizeLine
        · rw [if_pos hz] at q6
          refine ⟨accV, e1, by rw [e4.length]; exact hz, ?_⟩
          obtain ⟨a1, a2⟩ := cell_upd (o := .lst (accV ++ [v])) (st14.trans st5) ok5 hP e2 e3
          exact ⟨_, s5, accD ++ [y], accV ++ [v], rfl, a1, a2, upd_same, e2, e3, e4.append (.one hv), q6⟩
        · rw [if_neg hz] at q6; exact q6.elim
  · rintro H2 ⟨W2, s2, accD, accV, rfl, st2, ok2, g1, g2, g3, g4, q⟩
    rw [List.drop_length] at q
    exact q W2 st2 ok2 _ ⟨P, accD, accV, rfl, rfl, hPW, g1, g2, g3, g4⟩
theorem gt_all {K : PySem.W.Frag} : ∀ σ H (Q : Bool → Hp → Prop), GT K Wx tAll σ H Q → tYes σ H Q := by
  rintro σ H Q ⟨W0, W, ρ, s, rfl, ok, en, p⟩
  exact post_ok ok p
theorem ptsImp {ifs : List Expr} {t t' : TT} (h : PTs X ifs t) (i : ∀ σ H Q, t' σ H Q → t σ H Q) : PTs X ifs t' := ⟨fun pins s σ H Q I q => h.run pins s σ H Q I (i σ H Q q)⟩
theorem c_nil : PTs X [] (GT X.K Wx tAll) := ptsImp pts_nil gt_all
theorem c_one {c : Expr} {t : XT} (h : PT X c (GT X.K Wx t)) : PTs X [c] (GT X.K Wx t) := pts_one h
theorem n_comp {elt tg iter : Expr} {ifs : List Expr} {scope : Scope} {own : List (Str × Nat)} {m : XI} {t : XG} {c : XT} {e : XE} (hc : X.calm = true) (hN : X.N.Nodup) (hi : PI X tg iter (GI X.K Wx m)) (ok : BlkOk X.N X.env.scope scope own)
    (hg : ∀ (s : Shared) (H : Hp) (C : Addr) (cl : List (Str × Addr)) (fp : List Addr), PG (X.blk s H scope (compEnvC scope cl C X.env) fp) tg (GG X.K (own.map (·.2)) t))
    (ht : ∀ (s : Shared) (H : Hp) (C : Addr) (cl : List (Str × Addr)) (fp : List Addr), PTs (X.blk s H scope (compEnvC scope cl C X.env) fp) ifs (GT X.K W0x c))
    (he : ∀ (s : Shared) (H : Hp) (C : Addr) (cl : List (Str × Addr)) (fp : List Addr), PE (X.blk s H scope (compEnvC scope cl C X.env) fp) elt (GX X.K (aft (rD X.K)) W0x e)) (hs : ∀ x, foldedSetIterable iter X.env x = pure x := by intro _; rfl) :
    PE X (.ListComp elt [⟨tg, iter, ifs, 0⟩] scope pos) (GX X.K (rN X.K) Wx (xComp m t c e (own.map (·.2)))) := peImp (pe_lc hc hN hi ok hg ht he hs) gx_comp
/-- name = [..] -/
theorem p_setComp {i : Nat} {y : Str} {py : Pos} {elt tg iter : Expr} {ifs : List Expr} {scope : Scope} {own : List (Str × Nat)} {spos : Pos} {m : XI} {t : XG} {c : XT} {e : XE} (hc : X.calm = true) (hN : X.N.Nodup)
    (hi : PI X tg iter (GI X.K Wx m)) (ok : BlkOk X.N X.env.scope scope own)
    (hg : ∀ (s : Shared) (H : Hp) (C : Addr) (cl : List (Str × Addr)) (fp : List Addr), PG (X.blk s H scope (compEnvC scope cl C X.env) fp) tg (GG X.K (own.map (·.2)) t))
    (ht : ∀ (s : Shared) (H : Hp) (C : Addr) (cl : List (Str × Addr)) (fp : List Addr), PTs (X.blk s H scope (compEnvC scope cl C X.env) fp) ifs (GT X.K W0x c))
    (he : ∀ (s : Shared) (H : Hp) (C : Addr) (cl : List (Str × Addr)) (fp : List Addr), PE (X.blk s H scope (compEnvC scope cl C X.env) fp) elt (GX X.K (aft (rD X.K)) W0x e))
    (hsw : swapsWith (.ListComp elt [⟨tg, iter, ifs, 0⟩] scope pos) (some (.Name y py)) spos.line X.env = pure true)
    (hy : X.N[i]? = some y := by rfl) (hyl : X.env.scope.names.lookup y = some .local := by rfl) (hs : ∀ x, foldedSetIterable iter X.env x = pure x := by intro _; rfl) :
    L2.PS X (.Assign [.Name y py] (.ListComp elt [⟨tg, iter, ifs, 0⟩] scope pos) spos) (GS X.K Wx (sSet i (xComp m t c e (own.map (·.2))))) := psImp (ps_setLc hc hN hy hyl hsw hi ok hg ht he hs) fun D σ H ⟨W0, W, ρ, s, e1, h, p⟩ => by
  subst e1
  refine gx_comp σ W.H _ (GX.mk h.ok h.en ?_)
  have p0 := PS.x h p
  cases ho : xComp m t c e (own.map (·.2)) ρ s with
  | ok d s1 =>
    rw [ho] at p0
    intro W1 st1 ok1 v hv
    obtain ⟨p', xs, vs, h1, h2, h3, h4, h5, h6, h7⟩ := hv
    subst h1 h2
    obtain ⟨st2, ok2, dr⟩ := freezeW st1 ok1 h3 h4 h5 h6 h7
    obtain ⟨q1, q2⟩ := p0 _ st2 ok2
    exact q2 _ { W1 with F := upd W1.F p' (.lst vs) } (Mon.refl _) ⟨q1.st, q1.ok, q1.en.set dr⟩
  | exc c s1 => rw [ho] at p0; exact p0
  | bad => rw [ho] at p0; exact p0
theorem p_ownComp {i : Nat} {y : Str} {py : Pos} {elt tg iter : Expr} {ifs : List Expr} {scope : Scope} {own : List (Str × Nat)} {spos : Pos} {m : XI} {t : XG} {c : XT} {e : XE} (hc : X.calm = true) (hN : X.N.Nodup)
    (hi : PI X tg iter (GI X.K Wx m)) (ok : BlkOk X.N X.env.scope scope own)
    (hg : ∀ (s : Shared) (H : Hp) (C : Addr) (cl : List (Str × Addr)) (fp : List Addr), PG (X.blk s H scope (compEnvC scope cl C X.env) fp) tg (GG X.K (own.map (·.2)) t))
    (ht : ∀ (s : Shared) (H : Hp) (C : Addr) (cl : List (Str × Addr)) (fp : List Addr), PTs (X.blk s H scope (compEnvC scope cl C X.env) fp) ifs (GT X.K W0x c))
    (he : ∀ (s : Shared) (H : Hp) (C : Addr) (cl : List (Str × Addr)) (fp : List Addr), PE (X.blk s H scope (compEnvC scope cl C X.env) fp) elt (GX X.K (aft (rD X.K)) W0x e))
    (hsw : swapsWith (.ListComp elt [⟨tg, iter, ifs, 0⟩] scope pos) (some (.Name y py)) spos.line X.env = pure true)
    (hy : X.N[i]? = some y := by rfl) (hyl : X.env.scope.names.lookup y = some .local := by rfl) (hs : ∀ x, foldedSetIterable iter X.env x = pure x := by intro _; rfl) :
    L2.PS X (.Assign [.Name y py] (.ListComp elt [⟨tg, iter, ifs, 0⟩] scope pos) spos) (GS X.K Wx (sOwn i (xComp m t c e (own.map (·.2))))) := psImp (ps_setLc hc hN hy hyl hsw hi ok hg ht he hs) fun D σ H ⟨W0, W, ρ, s, e1, h, p⟩ => by
  subst e1
  refine gx_comp σ W.H _ (GX.mk h.ok h.en (Post.mono (PS.x h p) fun d s1 W1 st1 ok1 q v hv => ?_))
  obtain ⟨p', xs, vs, h1, h2, h3, h4, h5, h6, h7⟩ := hv
  subst h1 h2
  exact q.2 _ W1 (Mon.refl W1) ⟨q.1.st, q.1.ok, h.en.setOwn h.st st1 h3 h4 h5 h6 h7⟩
end
end M

/-! M, part 8: more built-ins. -/
namespace M
open PySem L2
section
variable {X : Cx} {Wx : WX} {pos : Pos} {a b : Expr} {f f1 f2 : XE} {g : XA}
theorem bt_isinstance : bootBuiltins "isinstance" = some (.builtin "isinstance") := by decide +kernel
theorem bt_max : bootBuiltins "max" = some (.builtin "max") := by decide +kernel
theorem bt_min : bootBuiltins "min" = some (.builtin "min") := by decide +kernel
theorem bt_sum : bootBuiltins "sum" = some (.builtin "sum") := by decide +kernel
theorem bt_sorted : bootBuiltins "sorted" = some (.builtin "sorted") := by decide +kernel
theorem bt_len : bootBuiltins "len" = some (.builtin "len") := by decide +kernel
theorem bt_tuple : bootBuiltins "tuple" = some (.type "tuple") := by decide +kernel
theorem bt_list : bootBuiltins "list" = some (.type "list") := by decide +kernel
theorem bt_int : bootBuiltins "int" = some (.type "int") := by decide +kernel
theorem bt_str : bootBuiltins "str" = some (.type "str") := by decide +kernel
theorem bt_bool : bootBuiltins "bool" = some (.type "bool") := by decide +kernel
/-! ### isinstance -/
def typD : D → Option String
  | .none => some "NoneType"
  | .bool _ => some "bool"
  | .int _ => some "int"
  | .str _ => some "str"
  | .list _ => some "list"
  | .tuple _ => some "tuple"
  | .dict _ => none
inductive Kd where
  | int | bool | str | tuple | list
def Kd.nm : Kd → String
  | .int => "int"
  | .bool => "bool"
  | .str => "str"
  | .tuple => "tuple"
  | .list => "list"
def isiB : Kd → D → Option Bool
  | _, .dict _ => none
  | .int, .int _ => some true
  | .int, .bool _ => some true
  | .bool, .bool _ => some true
  | .str, .str _ => some true
  | .tuple, .tuple _ => some true
  | .list, .list _ => some true
  | _, _ => some false
def isiD (T : Kd) (d : D) : Option D := (isiB T d).map .bool
theorem isi_kit {T : Kd} {d : D} {k : Bool} (h : isiB T d = some k) : ∃ t, typD d = some t ∧ kitB t T.nm = some k := by
  cases d with
  | dict _ => cases T <;> cases h
  | none => cases T <;> cases h <;> exact ⟨_, rfl, by kernel_rfl⟩
  | bool b => cases T <;> cases h <;> exact ⟨_, rfl, by kernel_rfl⟩
  | int i => cases T <;> cases h <;> exact ⟨_, rfl, by kernel_rfl⟩
  | str x => cases T <;> cases h <;> exact ⟨_, rfl, by kernel_rfl⟩
  | list ds => cases T <;> cases h <;> exact ⟨_, rfl, by kernel_rfl⟩
  | tuple ds => cases T <;> cases h <;> exact ⟨_, rfl, by kernel_rfl⟩
theorem tyx_of {K : PySem.W.Frag} {W : Wd} {s : Sto} (ok : Ok K W s) {v : V} {d : D} {t : String} (h : rU K W v d) (e : typD d = some t) : TyX K W.H v (.type t) := by
  cases d with
  | none => cases e; rw [h.non]; exact .base .non
  | bool b => cases e; rw [h.bl]; exact .base (.bl b)
  | int i => cases e; rw [h.int]; exact .base (.int i)
  | str x => cases e; rw [h.str]; exact .base (.str x)
  | list ds => cases e; obtain ⟨p, vs, rfl, h2, _⟩ := h.list ok; exact .base (.lst h2)
  | tuple ds => cases e; obtain ⟨p, vs, rfl, _, h2, _⟩ := h.tup ok; exact .base (.tup h2)
  | dict _ => cases e
theorem d_isi {T : Str} {T' : Kd} {p p2 : Pos} (hg : Gl X "isinstance") (hm : X.mg "isinstance" = none) (hgT : Gl X T) (hmT : X.mg T = none) (hvT : bootBuiltins T = some (.type T'.nm)) (ha : PE X a (GX X.K (aft (rU X.K)) Wx f))
    (hs : starEach (a :: [.Name T p2]) X.env = (false, eval a X.env) :: starEach [.Name T p2] X.env := by rfl) (hs2 : starEach (.Name T p2 :: []) X.env = (false, eval (.Name T p2) X.env) :: starEach [] X.env := by rfl)
    (hpl : (backTo pos (starEach [.Name T p2] X.env)).any (·.1) = false := by rfl) (hnT : T ≠ "__name__" := by decide) (hdT : (T == ("__debug__" : Str)) = false := by decide) :
    PE X (.Call (.Name "isinstance" p) [a, .Name T p2] [] pos) (GX X.K (aft (rD X.K)) Wx (x1 (isiD T') f)) :=
  peImp (pe_callB call_isi hg hm bt_isinstance (pa_cons ha (pa_cons (pe_bltn (v := .ty T'.nm) hgT hmT hvT rfl hnT hdT) pa_nil hs2) hs) (by decide) (by decide) hs hpl) fun σ H Q ⟨W0, W, ρ, s, e1, ok, en, q⟩ => by
    subst e1
    refine GX.mk ok en (Post.mono q.bind fun d s1 W1 st1 ok1 q1 v hv => ?_)
    obtain ⟨d', e, q2⟩ := q1.lift
    obtain ⟨k, e3, rfl⟩ := Option.map_eq_some_iff.mp (show (isiB T' d).map PyData.bool = some d' from e)
    obtain ⟨t, e1, e2⟩ := isi_kit e3
    exact ⟨v, .ty T'.nm, .type t, .type T'.nm, k, rfl, .ty T'.nm, tyx_of ok1 hv e1, kit_ty e2, q2 W1 (Step.refl _) ok1 _ (.bl k)⟩

/-! ### sorted -/
theorem CallR.or2 {f : Value} {r r' : List V → Hp → VK → Prop} (h : CallR X f r) (h' : CallR X f r') : CallR X f (fun xs H Q => r xs H Q ∨ r' xs H Q) := h.or h'
def pairsOf : List D → Option (List (Int × Int))
  | [] => some []
  | .tuple [.int i, .int j] :: r => (pairsOf r).map ((i, j) :: ·)
  | _ :: _ => none
def pairD (p : Int × Int) : D := .tuple [.int p.1, .int p.2]
def leP (p q : Int × Int) : Bool := decide (p.1 < q.1 ∨ (p.1 = q.1 ∧ p.2 ≤ q.2))
def leI (i j : Int) : Bool := decide (i ≤ j)
def sortedD : D → Option D
  | .list ds => match intsOf ds with
    | some ns => some (.list ((ns.mergeSort leI).map .int))
    | none => (pairsOf ds).map fun ps => .list ((ps.mergeSort leP).map pairD)
  | _ => none
theorem pairs_dr {K : PySem.W.Frag} {ι : List Addr} {F : Hp} : ∀ {vs : List V} {ds : List D} {ps : List (Int × Int)}, DrAll K ι F vs ds → pairsOf ds = some ps → ∃ k : V → Int × Int, vs.map k = ps ∧ ∀ x ∈ vs, ∃ t, x = .ref t ∧ F t = some (.tup [.int (k x).1, .int (k x).2]) := by
  intro vs ds ps h e
  let k : V → Int × Int := fun x => match x with
    | .ref t => (match F t with
      | some (.tup [.int i, .int j]) => (i, j)
      | _ => (0, 0))
    | _ => (0, 0)
  refine ⟨k, ?_⟩
  induction ds generalizing vs ps with
  | nil => cases h; cases e; exact ⟨rfl, fun x hx => by simp at hx⟩
  | cons d r ih =>
    unfold pairsOf at e
    split at e
    · rename_i hcon; cases hcon
    · rename_i i j r' hcon
      cases hcon
      obtain ⟨qs, e1, rfl⟩ := Option.map_eq_some_iff.mp e
      cases h with
      | cons h1 h2 =>
        obtain ⟨i1, i2⟩ := ih h2 e1
        cases h1 with
        | tup h3 h4 =>
          cases h4 with
          | cons h5 h6 =>
            cases h5
            cases h6 with
            | cons h7 h8 =>
              cases h7
              cases h8
              rename_i t
              have hk : k (.ref t) = (i, j) := by
                show (match F t with | some (.tup [.int i, .int j]) => (i, j) | _ => (0, 0)) = (i, j)
                rw [h3]
              refine ⟨by rw [List.map_cons, hk, i1], fun x hx => ?_⟩
              rcases List.mem_cons.mp hx with rfl | hx
              · exact ⟨t, rfl, by rw [hk]; exact h3⟩
              · exact i2 x hx
    · cases e
theorem o_sorted {K : PySem.W.Frag} : C1D K (rN K) (fun xs H Q => rSortedI K xs H Q ∨ rSortedPO K xs H Q) sortedD := by
  intro W s v d d' Q ok h e q
  unfold sortedD at e
  split at e
  · rename_i ds
    obtain ⟨a, vs, rfl, h2, h3⟩ := h.list ok
    split at e
    · rename_i ns hns
      cases e
      have ev := ints_dr h3 hns
      subst ev
      refine .inl ⟨a, ns, rfl, SqL.of h2, fun ns' p hp hs hn => ?_⟩
      have en : ns' = ns.mergeSort leI := by
        refine List.Perm.eq_of_pairwise (le := fun a b : Int => a ≤ b) (fun a b _ _ h1 h2 => Int.le_antisymm h1 h2) hs ?_ (hp.trans (List.mergeSort_perm ns leI).symm)
        have := List.pairwise_mergeSort (le := leI) (fun a b c h1 h2 => by simp only [leI, decide_eq_true_eq] at *; omega) (fun a b => by simp only [leI, Bool.or_eq_true, decide_eq_true_eq]; omega) ns
        exact this.imp fun h => of_decide_eq_true h
      subst en
      obtain ⟨a1, a2, a3⟩ := new_lst ok hn (dr_ints (K := K) (ι := W.ι) (F := W.F) (ns.mergeSort leI))
      exact q _ _ a1 a2 a3
    · obtain ⟨ps, hps, rfl⟩ := Option.map_eq_some_iff.mp e
      obtain ⟨k, k1, k2⟩ := pairs_dr h3 hps
      refine .inr ⟨a, vs, k, rfl, SqL.of h2, fun x hx => ?_, fun ys p hs hb hn => ?_⟩
      · obtain ⟨t, e1, e2⟩ := k2 x hx
        exact ⟨t, e1, ok.ex _ _ e2⟩
      · have hk : ys.map k = ps.mergeSort leP := by
          refine List.Perm.eq_of_pairwise (le := fun p q => leP p q = true) (fun p q _ _ h1 h2 => ?_) ?_ ?_ ?_
          · simp only [leP, decide_eq_true_eq] at h1 h2
            have : p.1 = q.1 ∧ p.2 = q.2 := by omega
            exact Prod.ext this.1 this.2
          · rw [List.pairwise_map]
            exact hs.imp fun {x y} hxy => by
              have z := SrtO.lexB_no.mp hxy
              simp only [leP, decide_eq_true_eq]
              omega
          · exact List.pairwise_mergeSort (le := leP) (fun a b c h1 h2 => by simp only [leP, decide_eq_true_eq] at *; omega) (fun a b => by simp only [leP, Bool.or_eq_true, decide_eq_true_eq]; omega) ps
          · have hp := hb.perm.map k
            rw [k1] at hp
            exact hp.trans (List.mergeSort_perm ps leP).symm
        have hd : DrAll K W.ι W.F ys ((ps.mergeSort leP).map pairD) := by
          rw [← hk]
          have hm : ∀ y ∈ ys, ∃ t, y = V.ref t ∧ W.F t = some (.tup [.int (k y).1, .int (k y).2]) := fun y hy => k2 y (hb.perm.mem_iff.mp hy)
          clear hk hb hs
          induction ys with
          | nil => exact .nil
          | cons y r ih =>
            obtain ⟨t, e1, e2⟩ := hm y List.mem_cons_self
            refine .cons ?_ (ih fun z hz => hm z (List.mem_cons_of_mem _ hz))
            subst e1
            exact .tup e2 (.cons (.int _) (.one (.int _)))
        obtain ⟨a1, a2, a3⟩ := new_lst ok hn hd
        exact q _ _ a1 a2 a3
  · cases e
theorem call_sortedA : CallR X (.builtin "sorted") (fun xs H Q => rSortedI X.K xs H Q ∨ rSortedPO X.K xs H Q) := cr_sortedI.or cr_sortedPO

/-! ### max, min, sum of a list of ints; of two -/
def maxL : List Int → Int
  | [] => 0
  | n :: r => r.foldl max n
def minL : List Int → Int
  | [] => 0
  | n :: r => r.foldl min n
theorem foldl_max_ge : ∀ (r : List Int) (n : Int), n ≤ r.foldl max n ∧ ∀ y ∈ r, y ≤ r.foldl max n
  | [], n => ⟨Int.le_refl _, fun y h => by simp at h⟩
  | m :: r, n => by
    obtain ⟨h1, h2⟩ := foldl_max_ge r (max n m)
    refine ⟨Int.le_trans (Int.le_max_left _ _) h1, fun y hy => ?_⟩
    rcases List.mem_cons.mp hy with rfl | hy
    · exact Int.le_trans (Int.le_max_right _ _) h1
    · exact h2 y hy
theorem foldl_max_mem : ∀ (r : List Int) (n : Int), r.foldl max n = n ∨ r.foldl max n ∈ r
  | [], n => .inl rfl
  | m :: r, n => by
    rcases foldl_max_mem r (max n m) with h | h
    · rw [List.foldl_cons, h]
      rcases Int.le_total n m with q | q
      · rw [Int.max_eq_right q]; exact .inr List.mem_cons_self
      · rw [Int.max_eq_left q]; exact .inl rfl
    · exact .inr (List.mem_cons_of_mem _ h)
theorem foldl_min_le : ∀ (r : List Int) (n : Int), r.foldl min n ≤ n ∧ ∀ y ∈ r, r.foldl min n ≤ y
  | [], n => ⟨Int.le_refl _, fun y h => by simp at h⟩
  | m :: r, n => by
    obtain ⟨h1, h2⟩ := foldl_min_le r (min n m)
    refine ⟨Int.le_trans h1 (Int.min_le_left _ _), fun y hy => ?_⟩
    rcases List.mem_cons.mp hy with rfl | hy
    · exact Int.le_trans h1 (Int.min_le_right _ _)
    · exact h2 y hy
theorem foldl_min_mem : ∀ (r : List Int) (n : Int), r.foldl min n = n ∨ r.foldl min n ∈ r
  | [], n => .inl rfl
  | m :: r, n => by
    rcases foldl_min_mem r (min n m) with h | h
    · rw [List.foldl_cons, h]
      rcases Int.le_total n m with q | q
      · rw [Int.min_eq_left q]; exact .inl rfl
      · rw [Int.min_eq_right q]; exact .inr List.mem_cons_self
    · exact .inr (List.mem_cons_of_mem _ h)
theorem maxL_eq {ns : List Int} {m : Int} (h1 : m ∈ ns) (h2 : ∀ y ∈ ns, y ≤ m) : m = maxL ns := by
  cases ns with
  | nil => simp at h1
  | cons n r =>
    obtain ⟨g1, g2⟩ := foldl_max_ge r n
    refine Int.le_antisymm ?_ ?_
    · rcases List.mem_cons.mp h1 with rfl | h
      · exact g1
      · exact g2 m h
    · rcases foldl_max_mem r n with h | h
      · show r.foldl max n ≤ m; rw [h]; exact h2 n List.mem_cons_self
      · exact h2 _ (List.mem_cons_of_mem _ h)
theorem minL_eq {ns : List Int} {m : Int} (h1 : m ∈ ns) (h2 : ∀ y ∈ ns, m ≤ y) : m = minL ns := by
  cases ns with
  | nil => simp at h1
  | cons n r =>
    obtain ⟨g1, g2⟩ := foldl_min_le r n
    refine Int.le_antisymm ?_ ?_
    · rcases foldl_min_mem r n with h | h
      · show m ≤ r.foldl min n; rw [h]; exact h2 n List.mem_cons_self
      · exact h2 _ (List.mem_cons_of_mem _ h)
    · rcases List.mem_cons.mp h1 with rfl | h
      · exact g1
      · exact g2 m h
def maxD : D → Option D
  | .list ds => (intsOf ds).bind fun ns => if 0 < ns.length then some (.int (maxL ns)) else none
  | _ => none
def minD : D → Option D
  | .list ds => (intsOf ds).bind fun ns => if 0 < ns.length then some (.int (minL ns)) else none
  | _ => none
def sumD : D → Option D
  | .list ds => (intsOf ds).map fun ns => .int ns.sum
  | _ => none
theorem o_max {K : PySem.W.Frag} : C1D K (aft (rD K)) (rMax K) maxD := by
  intro W s v d d' Q ok h e q
  unfold maxD at e
  split at e
  · obtain ⟨ns, h1, h2⟩ := Option.bind_eq_some_iff.mp e
    split at h2
    · rename_i hz
      cases h2
      obtain ⟨a, vs, rfl, g2, g3⟩ := h.list ok
      have ev := ints_dr g3 h1
      subst ev
      exact ⟨a, ns, rfl, SqL.of g2, hz, fun m hm hle => by rw [maxL_eq hm hle]; exact q _ W (Step.refl W) ok (.int _)⟩
    · cases h2
  · cases e
theorem o_min {K : PySem.W.Frag} : C1D K (aft (rD K)) (rMin K) minD := by
  intro W s v d d' Q ok h e q
  unfold minD at e
  split at e
  · obtain ⟨ns, h1, h2⟩ := Option.bind_eq_some_iff.mp e
    split at h2
    · rename_i hz
      cases h2
      obtain ⟨a, vs, rfl, g2, g3⟩ := h.list ok
      have ev := ints_dr g3 h1
      subst ev
      exact ⟨a, ns, rfl, SqL.of g2, hz, fun m hm hle => by rw [minL_eq hm hle]; exact q _ W (Step.refl W) ok (.int _)⟩
    · cases h2
  · cases e
theorem o_sum {K : PySem.W.Frag} : C1D K (aft (rD K)) (rSum K) sumD := by
  intro W s v d d' Q ok h e q
  unfold sumD at e
  split at e
  · obtain ⟨ns, h1, rfl⟩ := Option.map_eq_some_iff.mp e
    obtain ⟨a, vs, rfl, g2, g3⟩ := h.list ok
    have ev := ints_dr g3 h1
    subst ev
    exact ⟨a, ns, rfl, SqL.of g2, q _ W (Step.refl W) ok (.int _)⟩
  · cases e
def b2D (h : Int → Int → Int) (g : XA) : XE := fun ρ s => (g ρ s).bind fun ds s1 => match ds with
  | [.int i, .int j] => .ok (.int (h i j)) s1
  | _ => .bad
theorem d_max2 {p : Pos} (hc : X.calm = true) (hg : Gl X "max") (hm : X.mg "max" = none) (ha : PA X [a, b] (GA X.K Wx g)) (he : starEach (a :: [b]) X.env = (false, eval a X.env) :: starEach [b] X.env := by rfl) (hpl : (backTo pos (starEach [b] X.env)).any (·.1) = false := by rfl) :
    PE X (.Call (.Name "max" p) [a, b] [] pos) (GX X.K (aft (rD X.K)) Wx (b2D (fun i j => if j > i then j else i) g)) := peImp (pe_callB (call_max2 hc) hg hm bt_max ha (by decide) (by decide) he hpl) fun σ H Q ⟨W0, W, ρ, s, e1, ok, en, q⟩ => by
  subst e1
  refine GA.mk ok en (Post.mono q.bind fun ds s1 W1 st1 ok1 q1 vs hvs => ?_)
  split at q1
  · cases hvs with
    | cons h1 h2 =>
      cases h1
      cases h2 with
      | cons h3 h4 => cases h3; cases h4; exact ⟨_, _, rfl, post_ok ok1 q1 _ (.int _)⟩
  · exact q1.elim
theorem d_min2 {p : Pos} (hc : X.calm = true) (hg : Gl X "min") (hm : X.mg "min" = none) (ha : PA X [a, b] (GA X.K Wx g)) (he : starEach (a :: [b]) X.env = (false, eval a X.env) :: starEach [b] X.env := by rfl) (hpl : (backTo pos (starEach [b] X.env)).any (·.1) = false := by rfl) :
    PE X (.Call (.Name "min" p) [a, b] [] pos) (GX X.K (aft (rD X.K)) Wx (b2D (fun i j => if j < i then j else i) g)) := peImp (pe_callB (call_min2 hc) hg hm bt_min ha (by decide) (by decide) he hpl) fun σ H Q ⟨W0, W, ρ, s, e1, ok, en, q⟩ => by
  subst e1
  refine GA.mk ok en (Post.mono q.bind fun ds s1 W1 st1 ok1 q1 vs hvs => ?_)
  split at q1
  · cases hvs with
    | cons h1 h2 =>
      cases h1
      cases h2 with
      | cons h3 h4 => cases h3; cases h4; exact ⟨_, _, rfl, post_ok ok1 q1 _ (.int _)⟩
  · exact q1.elim

/-! ### sep.join(a list of texts) -/
def strsOf : List D → Option (List Str)
  | [] => some []
  | .str x :: r => (strsOf r).map (x :: ·)
  | _ :: _ => none
theorem strs_dr {K : PySem.W.Frag} {ι : List Addr} {F : Hp} : ∀ {vs : List V} {ds : List D} {ns : List Str}, DrAll K ι F vs ds → strsOf ds = some ns → vs = ns.map V.str
  | _, [], _, h, e => by cases e; cases h; rfl
  | _, d :: r, ns, h, e => by
    unfold strsOf at e
    split at e
    · rename_i hcon; cases hcon
    · rename_i i r' e0
      cases e0
      obtain ⟨ms, e1, rfl⟩ := Option.map_eq_some_iff.mp e
      cases h with
      | cons h1 h2 =>
        cases h1
        rw [strs_dr h2 e1, List.map_cons]
    · cases e
theorem dr_strs {K : PySem.W.Frag} {ι : List Addr} {F : Hp} : ∀ ns : List Str, DrAll K ι F (ns.map V.str) (ns.map PyData.str)
  | [] => .nil
  | n :: r => .cons (.str n) (dr_strs r)
@[simp] theorem strsOf_map : ∀ ns : List Str, strsOf (ns.map PyData.str) = some ns
  | [] => rfl
  | n :: r => by show (strsOf (r.map PyData.str)).map (n :: ·) = _; rw [strsOf_map r]; rfl
def joinOk (a : Str) (ys : List Str) : Bool := decide ((ys.map (·.length)).sum + ys.length * a.length ≤ 16777216)
/-- a method of a text, of one argument -/
def xM1 (g : Str → D → Option D) (f1 f2 : XE) : XE := fun ρ s => (f1 ρ s).bind fun d s1 => match d with
  | .str z => (f2 ρ s1).bind fun d2 s2 => lift (g z d2) s2
  | _ => .bad
def M1D (K : PySem.W.Frag) (R : RB) (r : V → List V → Hp → VK → Prop) (g : Str → D → Option D) : Prop := ∀ (W : Wd) (s : Sto) (z : Str) (v : V) (d d' : D) (Q : VK), Ok K W s → rU K W v d → g z d = some d' →
  (∀ v W', Step W W' → Ok K W' s → R W W' v d' → Q v W'.H) → r (.str z) [v] W.H Q
theorem gx_m1 {K : PySem.W.Frag} {R : RB} [Back R] {r : V → List V → Hp → VK → Prop} {g : Str → D → Option D} (o : M1D K R r g) : ∀ σ H Q, GX K R Wx (xM1 g f1 f2) σ H Q → tM1 r (GX K (aft (rD K)) Wx f1) (GX K (aft (rU K)) Wx f2) σ H Q := by
  rintro σ H Q ⟨W0, W, ρ, s, rfl, ok, en, p⟩
  refine GX.mk ok en (Post.mono p.bind fun d1 s1 W1 st1 ok1 p1 v1 hv1 => ?_)
  cases hv1 with
  | str z =>
    refine ⟨⟨z, rfl⟩, GX.mk ok1 (en.step st1) (Post.mono (Post.bind p1) fun d2 s2 W2 st2 ok2 p2 v2 hv2 => ?_)⟩
    obtain ⟨d, e, q⟩ := p2.lift
    exact o W2 s2 z v2 d2 d Q ok2 hv2 e fun v W4 st4 ok4 hr => q W4 st4 ok4 v (Back.back (st1.trans st2) hr)
  | _ => exact p1.elim
def joinD (a : Str) : D → Option D
  | .list ds => (strsOf ds).bind fun ys => if joinOk a ys = true then some (.str (Txt.join a ys)) else none
  | .tuple ds => (strsOf ds).bind fun ys => if joinOk a ys = true then some (.str (Txt.join a ys)) else none
  | _ => none
theorem o_join {K : PySem.W.Frag} : M1D K (aft (rD K)) (fun x xs H Q => ∃ a p, ∃ ys : List Str, x = .str a ∧ xs = [.ref p] ∧ (SqL K H p (ys.map V.str) ∨ SqT K H p (ys.map V.str)) ∧
    (ys.map (·.length)).sum + ys.length * a.length ≤ 16777216 ∧ Q (.str (Txt.join a ys)) H) joinD := by
  intro W s z v d d' Q ok h e q
  unfold joinD at e
  split at e
  · obtain ⟨ys, h1, h2⟩ := Option.bind_eq_some_iff.mp e
    split at h2
    · rename_i hz
      cases h2
      obtain ⟨a, vs, rfl, g2, g3⟩ := h.list ok
      have ev := strs_dr g3 h1
      subst ev
      exact ⟨z, a, ys, rfl, rfl, .inl (SqL.of g2), of_decide_eq_true hz, q _ W (Step.refl W) ok (.str _)⟩
    · cases h2
  · obtain ⟨ys, h1, h2⟩ := Option.bind_eq_some_iff.mp e
    split at h2
    · rename_i hz
      cases h2
      obtain ⟨a, vs, rfl, _, g2, g3⟩ := h.tup ok
      have ev := strs_dr g3 h1
      subst ev
      exact ⟨z, a, ys, rfl, rfl, .inr (SqT.of g2), of_decide_eq_true hz, q _ W (Step.refl W) ok (.str _)⟩
    · cases h2
  · cases e
theorem d_join {apos : Pos} (ho : PE X a (GX X.K (aft (rD X.K)) Wx f1)) (he : PE X b (GX X.K (aft (rU X.K)) Wx f2)) (hs : starEach [b] X.env = [(false, eval b X.env)] := by rfl) (hbase : attributeBase a "join" X.env (eval a X.env) = eval a X.env := by rfl) (hline : (apos.endLine == pos.line) = true := by rfl) :
    PE X (.Call (.Attribute a "join" apos) [b] [] pos) (GX X.K (aft (rD X.K)) Wx (xM1 joinD f1 f2)) := peImp (pe_join ho he hs hbase hline) (gx_m1 o_join)

/-! ### {'a': 1, ..}[x], a written table -/
def dOfV : V → Option D
  | .non => some .none
  | .bl b => some (.bool b)
  | .int i => some (.int i)
  | .str x => some (.str x)
  | _ => none
theorem dr_ofV {K : PySem.W.Frag} {ι : List Addr} {F : Hp} {v : V} {d : D} (h : dOfV v = some d) : Dr K ι F v d := by
  cases v <;> cases h
  · exact .non
  · exact .bl _
  · exact .int _
  · exact .str _
abbrev Tb := List (Str × V)
def tbK (kvs : Tb) : List (Key × V) := kvs.map fun p => (.inr p.1, p.2)
def litD (kvs : Tb) : D → Option D
  | .str x => (valV (mergeK [] (tbK kvs)) (.inr x)).bind dOfV
  | _ => none
def tbR (kvs : Tb) : List (TE × TE) := kvs.map fun p => (tC (.str p.1), tC p.2)
theorem tb_pairs : ∀ (kvs : Tb) (σ : St) (H : Hp) (Q : List (V × V) → Hp → Prop), Q (kvs.map fun p => (V.str p.1, p.2)) H → tPairs (tbR kvs) σ H Q
  | [], _, _, _, h => h
  | p :: r, σ, H, Q, h => tb_pairs r σ H (fun ps H3 => Q ((V.str p.1, p.2) :: ps) H3) h
def xLit (kvs : Tb) (f : XE) : XE := x1 (litD kvs) f
theorem d_lit {keys : List (Option Expr)} {values : List Expr} {p2 : Pos} {kvs : Tb} {k : Nat} (hr : Room k X.A) (h : PPs X p2 keys values (tbR kvs)) (hi : PE X b (GX X.K (aft (rD X.K)) Wx f)) (hs : NoSl b := by exact fun _ _ => rfl)
    (hall : keys.all (·.isSome) = true := by rfl) (hl : keys.length = values.length := by rfl) (h0 : keys ≠ [] := by exact fun z => by cases z) (h15 : keys.length ≤ 15 := by decide) (hk : kvs.length ≤ 15 := by decide) :
    PE X (.Subscript (.Dict keys values p2) b pos) (GX X.K (aft (rD X.K)) Wx (xLit kvs f)) := peImp (pe_dget (hu_of hr) (pe_disp h hall hl h0 h15) hi hs) fun σ H Q ⟨W0, W, ρ, s, e1, ok, en, q⟩ => by
  subst e1
  intro p hp
  refine tb_pairs kvs σ _ _ ⟨upd_same, tbK kvs, ?_, ?_, ?_⟩
  · unfold tbK
    rw [List.map_map]
    rfl
  · unfold tbK
    rw [List.length_map]; exact hk
  · rw [upd_upd]
    obtain ⟨a1, a2⟩ := step_new (o := .dK (mergeK [] (tbK kvs))) ok hp
    refine GX.mk (W := W.new p (.dK (mergeK [] (tbK kvs)))) a2 (en.step a1) (Post.mono (Post.from q.bind a1) fun d s1 W1 st1 ok1 q1 v hv => ?_)
    obtain ⟨d', e, q2⟩ := q1.lift
    have hP := st1.keep p _ upd_same (tnone ok hp)
    cases hv with
    | str x =>
      obtain ⟨v', g1, g2⟩ := Option.bind_eq_some_iff.mp (show (valV (mergeK [] (tbK kvs)) (.inr x)).bind dOfV = some d' from e)
      refine ⟨p, v', rfl, ?_, q2 W1 (Step.refl _) ok1 _ (dr_ofV g2)⟩
      have := DGet.k (k := (.inr x : Key)) hP
      rw [g1] at this
      exact this
    | _ => cases e
end
end M

/-! M, part 9: chains, enumerate of a tuple, the number of different texts. -/
namespace M
open PySem L2
section
variable {X : Cx} {Wx : WX} {pos : Pos} {a b c : Expr} {f1 f2 f3 : XE}
theorem d_chain {op op' : CmpOp} {r r' : R2} {g g' : D → D → Option D} (ho : OpR X (compareOp op) r) (o : OpD X.K (aft (rD X.K)) r g) (ho' : OpR X (compareOp op') r') (o' : OpD X.K (aft (rD X.K)) r' g') (ha : PE X a (GX X.K (aft (rO X.K)) Wx f1)) (hb : PE X b (GX X.K (aft (rO X.K)) Wx f2)) (hc : PE X c (GX X.K (aft (rU X.K)) Wx f3))
    (hm : lastMarks [op, op'] [b, c] = false := by with_unfolding_all rfl) : PE X (.Compare a [op, op'] [b, c] pos) (GX X.K (aft (rD X.K)) Wx (x3 g g' f1 f2 f3)) := peImp (pe_chain ho ho' ha hb hc hm) (gx_3 o o')
theorem t_chain {op op' : CmpOp} {r r' : R2} {g g' : D → D → Option D} (ho : OpR X (compareOp op) r) (o : OpD X.K (aft (rD X.K)) r g) (ho' : OpR X (compareOp op') r') (o' : OpD X.K (aft (rD X.K)) r' g') (ha : PE X a (GX X.K (aft (rO X.K)) Wx f1)) (hb : PE X b (GX X.K (aft (rO X.K)) Wx f2)) (hc : PE X c (GX X.K (aft (rU X.K)) Wx f3))
    (hm : lastMarks [op, op'] [b, c] = false := by with_unfolding_all rfl) : PT X (.Compare a [op, op'] [b, c] pos) (GT X.K Wx (xB (x3 g g' f1 f2 f3))) := ptImp (pt_chain ho ho' ha hb hc hm) fun σ H Q h => gx_3 o o' σ H _ (gt_b σ H Q h)
end

/-! ### enumerate(a tuple) -/
/-- the tuple at a, each item in a new pair -/
def IteT (K : PySem.W.Frag) (a : Addr) : It :=
  ⟨fun i H => ∃ (xs : List V) (x : V), SqT K H a xs ∧ xs[i]? = some x, fun i H v H' => ∃ T x, v = .ref T ∧ H T = none ∧ H' = upd H T (.tup [.int (i : Nat), x]) ∧ ∀ xs, SqT K H a xs → xs[i]? = some x, fun i H => ∃ xs : List V, SqT K H a xs ∧ xs.length ≤ i⟩
theorem turn_enumT {P : Program} {w : World} {K : PySem.W.Frag} {elts : List Expr} {kk : Nat} {tpos : Pos} (a e it : Addr) (hea : e ≠ a) (hia : it ≠ a) :
    Turn P w K (.Tuple elts kk tpos) (IteT K a) [e, it] e (fun i h => (∃ old, IsEnum h e it ((i : Nat) : Int) old) ∧ h.IsTupleIter it a i ∧ e ≠ it) where
  mem := by simp
  obj := fun i h st b hb => by
    obtain ⟨⟨old, he⟩, ⟨o, ho, hc, hd⟩, _⟩ := st
    have e' : b = e ∨ b = it := by simpa using hb
    rcases e' with z | z
    · rw [z]; exact ⟨_, he, fun v q => nomatch q⟩
    · rw [z]; exact ⟨o, ho, fun v q => by rw [hd] at q; cases q⟩
  keep := fun i h h' st k => let ⟨⟨old, he⟩, hi, hne⟩ := st; ⟨⟨old, k e (by simp) _ he⟩, hi.at fun o q => k it (by simp) o q, hne⟩
  item := by
    intro X hP hw hK hc i pins s σ H E I hf st hg
    subst hP hw hK
    obtain ⟨⟨old, he⟩, hit, hne⟩ := st
    obtain ⟨xs, x, hq, hx⟩ := hg
    obtain ⟨its, rv, p, hz⟩ := I.tuple hq
    obtain ⟨u, hu, ru⟩ := rv.get hx
    have hel : e < s.heap.objs.size := Heap.lt_size he
    have hil : it < s.heap.objs.size := by obtain ⟨_, q, _⟩ := hit; exact Heap.lt_size q
    have hhd : X.A.in1.handled = none := by have := I.ok.hd hc; simp [this]
    have p' : s.heap.IsTuple a its.toArray := p
    have hlen : i < its.toArray.size := by
      have := (List.getElem?_eq_some_iff.mp hu).1
      rw [List.size_toArray]; exact this
    refine wpAny_pyNext_enum_itemD (Draws.tuple hhd it a (Ne.symm hia) its.toArray) he ⟨hit, p'⟩ hlen hne (by simp [hne, hea]) fun u' h' tk hP ho st' hT hsz hk => ?_
    have hu' : u' = u := by
      have hu2 : its.toArray[i]? = some u := by simpa using hu
      rw [hu2] at hP; exact (Option.some.inj hP).symm
    subst hu'
    refine ⟨_, rfl, wpAny_letOwnedTupleGo_enum (s := { s with heap := h', toks := tk + 1 }) ho fun h'' he' sb => ?_⟩
    have hT2 : h''.get? s.heap.objs.size = some { cls := .type "tuple", data := .seq #[.int i tk, u'] } := (sb.2 _ (Nat.ne_of_gt hel)).trans hT
    have new : ObjOk X.prog X.w (upd H s.heap.objs.size (.tup [.int (i : Nat), x])) h'' s.heap.objs.size (.tup [.int (i : Nat), x]) :=
      ⟨by show 2 ≤ sizeLine; decide, [.int i tk, u'], .cons ⟨_, rfl⟩ (.cons ru .nil), ⟨_, hT2, rfl, _, rfl⟩⟩
    have I1 : Inv X pins σ (upd H s.heap.objs.size (.tup [.int (i : Nat), x])) { s with heap := h'', toks := tk + 1 } :=
      I.turnedNew (ch := [e, it]) (fun b ob hb q => (sb.2 b (fun z => hb (by simp [z]))).trans (hk b ob (fun z => hb (by simp [z])) (fun z => hb (by simp [z])) q)) hf (Nat.le_refl _) new
    refine ⟨.ref s.heap.objs.size, _, I1, rfl, ⟨_, x, rfl, I.hok.fresh (Nat.le_refl _), rfl, fun ys hy => by rw [I.tuple_inj hy hq]; exact hx⟩, ⟨⟨u', ?_⟩, st'.1.at fun o q => (sb.2 it (Ne.symm hne)).trans q, hne⟩, fun b hb => ?_⟩
    · have e1 : ((i + 1 : Nat) : Int) = (i : Int) + 1 := by omega
      rw [e1]; exact he'
    · have hb' : b < s.heap.objs.size := by
        have e' : b = e ∨ b = it := by simpa using hb
        rcases e' with z | z
        · rw [z]; exact hel
        · rw [z]; exact hil
      rw [upd_ne (Nat.ne_of_lt hb')]
      exact (hf b hb).1
  done := by
    intro X hP hw hK hc i pins s σ H E I hf st hg
    subst hP hw hK
    obtain ⟨⟨old, he⟩, hit, hne⟩ := st
    obtain ⟨xs, hq, hx⟩ := hg
    obtain ⟨its, rv, p, hz⟩ := I.tuple hq
    obtain ⟨f0, f1, f2, f3, f4, f5⟩ := hf it (by simp)
    have hl := rv.length
    have hhd : X.A.in1.handled = none := by have := I.ok.hd hc; simp [this]
    have p' : s.heap.IsTuple a its.toArray := p
    unfold pyNext
    have hT : s.TypeIs (.ref e) "enumerate" := ⟨_, he, rfl⟩
    refine wpAny_bind (wpAny_attempt (wpAny_callSpecial?_slot (name := Str.ofString "__next__") hT PySem.F.slot_enumerate_next
      (wpAny_call_entry PySem.F.slot_enumerate_next hT PySem.F.entry_enumerate_next ?_ (PySem.F.args_enumerate_next_1 _))))
    show wpAny _ _ (field (.ref e) 2 >>= _) _ _ _
    refine wpAny_bind (wpAny_field he rfl (x := .ref it) rfl ?_)
    refine wpAny_bind (wpAny_nextOf_tuple_end hhd hit p' (by simp; omega) fun h' x he' hx' => ?_)
    obtain ⟨o, ho, hc'⟩ := hx'
    refine wpAny_bind (wpAny_isInstance (T := "StopIteration") (b := true) ⟨o, ho, hc'⟩ isSubtype_stop ?_)
    exact wpAny_pure ⟨rfl, I.turned (t' := s.toks) (fun b o hb q => he' b o hb q) f0 f1 f3 f4 f5⟩
  self := fun A i s Q E st h => let ⟨⟨_, he⟩, _⟩ := st; wpAny_pyIter_enum he h

set_option maxHeartbeats 1000000 in
theorem meets_enum1 {v : Value} {o : Obj} {H : Heap → Prop} (B : Begins v o H) :
    Meets (Builtin.«enumerate.__new__» ⟨[.type "enumerate", v], []⟩) (fun _ R s => H s.heap ∧
      R (.ok (.ret (.ref (s.heap.push o).objs.size))) { s with heap := (s.heap.push o).push { cls := .type "enumerate", data := .fields #[.none, .bool false, .ref s.heap.objs.size, rawInt 0, .none, .none] } }) :=
  .of_wp fun prog w A R s h => by
    obtain ⟨hp, g, d, tk, os⟩ := s; obtain ⟨h1, h⟩ := h
    have hsub := sub_enumerate
    have q1 : ∀ {A' : Around} {E : Value → Shared → Prop} {Q : Value → Shared → Prop}, Q (.ref hp.objs.size) ⟨hp.push o, g, d, tk, os⟩ → wpAny (model prog w) A' (pyIter v) Q E ⟨hp, g, d, tk, os⟩ :=
      fun q => B.iter prog w _ _ ⟨hp, g, d, tk, os⟩ _ h1 q
    wp_walk using q1
    refine wpAny_stack_any fun st => wpAny_pure ?_
    split
    · rename_i c _ _ _ _ _
      cases (c == Value.type "enumerate")
      · wp_walk using q1
        exact ⟨_, rfl, h⟩
      · wp_walk using q1
        exact ⟨_, rfl, h⟩
    · wp_walk using q1
      exact ⟨_, rfl, h⟩
theorem call_enum1 {prog : Program} {w : World} {A : Around} {E : Value → Shared → Prop} {s : Shared} {v : Value} {o : Obj} {H : Heap → Prop} {Q : Value → Shared → Prop} (B : Begins v o H) (h1 : H s.heap)
    (h : ∀ h', IsEnum h' (s.heap.objs.size + 1) s.heap.objs.size 0 .none → h'.get? s.heap.objs.size = some o →
      (∀ b o, s.heap.get? b = some o → h'.get? b = some o) → Q (.ref (s.heap.objs.size + 1)) { s with heap := h' }) :
    wpAny (model prog w) A (call (.type "enumerate") [v]) Q E s := by
  refine callType_new PySem.F.called_enumerate (by decide) (PySem.F.typeCall_enumerate_1 _) (PySem.F.newCall_enumerate_1 _) (fun obj => PySem.F.args_object_init_2 obj _) PySem.F.entry_enumerate_new
    (meets_enum1 B) ⟨h1, ?_⟩
  have hz : (s.heap.push o).objs.size = s.heap.objs.size + 1 := Heap.size_push ..
  show _ ∧ _
  rw [hz]
  have he : IsEnum ((s.heap.push o).push { cls := .type "enumerate", data := .fields #[.none, .bool false, .ref s.heap.objs.size, rawInt 0, .none, .none] }) (s.heap.objs.size + 1) s.heap.objs.size 0 .none := by
    have := Heap.get?_push_size (s.heap.push o) (o := { cls := .type "enumerate", data := .fields #[.none, .bool false, .ref s.heap.objs.size, rawInt 0, .none, .none] }) rfl
    rw [hz] at this; exact this
  exact ⟨⟨_, he, rfl⟩, h _ he (Heap.get?_push_of_some _ (Heap.get?_push_size _ B.free)) fun b o x => Heap.get?_push_of_some _ (Heap.get?_push_of_some _ x)⟩
def iEnT (K : PySem.W.Frag) (ta : TA) : TI := fun σ H R => ta σ H fun vs H1 => ∃ a xs, vs = [.ref a] ∧ SqT K H1 a xs ∧ R (IteT K a) H1
theorem pi_enT {X : Cx} {e : Expr} {ta : TA} {p pos tpos : Pos} {elts : List Expr} {kk : Nat} (hg : Gl X "enumerate") (hm : X.mg "enumerate" = none) (ha : PA X [e] ta) (hs : starEach [e] X.env = [(false, eval e X.env)] := by rfl) :
    PI X (.Tuple elts kk tpos) (.Call (.Name "enumerate" p) [e] [] pos) (iEnT X.K ta) := by
  refine ⟨fun pins s σ H R I h => ?_⟩
  refine PyProof.Rows.Call_ (ld_blt I hg hm PyProof.Rows.boot_enumerate (PyProof.Rows.callWith_type1 (thn (ha.run pos pins s σ H _ I h) fun us s1 ⟨vs, H1, I1, r1, q1⟩ => ?_) hs rfl))
  obtain ⟨a, xs, ex, hq, q⟩ := q1
  subst ex
  cases r1 with
  | cons r rr =>
    cases rr
    cases r
    obtain ⟨its, rv, p', hz⟩ := I1.tuple hq
    have hal : a < s1.heap.objs.size := by obtain ⟨o, ho, _⟩ := p'; exact Heap.lt_size ho
    refine call_enum1 (begins_tuple a its.toArray) (show s1.heap.IsTuple a its.toArray from p') fun h' he hit hk => wpAny_pyIter_enum he ?_
    have I2 : Inv X pins σ H1 { s1 with heap := h' } := I1.kept (t' := s1.toks) hk
    refine ⟨s1.heap.objs.size + 1, [s1.heap.objs.size + 1, s1.heap.objs.size], _, _, H1, rfl, I2, turn_enumT a (s1.heap.objs.size + 1) s1.heap.objs.size (Nat.ne_of_gt (Nat.lt_succ_of_lt hal)) (Nat.ne_of_gt hal), ⟨⟨.none, he⟩, ⟨_, hit, rfl, rfl⟩, Nat.succ_ne_self _⟩, fun b hb => ?_, q⟩
    have e' : b = s1.heap.objs.size + 1 ∨ b = s1.heap.objs.size := by simpa using hb
    have hle : s1.heap.objs.size ≤ b := by
      rcases e' with z | z
      · rw [z]; exact Nat.le_add_right _ _
      · rw [z]; exact Nat.le_refl _
    exact I1.fpOk hle (I1.hok.fresh hle)
theorem walk_enT {K : PySem.W.Frag} {a : Addr} {xs : List V} : Walk (IteT K a) xs.length (fun H => SqT K H a xs) (YPair (fun i => some (.int (i : Nat))) (fun i => xs[i]?)) := by
  refine ⟨fun i _ hi q => ⟨xs, xs[i], q, by simp [hi]⟩, fun _ q => ⟨xs, q, Nat.le_refl _⟩, fun i H v H' _ q y => ?_⟩
  obtain ⟨T, x, h1, h2, h3, h4⟩ := y
  exact ⟨T, .int (i : Nat), x, h1, h2, h3, rfl, h4 xs q⟩
theorem it_enT {K : PySem.W.Frag} {W : Wd} {a : Addr} {vs : List V} {ds : List D} (h : W.F a = some (.tup vs)) (hd : DrAll K W.ι W.F vs ds) : IterOk K (IteT K a) W (enumD 0 ds) := by
  refine ⟨_, _, by rw [enumD_len, ← hd.length]; exact walk_enT (xs := vs), fun W2 s2 m ok => SqT.of (ok.ex _ _ (m.exF _ _ h)), fun i v W2 s2 H' hi m ok y => ?_⟩
  obtain ⟨T, x, y, rfl, hT, rfl, e1, e2⟩ := y
  cases e1
  obtain ⟨d, h1, h2⟩ := hd.getV e2
  obtain ⟨a1, a2, a3⟩ := new_tup ok hT (.cons (.int (i : Int)) (.one (m.dr h2)))
  exact ⟨_, _, rfl, a1, a2, by rw [enumD_get, h1]; simp, a3⟩
def iEnTD (g : XA) : XI := fun ρ s => (g ρ s).bind fun ds s1 => match ds with
  | [.tuple ds] => .ok (enumD 0 ds) s1
  | _ => .bad
theorem i_enT {X : Cx} {Wx : WX} {e : Expr} {g : XA} {p pos : Pos} {elts : List Expr} {kk : Nat} {tpos : Pos} (hg : Gl X "enumerate") (hm : X.mg "enumerate" = none) (ha : PA X [e] (GA X.K Wx g)) (hs : starEach [e] X.env = [(false, eval e X.env)] := by rfl) :
    PI X (.Tuple elts kk tpos) (.Call (.Name "enumerate" p) [e] [] pos) (GI X.K Wx (iEnTD g)) :=
  piImp (pi_enT hg hm ha hs) fun σ H R ⟨W0, W, ρ, s, e1, ok, en, q⟩ => by
    subst e1
    refine GA.mk ok en (Post.mono q.bind fun ds s1 W1 st1 ok1 q1 vs hvs => ?_)
    split at q1
    · cases hvs with
      | cons h1 h2 =>
        cases h2
        cases h1 with
        | tup h3 h4 => exact ⟨_, _, rfl, SqT.of (ok1.ex _ _ h3), post_ok ok1 q1 _ (it_enT h3 h4)⟩
    · exact q1.elim

/-! ### len(set(texts)) -/
def stepS (acc : List Str) (x : Str) : List Str := if acc.any (· == x) = true then acc else acc ++ [x]
/-- the different texts of xs, each once -/
def metS (xs : List Str) : List Str := xs.foldl stepS []
theorem stepS_len (acc : List Str) (x : Str) : (stepS acc x).length = if acc.any (· == x) then acc.length else acc.length + 1 := by
  unfold stepS; split <;> simp
theorem stepS_any (acc : List Str) (v k : Str) : (stepS acc v).any (· == k) = (acc.any (· == k) || decide (k = v)) := by
  unfold stepS
  by_cases h : acc.any (· == v) = true
  · rw [if_pos h]
    by_cases e : k = v
    · subst e; rw [h]; simp
    · simp [e]
  · rw [if_neg h, List.any_append]
    by_cases e : k = v
    · subst e; simp
    · have hb : (v == k) = false := by simpa [beq_iff_eq] using (fun h' : v = k => e h'.symm)
      simp [hb, e]
theorem metS_take {xs : List Str} {i : Nat} {x : Str} (h : xs[i]? = some x) : metS (xs.take (i + 1)) = stepS (metS (xs.take i)) x := by
  unfold metS
  rw [List.take_add_one, h]
  simp
theorem metS_le : ∀ xs : List Str, (metS xs).length ≤ xs.length := by
  intro xs
  suffices h : ∀ (xs acc : List Str), (xs.foldl stepS acc).length ≤ acc.length + xs.length by
    have := h xs []
    simpa [metS] using this
  intro xs
  induction xs with
  | nil => intro acc; simp
  | cons x r ih =>
    intro acc
    have h1 := ih (stepS acc x)
    have h2 := stepS_len acc x
    rw [List.foldl_cons, List.length_cons]
    split at h2 <;> omega
section
variable {P : Program} {w : World} {A : Around} {E : Value → Shared → Prop} {s : Shared}
open PyProof.Rows in
/-- the loop of set's update over texts -/
theorem upd_texts {I S : Addr} {fp wr : List Addr} {G : Array GenState → Array GenState → Prop} {n : Nat} {Pv : Nat → Value → Prop} {St : Nat → Shared → Prop} {R : Result → Shared → Prop}
    (W : WalksS P w A.in1 I fp wr G n Pv St) (hSf : S ∉ fp) (xs : List Str) (hn : n = xs.length) (hb : xs.length + 1 < scanBound) (hval : ∀ i v, Pv i v → ∃ z t, xs[i]? = some z ∧ v = .str z t)
    (hR : ∀ s', s'.heap.SetOf (PySem.strKind P w) S (fun k => (metS xs).any (· == k)) (metS xs).length → Moved (S :: wr) G s s' → R (.ok (.ret .none)) s') :
    ∀ (m i : Nat) (s1 : Shared), n - i = m → i ≤ n → St i s1 → (s1 = s ∨ Moved (S :: wr) G s s1) → s1.heap.SetOf (PySem.strKind P w) S (fun k => (metS (xs.take i)).any (· == k)) (metS (xs.take i)).length →
      codeAny (model P w) A (.builtin "set.update.loop" ⟨[.ref S, .ref I], []⟩) R s1 := by
  have hSw : S ∉ wr := fun h => hSf (W.sub _ h)
  have sub : ∀ b ∈ wr, b ∈ S :: wr := fun b h => List.mem_cons_of_mem _ h
  have join : ∀ {a b : Shared}, (a = s ∨ Moved (S :: wr) G s a) → Moved (S :: wr) G a b → Moved (S :: wr) G s b := fun h m => by
    rcases h with h | h
    · rw [← h]; exact m
    · exact Moved.trans W.gtrans h m
  intro m
  induction m with
  | zero =>
    intro i s1 hm hi hst hmv hS
    have e : i = n := by omega
    subst e
    refine codeAny_builtin F.entry_set_update_loop ?_
    rw [Around.under_plainId F.plain_set_update_loop _]
    show wpAny _ A.in1 (pyNext (.ref I) >>= _) _ _ s1
    refine wpAny_bind (W.done s1 _ _ hst fun s' mv => ?_)
    show wpAny _ A.in1 (ret Value.none) _ _ s'
    rw [hn, List.take_length] at hS
    refine wpAny_pure (hR s' ?_ (join hmv (mv.mono sub)))
    obtain ⟨o, es, ep, t, ho, rest⟩ := hS
    exact ⟨o, es, ep, t, mv.heap S _ hSw ho, rest⟩
  | succ m ih =>
    intro i s1 hm hi hst hmv hS
    have hlt : i < n := by omega
    refine codeAny_builtin F.entry_set_update_loop ?_
    rw [Around.under_plainId F.plain_set_update_loop _]
    show wpAny _ A.in1 (pyNext (.ref I) >>= _) _ _ s1
    refine wpAny_bind (W.item i s1 _ _ hlt hst fun v s' hP hst' mv => ?_)
    obtain ⟨z, t, hz, rfl⟩ := hval i v hP
    have hS' : s'.heap.SetOf (PySem.strKind P w) S (fun k => (metS (xs.take i)).any (· == k)) (metS (xs.take i)).length := by
      obtain ⟨o, es, ep, tb, ho, rest⟩ := hS
      exact ⟨o, es, ep, tb, mv.heap S _ hSw ho, rest⟩
    show wpAny _ A.in1 (holding [Value.str z t] (setAdd S (.str z t)) >>= _) _ _ s'
    refine wpAny_bind (wpAny_holding ?_)
    unfold setAdd
    refine wpAny_holding (wpAny_bind ((PySem.strKind P w).pyHash (k := z) (strKind_is _ _ _ _) ?_))
    have room : (metS (xs.take i)).length + 1 < scanBound := by
      have h1 := metS_le (xs.take i)
      rw [List.length_take] at h1
      omega
    refine wpAny_setAddHashed_of (knd := PySem.strKind P w) (s := { s' with toks := s'.toks + 1 }) (strKind_is _ _ _ _) rfl hS' room fun h' sb hS2 => ?_
    refine wpAny_pure ⟨plainId_quiet F.plain_set_update_loop _, ih (i + 1) _ (by omega) hlt (W.frame _ s' _ _ hst' (Nat.le_succ _) fun b hb o e => ?_) (.inr (join hmv ((mv.mono sub).then_heap (Nat.le_succ _) fun b o hb e => ?_))) ?_⟩
    · rw [sb.2 b (fun h : b = S => hSf (by rw [← h]; exact hb))]; exact e
    · rw [sb.2 b (fun h : b = S => hb (by rw [h]; exact List.mem_cons_self))]; exact e
    · exact SetOf_congr hS2 (fun k => by rw [metS_take hz, stepS_any]) (by rw [metS_take hz, stepS_len])

set_option maxHeartbeats 3200000 in
theorem call_setT {l : Addr} {items : Array Value} {xs : List Str} {Q : Value → Shared → Prop} (hh : A.handled = none) (hl : s.heap.IsTuple l items) (hi : PyProof.Rows.StrsAre items.toList xs) (hb : xs.length + 1 < scanBound)
    (h : ∀ (h' : Heap) (tk : Nat), h'.SetOf (PySem.strKind P w) s.heap.objs.size (fun k => (metS xs).any (· == k)) (metS xs).length → (∀ b o, s.heap.get? b = some o → h'.get? b = some o) → Q (.ref s.heap.objs.size) { s with heap := h', toks := tk }) :
    wpAny (model P w) A (call (.type "set") [.ref l]) Q E s := by
  obtain ⟨_, _, hmro⟩ := PySem.F.called_set.mro
  have hmade := PySem.F.called_set.made
  have hsub := PySem.F.called_set.sub
  have h1 := PySem.F.called_set.notType
  have h2 := PySem.F.called_set.canCreate
  have hct := PySem.F.typeCall_set_1 (.ref l)
  refine wpAny_call (codeAny_of_tree ?_)
  show wpAny _ _ (callAny (.type "set") _) _ _ _
  refine wpAny_pure ⟨Code.quiet_builtin _ (by decide +kernel), codeAny_builtin PySem.F.entry_type_call ?_⟩
  rw [Around.under_plain (weight_type_call_type "set" [.ref l] []) rfl]
  repeat (any_goals (first | assumption | wp_step))
  refine codeAny_mono (code_set_new_1 (.ref l) (E := E) (Q₁ := fun obj t => ∃ led : Bool, obj = .ref s.heap.objs.size ∧ t = { s with heap := s.heap.push { cls := .type "set", dict := none, data := .set #[] 0 (.fresh 0 0 led) } }) fun led => ⟨led, rfl, rfl⟩) fun r t hr => ?_
  match r, hr with
  | .ok (.ret obj), hr =>
    obtain ⟨led, rfl, rfl⟩ := hr
    have hS : (s.heap.push { cls := .type "set", dict := none, data := .set #[] 0 (.fresh 0 0 led) }).get? s.heap.objs.size = some { cls := .type "set", dict := none, data := .set #[] 0 (.fresh 0 0 led) } := Heap.get?_push_size _ rfl
    have hT : Shared.TypeIs { s with heap := s.heap.push { cls := .type "set", dict := none, data := .set #[] 0 (.fresh 0 0 led) } } (.ref s.heap.objs.size) "set" := ⟨_, hS, rfl⟩
    have hli := PySem.F.called_set.init.lookup
    have hbi := PySem.F.called_set.init.bind (.ref s.heap.objs.size)
    repeat (any_goals (first | assumption | wp_step))
    refine codeAny_mono (codeAny_call_builtin (R := wants (fun r t => r = .none ∧ ∃ h' tk, t = { s with heap := h', toks := tk } ∧
        h'.SetOf (PySem.strKind P w) s.heap.objs.size (fun k => (metS xs).any (· == k)) (metS xs).length ∧ (∀ b o, s.heap.get? b = some o → h'.get? b = some o)) E) PySem.F.called_set.init.plain PySem.F.entry_set_init (check_set_init_1 hT ?_)) fun r t hr => ?_
    · obtain ⟨⟨oc, od, odt, osl⟩, hol, hcl, nl, hdl⟩ := hl
      simp only at hcl hdl
      subst hcl hdl
      have hlS : l < s.heap.objs.size := Heap.lt_size hol
      have hol' := Heap.get?_push_of_some { cls := .type "set", dict := none, data := .set #[] 0 (.fresh 0 0 led) } hol
      have hl1 : (s.heap.push { cls := .type "set", dict := none, data := .set #[] 0 (.fresh 0 0 led) }).IsTuple l items := ⟨_, hol', rfl, nl, rfl⟩
      have g1 := PySem.F.sub_tuple_set
      have g2 := PySem.F.sub_tuple_frozenset
      have g3 : (Value.type "tuple" == Value.type "dict") = false := by decide
      have hsz1 : (s.heap.push { cls := .type "set", dict := none, data := .set #[] 0 (.fresh 0 0 led) }).objs.size = s.heap.objs.size + 1 := Heap.size_push ..
      unfold Builtin.«set.__init__» noKeywords Builtin.Frozenset.updateFrom
      generalize hPI : pyIter = PI
      wp_walk
      subst hPI
      refine wpAny_pyIter_tuple hl1 ?_
      refine wpAny_bind (wpAny_runValue ?_)
      have hh3 : A.in1.in1.in1.handled = none := by simp [hh]
      have nI : l ≠ (s.heap.push { cls := .type "set", dict := none, data := .set #[] 0 (.fresh 0 0 led) }).objs.size := by rw [hsz1]; exact Nat.ne_of_lt (Nat.lt_succ_of_lt hlS)
      have nS : s.heap.objs.size ∉ [(s.heap.push { cls := .type "set", dict := none, data := .set #[] 0 (.fresh 0 0 led) }).objs.size, l] := by
        rw [hsz1]
        simp only [List.mem_cons, List.not_mem_nil, or_false, not_or]
        exact ⟨Nat.ne_of_lt (Nat.lt_succ_self _), Nat.ne_of_gt hlS⟩
      have hlen : items.size = xs.length := by rw [← PyProof.Rows.StrsAre.len_eq hi, Array.length_toList]
      have hval : ∀ (i : Nat) (v : Value), items[i]? = some v → ∃ z t, xs[i]? = some z ∧ v = .str z t := fun i v hv => by
        obtain ⟨t, e⟩ := SS.strs_at hi i v (by rw [Array.getElem?_toList]; exact hv)
        have hlt : i < xs.length := by rw [← hlen]; exact (Array.getElem?_eq_some_iff.mp hv).1
        refine ⟨xs[i], t, List.getElem?_eq_getElem hlt, ?_⟩
        rw [e, List.getD_eq_getElem?_getD, List.getElem?_eq_getElem hlt]; rfl
      refine upd_texts ((Walks.tuple hh3 _ l nI items).toS) nS xs hlen hb hval (fun s' hS' mv => ?_) (items.size - 0) 0 _ rfl (Nat.zero_le _) ⟨⟨_, Heap.get?_push_size _ rfl, rfl, rfl⟩, hl1.push _⟩ (.inl rfl) ?_
      · obtain ⟨h', g', d', tk', os'⟩ := s'
        have eg : g' = s.gens := mv.gens
        have ed : d' = s.drawn := mv.drawn
        have eo : os' = s.os := mv.os
        subst eg ed eo
        show wpAny _ _ _ _ _ _
        refine wpAny_pure ?_
        show wpAny _ _ (ret Value.none) _ _ _
        refine wpAny_pure ⟨rfl, h', tk', rfl, hS', fun b o e => ?_⟩
        have hb0 : b < s.heap.objs.size := Heap.lt_size e
        refine mv.heap b o ?_ (Heap.get?_push_of_some _ (Heap.get?_push_of_some _ e))
        simp only [List.mem_cons, List.not_mem_nil, or_false, not_or]
        exact ⟨Nat.ne_of_lt hb0, by rw [hsz1]; exact Nat.ne_of_lt (Nat.lt_succ_of_lt hb0)⟩
      · have hg2 := Heap.get?_push_of_some { cls := .type "tuple_iterator", data := .fields #[.ref l, .int 0 0] } hS
        exact PyProof.Rows.SetOf_congr ((PyProof.Rows.setObjOf_fresh (knd := PySem.strKind P w) led).setOf hg2 (by unfold scanBound; omega)) (fun _ => rfl) rfl
    · match r, hr with
      | .ok (.ret r), hr =>
        obtain ⟨rfl, h', tk, rfl, hS', hk⟩ := hr
        repeat (any_goals (first | assumption | wp_step))
        exact h _ _ hS' hk
      | .error e, hr => exact hr
  | .error e, hr => exact hr
end
section
variable {X : Cx} {Wx : WX} {a : Expr} {f : XE}
def rLenSet (K : PySem.W.Frag) : VK → V → Hp → Prop := fun Q x H => ∃ l, ∃ xs : List Str, x = .ref l ∧ SqT K H l (xs.map V.str) ∧ xs.length + 1 < scanBound ∧ Q (.int (metS xs).length) H
theorem pe_lenSetA {ta : TE} {p p2 q pos : Pos} (hc : X.calm = true) (hg : Gl X "len") (hm : X.mg "len" = none) (hg2 : Gl X "set") (hm2 : X.mg "set" = none) (ha : PE X a ta)
    (na : starEach [a] X.env = (false, eval a X.env) :: starEach [] X.env := by rfl) : PE X (.Call (.Name "len" p) [.Call (.Name "set" p2) [a] [] q] [] pos) (fun σ H Q => ta σ H fun x H1 => rLenSet X.K Q x H1) := by
  refine ⟨fun pins s σ H Q I h => ?_⟩
  refine PyProof.Rows.Call_ (ld_blt I hg hm PySem.boot_len ?_)
  refine PyProof.Rows.callWith_builtin1 (PyProof.Rows.args_cons ?_ rfl) rfl rfl
  refine PyProof.Rows.Call_ (ld_blt I hg2 hm2 PyProof.Rows.boot_set ?_)
  refine PyProof.Rows.callWith_type1 (PyProof.Rows.args_cons (thn (ha.run pins s σ H _ I h) fun v s1 ⟨x, H1, I1, r1, q1⟩ => PyProof.Rows.args_nil ?_) na) na rfl
  obtain ⟨l, xs, rfl, hq, h1, q1⟩ := q1
  cases r1
  obtain ⟨its, r, pl, hz⟩ := I1.tuple hq
  refine call_setT (I1.ok.hd hc) (show s1.heap.IsTuple l its.toArray from pl) (by simpa using strsAre_of r) h1 fun h' tk hS hk => PyProof.Rows.args_nil ?_
  obtain ⟨o, es, ep, t, ho, hex, hd, _, _, _, hf, hn⟩ := hS
  have I2 : Inv X pins σ H1 { s1 with heap := h', toks := tk } := I1.kept fun b o e => hk b o e
  have hle := metS_le xs
  have hb : (scanBound : Int) < 2 ^ 63 := by unfold scanBound; decide
  refine call_len_set ho hex hd hf (by rw [hn] <;> omega) ⟨.int (metS xs).length, H1, I2.tok _, ⟨_, by rw [hn]⟩, q1⟩
def lenSetD : D → Option D
  | .tuple ds => (strsOf ds).bind fun ys => if ys.length + 1 < scanBound then some (.int (metS ys).length) else none
  | _ => none
theorem d_lenSet {p p2 q pos : Pos} (hc : X.calm = true) (hg : Gl X "len") (hm : X.mg "len" = none) (hg2 : Gl X "set") (hm2 : X.mg "set" = none) (ha : PE X a (GX X.K (aft (rD X.K)) Wx f))
    (na : starEach [a] X.env = (false, eval a X.env) :: starEach [] X.env := by rfl) : PE X (.Call (.Name "len" p) [.Call (.Name "set" p2) [a] [] q] [] pos) (GX X.K (aft (rD X.K)) Wx (x1 lenSetD f)) :=
  peImp (pe_lenSetA hc hg hm hg2 hm2 ha na) fun σ H Q ⟨W0, W, ρ, s, e1, ok, en, p⟩ => by
    subst e1
    refine GX.mk ok en (Post.mono p.bind fun d s1 W1 st1 ok1 p1 v hv => ?_)
    obtain ⟨d', e, q⟩ := p1.lift
    unfold lenSetD at e
    split at e
    · obtain ⟨ys, h1, h2⟩ := Option.bind_eq_some_iff.mp e
      split at h2
      · rename_i hz
        cases h2
        cases hv with
        | tup g1 g2 =>
          have ev := strs_dr g2 h1
          subst ev
          exact ⟨_, ys, rfl, SqT.of (ok1.ex _ _ g1), hz, q W1 (Step.refl _) ok1 _ (.int _)⟩
      · cases h2
    · cases e
end
end M

/-! M, part 10: what is walked, of any kind; several targets; defs by their names. -/
namespace M
open PySem L2
open PyProof.Rows (envOfC)
section
variable {X : Cx} {Wx : WX} {pos p : Pos} {tg e : Expr} {f : XE} {g : XA}
/-- a list, a tuple, a text -/
def iAny (f : XE) : XI := fun ρ s => (f ρ s).bind fun d s1 => match d with
  | .list ds => .ok ds s1
  | .tuple ds => .ok ds s1
  | .str x => .ok (strD x) s1
  | _ => .bad
theorem pi_or {t1 t2 : TI} (h1 : PI X tg e t1) (h2 : PI X tg e t2) : PI X tg e (fun σ H R => t1 σ H R ∨ t2 σ H R) := ⟨fun pins s σ H R I q => q.elim (h1.run pins s σ H R I) (h2.run pins s σ H R I)⟩
theorem i_any (h : PE X e (GX X.K (aft (rD X.K)) Wx f)) : PI X tg e (GI X.K Wx (iAny f)) := piImp (pi_or (i_list h) (pi_or (i_tup h) (i_str h))) fun σ H R ⟨W0, W, ρ, s, e1, ok, en, q⟩ => by
  unfold iAny at q
  cases ho : f ρ s with
  | ok d s1 =>
    rw [ho] at q
    cases d with
    | list ds => exact .inl ⟨W0, W, ρ, s, e1, ok, en, by unfold iListOnly; rw [ho]; exact q⟩
    | tuple ds => exact .inr (.inl ⟨W0, W, ρ, s, e1, ok, en, by unfold iTupOnly; rw [ho]; exact q⟩)
    | str x => exact .inr (.inr ⟨W0, W, ρ, s, e1, ok, en, by unfold iStrD; rw [ho]; exact q⟩)
    | _ => exact q.elim
  | exc c s1 =>
    rw [ho] at q
    exact .inl ⟨W0, W, ρ, s, e1, ok, en, by unfold iListOnly; rw [ho]; exact q⟩
  | bad => rw [ho] at q; exact q.elim
def iEnA (g : XA) : XI := fun ρ s => (g ρ s).bind fun ds s1 => match ds with
  | [.list ds] => .ok (enumD 0 ds) s1
  | [.tuple ds] => .ok (enumD 0 ds) s1
  | _ => .bad
theorem i_enA {elts : List Expr} {kk : Nat} {tpos : Pos} (hg : Gl X "enumerate") (hm : X.mg "enumerate" = none) (ha : PA X [e] (GA X.K Wx g)) (hs : starEach [e] X.env = [(false, eval e X.env)] := by rfl) :
    PI X (.Tuple elts kk tpos) (.Call (.Name "enumerate" p) [e] [] pos) (GI X.K Wx (iEnA g)) :=
  piImp (pi_or (i_enum hg hm ha hs) (i_enT hg hm ha hs)) fun σ H R ⟨W0, W, ρ, s, e1, ok, en, q⟩ => by
    unfold iEnA at q
    cases ho : g ρ s with
    | ok ds s1 =>
      rw [ho] at q
      have q' : Post X.K W (match ds with | [.list ds] => Out.ok (enumD 0 ds) s1 | [.tuple ds] => .ok (enumD 0 ds) s1 | _ => .bad) (fun ds _ W' => ∀ J, IterOk X.K J W' ds → R J W'.H) (wexc X.K Wx σ) := q
      split at q'
      · exact .inl ⟨W0, W, ρ, s, e1, ok, en, by unfold iEnumD; rw [ho]; exact q'⟩
      · exact .inr ⟨W0, W, ρ, s, e1, ok, en, by unfold iEnTD; rw [ho]; exact q'⟩
      · exact q'.elim
    | exc c s1 =>
      rw [ho] at q
      exact .inl ⟨W0, W, ρ, s, e1, ok, en, by unfold iEnumD; rw [ho]; exact q⟩
    | bad => rw [ho] at q; exact q.elim

/-! ### a target of any kind -/
def toN (o : Option Env) (s : Sto) : Res := match o with
  | some ρ => .next ρ s
  | none => .bad
def sTo (t : XG) (f : XE) : XS := stX f fun d ρ s => toN (t d ρ) s
theorem p_to {js : List Nat} {t : XG} (he : PE X e (GX X.K (aft (rD X.K)) Wx f)) (hg : PG X tg (GG X.K js t)) (hs : swapsWithSole [tg] e pos.line X.env = pure false := by rfl) (hw : swappedStores [tg] e X.env = pure none := by rfl)
    (h1 : (assignEach [tg] X.env).map (·.2) = [assign tg X.env] := by rfl) : L2.PS X (.Assign [tg] e pos) (GS X.K Wx (sTo t f)) := psImp (ps_asg he hg hs hw h1) fun D σ H ⟨W0, W, ρ, s, e1, h, q⟩ => by
  subst e1
  refine GX.mk h.ok h.en (Post.mono (PS.x h q) fun d s1 W1 _ _ q1 v hv => ?_)
  obtain ⟨h1, q1⟩ := q1
  cases et : t d ρ with
  | none => unfold toN at q1; rw [et] at q1; exact q1.elim
  | some ρ' =>
    unfold toN at q1
    rw [et] at q1
    exact ⟨W0, W1, ρ, s1, d, rfl, h1.ok, h1.en, hv, ρ', et, fun σ' en' _ => q1 σ' W1 (Mon.refl W1) ⟨h1.st, h1.ok, en'⟩⟩

theorem hu65 {k : Nat} {A : Around} (hr : Room k A) : A.units + 65 < cLine := by have := hr.un; omega
/-! ### defs by their names -/
def FnIs (P : Program) (w : World) (K : PySem.W.Frag) (mg : Str → Option Value) (base : Heap) (k : Nat) (x : Str) (ps : List Str) (n : Nat) (m : Fn) : Prop :=
  ∃ fd, FnOk P w K mg base (L2.CX P w) k (He.ga K x) fd ps (spM K n m) ∧ mg x = some (.ref (He.ga K x)) ∧ PySem.W.keepIn K (.ref (He.ga K x)) = true ∧ Binds K fd ps [] ∧ (∀ (s : Shared) (us : List Value), us.length = ps.length → BindsTo s fd ⟨us, []⟩ (ps.zip us)) ∧ ∃ oc od osl, K.lookup (He.ga K x) = some ⟨oc, od, .func fd, osl⟩
theorem fn_is {P : Program} {w : World} {K : PySem.W.Frag} {mg : Str → Option Value} {base : Heap} {x qual : Str} {params : Arguments} {body : List Stmt} {scope : Scope} {N ps : List Str} {k n : Nat} {b : XS}
    (F : ∃ fd, FunD K x qual params body scope [] [] (He.ga K x) fd) (g : mg x = some (.ref (He.ga K x))) (S : FnScope N ps scope) (hn : ps.length = n)
    (hbind : ∀ (kV doc pm : Value) (an : Option Addr) (cdv ct : Value) (us : List Value), us.length = ps.length → bindArgs (PySem.W.fnOf x qual params body scope .none kV doc pm an cdv ct) ⟨us, []⟩ = pure (ps.zip us))
    (hb : ∀ (cdv : Value) (A : Around) (outer : List PySem.Env) (s : Shared) (H : Hp) (E : XK), Room k (A.deeper (envOfC qual scope s.heap.objs.size (He.ga K x) cdv)) → PSs (cxOf (L2.CX P w) P w K mg base N qual scope (He.ga K x) cdv A outer s H E) body (GS K (wE E) b)) :
    FnIs P w K mg base (k + 1) x ps n (runB b N.length) := by
  obtain ⟨fd, F⟩ := F
  subst hn
  exact ⟨fd, fn_rule F S hb, g, F.kp, F.bindsN hbind, FunD.bindsA F hbind, by
    obtain ⟨oc, od, _, _, _, _, _, _, _, osl, _, lk, _⟩ := F.ex
    exact ⟨oc, od, osl, lk⟩⟩
theorem FnIs.mono {P : Program} {w : World} {K : PySem.W.Frag} {mg : Str → Option Value} {base : Heap} {j k n : Nat} {x : Str} {ps : List Str} {m : Fn} (F : FnIs P w K mg base j x ps n m) (h : j ≤ k) : FnIs P w K mg base k x ps n m := by
  obtain ⟨fd, F, r⟩ := F
  exact ⟨fd, F.mono h, r⟩
theorem d_fn {j k n : Nat} {x : Str} {ps : List Str} {m : Fn} {es : List Expr} (F : FnIs X.prog X.w X.K X.mg X.base j x ps n m) (hr : Room k X.A) (hj : j ≤ k) (tk : Takes X Wx) (ha : PA X (e :: es) (GA X.K Wx g)) (hg : Gl X x := by rfl) (hdb : (x == ("__debug__" : Str)) = false := by decide) (he : starEach (e :: es) X.env = (false, eval e X.env) :: starEach es X.env := by rfl)
    (hpl : (backTo pos (starEach es X.env)).any (·.1) = false := by rfl) : PE X (.Call (.Name x p) (e :: es) [] pos) (GX X.K (aft (rD X.K)) Wx (xCall n m g)) := by
  obtain ⟨fd, F, h1, h2, h3, _⟩ := F
  exact d_call F (hr.mono hj) hg h1 h2 h3 tk ha hdb he hpl
theorem d_fn0 {j k : Nat} {x : Str} {ps : List Str} {m : Fn} (F : FnIs X.prog X.w X.K X.mg X.base j x ps 0 m) (hr : Room k X.A) (hj : j ≤ k) (tk : Takes X Wx) (hg : Gl X x := by rfl) (hdb : (x == ("__debug__" : Str)) = false := by decide) : PE X (.Call (.Name x p) [] [] pos) (GX X.K (aft (rD X.K)) Wx (xCall 0 m aN)) := by
  obtain ⟨fd, F, h1, h2, h3, _⟩ := F
  exact d_call0 F (hr.mono hj) hg h1 h2 h3 tk hdb
/-- an exception class of one's own -/
structure ExcIs (K : PySem.W.Frag) (mg : Str → Option Value) (x : Str) : Prop where
  q : PySem.W.excIn K (He.ga K x) He.veBase "ValueError.__new__" = true
  g : mg x = some (.ref (He.ga K x))
  k : PySem.W.keepIn K (.ref (He.ga K x)) = true
  s : PySem.W.subIn K (.ref (He.ga K x)) (.type "BaseException") = some true
  t : PySem.W.typeIn K (.ref (He.ga K x)) = some (.type "type")
theorem p_raiseX {x m : Str} {j : Nat} {p1 p2 p3 pos2 : Pos} (c : ExcIs X.K X.mg x) (hc : X.calm = true) (tk : Takes X Wx) (hg : Gl X x := by rfl) (hdb : (x == ("__debug__" : Str)) = false := by decide) : L2.PS X (.Raise (some (.Call (.Name x p1) [.Constant (.str m) j p2] [] p3)) none pos2) (GS X.K Wx (sRaise x)) :=
  p_raise hc tk c.q c.g c.k (raises_own c.s c.t) hg hdb
end
theorem fnis_all {P : Program} {w : World} {K : PySem.W.Frag} {mg : Str → Option Value} {k n : Nat} {x : Str} {ps : List Str} {m : Fn} (b0 : Heap) (F : ∀ base, FnIs P w K mg base k x ps n m) :
    ∃ fd, (∀ (s : Shared) (us : List Value), us.length = ps.length → BindsTo s fd ⟨us, []⟩ (ps.zip us)) ∧ ∀ base, FnOk P w K mg base (L2.CX P w) k (He.ga K x) fd ps (spM K n m) := by
  obtain ⟨fd, _, _, _, _, hb, oc, od, osl, lk⟩ := F b0
  refine ⟨fd, hb, fun base => ?_⟩
  obtain ⟨fd', F', _, _, _, _, oc', od', osl', lk'⟩ := F base
  rw [lk] at lk'
  cases lk'
  exact F'
end M

/-! M, part 11: the end of a law. -/
namespace M
open PySem L2
theorem dr_intsS {K : PySem.W.Frag} {ι : List Addr} {F : Hp} : ∀ ns : List Int, DrAll K ι F (ns.map V.int) (ns.map PyData.int)
  | [] => .nil
  | n :: r => .cons (.int n) (dr_intsS r)
/-- a mirror says True -/
def Says (m : Fn) (ns : List Int) : Prop := ∃ s', m [scrD (ns.map PyData.int)] [] = .ok (.bool true) s'
theorem end_sp {K : PySem.W.Frag} {m : Fn} {H : Hp} {a : Addr} {ns : List Int} (h : Says m ns) (hS : SqL K H a (ns.map V.int)) : spM K 1 m [.ref a] H (fun v _ => v = .bl true) (fun _ _ _ => False) := by
  obtain ⟨s', e⟩ := h
  refine ⟨⟨[], H, fun _ => False, H⟩, [], [scrD (ns.map PyData.int)], rfl, ⟨Ex.refl _, fun _ z => z.elim, rfl, List.nodup_nil, fun _ _ => 0, fun n r a e => ?_, fun n x xs r n' x' xs' r' e => ?_⟩, rfl, .cons (.scr hS (dr_intsS ns)) .nil, ?_⟩
  · simp at e
  · simp at e
  · rw [e]
    intro W' _ _ v hv
    cases hv
    rfl
theorem walk_end {l : PySem.W.OpenLaw} {n k : Nat} {q : Program} {loose : List Str} {XP : (Str → Option Value) → Heap → Prop} {YP : World → Heap → Prop} {d : DefRec} {x : Str}
    (hn : l.most = some n) (hn2 : n ≤ sizeLine) (hdf : d.params.defaults = []) (hr : Room k callerA)
    (F : ∀ (w : World) (mg : Str → Option Value) (fa : Addr) (h : Heap), YP w h → h.Ns mainGlobals mg → mg d.name = some (.ref fa) →
      ∃ (K : PySem.W.Frag) (fd : FuncData) (m : Fn), K.In h ∧ (∀ (s : Shared) (u : Value), BindsTo s fd ⟨[u], []⟩ [(x, u)]) ∧ (∀ ns : List Int, ns.length ≤ n → Says m ns) ∧
        ∀ base : Heap, K.In base → base.Ns mainGlobals mg → FnOk l.prog w K mg base (L2.CX l.prog w) k fa fd [x] (spM K 1 m)) :
    PySem.W.WalkO q loose XP YP l.row.toRowW d [] (fun f vs => PySem.call f vs) := by
  refine Att.attach_call hn hdf fun w s₀ s₁ mg mb fa o pm cd doc a vs ns G Y ho hd hcd hmg hobj hints hlen hg => ?_
  obtain ⟨K, fd, m, KX, hb, hm, hF⟩ := F w mg fa _ Y G.T.g hmg
  refine law_call KX G.T.g G.T.b G.T.builtins G.T.nolimit hg hobj hints (Nat.le_trans hlen hn2) hr hF hb (fun H hO hS => end_sp (hm ns hlen) hS) fun H e s' z => ?_
  obtain ⟨_, _, _, _, _, _, _, _, _, _, _, _, z⟩ := z
  exact z
end M

/-! M, part 13: what is not reached; try; two names at once; more of zip, tuples, lists. -/
namespace M
open PySem L2
section
variable {X : Cx} {Wx : WX} {pos : Pos} {a b e : Expr} {f f1 f2 : XE} {R : RB}
/-! ### not reached -/
def xBad : XE := fun _ _ => .bad
def tBad : XT := fun _ _ => .bad
def sBad : XS := fun _ _ => .bad
theorem d_bad : PE X e (GX X.K R Wx xBad) := ⟨fun pins s σ H Q I h => by
  obtain ⟨_, _, _, _, _, _, _, p⟩ := h
  exact p.elim⟩
theorem d_badD : PE X e (GX X.K (aft (rD X.K)) Wx xBad) := d_bad
theorem t_bad : PT X e (GT X.K Wx tBad) := ⟨fun pins s σ H Q I h => by
  obtain ⟨_, _, _, _, _, _, _, p⟩ := h
  exact p.elim⟩
theorem p_bad {st : Stmt} : L2.PS X st (GS X.K Wx sBad) := ⟨fun pins s σ H D I h => by
  obtain ⟨_, _, _, _, _, _, p⟩ := h
  exact p.elim⟩
theorem pp_bad {st : List Stmt} : PSs X st (GS X.K Wx sBad) := ⟨fun pins s σ H D I h => by
  obtain ⟨_, _, _, _, _, _, p⟩ := h
  exact p.elim⟩
/-! ### try -/
def noX (r : Res) : Res := match r with
  | .exc _ _ _ => .bad
  | r => r
abbrev Hds := List (Str × XS)
def pickH (m : Str → Str → Option Bool) (c : Str) : Hds → Option (Option XS)
  | [] => some none
  | (h, bh) :: r => match m c h with
    | some true => some (some bh)
    | some false => pickH m c r
    | none => none
def sTry (m : Str → Str → Option Bool) (b : XS) (hs : Hds) : XS := fun ρ s => match b ρ s with
  | .exc c ρ1 s1 => (match pickH m c hs with
    | some (some bh) => noX (bh ρ1 s1)
    | some none => .exc c ρ1 s1
    | none => .bad)
  | r => r
def hdsL (K : PySem.W.Frag) (hs : Hds) : List (Value × (Addr → Value → Option Addr → TS)) := hs.map fun p => (.ref (He.ga K p.1), fun _ _ _ => GS K W0x p.2)
def HdsM (X : Cx) (hds : List ExceptHandler) (hs : Hds) : Prop := HdsOk X hds (hdsL X.K hs)
theorem h_nil : HdsM X [] [] := .nil
theorem h_cons {x : Str} {b₀ : Stmt} {suite : List Stmt} {np pos' : Pos} {hds : List ExceptHandler} {bh : XS} {hs : Hds} (gm : X.mg x = some (.ref (He.ga X.K x))) (hsu : ∀ (a : Addr) (pn : List (Addr × Obj)), PSs (X.suite a pn) (b₀ :: suite) (GS X.K W0x bh)) (r : HdsM X hds hs)
    (hg : Gl X x := by rfl) (hdb : (x == ("__debug__" : Str)) = false := by decide) : HdsM X (.ExceptHandler (some (.Name x np)) none (b₀ :: suite) pos' :: hds) ((x, bh) :: hs) :=
  .cons ⟨hg, hdb, .inl gm⟩ (fun a oe cls d pn _ _ => hsu a ((a, oe) :: pn)) r
theorem many_of {K : PySem.W.Frag} {m : Str → Str → Option Bool} {W0 W : Wd} {D : Ends} {c : Str} {ρ : Env} {s : Sto} {σ : St} (hm : ∀ h k, m c h = some k → PySem.W.exmOne K (.ref (He.ga K c)) (.ref (He.ga K h)) = some k) (h2 : St2 K W0 W σ ρ s) : ∀ hs : Hds,
    (match pickH m c hs with | some (some bh) => PS K Wx W0 W D (noX (bh ρ s)) | some none => Wx (.ref (He.ga K c)) none σ W.H | none => False) → wMany K Wx D (hdsL K hs) (.ref (He.ga K c)) none σ W.H
  | [], p => p
  | (h, bh) :: r, p => by
    unfold pickH at p
    cases e : m c h with
    | none => rw [e] at p; exact p.elim
    | some k =>
      rw [e] at p
      refine ⟨k, hm h k e, fun hk a ha => ?_, fun hk => ?_⟩
      · subst hk
        refine GS.mk h2 ?_
        have p' : PS K Wx W0 W D (noX (bh ρ s)) := p
        show PS K W0x W0 W D (bh ρ s)
        cases eb : bh ρ s with
        | exc c' ρ' s' => rw [eb] at p'; exact p'.elim
        | next ρ' s' => rw [eb] at p'; exact p'
        | ret d s' => rw [eb] at p'; exact p'
        | brk ρ' s' => rw [eb] at p'; exact p'
        | cont ρ' s' => rw [eb] at p'; exact p'
        | bad => rw [eb] at p'; exact p'
      · subst hk
        exact many_of hm h2 r p
theorem p_try {body : List Stmt} {h₀ : ExceptHandler} {hds : List ExceptHandler} {bd : XS} {hs : Hds} (m : Str → Str → Option Bool) (hm : ∀ c h k, m c h = some k → PySem.W.exmOne X.K (.ref (He.ga X.K c)) (.ref (He.ga X.K h)) = some k) (tk : Takes X Wx)
    (hb : ∀ (W : WX) (pn : List (Addr × Obj)) (xe : Value → Shared → Prop), Takes (X.tr pn xe) W → PassesOwn (model X.prog X.w) X.A X.env xe → PSs (X.tr pn xe) body (GS X.K W bd)) (hh : HdsM X (h₀ :: hds) hs)
    (hst : X.stack = X.env :: X.outer := by rfl) (hf : X.env.frame = some X.env.locals := by rfl) : L2.PS X (.Try body (h₀ :: hds) [] [] pos) (GS X.K Wx (sTry m bd hs)) := psImp (ps_try_many hst hf tk hb hh) fun D σ H ⟨W0, W, ρ, s, e1, h, p⟩ => by
  subst e1
  refine GS.mk h ?_
  unfold sTry at p
  cases eb : bd ρ s with
  | next ρ1 s1 => rw [eb] at p; exact p
  | ret d s1 => rw [eb] at p; exact p
  | brk ρ1 s1 => rw [eb] at p; exact p
  | cont ρ1 s1 => rw [eb] at p; exact p
  | bad => rw [eb] at p; exact p
  | exc c ρ1 s1 =>
    rw [eb] at p
    intro σ' W' mn h'
    refine many_of (m := m) (hm c) h' hs ?_
    have p' : PS X.K Wx W0 W D (match pickH m c hs with | some (some bh) => noX (bh ρ1 s1) | some none => .exc c ρ1 s1 | none => .bad) := p
    cases ep : pickH m c hs with
    | none => rw [ep] at p'; exact p'.elim
    | some o =>
      rw [ep] at p'
      cases o with
      | none => exact p' σ' W' mn h'
      | some bh => exact PS.later p' mn
/-! ### a, b = x, y -/
def sPar (i j : Nat) (g : XA) : XS := stX g fun ds ρ s => match ds with
  | [d1, d2] => .next ((ρ.set i (.val d1)).set j (.val d2)) s
  | _ => .bad
theorem p_par {i j : Nat} {x y : Str} {px py pt : Pos} {kt k2 pt2} {g : XA} (hc : X.calm = true) (hN : X.N.Nodup) (ha : PA X [a, b] (GA X.K Wx g)) (hi : X.N[i]? = some x := by rfl) (hj : X.N[j]? = some y := by rfl) (hij : i ≠ j := by decide)
    (hx : X.env.scope.names.lookup x = some .local := by rfl) (hy : X.env.scope.names.lookup y = some .local := by rfl)
    (hw : swappedStores [.Tuple [.Name x px, .Name y py] kt pt] (.Tuple [a, b] k2 pt2) X.env = pure (some [x, y]) := by rfl)
    (hs : swapsWithSole [.Tuple [.Name x px, .Name y py] kt pt] (.Tuple [a, b] k2 pt2) pos.line X.env = pure false := by rfl) :
    L2.PS X (.Assign [.Tuple [.Name x px, .Name y py] kt pt] (.Tuple [a, b] k2 pt2) pos) (GS X.K Wx (sPar i j g)) := psImp (ps_par hc hN hi hj hij hx hy ha hw hs) fun D σ H ⟨W0, W, ρ, s, e1, h, p⟩ => by
  subst e1
  refine GA.mk h.ok h.en (Post.mono (PS.x h p) fun ds s1 W1 _ _ q vs hvs => ?_)
  obtain ⟨h1, q⟩ := q
  split at q
  · cases hvs with
    | cons r1 r2 =>
      cases r2 with
      | cons r3 r4 =>
        cases r4
        exact ⟨_, _, rfl, q _ W1 (Mon.refl W1) ⟨h1.st, h1.ok, (h1.en.set r1).set r3⟩⟩
  · exact q.elim
end

/-! ### which classes catch which -/
def AllP {α : Type} (p : α → Prop) : List α → Prop
  | [] => True
  | x :: r => p x ∧ AllP p r
theorem AllP.all {α : Type} {p : α → Prop} : ∀ {l : List α}, AllP p l → ∀ x ∈ l, p x
  | [], _, x, h => by simp at h
  | y :: r, h, x, hx => by
    rcases List.mem_cons.mp hx with rfl | hx
    · exact h.1
    · exact AllP.all h.2 x hx
def exmB (c h : Str) : Bool := c == h || h == "LineError"
def exmOf (names : List Str) (c h : Str) : Option Bool := if c ∈ names ∧ h ∈ names then some (exmB c h) else none
theorem exm_of {K : PySem.W.Frag} {names : List Str} (H : AllP (fun c => AllP (fun h => PySem.W.exmOne K (.ref (He.ga K c)) (.ref (He.ga K h)) = some (exmB c h)) names) names) (c h : Str) (k : Bool) (e : exmOf names c h = some k) :
    PySem.W.exmOne K (.ref (He.ga K c)) (.ref (He.ga K h)) = some k := by
  unfold exmOf at e
  split at e
  · rename_i q
    cases e
    exact (H.all c q.1).all h q.2
  · cases e
end M

/-! M, part 14: zip of a list and a tuple. -/
namespace M
open PySem L2
/-- the list at a and the tuple at b, the items in new pairs -/
def ItzM (K : PySem.W.Frag) (a b : Addr) : It :=
  ⟨fun i H => ∃ (xs ys : List V) (x y : V), SqL K H a xs ∧ SqT K H b ys ∧ xs[i]? = some x ∧ ys[i]? = some y,
    fun i H v H' => ∃ T x y, v = .ref T ∧ H T = none ∧ H' = upd H T (.tup [x, y]) ∧ (∀ xs, SqL K H a xs → xs[i]? = some x) ∧ ∀ ys, SqT K H b ys → ys[i]? = some y,
    fun i H => ∃ xs ys : List V, SqL K H a xs ∧ SqT K H b ys ∧ i ≤ xs.length ∧ i ≤ ys.length ∧ (i = xs.length ∨ i = ys.length)⟩
theorem turn_zipM {P : Program} {w : World} {K : PySem.W.Frag} {elts : List Expr} {kk : Nat} {tpos : Pos} {a b z TI TO i1 i2 : Addr} (S : ZipSep2 z TI TO i1 i2 [i1, a] [i2, b]) (h1a : a ≠ i1) (h2b : b ≠ i2) :
    Turn P w K (.Tuple elts kk tpos) (ItzM K a b) [z, TI, TO, i1, i2] z (fun i h => IsZip h z TI TO .none ∧ IsTupOf2 h TI (.ref i1) (.ref i2) ∧ (∃ x y, IsTupOf2 h TO x y) ∧ h.IsListIter i1 a i ∧ h.IsTupleIter i2 b i) where
  mem := by simp
  obj := fun i h st c hc => by
    obtain ⟨hz, hTI, ⟨x, y, hTO⟩, ⟨o1, e1, _, d1⟩, ⟨o2, e2, _, d2⟩⟩ := st
    have e' : c = z ∨ c = TI ∨ c = TO ∨ c = i1 ∨ c = i2 := by simpa using hc
    rcases e' with q | q | q | q | q
    · rw [q]; exact ⟨_, hz, fun v q => nomatch q⟩
    · rw [q]; exact ⟨_, hTI, fun v q => nomatch q⟩
    · rw [q]; exact ⟨_, hTO, fun v q => nomatch q⟩
    · rw [q]; exact ⟨o1, e1, fun v q => by rw [d1] at q; cases q⟩
    · rw [q]; exact ⟨o2, e2, fun v q => by rw [d2] at q; cases q⟩
  keep := fun i h h' st k => by
    obtain ⟨hz, hTI, ⟨x, y, hTO⟩, h1, h2⟩ := st
    exact ⟨k z (by simp) _ hz, k TI (by simp) _ hTI, ⟨x, y, k TO (by simp) _ hTO⟩, h1.at fun o q => k i1 (by simp) o q, h2.at fun o q => k i2 (by simp) o q⟩
  item := by
    intro X hP hw hK hc i pins s σ H E I hf st hg
    subst hP hw hK
    obtain ⟨hz, hTI, ⟨x0, y0, hTO⟩, h1, h2⟩ := st
    obtain ⟨xs, ys, x, y, hqx, hqy, hx, hy⟩ := hg
    obtain ⟨its, rv, p, _⟩ := I.list hqx
    obtain ⟨its2, rv2, p2, _⟩ := I.tuple hqy
    obtain ⟨u, hu, ru⟩ := rv.get hx
    obtain ⟨u2, hu2, ru2⟩ := rv2.get hy
    have hzl : z < s.heap.objs.size := Heap.lt_size hz
    have hhd : X.A.in1.handled = none := by have := I.ok.hd hc; simp [this]
    have hlt1 : i < its.toArray.size := by rw [List.size_toArray]; exact (List.getElem?_eq_some_iff.mp hu).1
    have hlt2 : i < its2.toArray.size := by rw [List.size_toArray]; exact (List.getElem?_eq_some_iff.mp hu2).1
    have p2' : s.heap.IsTuple b its2.toArray := p2
    refine wpAny_pyNext_zipD2_item S (Draws.list hhd i1 a h1a its.toArray) (Draws.tuple hhd i2 b h2b its2.toArray) hz hTI hTO ⟨h1, p.isList⟩ ⟨h2, p2'⟩ hlt1 hlt2 fun v1 v2 h' tk q1 q2 z' TO' s1 s2 hT hsz hk => ?_
    have e1 : v1 = u := by
      have hq : its.toArray[i]? = some u := by simpa using hu
      rw [hq] at q1
      exact (Option.some.inj q1).symm
    have e2 : v2 = u2 := by
      have hq : its2.toArray[i]? = some u2 := by simpa using hu2
      rw [hq] at q2
      exact (Option.some.inj q2).symm
    subst e1 e2
    refine ⟨_, rfl, wpAny_letOwnedTupleGo_zip (s := { s with heap := h', toks := tk }) z' fun h'' z'' sb => ?_⟩
    have hT2 : h''.get? s.heap.objs.size = some { cls := .type "tuple", data := .seq #[v1, v2] } := (sb.2 _ (Nat.ne_of_gt hzl)).trans hT
    have new : ObjOk X.prog X.w (upd H s.heap.objs.size (.tup [x, y])) h'' s.heap.objs.size (.tup [x, y]) :=
      ⟨by show 2 ≤ sizeLine; decide, [v1, v2], .cons ru (.cons ru2 .nil), ⟨_, hT2, rfl, _, rfl⟩⟩
    have I1 : Inv X pins σ (upd H s.heap.objs.size (.tup [x, y])) { s with heap := h'', toks := tk } :=
      I.turnedNew (ch := [z, TI, TO, i1, i2]) (fun c o hb q => (sb.2 c (fun q' => hb (by simp [q']))).trans (hk c o (fun q' => hb (by simp [q'])) (fun q' => hb (by simp [q'])) (fun q' => hb (by simp [q'])) (fun q' => hb (by simp [q'])) q)) hf (Nat.le_refl _) new
    have i1z : i1 ≠ z := fun q => S.zf1 (by rw [← q]; simp)
    have i2z : i2 ≠ z := fun q => S.zf2 (by rw [← q]; simp)
    refine ⟨.ref s.heap.objs.size, _, I1, rfl, ⟨_, x, y, rfl, I.hok.fresh (Nat.le_refl _), rfl, fun l hl => by rw [I.list_inj hl hqx]; exact hx, fun l hl => by rw [I.tuple_inj hl hqy]; exact hy⟩, ⟨z'', ?_, ⟨v1, v2, ?_⟩, ?_, ?_⟩, fun c hcm => ?_⟩
    · exact (sb.2 _ S.TIz).trans (hk _ _ S.TIz S.TITO S.TIi1 S.TIi2 hTI)
    · exact (sb.2 _ S.TOz).trans TO'
    · exact s1.1.at fun o q => (sb.2 _ i1z).trans q
    · exact s2.1.at fun o q => (sb.2 _ i2z).trans q
    · have hlt : c < s.heap.objs.size := by
        have e' : c = z ∨ c = TI ∨ c = TO ∨ c = i1 ∨ c = i2 := by simpa using hcm
        rcases e' with q | q | q | q | q
        · rw [q]; exact hzl
        · rw [q]; exact Heap.lt_size hTI
        · rw [q]; exact Heap.lt_size hTO
        · rw [q]; obtain ⟨_, e1, _⟩ := h1; exact Heap.lt_size e1
        · rw [q]; obtain ⟨_, e2, _⟩ := h2; exact Heap.lt_size e2
      rw [upd_ne (Nat.ne_of_lt hlt)]
      exact (hf c hcm).1
  done := by
    intro X hP hw hK hc i pins s σ H E I hf st hg
    subst hP hw hK
    obtain ⟨hz, hTI, ⟨x0, y0, hTO⟩, h1, h2⟩ := st
    obtain ⟨xs, ys, hqx, hqy, l1', l2', hend⟩ := hg
    obtain ⟨its, rv, p, _⟩ := I.list hqx
    obtain ⟨its2, rv2, p2, _⟩ := I.tuple hqy
    have l1 := rv.length
    have l2 := rv2.length
    have hhd : X.A.in1.handled = none := by have := I.ok.hd hc; simp [this]
    have p2' : s.heap.IsTuple b its2.toArray := p2
    exact wpAny_pyNext_zipD2_end S (Draws.list hhd i1 a h1a its.toArray) (Draws.tuple hhd i2 b h2b its2.toArray) hz hTI hTO ⟨h1, p.isList⟩ ⟨h2, p2'⟩ (by simp; omega) (by simp; omega) (by simp; omega)
      fun h' tk hk => ⟨rfl, I.turnedL (t' := tk) (ch := [z, TI, TO, i1, i2]) (fun c o hb q => hk c o (fun q' => hb (by simp [q'])) (fun q' => hb (by simp [q'])) (fun q' => hb (by simp [q'])) (fun q' => hb (by simp [q'])) q) hf⟩
  self := fun A i s Q E st h => wpAny_pyIter_zip st.1 h
def iZipM (K : PySem.W.Frag) (ta : TA) : TI := fun σ H R => ta σ H fun vs H1 => ∃ a b xs ys, vs = [.ref a, .ref b] ∧ SqL K H1 a xs ∧ SqT K H1 b ys ∧ R (ItzM K a b) H1
theorem pi_zipM {X : Cx} {e e2 : Expr} {ta : TA} {p pos tpos : Pos} {elts : List Expr} {kk : Nat} (hg : Gl X "zip") (hm : X.mg "zip" = none) (ha : PA X [e, e2] ta)
    (hs : starEach [e, e2] X.env = (false, eval e X.env) :: starEach [e2] X.env := by rfl) (hpl : (backTo pos (starEach [e2] X.env)).any (·.1) = false := by rfl) :
    PI X (.Tuple elts kk tpos) (.Call (.Name "zip" p) [e, e2] [] pos) (iZipM X.K ta) := by
  refine ⟨fun pins s σ H R I h => ?_⟩
  refine PyProof.Rows.Call_ (ld_blt I hg hm PyProof.Rows.boot_zip (PyProof.Rows.callWith_type1 (thn (ha.run pos pins s σ H _ I h) fun us s1 ⟨vs, H1, I1, r1, q1⟩ => ?_) hs hpl))
  obtain ⟨a, b, xs, ys, ex, hqx, hqy, q⟩ := q1
  subst ex
  cases r1 with
  | cons r rr =>
    cases rr with
    | cons r' rr =>
      cases rr
      cases r
      cases r'
      obtain ⟨its, rv, p1, _⟩ := I1.list hqx
      obtain ⟨its2, rv2, p2, _⟩ := I1.tuple hqy
      have la : a < s1.heap.objs.size := p1.lt
      have lb : b < s1.heap.objs.size := by obtain ⟨o, ho, _⟩ := p2; exact Heap.lt_size ho
      refine zip_begins2 (begins_list a its.toArray) (begins_tuple b its2.toArray) p1.isList (show s1.heap.IsTuple b its2.toArray from p2) fun h' hz hTI hTO g1 g2 hsz hk => wpAny_pyIter_zip hz ?_
      have I2 : Inv X pins σ H1 { s1 with heap := h' } := I1.kept (t' := s1.toks) hk
      have S := zip_sep2 (N := s1.heap.objs.size) (fp1 := [a]) (fp2 := [b]) (by simpa using la) (by simpa using lb)
      refine ⟨s1.heap.objs.size + 4, [s1.heap.objs.size + 4, s1.heap.objs.size + 2, s1.heap.objs.size + 3, s1.heap.objs.size, s1.heap.objs.size + 1], _, _, H1, rfl, I2, turn_zipM S (Nat.ne_of_lt la) (Nat.ne_of_lt (Nat.lt_succ_of_lt lb)), ⟨hz, hTI, ⟨_, _, hTO⟩, ⟨_, g1, rfl, rfl⟩, ⟨_, g2, rfl, rfl⟩⟩, fun c hcm => ?_, q⟩
      have e' : c = s1.heap.objs.size + 4 ∨ c = s1.heap.objs.size + 2 ∨ c = s1.heap.objs.size + 3 ∨ c = s1.heap.objs.size ∨ c = s1.heap.objs.size + 1 := by simpa using hcm
      have hle : s1.heap.objs.size ≤ c := by
        rcases e' with z | z | z | z | z
        · rw [z]; exact Nat.le_add_right _ _
        · rw [z]; exact Nat.le_add_right _ _
        · rw [z]; exact Nat.le_add_right _ _
        · rw [z]; exact Nat.le_refl _
        · rw [z]; exact Nat.le_add_right _ _
      exact I1.fpOk hle (I1.hok.fresh hle)
theorem walk_zipM {K : PySem.W.Frag} {a b : Addr} {xs ys : List V} {n : Nat} (hn : n = min xs.length ys.length) : Walk (ItzM K a b) n (fun H => SqL K H a xs ∧ SqT K H b ys) (YPair (fun i => xs[i]?) (fun i => ys[i]?)) := by
  subst hn
  refine ⟨fun i _ hi q => ?_, fun _ q => ⟨xs, ys, q.1, q.2, by omega, by omega, by omega⟩, fun i H v H' _ q y => ?_⟩
  · have h1 : i < xs.length := by omega
    have h2 : i < ys.length := by omega
    exact ⟨xs, ys, xs[i], ys[i], q.1, q.2, by simp [h1], by simp [h2]⟩
  · obtain ⟨T, x, z, h1, h2, h3, h4, h5⟩ := y
    exact ⟨T, x, z, h1, h2, h3, h4 xs q.1, h5 ys q.2⟩
def zipDs (xs ys : List D) : List D := (xs.zip ys).map fun p => .tuple [p.1, p.2]
theorem zipDs_len (xs ys : List D) : (zipDs xs ys).length = min xs.length ys.length := by unfold zipDs; simp
theorem zipDs_get {xs ys : List D} {i : Nat} {x y : D} (h1 : xs[i]? = some x) (h2 : ys[i]? = some y) : (zipDs xs ys)[i]? = some (.tuple [x, y]) := by
  unfold zipDs
  rw [List.getElem?_map, (List.getElem?_zip_eq_some (z := (x, y))).mpr ⟨h1, h2⟩]
  rfl
section
variable {K : PySem.W.Frag} {W : Wd} {a b : Addr} {vs us : List V} {ds es : List D}
theorem it_zipM (h : W.F a = some (.lst vs)) (hd : DrAll K W.ι W.F vs ds) (h' : W.F b = some (.tup us)) (hd' : DrAll K W.ι W.F us es) : IterOk K (ItzM K a b) W (zipDs ds es) := by
  refine ⟨fun H => SqL K H a vs ∧ SqT K H b us, _, by rw [zipDs_len, ← hd.length, ← hd'.length]; exact walk_zipM (xs := vs) (ys := us) rfl, fun W2 s2 m ok => ⟨SqL.of (ok.ex _ _ (m.exF _ _ h)), SqT.of (ok.ex _ _ (m.exF _ _ h'))⟩, fun i v W2 s2 H' hi m ok y => ?_⟩
  obtain ⟨T, x, y, rfl, hT, rfl, e1, e2⟩ := y
  obtain ⟨d1, g1, g2⟩ := hd.getV e1
  obtain ⟨d2, g3, g4⟩ := hd'.getV e2
  obtain ⟨a1, a2, a3⟩ := new_tup ok hT (.cons (m.dr g2) (.one (m.dr g4)))
  exact ⟨_, _, rfl, a1, a2, zipDs_get g1 g3, a3⟩
theorem it_zip (h : W.F a = some (.lst vs)) (hd : DrAll K W.ι W.F vs ds) (h' : W.F b = some (.lst us)) (hd' : DrAll K W.ι W.F us es) : IterOk K (Itz K a b) W (zipDs ds es) := by
  refine ⟨fun H => SqL K H a vs ∧ SqL K H b us, _, by rw [zipDs_len, ← hd.length, ← hd'.length]; exact walk_zip (xs := vs) (ys := us) rfl, fun W2 s2 m ok => ⟨SqL.of (ok.ex _ _ (m.exF _ _ h)), SqL.of (ok.ex _ _ (m.exF _ _ h'))⟩, fun i v W2 s2 H' hi m ok y => ?_⟩
  obtain ⟨T, x, y, rfl, hT, rfl, e1, e2⟩ := y
  obtain ⟨d1, g1, g2⟩ := hd.getV e1
  obtain ⟨d2, g3, g4⟩ := hd'.getV e2
  obtain ⟨a1, a2, a3⟩ := new_tup ok hT (.cons (m.dr g2) (.one (m.dr g4)))
  exact ⟨_, _, rfl, a1, a2, zipDs_get g1 g3, a3⟩
end
section
variable {X : Cx} {Wx : WX} {e e2 : Expr} {g : XA} {p pos tpos : Pos} {elts : List Expr} {kk : Nat}
def iZipD (g : XA) : XI := fun ρ s => (g ρ s).bind fun ds s1 => match ds with
  | [.list xs, .list ys] => .ok (zipDs xs ys) s1
  | [.list xs, .tuple ys] => .ok (zipDs xs ys) s1
  | _ => .bad
theorem i_zip (hg : Gl X "zip") (hm : X.mg "zip" = none) (ha : PA X [e, e2] (GA X.K Wx g)) (hs : starEach [e, e2] X.env = (false, eval e X.env) :: starEach [e2] X.env := by rfl) (hpl : (backTo pos (starEach [e2] X.env)).any (·.1) = false := by rfl) :
    PI X (.Tuple elts kk tpos) (.Call (.Name "zip" p) [e, e2] [] pos) (GI X.K Wx (iZipD g)) :=
  piImp (pi_or (pi_zip hg hm ha hs hpl) (pi_zipM hg hm ha hs hpl)) fun σ H R ⟨W0, W, ρ, s, e1, ok, en, q⟩ => by
    subst e1
    have q0 := q.bind
    cases ho : g ρ s with
    | bad => rw [ho] at q0; exact q0.elim
    | exc c s1 =>
      rw [ho] at q0
      exact .inl (GA.mk ok en (by rw [ho]; exact q0))
    | ok ds s1 =>
      rw [ho] at q0
      by_cases ht : ∃ xs ys, ds = [.list xs, .tuple ys]
      · obtain ⟨xs, ys, rfl⟩ := ht
        refine .inr (GA.mk ok en ?_)
        rw [ho]
        intro W1 st1 ok1 vs hvs
        have q1 := q0 W1 st1 ok1
        cases hvs with
        | cons h1 h2 =>
          cases h2 with
          | cons h3 h4 =>
            cases h4
            cases h1 with
            | lst g1 g2 => cases h3 with
              | tup g3 g4 => exact ⟨_, _, _, _, rfl, SqL.of (ok1.ex _ _ g1), SqT.of (ok1.ex _ _ g3), post_ok ok1 q1 _ (it_zipM g1 g2 g3 g4)⟩
      · refine .inl (GA.mk ok en ?_)
        rw [ho]
        intro W1 st1 ok1 vs hvs
        have q1 : Post X.K W1 (match ds with | [.list xs, .list ys] => Out.ok (zipDs xs ys) s1 | [.list xs, .tuple ys] => .ok (zipDs xs ys) s1 | _ => .bad) (fun ds _ W' => ∀ J, IterOk X.K J W' ds → R J W'.H) (wexc X.K Wx σ) := q0 W1 st1 ok1
        split at q1
        · cases hvs with
          | cons h1 h2 =>
            cases h2 with
            | cons h3 h4 =>
              cases h4
              cases h1 with
              | lst g1 g2 => cases h3 with
                | lst g3 g4 => exact ⟨_, _, _, _, rfl, SqL.of (ok1.ex _ _ g1), SqL.of (ok1.ex _ _ g3), post_ok ok1 q1 _ (it_zip g1 g2 g3 g4)⟩
        · exact absurd ⟨_, _, rfl⟩ ht
        · exact q1.elim
end
end M

/-! M, part 15: sorted of pairs of a number and a text; the place in a list. -/
namespace M
open PySem L2
/-! ### pairs of an int and a text, by the int, then by the text -/
def ltPS (p q : Int × Str) : Bool := if p.1 = q.1 then decide (p.2.cps.toList < q.2.cps.toList) else decide (p.1 < q.1)
theorem ltPS_iff {p q : Int × Str} : ltPS p q = true ↔ p.1 < q.1 ∨ (p.1 = q.1 ∧ p.2.cps.toList < q.2.cps.toList) := by
  unfold ltPS
  by_cases e : p.1 = q.1
  · rw [if_pos e, decide_eq_true_eq]
    exact ⟨fun h => .inr ⟨e, h⟩, fun h => h.elim (fun z => by omega) (·.2)⟩
  · rw [if_neg e, decide_eq_true_eq]
    exact ⟨.inl, fun h => h.elim id fun z => absurd z.1 e⟩
theorem ltPS_no {p q : Int × Str} : ltPS p q = false ↔ ¬ (p.1 < q.1 ∨ (p.1 = q.1 ∧ p.2.cps.toList < q.2.cps.toList)) := by
  rw [← ltPS_iff]
  cases ltPS p q <;> simp
theorem swo_PS {α : Type} (k : α → Int × Str) : SrtO.Swo fun v u => ltPS (k v) (k u) := by
  refine ⟨fun x y h => ?_, fun x y z h1 h2 => ?_⟩
  · refine ltPS_no.mpr ?_
    rcases ltPS_iff.mp h with q | ⟨q1, q2⟩
    · rintro (z | ⟨z, _⟩) <;> omega
    · rintro (z | ⟨_, z⟩)
      · omega
      · exact List.lt_irrefl _ (List.lt_trans q2 z)
  · -- y ≤ .. : h1 says not y < x, h2 not z < y
    have a := ltPS_no.mp h1
    have b := ltPS_no.mp h2
    refine ltPS_no.mpr ?_
    rintro (q | ⟨q1, q2⟩)
    · rcases Int.lt_trichotomy (k y).1 (k x).1 with w | w | w
      · exact a (.inl w)
      · exact b (.inl (by omega))
      · exact b (.inl (by omega))
    · rcases Int.lt_trichotomy (k y).1 (k x).1 with w | w | w
      · exact a (.inl w)
      · have a' : ¬ (k y).2.cps.toList < (k x).2.cps.toList := fun z => a (.inr ⟨w, z⟩)
        have b' : ¬ (k z).2.cps.toList < (k y).2.cps.toList := fun z => b (.inr ⟨by omega, z⟩)
        exact (List.le_trans (show (k x).2.cps.toList ≤ (k y).2.cps.toList from a') (show (k y).2.cps.toList ≤ (k z).2.cps.toList from b')) q2
      · exact b (.inl (by omega))
def IsPS (h : Heap) (v : Value) (p : Int × Str) : Prop := ∃ a o t u n, v = .ref a ∧ h.get? a = some o ∧ o.cls = .type "tuple" ∧ o.data = .seq #[.int p.1 t, .str p.2 u] n
theorem IsPS.keeps {h h' : Heap} {v : Value} {p : Int × Str} (x : IsPS h v p) (k : ∀ b o, h.get? b = some o → o.cls = .type "tuple" → h'.get? b = some o) : IsPS h' v p := by
  obtain ⟨a, o, t, u, n, e, ho, hc, hd⟩ := x
  exact ⟨a, o, t, u, n, e, k _ _ ho hc, hc, hd⟩
section
variable {prog : Program} {w : World} {A : Around} {E : Value → Shared → Prop} {s : Shared}
open SrtO Srt PyProof.Rows in
theorem ps_cmp {vs : List Value} {k : Value → Int × Str} (hp : ∀ v ∈ vs, IsPS s.heap v (k v)) : Cmp prog w A s (tuples' true) (fun p => p.1 ∈ vs) (lt2 fun v u => ltPS (k v) (k u)) := by
  intro p q hm hm'
  have h1 := hp _ hm
  have h2 := hp _ hm'
  show wpAny (model prog w) A (keyLt' (tuples' true) p.1 q.1) (fun r s' => s' = s ∧ r = ltPS (k p.1) (k q.1)) (fun _ _ => False) s
  unfold ltPS
  generalize k p.1 = x at h1 ⊢
  generalize k q.1 = y at h2 ⊢
  obtain ⟨a, o, t, u, n, e, ho, hc, hd⟩ := h1
  obtain ⟨a', o', t', u', n', e', ho', hc', hd'⟩ := h2
  rw [e, e']
  refine PySem.W.kat_lt ho hd ho' hd' ?_
  show PySem.W.KatLex prog w A true (decide (2 < 2)) _ [(.int x.1 t, .int y.1 t'), (.str x.2 u, .str y.2 u')] 0 s
  refine PySem.W.kat_cons (SeqAt.EqAt.int_int x.1 t y.1 t' prog w _ _ ?_)
  refine PySem.W.kat_go (fun e1 => ?_) (fun e1 => ?_)
  · have ex : x.1 = y.1 := by simpa using e1
    refine PySem.W.kat_yes (PySem.W.kat_cons (SeqAt.EqAt.str_str x.2 u y.2 u' prog w _ _ ?_))
    refine PySem.W.kat_go (fun e2 => ?_) (fun e2 => ?_)
    · have ey : x.2 = y.2 := by simpa using e2
      have e3 : (if x.1 = y.1 then decide (x.2.cps.toList < y.2.cps.toList) else decide (x.1 < y.1)) = false := by
        rw [if_pos ex, ey]
        exact decide_eq_false (List.lt_irrefl _)
      exact PySem.W.kat_yes (PySem.W.kat_nil ⟨rfl, e3.symm⟩)
    · have e3 : (if x.1 = y.1 then decide (x.2.cps.toList < y.2.cps.toList) else decide (x.1 < y.1)) = decide (x.2.cps.toList < y.2.cps.toList) := if_pos ex
      refine PySem.W.kat_no (PySem.W.kat_one _ _ (PyProof.Rows.lt_str ?_))
      exact (show s = s ∧ decide (x.2.cps.toList < y.2.cps.toList) = (if x.1 = y.1 then decide (x.2.cps.toList < y.2.cps.toList) else decide (x.1 < y.1)) from ⟨rfl, e3.symm⟩)
  · have ex : ¬ x.1 = y.1 := by simpa using e1
    have e3 : (if x.1 = y.1 then decide (x.2.cps.toList < y.2.cps.toList) else decide (x.1 < y.1)) = decide (x.1 < y.1) := if_neg ex
    exact PySem.W.kat_no (oneLt_int ⟨rfl, e3.symm⟩)
theorem ps_firsts {h : Heap} {k : Value → Int × Str} : ∀ {vs : List Value}, (∀ v ∈ vs, IsPS h v (k v)) → ∃ fs : List Value, PySem.W.KatTups h vs fs ∧ fs.length = vs.length ∧ ∀ f ∈ fs, ∃ x t, f = Value.int x t
  | [], _ => ⟨[], PySem.W.KatTups.nil, rfl, fun _ hm => by simp at hm⟩
  | v :: vs, hp => by
    obtain ⟨fs, h1, h2, h3⟩ := ps_firsts (vs := vs) fun v' hm => hp v' (List.mem_cons_of_mem _ hm)
    obtain ⟨a, o, t, u, n, e, ho, hc, hd⟩ := hp v List.mem_cons_self
    subst e
    refine ⟨.int (k (.ref a)).1 t :: fs, PySem.W.KatTups.cons ho hc hd rfl h1, by rw [List.length_cons, List.length_cons, h2], fun f hm => ?_⟩
    rcases List.mem_cons.mp hm with rfl | hm
    · exact ⟨_, t, rfl⟩
    · exact h3 f hm
open SrtO Srt PyProof.Rows in
theorem sorted_PS {l : Addr} {vs : List Value} {k : Value → Int × Str} {Q : Value → Shared → Prop} (hl : s.heap.IsList l vs.toArray) (hz : vs.length ≤ sizeLine) (hp : ∀ v ∈ vs, IsPS s.heap v (k v))
    (h : ∀ (h' : Heap) (d : Addr) (out : List Value), Srtd (fun v u => ltPS (k v) (k u)) out → Stb (fun v u => ltPS (k v) (k u)) out vs → (∀ b o, s.heap.get? b = some o → h'.get? b = some o) → s.heap.objs.size ≤ d → (∃ n, h'.get? d = some (seqObj "list" out.toArray n)) → Q (.ref d) { s with heap := h' }) :
    wpAny (model prog w) A (call (.builtin "sorted") [.ref l]) Q E s := by
  refine sorted_ord (swo_PS k) hl hz (fun h2 h₁ a ha kk => ?_) fun out hs hb => ?_
  · intro h' keep
    have hp' : ∀ v ∈ vs, IsPS h' v (k v) := fun v hm => ((hp v hm).keeps fun b o e _ => (kk b o e).2).keeps fun b o e c => keep b o (fun z => by
      subst z
      have e' : some o = some (seqObj "list" vs.toArray 0) := e.symm.trans ha
      cases e'
      exact absurd (Value.type.inj c) (by decide)) e
    obtain ⟨fs, h1, h2', h3⟩ := ps_firsts hp'
    refine ⟨tuples' true, fun Q E hq => ?_, ps_cmp hp'⟩
    refine PySem.W.kat_kind (T := .type "int") h1 (by omega) (fun f hm => ?_) (by rfl) ?_
    · obtain ⟨x, t, rfl⟩ := h3 f hm
      exact PySem.W.Looks.now
    · have e : (Value.type "int" != Value.type "tuple") = true := by decide
      rw [e]
      exact hq
  · exact h _ _ out hs hb (fun b o e => sortedAll_old e) (Nat.le_succ _) (sortedAll_at s.heap vs out.toArray)
end
def rSortedPS (K : PySem.W.Frag) : List V → Hp → VK → Prop := fun vs H Q => ∃ (a : Addr) (xs : List V) (k : V → Int × Str), vs = [V.ref a] ∧ SqL K H a xs ∧ (∀ x ∈ xs, ∃ t, x = V.ref t ∧ H t = some (.tup [.int (k x).1, .str (k x).2])) ∧
  ∀ ys p, SrtO.Srtd (fun x y => ltPS (k x) (k y)) ys → SrtO.Stb (fun x y => ltPS (k x) (k y)) ys xs → H p = none → Q (.ref p) (upd H p (.lst ys))
theorem cr_sortedPS {X : Cx} : CallR X (.builtin "sorted") (rSortedPS X.K) := by
  intro pins s σ H vs us Q I r h
  obtain ⟨a, xs, k, rfl, hs, hx, q⟩ := h
  obtain ⟨its, rv, hl, hz⟩ := I.list hs
  obtain ⟨u, rfl, ru⟩ := vals1 r
  obtain rfl : u = Value.ref a := ru
  obtain ⟨e1, e2⟩ := refs_back rv fun x m => by
    obtain ⟨t, e, _⟩ := hx x m
    exact ⟨t, e⟩
  refine sorted_PS (k := fun u => k (backV u)) hl.isList (by rw [← rv.length]; exact hz) (fun v hv => ?_) fun h' d out h1 h2 kp hd hn => ?_
  · obtain ⟨t, rfl⟩ := e2 v hv
    have hm : V.ref t ∈ xs := by rw [e1]; exact List.mem_map.mpr ⟨_, hv, rfl⟩
    obtain ⟨t', e, ht⟩ := hx _ hm
    cases e
    obtain ⟨_, its2, r2, o, ho, hc, n, hd⟩ := I.hok _ _ ht
    obtain ⟨u1, u2, rfl, ri, rj⟩ := vals2 r2
    obtain ⟨t1, rfl⟩ := ri
    obtain ⟨t2, rfl⟩ := rj
    exact ⟨t, o, t1, t2, n, rfl, ho, hc, hd⟩
  · have h3 : ∀ u ∈ out, ∃ a, u = Value.ref a := fun u hu => e2 u (h2.perm.mem_iff.mp hu)
    obtain ⟨n, hn⟩ := hn
    have hb : SrtO.Stb (fun x y => ltPS (k x) (k y)) (out.map backV) xs := by
      rw [e1]
      exact SrtO.Stb.map (swo_PS k) backV h2
    refine ⟨.ref d, upd H d (.lst (out.map backV)), I.laid (t' := s.toks) kp hd ⟨?_, out, n, vals_back h3, hn⟩, rfl, q _ d (SrtO.srtd_map h1) hb (I.hok.fresh hd)⟩
    rw [hb.len]
    exact hz

/-! as data -/
def pairsPS : List D → Option (List (Int × Str))
  | [] => some []
  | .tuple [.int i, .str z] :: r => (pairsPS r).map ((i, z) :: ·)
  | _ :: _ => none
def psD (p : Int × Str) : D := .tuple [.int p.1, .str p.2]
def lePS (p q : Int × Str) : Bool := !ltPS q p
def sortedPSD : D → Option D
  | .list ds => (pairsPS ds).map fun (ps : List (Int × Str)) => .list ((ps.mergeSort lePS).map psD)
  | _ => none
theorem psD_dr {K : PySem.W.Frag} {ι : List Addr} {F : Hp} : ∀ {vs : List V} {ds : List D} {ps : List (Int × Str)}, DrAll K ι F vs ds → pairsPS ds = some ps → ∃ k : V → Int × Str, vs.map k = ps ∧ ∀ x ∈ vs, ∃ t, x = .ref t ∧ F t = some (.tup [.int (k x).1, .str (k x).2]) := by
  intro vs ds ps h e
  let k : V → Int × Str := fun x => match x with
    | .ref t => (match F t with
      | some (.tup [.int i, .str z]) => (i, z)
      | _ => (0, Str.empty))
    | _ => (0, Str.empty)
  refine ⟨k, ?_⟩
  induction ds generalizing vs ps with
  | nil => cases h; cases e; exact ⟨rfl, fun x hx => by simp at hx⟩
  | cons d r ih =>
    unfold pairsPS at e
    split at e
    · rename_i hcon; cases hcon
    · rename_i i z r' hcon
      cases hcon
      obtain ⟨qs, e1, rfl⟩ := Option.map_eq_some_iff.mp e
      cases h with
      | cons h1 h2 =>
        obtain ⟨i1, i2⟩ := ih h2 e1
        cases h1 with
        | tup h3 h4 =>
          cases h4 with
          | cons h5 h6 =>
            cases h5
            cases h6 with
            | cons h7 h8 =>
              cases h7
              cases h8
              rename_i t
              have hk : k (.ref t) = (i, z) := by
                show (match F t with | some (.tup [.int i, .str z]) => (i, z) | _ => (0, Str.empty)) = (i, z)
                rw [h3]
              refine ⟨by rw [List.map_cons, hk, i1], fun x hx => ?_⟩
              rcases List.mem_cons.mp hx with rfl | hx
              · exact ⟨t, rfl, by rw [hk]; exact h3⟩
              · exact i2 x hx
    · cases e
theorem lePS_tr (a b c : Int × Str) (h1 : lePS a b = true) (h2 : lePS b c = true) : lePS a c = true := by
  unfold lePS at *
  rw [Bool.not_eq_true'] at *
  exact (swo_PS (fun p : Int × Str => p)).tr _ _ _ h1 h2
theorem lePS_tot (a b : Int × Str) : (lePS a b || lePS b a) = true := by
  unfold lePS
  cases e : ltPS b a with
  | false => rfl
  | true => rw [(swo_PS (fun p : Int × Str => p)).asym _ _ e]; rfl
theorem str_ext {x y : Str} (h : x.cps.toList = y.cps.toList) : x = y := by
  cases x; cases y; exact congrArg Str.mk (Array.ext' h)
theorem lePS_anti {p q : Int × Str} (h1 : lePS p q = true) (h2 : lePS q p = true) : p = q := by
  unfold lePS at *
  rw [Bool.not_eq_true'] at *
  have a := ltPS_no.mp h1
  have b := ltPS_no.mp h2
  have e : p.1 = q.1 := by
    rcases Int.lt_trichotomy p.1 q.1 with w | w | w
    · exact absurd (.inl w) b
    · exact w
    · exact absurd (.inl w) a
  have a' : ¬ q.2.cps.toList < p.2.cps.toList := fun z => a (.inr ⟨e.symm, z⟩)
  have b' : ¬ p.2.cps.toList < q.2.cps.toList := fun z => b (.inr ⟨e, z⟩)
  exact Prod.ext e (str_ext (List.le_antisymm (show p.2.cps.toList ≤ q.2.cps.toList from a') (show q.2.cps.toList ≤ p.2.cps.toList from b')))
theorem sortPS_is {l l' : List (Int × Str)} (hp : l.Perm l') (hs : l'.Pairwise fun p q => lePS p q = true) : l.mergeSort lePS = l' :=
  List.Perm.eq_of_pairwise (le := fun p q => lePS p q = true) (fun p q _ _ h1 h2 => lePS_anti h1 h2) (List.pairwise_mergeSort (le := lePS) lePS_tr lePS_tot l) hs ((List.mergeSort_perm l lePS).trans hp)
theorem o_sortedPS {K : PySem.W.Frag} : C1D K (rN K) (rSortedPS K) sortedPSD := by
  intro W s v d d' Q ok h e q
  unfold sortedPSD at e
  split at e
  · rename_i ds
    obtain ⟨a, vs, rfl, h2, h3⟩ := h.list ok
    obtain ⟨ps, hps, rfl⟩ := Option.map_eq_some_iff.mp e
    obtain ⟨k, k1, k2⟩ := psD_dr h3 hps
    refine ⟨a, vs, k, rfl, SqL.of h2, fun x hx => ?_, fun ys p hs hb hn => ?_⟩
    · obtain ⟨t, e1, e2⟩ := k2 x hx
      exact ⟨t, e1, ok.ex _ _ e2⟩
    · have hk : ps.mergeSort lePS = ys.map k := by
        refine sortPS_is ?_ ?_
        · have hp := hb.perm.map k
          rw [k1] at hp
          exact hp.symm
        · rw [List.pairwise_map]
          exact hs.imp fun {x y} hxy => by unfold lePS; rw [Bool.not_eq_true']; exact hxy
      have hd : DrAll K W.ι W.F ys ((ps.mergeSort lePS).map psD) := by
        rw [hk]
        have hm : ∀ y ∈ ys, ∃ t, y = V.ref t ∧ W.F t = some (.tup [.int (k y).1, .str (k y).2]) := fun y hy => k2 y (hb.perm.mem_iff.mp hy)
        clear hk hb hs
        induction ys with
        | nil => exact .nil
        | cons y r ih =>
          obtain ⟨t, e1, e2⟩ := hm y List.mem_cons_self
          refine .cons ?_ (ih fun z hz => hm z (List.mem_cons_of_mem _ hz))
          subst e1
          exact .tup e2 (.cons (.int _) (.one (.str _)))
      obtain ⟨a1, a2, a3⟩ := new_lst ok hn hd
      exact q _ _ a1 a2 a3
  · cases e
/-! ### the place of a thing in a list -/
def idxL (d : D) : List D → Option Nat
  | [] => none
  | z :: r => if PyData.eqv z d = true then some 0 else (idxL d r).map (· + 1)
theorem idxL_spec {d : D} : ∀ {ds : List D} {j : Nat}, idxL d ds = some j → ∃ z, ds[j]? = some z ∧ PyData.eqv z d = true ∧ ∀ (m : Nat) (z' : D), m < j → ds[m]? = some z' → PyData.eqv z' d = false
  | z :: r, j, e => by
    unfold idxL at e
    split at e
    · rename_i h
      cases e
      exact ⟨z, rfl, h, fun m z' hm => absurd hm (Nat.not_lt_zero m)⟩
    · rename_i h
      obtain ⟨i, e1, rfl⟩ := Option.map_eq_some_iff.mp e
      obtain ⟨y, h1, h2, h3⟩ := idxL_spec e1
      refine ⟨y, by simpa using h1, h2, fun m z' hm hz => ?_⟩
      cases m with
      | zero => simp at hz; subst hz; simpa using h
      | succ m => exact h3 m z' (by omega) (by simpa using hz)
def idxD : D → D → Option D
  | .list ds, d => if (SeqAt.shaped (.list ds) && SeqAt.shaped d) = true then (idxL d ds).map fun j : Nat => .int (j : Int) else none
  | _, _ => none
def xIdx (f1 f2 : XE) : XE := fun ρ s => (f1 ρ s).bind fun d s1 => match d with
  | .list ds => (f2 ρ s1).bind fun b s2 => lift (idxD (.list ds) b) s2
  | _ => .bad
section
variable {X : Cx} {Wx : WX} {pos : Pos} {o e : Expr} {f1 f2 : XE} {k : Nat}
theorem d_index {p2 : Pos} (hr : Room k X.A) (ho : PE X o (GX X.K (aft (rD X.K)) Wx f1)) (he : PE X e (GX X.K (aft (rD X.K)) Wx f2)) (hst : starEach (e :: []) X.env = (false, eval e X.env) :: starEach [] X.env := by rfl)
    (hE : ∀ {r : V → List V → Hp → VK → Prop} {to : TE} {t : TA}, MtR X "list.index" r → PE X o to → PA X (e :: []) t → PE X (.Call (.Attribute o "index" p2) [e] [] pos) (tBM X.K "list" r to t) := by
      intro r to t h1 h2 h3; exact pe_bm PySem.F.plainAttrs_list PySem.F.slot_list_index PySem.F.type_list_index h1 h2 h3) :
    PE X (.Call (.Attribute o "index" p2) [e] [] pos) (GX X.K (aft (rD X.K)) Wx (xIdx f1 f2)) := peImp (hE (mt_indexD (hu65 hr)) ho (pa_cons he pa_nil hst)) fun σ H Q ⟨W0, W, ρ, s, e1, ok, en, p⟩ => by
  subst e1
  refine GX.mk ok en (Post.mono p.bind fun d1 s1 W1 st1 ok1 p1 v1 hv1 => ?_)
  cases hv1 with
  | lst h1 h2 =>
    rename_i a xs ds
    refine ⟨.inl ⟨rfl, _, SqL.of (ok1.ex _ _ h1)⟩, GX.mk ok1 (en.step st1) (Post.mono (Post.bind p1) fun d2 s2 W2 st2 ok2 p2 v2 hv2 => ?_)⟩
    obtain ⟨d, e, q⟩ := p2.lift
    have e' : (if (SeqAt.shaped (.list ds) && SeqAt.shaped d2) = true then (idxL d2 ds).map fun j : Nat => PyData.int (j : Int) else none) = some d := e
    split at e'
    · rename_i c
      rw [Bool.and_eq_true] at c
      obtain ⟨j, e1, rfl⟩ := Option.map_eq_some_iff.mp e'
      obtain ⟨z, g1, g2, g3⟩ := idxL_spec e1
      have hl : rU X.K W2 (.ref a) (.list ds) := .inl (st2.dr (.lst h1 h2))
      exact ⟨a, v2, d2, ds, j, z, rfl, rfl, hl.dp ok2 (lay_of c.1), (rD.u hv2).dp ok2 (lay_of c.2), c.1, c.2, g1, g2, g3, q W2 (Step.refl _) ok2 _ (.int _)⟩
    · cases e'
  | _ => exact p1.elim
end

/-! ### a tuple some times -/
def mulTD : D → D → Option D
  | .tuple xs, .int k => if (Nat.ble 2 k.toNat && Nat.ble k.toNat 1000 && Nat.ble xs.length 1000 && !xs.isEmpty) = true then some (.tuple (List.replicate k.toNat xs).flatten) else none
  | _, _ => none
theorem o_repT {K : PySem.W.Frag} : OpD K (aft (rD K)) (rRepT K) mulTD := by
  intro W s v1 v2 d1 d2 d Q ok h1 h2 e q
  unfold mulTD at e
  split at e
  · split at e
    · rename_i xs k hz
      cases e
      simp only [Bool.and_eq_true, Bool.not_eq_true'] at hz
      obtain ⟨⟨⟨z1, z2⟩, z3⟩, z4⟩ := hz
      have z1 := Nat.le_of_ble_eq_true z1
      have z2 := Nat.le_of_ble_eq_true z2
      have z3 := Nat.le_of_ble_eq_true z3
      obtain ⟨a, vs, rfl, e1, e2, e3⟩ := h1.tup ok
      refine ⟨a, k, vs, rfl, h2.int, SqT.of e2, fun hn => ?_, by omega, by omega, by rw [e3.length]; exact z3, fun p hp => ?_⟩
      · have : xs = [] := e3.nil_iff.mp hn
        subst this
        simp at z4
      · obtain ⟨a1, a2, a3⟩ := new_tup ok hp (e3.rep k.toNat)
        exact q _ _ a1 a2 a3
    · cases e
  · cases e
end M

/-! M, part 16: records (instances of own classes). -/
namespace M
open PySem L2
open PyProof.Rows (envOfC)
/-! ### what names a record -/
def refOf : D → Option Nat
  | .dict [(.int i, .none)] => some i.toNat
  | _ => none
@[simp] theorem refOf_ref (n : Nat) : refOf (refD n) = some n := by simp [refOf, refD]
theorem refOf_dr {K : PySem.W.Frag} {ι : List Addr} {F : Hp} {v : V} {d : D} {n : Nat} (h : Dr K ι F v d) (e : refOf d = some n) : ∃ a, v = .ref a ∧ ι[n]? = some a := by
  cases h with
  | robj h => rw [refOf_ref] at e; cases e; exact ⟨_, rfl, h⟩
  | scr h hs => cases e
  | _ => cases e
def putS (f : Str) (x : Slot) : List (Str × Slot) → List (Str × Slot)
  | [] => [(f, x)]
  | (k, y) :: r => if k = f then (k, x) :: r else (k, y) :: putS f x r
theorem lookup_putS (f : Str) (x : Slot) (g : Str) : ∀ fs : List (Str × Slot), (putS f x fs).lookup g = if g = f then some x else fs.lookup g
  | [] => by
    show (match g == f with | true => some x | false => none) = _
    by_cases h : g = f
    · subst h; simp
    · have : (g == f) = false := by simpa using h
      simp [this, h]
  | (k, y) :: r => by
    have ih := lookup_putS f x g r
    rw [show putS f x ((k, y) :: r) = (if k = f then (k, x) :: r else (k, y) :: putS f x r) from rfl]
    by_cases hk : k = f
    · rw [if_pos hk, List.lookup_cons, List.lookup_cons]
      subst hk
      by_cases h : g = k
      · subst h; simp
      · have : (g == k) = false := by simpa using h
        simp [this, h]
    · rw [if_neg hk, List.lookup_cons, List.lookup_cons, ih]
      by_cases h : g = k
      · subst h; simp [hk]
      · have : (g == k) = false := by simpa using h
        simp [this]
theorem keys_put (f : Str) (v : V) (x : Slot) : ∀ (fs : List (Str × V)) (gs : List (Str × Slot)), fs.map (·.1) = gs.map (·.1) → (putF f v fs).map (·.1) = (putS f x gs).map (·.1)
  | [], [], _ => rfl
  | [], _ :: _, h => by simp at h
  | _ :: _, [], h => by simp at h
  | (k, y) :: r, (k', y') :: r', h => by
    rw [List.map_cons, List.map_cons] at h
    injection h with h1 h2
    have e : k = k' := h1
    subst e
    rw [show putF f v ((k, y) :: r) = (if k = f then (k, v) :: r else (k, y) :: putF f v r) from rfl, show putS f x ((k, y') :: r') = (if k = f then (k, x) :: r' else (k, y') :: putS f x r') from rfl]
    by_cases hk : k = f
    · rw [if_pos hk, if_pos hk, List.map_cons, List.map_cons, h2]
    · rw [if_neg hk, if_neg hk, List.map_cons, List.map_cons, keys_put f v x r r' h2]
theorem lookup_keys {α β : Type} : ∀ (fs : List (Str × α)) (gs : List (Str × β)), fs.map (·.1) = gs.map (·.1) → ∀ x, gs.lookup x = none → fs.lookup x = none
  | [], [], _, _, _ => rfl
  | [], _ :: _, h, _, _ => by simp at h
  | _ :: _, [], h, _, _ => by simp at h
  | (k, y) :: r, (k', y') :: r', h, x, e => by
    rw [List.map_cons, List.map_cons] at h
    injection h with h1 h2
    have e1 : k = k' := h1
    subst e1
    rw [List.lookup_cons] at e ⊢
    cases q : x == k with
    | true => rw [q] at e; cases e
    | false => rw [q] at e; exact lookup_keys r r' h2 x e
theorem recO_nl {K : PySem.W.Frag} {r : Rec} {fs : List (Str × V)} {o : HO} (h : RecO K r fs o) (vs : List V) : o ≠ .lst vs := by
  unfold RecO at h
  split at h
  · obtain ⟨dx, h⟩ := h; rw [h]; exact fun z => by cases z
  · split at h
    · rw [h]; exact fun z => by cases z
    · rw [h]; exact fun z => by cases z
abbrev Wd.up (W : Wd) (a : Addr) (o : HO) : Wd := { W with H := upd W.H a o }
/-- a cell of the store's own is changed -/
theorem step_up {K : PySem.W.Frag} {W : Wd} {s : Sto} (ok : Ok K W s) {a : Addr} {o : HO} (ht : W.T a) (hf : W.F a = none) : Step W (W.up a o) ∧ Ex W.F (W.up a o).H ∧ ∀ b, W.T b → (W.up a o).H b ≠ none := by
  have hd : ∀ b, W.H b ≠ none → upd W.H a o b ≠ none := fun b hb => by
    by_cases e : b = a
    · subst e; rw [upd_same]; exact fun z => by cases z
    · rw [upd_ne e]; exact hb
  refine ⟨⟨List.prefix_refl _, Ex.refl _, hd, fun b u hb hnt => ?_, fun b h => .inl h, fun b h _ _ => h⟩, fun b u hb => ?_, fun b hb => hd b (ok.td b hb)⟩
  · show upd W.H a o b = some u
    rw [upd_ne (fun z => hnt (by rw [z]; exact ht))]; exact hb
  · show upd W.H a o b = some u
    rw [upd_ne (fun z => by rw [z, hf] at hb; cases hb)]; exact ok.ex b u hb

theorem keys_same (f : Str) (x : Slot) : ∀ (gs : List (Str × Slot)) (y : Slot), gs.lookup f = some y → (putS f x gs).map (·.1) = gs.map (·.1)
  | [], _, h => by cases h
  | (k, z) :: r, y, h => by
    rw [show putS f x ((k, z) :: r) = (if k = f then (k, x) :: r else (k, z) :: putS f x r) from rfl]
    by_cases hk : k = f
    · rw [if_pos hk]; rfl
    · rw [if_neg hk, List.map_cons, List.map_cons]
      rw [List.lookup_cons] at h
      have : (f == k) = false := by simpa using (fun z : f = k => hk z.symm)
      rw [this] at h
      rw [keys_same f x r y h]
theorem SlotR.to {K : PySem.W.Frag} {W W' : Wd} {lk lk' : Option V} {c c' : Addr} {sl : Slot} (h : SlotR K W lk c sl) (hι : W'.ι = W.ι) (hF : W'.F = W.F) (hT : ∀ b, W.T b → W'.T b) (hl : lk' = lk) (hc : c' = c) (hH : ∀ xs, sl = .own xs → W'.H c = W.H c) : SlotR K W' lk' c' sl := by
  subst hl hc
  cases sl with
  | no => trivial
  | val d =>
    obtain ⟨v, q1, q2⟩ := h
    exact ⟨v, q1, by rw [hι, hF]; exact q2⟩
  | own xs =>
    obtain ⟨q1, q2, q3, vs, q4, q5⟩ := h
    exact ⟨q1, hT _ q2, by rw [hF]; exact q3, vs, by rw [hH xs rfl]; exact q4, by rw [hι, hF]; exact q5⟩
theorem recO_c {K : PySem.W.Frag} {r r' : Rec} {fs : List (Str × V)} {o : HO} (h : RecO K r fs o) (e : r'.c = r.c) : RecO K r' fs o := by
  unfold RecO at h ⊢
  rw [e]; exact h
/-- the object of record n, and what may be done to it -/
theorem rec_at {K : PySem.W.Frag} {W : Wd} {s : Sto} (ok : Ok K W s) {n : Nat} {r : Rec} (hs : s[n]? = some r) : ∃ a fs o, W.ι[n]? = some a ∧ W.H a = some o ∧ RecO K r fs o ∧ fs.map (·.1) = r.fs.map (·.1) ∧
    (∀ x d, r.fs.lookup x = some (.val d) → ∃ v, fs.lookup x = some v ∧ Dr K W.ι W.F v d) ∧
    (∀ x xs, r.fs.lookup x = some (.own xs) → ∃ b vs, fs.lookup x = some (.ref b) ∧ W.H b = some (.lst vs) ∧ W.T b ∧ DrAll K W.ι W.F vs xs ∧
      ∀ vs' xs', DrAll K W.ι W.F vs' xs' → Step W (W.up b (.lst vs')) ∧ Ok K (W.up b (.lst vs')) (s.set n { r with fs := putS x (.own xs') r.fs })) ∧
    (∀ f v d o', Dr K W.ι W.F v d → RecO K r (putF f v fs) o' → Step W (W.up a o') ∧ Ok K (W.up a o') (s.set n { r with fs := putS f (.val d) r.fs })) ∧
    (∀ f p vs xs o' Wb, Step Wb W → Wb.H p = none → W.H p = some (.lst vs) → W.F p = none → ¬ W.T p → DrAll K W.ι W.F vs xs → RecO K r (putF f (.ref p) fs) o' →
      ∃ W', W'.H = upd W.H a o' ∧ Mon W W' ∧ Step Wb W' ∧ Ok K W' (s.set n { r with fs := putS f (.own xs) r.fs })) := by
  obtain ⟨fa, h1, h2⟩ := ok.st.ex
  have hlt : n < s.length := (List.getElem?_eq_some_iff.mp hs).1
  have hlt2 : n < W.ι.length := by rw [ok.st.len]; exact hlt
  obtain ⟨a, ha⟩ : ∃ a, W.ι[n]? = some a := ⟨_, List.getElem?_eq_getElem hlt2⟩
  obtain ⟨ht, hf, fs, o, ho, hro, hk, hsl⟩ := h1 n r a hs ha
  have inj : ∀ m b, W.ι[m]? = some b → b = a → m = n := fun m b e z => by
    subst z
    have := (List.getElem?_eq_some_iff.mp e).2.trans (List.getElem?_eq_some_iff.mp ha).2.symm
    exact (List.getElem_inj ok.st.nd).mp this
  have nrec : ∀ m rm am, s[m]? = some rm → W.ι[m]? = some am → ∀ b vs, W.H b = some (.lst vs) → am ≠ b := fun m rm am em eam b vs hb z => by
    obtain ⟨_, _, fs', o', ho', hro', _⟩ := h1 m rm am em eam
    rw [z, hb] at ho'
    cases ho'
    exact recO_nl hro' vs rfl
  have nl : ∀ b vs, W.H b = some (.lst vs) → b ≠ a := fun b vs hb z => nrec n r a hs ha b vs hb z.symm
  refine ⟨a, fs, o, ha, ho, hro, hk, fun x d e => hsl x _ e, fun x xs e => ?_, fun f v d o' hd hro' => ?_, fun f p vs xs o' Wb sb hb hp hpf hpt hd hro' => ?_⟩
  · obtain ⟨q1, q2, q3, vs, q4, q5⟩ := hsl x _ e
    refine ⟨fa n x, vs, q1, q4, q2, q5, fun vs' xs' hd => ?_⟩
    obtain ⟨a1, a2, a3⟩ := step_up ok (o := .lst vs') q2 q3
    have back : ∀ (m : Nat) (rm : Rec) (y : Str) (ys : List D), (s.set n { r with fs := putS x (.own xs') r.fs })[m]? = some rm → rm.fs.lookup y = some (.own ys) → ∃ (rm0 : Rec) (ys0 : List D), s[m]? = some rm0 ∧ rm0.fs.lookup y = some (.own ys0) := fun m rm y ys em ey => by
      rcases get_set em with ⟨rfl, rfl⟩ | ⟨hm, em⟩
      · have ey' : (putS x (.own xs') r.fs).lookup y = some (.own ys) := ey
        rw [lookup_putS] at ey'
        by_cases hy : y = x
        · subst hy; exact ⟨r, xs, hs, e⟩
        · rw [if_neg hy] at ey'; exact ⟨r, ys, hs, ey'⟩
      · exact ⟨rm, ys, em, ey⟩
    refine ⟨a1, a2, a3, by rw [List.length_set]; exact ok.st.len, ok.st.nd, fa, fun m rm am em eam => ?_, fun m y ys rm m' y' ys' rm' e1 e2 e3 e4 eq => ?_⟩
    · rcases get_set em with ⟨rfl, rfl⟩ | ⟨hm, em⟩
      · have eam' : a = am := Option.some.inj (ha.symm.trans eam)
        subst eam'
        refine ⟨ht, hf, fs, o, ?_, recO_c hro rfl, ?_, fun y sl ey => ?_⟩
        · show upd W.H _ _ a = _
          rw [upd_ne (nrec _ r a hs ha _ _ q4)]; exact ho
        · rw [hk]; exact (keys_same x _ _ _ e).symm
        · have ey' : (putS x (.own xs') r.fs).lookup y = some sl := ey
          rw [lookup_putS] at ey'
          by_cases hy : y = x
          · subst hy
            rw [if_pos rfl] at ey'
            cases ey'
            exact ⟨q1, q2, q3, vs', upd_same, hd⟩
          · rw [if_neg hy] at ey'
            refine (hsl y sl ey').to rfl rfl (fun _ h => h) rfl rfl fun ys z => ?_
            subst z
            show upd W.H _ _ _ = _
            exact upd_ne fun z => hy (h2 _ y ys r _ x xs r hs ey' hs e z).2
      · obtain ⟨t', f', fs', o', ho', hro', hk', hsl'⟩ := h1 m rm am em eam
        refine ⟨t', f', fs', o', ?_, hro', hk', fun y sl ey => ?_⟩
        · show upd W.H _ _ am = _
          rw [upd_ne (nrec m rm am em eam _ _ q4)]; exact ho'
        · refine (hsl' y sl ey).to rfl rfl (fun _ h => h) rfl rfl fun ys z => ?_
          subst z
          show upd W.H _ _ _ = _
          exact upd_ne fun z => hm (h2 m y ys rm n x xs r em ey hs e z).1
    · obtain ⟨r0, y0, f1, f2⟩ := back m rm y ys e1 e2
      obtain ⟨r0', y0', f3, f4⟩ := back m' rm' y' ys' e3 e4
      exact h2 m y y0 r0 m' y' y0' r0' f1 f2 f3 f4 eq
  · obtain ⟨a1, a2, a3⟩ := step_up ok (o := o') ht hf
    have back : ∀ (m : Nat) (rm : Rec) (y : Str) (ys : List D), (s.set n { r with fs := putS f (.val d) r.fs })[m]? = some rm → rm.fs.lookup y = some (.own ys) → ∃ rm0 : Rec, s[m]? = some rm0 ∧ rm0.fs.lookup y = some (.own ys) := fun m rm y ys em ey => by
      rcases get_set em with ⟨rfl, rfl⟩ | ⟨hm, em⟩
      · have ey' : (putS f (.val d) r.fs).lookup y = some (.own ys) := ey
        rw [lookup_putS] at ey'
        by_cases hy : y = f
        · rw [if_pos hy] at ey'; cases ey'
        · rw [if_neg hy] at ey'; exact ⟨r, hs, ey'⟩
      · exact ⟨rm, em, ey⟩
    refine ⟨a1, a2, a3, by rw [List.length_set]; exact ok.st.len, ok.st.nd, fa, fun m rm am em eam => ?_, fun m y ys rm m' y' ys' rm' e1 e2 e3 e4 eq => ?_⟩
    · rcases get_set em with ⟨rfl, rfl⟩ | ⟨hm, em⟩
      · have eam' : a = am := Option.some.inj (ha.symm.trans eam)
        subst eam'
        refine ⟨ht, hf, putF f v fs, o', upd_same, recO_c hro' rfl, keys_put f v _ _ _ hk, fun y sl ey => ?_⟩
        have ey' : (putS f (.val d) r.fs).lookup y = some sl := ey
        rw [lookup_putS] at ey'
        by_cases hy : y = f
        · subst hy
          rw [if_pos rfl] at ey'
          cases ey'
          exact ⟨v, by rw [lookup_putF, if_pos rfl], hd⟩
        · rw [if_neg hy] at ey'
          refine (hsl y sl ey').to rfl rfl (fun _ h => h) (by rw [lookup_putF, if_neg hy]) rfl fun ys z => ?_
          subst z
          obtain ⟨_, _, _, vs, q4, _⟩ := hsl y _ ey'
          show upd W.H _ _ _ = _
          exact upd_ne (nl _ _ q4)
      · obtain ⟨t', f', fs', o1, ho', hro1, hk', hsl'⟩ := h1 m rm am em eam
        refine ⟨t', f', fs', o1, ?_, hro1, hk', fun y sl ey => ?_⟩
        · show upd W.H _ _ am = _
          rw [upd_ne (fun z => hm (inj m am eam z))]; exact ho'
        · refine (hsl' y sl ey).to rfl rfl (fun _ h => h) rfl rfl fun ys z => ?_
          subst z
          obtain ⟨_, _, _, vs, q4, _⟩ := hsl' y _ ey
          show upd W.H _ _ _ = _
          exact upd_ne (nl _ _ q4)
    · obtain ⟨r0, f1, f2⟩ := back m rm y ys e1 e2
      obtain ⟨r0', f3, f4⟩ := back m' rm' y' ys' e3 e4
      exact h2 m y ys r0 m' y' ys' r0' f1 f2 f3 f4 eq
  · obtain ⟨a1, a2, a3⟩ := step_up ok (o := o') ht hf
    have hpa : p ≠ a := nl p vs hp
    refine ⟨{ W with H := upd W.H a o', T := fun b => W.T b ∨ b = p }, rfl, ⟨List.prefix_refl _, Ex.refl _⟩, ⟨sb.pre, sb.exF, fun b h => a1.dom b (sb.dom b h), fun b u hb' hnt => ?_, fun b h => ?_, sb.newF⟩, a2, fun b h => ?_, by rw [List.length_set]; exact ok.st.len, ok.st.nd, fun m y => if m = n ∧ y = f then p else fa m y, fun m rm am em eam => ?_, ?_⟩
    · show upd W.H a o' b = some u
      rw [upd_ne (fun z => ?_)]
      · exact sb.keep b u hb' hnt
      · subst z
        rcases sb.newT b ht with h | h
        · exact hnt h
        · rw [h] at hb'; cases hb'
    · rcases h with h | h
      · exact sb.newT b h
      · subst h; exact .inr hb
    · rcases h with h | h
      · exact a3 b h
      · subst h
        show upd W.H a o' b ≠ none
        rw [upd_ne hpa, hp]; exact fun z => by cases z
    · rcases get_set em with ⟨rfl, rfl⟩ | ⟨hm, em⟩
      · have eam' : a = am := Option.some.inj (ha.symm.trans eam)
        subst eam'
        refine ⟨.inl ht, hf, putF f (.ref p) fs, o', upd_same, recO_c hro' rfl, keys_put f _ _ _ _ hk, fun y sl ey => ?_⟩
        have ey' : (putS f (.own xs) r.fs).lookup y = some sl := ey
        rw [lookup_putS] at ey'
        by_cases hy : y = f
        · subst hy
          rw [if_pos rfl] at ey'
          cases ey'
          have e1 : (if m = m ∧ y = y then p else fa m y) = p := if_pos ⟨rfl, rfl⟩
          show SlotR K _ _ (if m = m ∧ y = y then p else fa m y) _
          rw [e1]
          refine ⟨by rw [lookup_putF, if_pos rfl], .inr rfl, hpf, vs, ?_, hd⟩
          show upd W.H a o' p = _
          rw [upd_ne hpa]; exact hp
        · rw [if_neg hy] at ey'
          refine (hsl y sl ey').to rfl rfl (fun _ h => .inl h) (by rw [lookup_putF, if_neg hy]) (if_neg fun z => hy z.2) fun ys z => ?_
          subst z
          obtain ⟨_, _, _, vs, q4, _⟩ := hsl y _ ey'
          show upd W.H _ _ _ = _
          exact upd_ne (nl _ _ q4)
      · obtain ⟨t', f', fs', o1, ho', hro1, hk', hsl'⟩ := h1 m rm am em eam
        refine ⟨.inl t', f', fs', o1, ?_, hro1, hk', fun y sl ey => ?_⟩
        · show upd W.H _ _ am = _
          rw [upd_ne (fun z => hm (inj m am eam z))]; exact ho'
        · refine (hsl' y sl ey).to rfl rfl (fun _ h => .inl h) rfl (if_neg fun z => hm z.1) fun ys z => ?_
          subst z
          obtain ⟨_, _, _, vs, q4, _⟩ := hsl' y _ ey
          show upd W.H _ _ _ = _
          exact upd_ne (nl _ _ q4)
    · have old : ∀ (m : Nat) (rm : Rec) (y : Str) (ys : List D), (s.set n { r with fs := putS f (.own xs) r.fs })[m]? = some rm → rm.fs.lookup y = some (.own ys) → (m = n ∧ y = f) ∨ (¬ (m = n ∧ y = f) ∧ W.T (fa m y) ∧ ∃ rm0 : Rec, s[m]? = some rm0 ∧ rm0.fs.lookup y = some (.own ys)) := fun m rm y ys em ey => by
        rcases get_set em with ⟨rfl, rfl⟩ | ⟨hm, em⟩
        · have ey' : (putS f (.own xs) r.fs).lookup y = some (.own ys) := ey
          rw [lookup_putS] at ey'
          by_cases hy : y = f
          · exact .inl ⟨rfl, hy⟩
          · rw [if_neg hy] at ey'
            exact .inr ⟨fun z => hy z.2, (hsl y _ ey').2.1, r, hs, ey'⟩
        · have hlm : m < W.ι.length := by rw [ok.st.len]; exact (List.getElem?_eq_some_iff.mp em).1
          obtain ⟨_, _, _, _, _, _, _, hsl'⟩ := h1 m rm _ em (List.getElem?_eq_getElem hlm)
          exact .inr ⟨fun z => hm z.1, (hsl' y _ ey).2.1, rm, em, ey⟩
      intro m y ys rm m' y' ys' rm' e1 e2 e3 e4 eq
      have eq' : (if m = n ∧ y = f then p else fa m y) = (if m' = n ∧ y' = f then p else fa m' y') := eq
      rcases old m rm y ys e1 e2 with g | ⟨g, gt, r0, g1, g2⟩
      · rw [if_pos g] at eq'
        rcases old m' rm' y' ys' e3 e4 with g' | ⟨g', gt', r0', g1', g2'⟩
        · exact ⟨g.1.trans g'.1.symm, g.2.trans g'.2.symm⟩
        · rw [if_neg g'] at eq'
          exact absurd (by rw [eq']; exact gt') hpt
      · rw [if_neg g] at eq'
        rcases old m' rm' y' ys' e3 e4 with g' | ⟨g', gt', r0', g1', g2'⟩
        · rw [if_pos g'] at eq'
          exact absurd (by rw [← eq']; exact gt) hpt
        · rw [if_neg g'] at eq'
          exact h2 m y ys r0 m' y' ys' r0' g1 g2 g1' g2' eq'
end M

/-! M, part 17: fields, methods, making of records. -/
namespace M
open PySem L2
open PyProof.Rows (envOfC)
/-- the record that d names, of class c -/
def recOf (c : Str) (s : Sto) (d : D) : Option (Nat × Rec) := (refOf d).bind fun n => (s[n]?).bind fun r => if r.c = c then some (n, r) else none
theorem recOf_to {c : Str} {s : Sto} {d : D} {n : Nat} {r : Rec} (h : recOf c s d = some (n, r)) : refOf d = some n ∧ s[n]? = some r ∧ r.c = c := by
  unfold recOf at h
  obtain ⟨m, e1, h⟩ := Option.bind_eq_some_iff.mp h
  obtain ⟨q, e2, h⟩ := Option.bind_eq_some_iff.mp h
  split at h
  · rename_i hc
    cases h
    exact ⟨e1, e2, hc⟩
  · cases h
theorem recO_ins {K : PySem.W.Frag} {r : Rec} {fs : List (Str × V)} {o : HO} {c : Str} (h : RecO K r fs o) (e : r.c = c) (hne : insC c = true) : ∃ dx, o = .ins (He.ga K c) dx fs := by
  unfold RecO at h
  rw [e, if_pos hne] at h
  exact h
theorem recO_of {K : PySem.W.Frag} {r : Rec} {fs : List (Str × V)} {c : Str} {dx : Addr} (e : r.c = c) (hne : insC c = true) : RecO K r fs (.ins (He.ga K c) dx fs) := by
  unfold RecO
  rw [e, if_pos hne]
  exact ⟨dx, rfl⟩
/-- what is seen of an instance -/
theorem ins_at {K : PySem.W.Frag} {W : Wd} {s : Sto} (ok : Ok K W s) {c : Str} {d : D} {n : Nat} {r : Rec} {v : V} (hv : Dr K W.ι W.F v d) (h : recOf c s d = some (n, r)) (hne : insC c = true) :
    ∃ a dx fs, v = .ref a ∧ W.H a = some (.ins (He.ga K c) dx fs) ∧ fs.map (·.1) = r.fs.map (·.1) ∧
    (∀ x d, r.fs.lookup x = some (.val d) → ∃ v, fs.lookup x = some v ∧ Dr K W.ι W.F v d) ∧
    (∀ x xs, r.fs.lookup x = some (.own xs) → ∃ b vs, fs.lookup x = some (.ref b) ∧ W.H b = some (.lst vs) ∧ W.T b ∧ DrAll K W.ι W.F vs xs ∧
      ∀ vs' xs', DrAll K W.ι W.F vs' xs' → Step W (W.up b (.lst vs')) ∧ Ok K (W.up b (.lst vs')) (s.set n { r with fs := putS x (.own xs') r.fs })) ∧
    (∀ f v d, Dr K W.ι W.F v d → Step W (W.up a (.ins (He.ga K c) dx (putF f v fs))) ∧ Ok K (W.up a (.ins (He.ga K c) dx (putF f v fs))) (s.set n { r with fs := putS f (.val d) r.fs })) ∧
    (∀ f p vs xs Wb, Step Wb W → Wb.H p = none → W.H p = some (.lst vs) → W.F p = none → ¬ W.T p → DrAll K W.ι W.F vs xs →
      ∃ W', W'.H = upd W.H a (.ins (He.ga K c) dx (putF f (.ref p) fs)) ∧ Mon W W' ∧ Step Wb W' ∧ Ok K W' (s.set n { r with fs := putS f (.own xs) r.fs })) := by
  obtain ⟨e1, e2, e3⟩ := recOf_to h
  obtain ⟨a, rfl, ha⟩ := refOf_dr hv e1
  obtain ⟨a', fs, o, ha', ho, hro, hk, h1, h2, h3, h4⟩ := rec_at ok e2
  have ea : a' = a := Option.some.inj (ha'.symm.trans ha)
  subst ea
  obtain ⟨dx, rfl⟩ := recO_ins hro e3 hne
  exact ⟨a', dx, fs, rfl, ho, hk, h1, h2, fun f v d hd => h3 f v d _ hd (recO_of e3 hne), fun f p vs xs Wb q1 q2 q3 q4 q5 q6 => h4 f p vs xs _ Wb q1 q2 q3 q4 q5 q6 (recO_of e3 hne)⟩
/-! ### reading -/
def fldD (c f : Str) (s : Sto) (d : D) : Option D := (recOf c s d).bind fun p => match p.2.fs.lookup f with
  | some (.val d) => some d
  | _ => none
def fldL (c f : Str) (s : Sto) (d : D) : Option D := (recOf c s d).bind fun p => match p.2.fs.lookup f with
  | some (.own xs) => some (.list xs)
  | _ => none
def xFld (c f : Str) (e : XE) : XE := fun ρ s => (e ρ s).bind fun d s1 => lift (fldD c f s1 d) s1
def xFldL (c f : Str) (e : XE) : XE := fun ρ s => (e ρ s).bind fun d s1 => lift (fldL c f s1 d) s1
theorem fldD_to {c f : Str} {s : Sto} {d d' : D} (h : fldD c f s d = some d') : ∃ n r, recOf c s d = some (n, r) ∧ r.fs.lookup f = some (.val d') := by
  obtain ⟨⟨n, r⟩, e1, h⟩ := Option.bind_eq_some_iff.mp h
  refine ⟨n, r, e1, ?_⟩
  split at h
  · rename_i d0 e; cases h; exact e
  · cases h
theorem fldL_to {c f : Str} {s : Sto} {d d' : D} (h : fldL c f s d = some d') : ∃ n r xs, recOf c s d = some (n, r) ∧ r.fs.lookup f = some (.own xs) ∧ d' = .list xs := by
  obtain ⟨⟨n, r⟩, e1, h⟩ := Option.bind_eq_some_iff.mp h
  split at h
  · rename_i xs e; cases h; exact ⟨n, r, xs, e1, e, rfl⟩
  · cases h
section
variable {X : Cx} {Wx : WX} {pos : Pos} {a b e o : Expr} {f m m1 m2 mo mv : XE} {g : XA} {c : Str}
theorem d_fld {fl : Str} (hc : Cls X.K (He.ga X.K c)) (hn : NoAttr X.K (He.ga X.K c) fl) (he : PE X o (GX X.K (aft (rD X.K)) Wx m)) (hne : insC c = true := by decide) (hb : attributeBase o fl X.env (eval o X.env) = eval o X.env := by rfl) :
    PE X (.Attribute o fl pos) (GX X.K (aft (rD X.K)) Wx (xFld c fl m)) := peImp (pe_fld he hb) fun σ H Q ⟨W0, W, ρ, s, e1, ok, en, p⟩ => by
  subst e1
  refine GX.mk ok en (Post.mono p.bind fun d s1 W1 st1 ok1 p1 v hv => ?_)
  obtain ⟨d', e, q⟩ := p1.lift
  obtain ⟨n, r, e1, e2⟩ := fldD_to e
  obtain ⟨a, dx, fs, rfl, ho, _, h1, _⟩ := ins_at ok1 hv e1 hne
  obtain ⟨v', g1, g2⟩ := h1 _ _ e2
  exact ⟨a, _, dx, fs, v', rfl, ho, hc, hn, g1, q W1 (Step.refl _) ok1 v' g2⟩
theorem u_fld {fl : Str} (hc : Cls X.K (He.ga X.K c)) (hn : NoAttr X.K (He.ga X.K c) fl) (he : PE X o (GX X.K (aft (rD X.K)) Wx m)) (hne : insC c = true := by decide) (hb : attributeBase o fl X.env (eval o X.env) = eval o X.env := by rfl) :
    PE X (.Attribute o fl pos) (GX X.K (aft (rU X.K)) Wx (xFldL c fl m)) := peImp (pe_fld he hb) fun σ H Q ⟨W0, W, ρ, s, e1, ok, en, p⟩ => by
  subst e1
  refine GX.mk ok en (Post.mono p.bind fun d s1 W1 st1 ok1 p1 v hv => ?_)
  obtain ⟨d', e, q⟩ := p1.lift
  obtain ⟨n, r, xs, e1, e2, rfl⟩ := fldL_to e
  obtain ⟨a, dx, fs, rfl, ho, _, _, h2, _⟩ := ins_at ok1 hv e1 hne
  obtain ⟨b, vs, g1, g2, _, g4, _⟩ := h2 _ _ e2
  exact ⟨a, _, dx, fs, .ref b, rfl, ho, hc, hn, g1, q W1 (Step.refl _) ok1 (.ref b) (.inr ⟨b, xs, vs, rfl, rfl, g2, g4⟩)⟩
/-- an item, at a written place, of a list that stands at once -/
theorem d_ixU {i : Int} {j p2} (ha : PE X a (GX X.K (aft (rU X.K)) Wx m)) (hs : PlainIx (.Constant (.int i) j p2) := by exact fun _ _ => rfl) : PE X (.Subscript a (.Constant (.int i) j p2) pos) (GX X.K (aft (rD X.K)) Wx (x2 ixD m (xC (.int i)))) :=
  peImp (pe_ix ix_seq ha pe_int hs) fun σ H Q ⟨W0, W, ρ, s, e1, ok, en, p⟩ => by
    subst e1
    refine GX.mk ok en (Post.mono p.bind fun d s1 W1 st1 ok1 p1 v hv => ?_)
    have p2 : Post X.K W1 (lift (ixD d (.int i)) s1) (fun d _ W' => ∀ v, aft (rD X.K) W W' v d → Q v W'.H) (wexc X.K Wx σ) := p1
    obtain ⟨d', e, q⟩ := p2.lift
    exact o_ix W1 s1 v (.int i) d (.int i) d' Q ok1 hv (.inl (.int i)) e fun v W3 st3 ok3 hr => q W3 st3 ok3 v hr
/-- .. at a written place from the end -/
theorem d_ixUn {i : Int} {j p2 p3} (ha : PE X a (GX X.K (aft (rU X.K)) Wx m)) (hs : PlainIx (.UnaryOp .USub (.Constant (.int i) j p2) p3) := by exact fun _ _ => rfl) : PE X (.Subscript a (.UnaryOp .USub (.Constant (.int i) j p2) p3) pos) (GX X.K (aft (rD X.K)) Wx (x2 ixD m (xC (.int (-i))))) :=
  peImp (pe_ix ix_seq ha (pe_un un_neg pe_int) hs) fun σ H Q ⟨W0, W, ρ, s, e1, ok, en, p⟩ => by
    subst e1
    refine GX.mk ok en (Post.mono p.bind fun d s1 W1 st1 ok1 p1 v hv => ?_)
    have p2 : Post X.K W1 (lift (ixD d (.int (-i))) s1) (fun d _ W' => ∀ v, aft (rD X.K) W W' v d → Q v W'.H) (wexc X.K Wx σ) := p1
    obtain ⟨d', e, q⟩ := p2.lift
    exact ⟨i, rfl, o_ix W1 s1 v (.int (-i)) d (.int (-i)) d' Q ok1 hv (.inl (.int (-i))) e fun v W3 st3 ok3 hr => q W3 st3 ok3 v hr⟩
/-! ### storing -/
/-- the store behind o.f = sl -/
def fldPut (c fl : Str) (s : Sto) (d : D) (sl : Slot) : Option Sto := (recOf c s d).bind fun p => if p.2.fs.length < 900 then some (s.set p.1 { p.2 with fs := putS fl sl p.2.fs }) else none
def nextS (ρ : Env) (o : Option Sto) : Res := match o with
  | some s => .next ρ s
  | none => .bad
/-- o.f = value -/
def sFld (c fl : Str) (mo mv : XE) : XS := stX mv fun v => stX mo fun d ρ s => nextS ρ (fldPut c fl s d (.val v))
theorem fldPut_to {c fl : Str} {s s' : Sto} {d : D} {sl : Slot} (h : fldPut c fl s d sl = some s') : ∃ n r, recOf c s d = some (n, r) ∧ r.fs.length < 900 ∧ s' = s.set n { r with fs := putS fl sl r.fs } := by
  obtain ⟨⟨n, r⟩, e1, h⟩ := Option.bind_eq_some_iff.mp h
  have h' : (if r.fs.length < 900 then some (s.set n { r with fs := putS fl sl r.fs }) else none) = some s' := h
  split at h'
  · rename_i hz; cases h'; exact ⟨n, r, e1, hz, rfl⟩
  · cases h'
theorem St2.to {K : PySem.W.Frag} {W0 W W' : Wd} {σ : St} {ρ : Env} {s s' : Sto} (h : St2 K W0 W σ ρ s) (st : Step W W') (ok : Ok K W' s') : St2 K W0 W' σ ρ s' := ⟨h.st.trans st, ok, h.en.step st⟩
theorem keys_len {α β : Type} {fs : List (Str × α)} {gs : List (Str × β)} (h : fs.map (·.1) = gs.map (·.1)) : fs.length = gs.length := by
  have := congrArg List.length h
  simpa using this
theorem p_fld {fl : Str} {pos' : Pos} (hc : Cls X.K (He.ga X.K c)) (hn : NoAttr X.K (He.ga X.K c) fl) (ho : PE X o (GX X.K (aft (rD X.K)) Wx mo)) (hv : PE X e (GX X.K (aft (rD X.K)) Wx mv)) (hne : insC c = true := by decide)
    (hs : swapsWith e (some (.Attribute o fl pos')) pos.line X.env = pure false := by rfl) : L2.PS X (.Assign [.Attribute o fl pos'] e pos) (GS X.K Wx (sFld c fl mo mv)) := psImp (ps_fld ho hv hs) fun D σ H ⟨W0, W, ρ, s, e1, h, p⟩ => by
  subst e1
  refine GX.mk h.ok h.en (Post.mono (PS.x h p) fun d s1 W1 st1 ok1 ⟨h1, q1⟩ v hv => ?_)
  refine GX.mk h1.ok h1.en (Post.mono (PS.x h1 q1) fun d2 s2 W2 st2 ok2 ⟨h2, q2⟩ v2 hv2 => ?_)
  cases ef : fldPut c fl s2 d2 (.val d) with
  | none => unfold nextS at q2; rw [ef] at q2; exact q2.elim
  | some s3 =>
    unfold nextS at q2
    rw [ef] at q2
    obtain ⟨n, r, e1, hz, rfl⟩ := fldPut_to ef
    obtain ⟨a, dx, fs, rfl, hH, hk, _, _, h3, _⟩ := ins_at ok2 hv2 e1 hne
    obtain ⟨a1, a2⟩ := h3 fl v d (st2.dr hv)
    exact ⟨a, _, dx, fs, rfl, hH, hc, hn, by rw [keys_len hk]; omega, q2 σ (W2.up a _) a1.mon (h2.to a1 a2)⟩
/-- o.f = a new list, of the record's own -/
def lstSl : D → Option Slot
  | .list xs => some (.own xs)
  | _ => none
def sFldN (c fl : Str) (mo mv : XE) : XS := stX mv fun v => stX mo fun d ρ s => nextS ρ ((lstSl v).bind fun sl => fldPut c fl s d sl)
theorem p_fldN {fl : Str} {pos' : Pos} (hc : Cls X.K (He.ga X.K c)) (hn : NoAttr X.K (He.ga X.K c) fl) (ho : PE X o (GX X.K (aft (rD X.K)) Wx mo)) (hv : PE X e (GX X.K (rN X.K) Wx mv)) (hne : insC c = true := by decide)
    (hs : swapsWith e (some (.Attribute o fl pos')) pos.line X.env = pure false := by rfl) : L2.PS X (.Assign [.Attribute o fl pos'] e pos) (GS X.K Wx (sFldN c fl mo mv)) := psImp (ps_fld ho hv hs) fun D σ H ⟨W0, W, ρ, s, e1, h, p⟩ => by
  subst e1
  refine GX.mk h.ok h.en (Post.mono (PS.x h p) fun d s1 W1 st1 ok1 ⟨h1, q1⟩ v hv => ?_)
  obtain ⟨p', xs, vs, rfl, rfl, n1, n2, n3, n4, n5⟩ := hv
  refine GX.mk h1.ok h1.en (Post.mono (PS.x h1 q1) fun d2 s2 W2 st2 ok2 ⟨h2, q2⟩ v2 hv2 => ?_)
  have hne' : W1.H p' ≠ none := by rw [n2]; exact fun z => by cases z
  have m2 := st2.keep _ _ n2 n4
  have m3 := st2.newF _ n3 hne' n4
  have m4 : ¬ W2.T p' := fun z => (st2.newT _ z).elim n4 hne'
  have m5 := st2.drAll n5
  cases ef : fldPut c fl s2 d2 (.own xs) with
  | none =>
    have q3 : M.PS X.K Wx W0 W2 D (nextS ρ (fldPut c fl s2 d2 (.own xs))) := q2
    rw [ef] at q3; exact q3.elim
  | some s3 =>
    have q3 : M.PS X.K Wx W0 W2 D (nextS ρ (fldPut c fl s2 d2 (.own xs))) := q2
    rw [ef] at q3
    obtain ⟨n, r, e1, hz, rfl⟩ := fldPut_to ef
    obtain ⟨a, dx, fs, rfl, hH, hk, _, _, _, h4⟩ := ins_at ok2 hv2 e1 hne
    obtain ⟨W3, w1, wm, w2, w3⟩ := h4 fl p' vs xs W (st1.trans st2) n1 m2 m3 m4 m5
    refine ⟨a, _, dx, fs, rfl, hH, hc, hn, by rw [keys_len hk]; omega, ?_⟩
    rw [← w1]
    exact q3 σ W3 wm (h.to w2 w3)
end
end M

/-! M, part 18: lists of a record changed in their place; methods; making. -/
namespace M
open PySem L2
open PyProof.Rows (envOfC)
/-- the list of a record is changed -/
def ownUp {α : Type} (c fl : Str) (s : Sto) (d : D) (h : List D → Option (α × List D)) : Option (α × Sto) := (recOf c s d).bind fun p => match p.2.fs.lookup fl with
  | some (.own xs) => (h xs).map fun q => (q.1, s.set p.1 { p.2 with fs := putS fl (.own q.2) p.2.fs })
  | _ => none
theorem ownUp_to {α : Type} {c fl : Str} {s s' : Sto} {d : D} {h : List D → Option (α × List D)} {y : α} (e : ownUp c fl s d h = some (y, s')) : ∃ n r xs ys, recOf c s d = some (n, r) ∧ r.fs.lookup fl = some (.own xs) ∧ h xs = some (y, ys) ∧ s' = s.set n { r with fs := putS fl (.own ys) r.fs } := by
  obtain ⟨⟨n, r⟩, e1, e⟩ := Option.bind_eq_some_iff.mp e
  split at e
  · rename_i xs e2
    obtain ⟨⟨z, ys⟩, e3, e4⟩ := Option.map_eq_some_iff.mp e
    cases e4
    exact ⟨n, r, xs, ys, e1, e2, e3, rfl⟩
  · cases e
def valAt (ρ : Env) (i : Nat) : Option D := match ρ[i]? with
  | some (.val d) => some d
  | _ => none
theorem valAt_to {ρ : Env} {i : Nat} {d : D} (h : valAt ρ i = some d) : ρ[i]? = some (.val d) := by
  unfold valAt at h
  split at h
  · rename_i e; cases h; exact e
  · cases h
def app1 (x : D) (xs : List D) : Option (Unit × List D) := if xs.length < sizeLine then some ((), xs ++ [x]) else none
def nextU (ρ : Env) (o : Option (Unit × Sto)) : Res := match o with
  | some p => .next ρ p.2
  | none => .bad
/-- o.f.append(x), o and x names -/
def sFApp (c fl : Str) (i j : Nat) : XS := fun ρ s => nextU ρ ((valAt ρ i).bind fun d => (valAt ρ j).bind fun x => ownUp c fl s d (app1 x))
section
variable {X : Cx} {Wx : WX} {pos : Pos} {a b e o : Expr} {f m m1 m2 mo mv : XE} {g : XA} {c : Str}
/-- the reading of o.f, o a name -/
theorem fld_var {K : PySem.W.Frag} {W0 W : Wd} {σ : St} {ρ : Env} {s : Sto} {i : Nat} {d : D} {fl : Str} {n : Nat} {r : Rec} {xs : List D} {Q : VK} (h : St2 K W0 W σ ρ s) (hc : Cls K (He.ga K c)) (hn : NoAttr K (He.ga K c) fl) (hne : insC c = true) (e1 : valAt ρ i = some d) (e2 : recOf c s d = some (n, r)) (e3 : r.fs.lookup fl = some (.own xs))
    (q : ∀ b vs, W.H b = some (.lst vs) → DrAll K W.ι W.F vs xs → (∀ vs' ys, DrAll K W.ι W.F vs' ys → Step W (W.up b (.lst vs')) ∧ Ok K (W.up b (.lst vs')) (s.set n { r with fs := putS fl (.own ys) r.fs })) → Q (.ref b) W.H) : tFld K (tVar i) fl σ W.H Q := by
  obtain ⟨v, g1, g2⟩ := h.en.val i d (valAt_to e1)
  obtain ⟨a, dx, fs, rfl, hH, hk, _, h2, _⟩ := ins_at h.ok g2 e2 hne
  obtain ⟨b, vs, k1, k2, _, k3, k4⟩ := h2 _ _ e3
  exact ⟨_, g1, a, _, dx, fs, .ref b, rfl, hH, hc, hn, k1, q b vs k2 k3 k4⟩
theorem p_fApp {fl : Str} {i j : Nat} {x y : Str} {p1 p2 p3 p4 : Pos} (hc : Cls X.K (He.ga X.K c)) (hn : NoAttr X.K (He.ga X.K c) fl) (hne : insC c = true := by decide)
    (hN : X.N[i]? = some x := by rfl) (hv : Vis X.env.scope x := by first | exact Or.inl rfl | exact Or.inr (Or.inl rfl) | exact Or.inr (Or.inr rfl)) (hd : (x == ("__debug__" : Str)) = false := by decide) (hcd : (x == ("__classdict__" : Str)) = false := by decide)
    (hN2 : X.N[j]? = some y := by rfl) (hv2 : Vis X.env.scope y := by first | exact Or.inl rfl | exact Or.inr (Or.inl rfl) | exact Or.inr (Or.inr rfl)) (hd2 : (y == ("__debug__" : Str)) = false := by decide) (hcd2 : (y == ("__classdict__" : Str)) = false := by decide)
    (hb : attributeBase (.Name x p1) fl X.env (eval (.Name x p1) X.env) = eval (.Name x p1) X.env := by rfl)
    (hst : starEach (.Name y p4 :: []) X.env = (false, eval (.Name y p4) X.env) :: starEach [] X.env := by rfl)
    (hs : swapsWith (.Call (.Attribute (.Attribute (.Name x p1) fl p2) "append" p3) [.Name y p4] [] pos) none pos.line X.env = pure false := by rfl)
    (hE : ∀ {r : V → List V → Hp → VK → Prop} {to : TE} {t : TA}, MtR X "list.append" r → PE X (.Attribute (.Name x p1) fl p2) to → PA X (.Name y p4 :: []) t → PE X (.Call (.Attribute (.Attribute (.Name x p1) fl p2) "append" p3) [.Name y p4] [] pos) (tBM X.K "list" r to t) := by
      intro r to t h1 h2 h3; exact pe_bm PySem.F.plainAttrs_list PySem.F.slot_list_append PySem.F.type_list_append h1 h2 h3) :
    L2.PS X (.Expr (.Call (.Attribute (.Attribute (.Name x p1) fl p2) "append" p3) [.Name y p4] [] pos) pos) (GS X.K Wx (sFApp c fl i j)) := psImp (ps_expr (hE mt_append (pe_fld (pe_var hN hv hd hcd) hb) (pa_cons (pe_var hN2 hv2 hd2 hcd2) pa_nil hst)) hs) fun D σ H ⟨W0, W, ρ, s, e1, h, p⟩ => by
  subst e1
  unfold sFApp at p
  cases ea : ((valAt ρ i).bind fun d => (valAt ρ j).bind fun x => ownUp c fl s d (app1 x)) with
  | none => rw [ea] at p; exact p.elim
  | some q =>
    rw [ea] at p
    obtain ⟨d, f1, ea⟩ := Option.bind_eq_some_iff.mp ea
    obtain ⟨z, f2, ea⟩ := Option.bind_eq_some_iff.mp ea
    obtain ⟨n, r, xs, ys, k1, k2, k3, k4⟩ := ownUp_to (y := q.1) (s' := q.2) ea
    unfold app1 at k3
    split at k3
    · rename_i hz
      cases k3
      obtain ⟨w, w1, w2⟩ := h.en.val j z (valAt_to f2)
      show (tBM X.K "list" rAppend (tFld X.K (tVar i) fl) (tCons (tVar j) tNil)) σ W.H (fun _ H1 => D.nx σ H1)
      refine fld_var h hc hn hne f1 k1 k2 fun b vs b1 b2 b3 => ⟨.inl ⟨rfl, _, SqL.of b1⟩, w, w1, b, vs, w, rfl, rfl, b1, by rw [b2.length]; exact hz, ?_⟩
      obtain ⟨a1, a2⟩ := b3 (vs ++ [w]) (xs ++ [z]) (b2.append (.one w2))
      have p' : M.PS X.K Wx W0 W D (.next ρ q.2) := p
      rw [k4] at p'
      exact p' σ (W.up b (.lst (vs ++ [w]))) a1.mon (h.to a1 a2)
    · cases k3
/-- the place of a number -/
def remI (k : Int) (xs : List D) : Option (Unit × List D) := (intsOf xs).bind fun ns => (ns.findIdx? (· == k)).map fun j => ((), (ns.eraseIdx j).map .int)
/-- o.f.remove(x) -/
def sFRem (c fl : Str) (i j : Nat) : XS := fun ρ s => nextU ρ ((valAt ρ i).bind fun d => (valAt ρ j).bind fun x => match x with
  | .int k => ownUp c fl s d (remI k)
  | _ => none)
theorem p_fRem {fl : Str} {i j : Nat} {x y : Str} {p1 p2 p3 p4 : Pos} (hc : Cls X.K (He.ga X.K c)) (hn : NoAttr X.K (He.ga X.K c) fl) (hne : insC c = true := by decide)
    (hN : X.N[i]? = some x := by rfl) (hv : Vis X.env.scope x := by first | exact Or.inl rfl | exact Or.inr (Or.inl rfl) | exact Or.inr (Or.inr rfl)) (hd : (x == ("__debug__" : Str)) = false := by decide) (hcd : (x == ("__classdict__" : Str)) = false := by decide)
    (hN2 : X.N[j]? = some y := by rfl) (hv2 : Vis X.env.scope y := by first | exact Or.inl rfl | exact Or.inr (Or.inl rfl) | exact Or.inr (Or.inr rfl)) (hd2 : (y == ("__debug__" : Str)) = false := by decide) (hcd2 : (y == ("__classdict__" : Str)) = false := by decide)
    (hb : attributeBase (.Name x p1) fl X.env (eval (.Name x p1) X.env) = eval (.Name x p1) X.env := by rfl)
    (hst : starEach (.Name y p4 :: []) X.env = (false, eval (.Name y p4) X.env) :: starEach [] X.env := by rfl)
    (hs : swapsWith (.Call (.Attribute (.Attribute (.Name x p1) fl p2) "remove" p3) [.Name y p4] [] pos) none pos.line X.env = pure false := by rfl)
    (hE : ∀ {r : V → List V → Hp → VK → Prop} {to : TE} {t : TA}, MtR X "list.remove" r → PE X (.Attribute (.Name x p1) fl p2) to → PA X (.Name y p4 :: []) t → PE X (.Call (.Attribute (.Attribute (.Name x p1) fl p2) "remove" p3) [.Name y p4] [] pos) (tBM X.K "list" r to t) := by
      intro r to t h1 h2 h3; exact pe_bm PySem.F.plainAttrs_list PySem.F.slot_list_remove PySem.F.type_list_remove h1 h2 h3) :
    L2.PS X (.Expr (.Call (.Attribute (.Attribute (.Name x p1) fl p2) "remove" p3) [.Name y p4] [] pos) pos) (GS X.K Wx (sFRem c fl i j)) := psImp (ps_expr (hE mt_remove (pe_fld (pe_var hN hv hd hcd) hb) (pa_cons (pe_var hN2 hv2 hd2 hcd2) pa_nil hst)) hs) fun D σ H ⟨W0, W, ρ, s, e1, h, p⟩ => by
  subst e1
  unfold sFRem at p
  cases ea : ((valAt ρ i).bind fun d => (valAt ρ j).bind fun x => match x with
    | .int k => ownUp c fl s d (remI k)
    | _ => none) with
  | none => rw [ea] at p; exact p.elim
  | some q =>
    rw [ea] at p
    obtain ⟨d, f1, ea⟩ := Option.bind_eq_some_iff.mp ea
    obtain ⟨z, f2, ea⟩ := Option.bind_eq_some_iff.mp ea
    split at ea
    · rename_i k
      obtain ⟨n, r, xs, ys, k1, k2, k3, k4⟩ := ownUp_to (y := q.1) (s' := q.2) ea
      unfold remI at k3
      obtain ⟨ns, n1, k3⟩ := Option.bind_eq_some_iff.mp k3
      obtain ⟨jj, n2, k3⟩ := Option.map_eq_some_iff.mp k3
      cases k3
      obtain ⟨w, w1, w2⟩ := h.en.val j _ (valAt_to f2)
      cases w2
      obtain ⟨hj, hjk, hjn⟩ := List.findIdx?_eq_some_iff_getElem.mp n2
      show (tBM X.K "list" rRemI (tFld X.K (tVar i) fl) (tCons (tVar j) tNil)) σ W.H (fun _ H1 => D.nx σ H1)
      refine fld_var h hc hn hne f1 k1 k2 fun b vs b1 b2 b3 => ?_
      have ev := ints_dr b2 n1
      subst ev
      refine ⟨.inl ⟨rfl, _, SqL.of b1⟩, _, w1, b, ns, k, jj, rfl, rfl, b1, ?_, fun mm hm hh => ?_, ?_⟩
      · rw [List.getElem?_eq_getElem hj]; simpa using hjk
      · have hml : mm < ns.length := by omega
        rw [List.getElem?_eq_getElem hml] at hh
        have := hjn mm hm
        simp only [Option.some.injEq] at hh
        simp [hh] at this
      · obtain ⟨a1, a2⟩ := b3 ((ns.eraseIdx jj).map V.int) ((ns.eraseIdx jj).map PyData.int) (dr_ints _)
        have p' : M.PS X.K Wx W0 W D (.next ρ q.2) := p
        rw [k4] at p'
        exact p' σ (W.up b (.lst ((ns.eraseIdx jj).map V.int))) a1.mon (h.to a1 a2)
    · cases ea
/-! ### pop -/
def popF : List D → Option (D × List D)
  | [] => none
  | x :: r => some (x, r)
def popL (xs : List D) : Option (D × List D) := (xs[xs.length - 1]?).map fun y => (y, xs.dropLast)
def okP (o : Option (D × Sto)) : Out D := match o with
  | some p => .ok p.1 p.2
  | none => .bad
def xFPop (c fl : Str) (i : Nat) (h : List D → Option (D × List D)) : XE := fun ρ s => okP ((valAt ρ i).bind fun d => ownUp c fl s d h)
theorem okP_post {K : PySem.W.Frag} {W : Wd} {o : Option (D × Sto)} {Q : D → Sto → Wd → Prop} {E : Str → Wd → Prop} (h : Post K W (okP o) Q E) : ∃ d s, o = some (d, s) ∧ Post K W (.ok d s) Q E := by
  cases o with
  | none => exact h.elim
  | some p => exact ⟨p.1, p.2, rfl, h⟩
theorem fld_var' {K : PySem.W.Frag} {W0 W : Wd} {σ : St} {ρ : Env} {s : Sto} {i : Nat} {d : D} {fl : Str} {n : Nat} {r : Rec} {xs : List D} {Q : VK} (ok : Ok K W s) (en : EnvR K W0 W σ ρ) (hc : Cls K (He.ga K c)) (hn : NoAttr K (He.ga K c) fl) (hne : insC c = true) (e1 : valAt ρ i = some d) (e2 : recOf c s d = some (n, r)) (e3 : r.fs.lookup fl = some (.own xs))
    (q : ∀ b vs, W.H b = some (.lst vs) → DrAll K W.ι W.F vs xs → (∀ vs' ys, DrAll K W.ι W.F vs' ys → Step W (W.up b (.lst vs')) ∧ Ok K (W.up b (.lst vs')) (s.set n { r with fs := putS fl (.own ys) r.fs })) → Q (.ref b) W.H) : tFld K (tVar i) fl σ W.H Q := by
  obtain ⟨v, g1, g2⟩ := en.val i d (valAt_to e1)
  obtain ⟨a, dx, fs, rfl, hH, hk, _, h2, _⟩ := ins_at ok g2 e2 hne
  obtain ⟨b, vs, k1, k2, _, k3, k4⟩ := h2 _ _ e3
  exact ⟨_, g1, a, _, dx, fs, .ref b, rfl, hH, hc, hn, k1, q b vs k2 k3 k4⟩
theorem d_fPop0 {fl : Str} {i : Nat} {x : Str} {p1 p2 p3 p4 : Pos} {jj} (hc : Cls X.K (He.ga X.K c)) (hn : NoAttr X.K (He.ga X.K c) fl) (hne : insC c = true := by decide)
    (hN : X.N[i]? = some x := by rfl) (hv : Vis X.env.scope x := by first | exact Or.inl rfl | exact Or.inr (Or.inl rfl) | exact Or.inr (Or.inr rfl)) (hd : (x == ("__debug__" : Str)) = false := by decide) (hcd : (x == ("__classdict__" : Str)) = false := by decide)
    (hb : attributeBase (.Name x p1) fl X.env (eval (.Name x p1) X.env) = eval (.Name x p1) X.env := by rfl)
    (hst : starEach (.Constant (.int 0) jj p4 :: []) X.env = (false, eval (.Constant (.int 0) jj p4) X.env) :: starEach [] X.env := by rfl)
    (hE : ∀ {r : V → List V → Hp → VK → Prop} {to : TE} {t : TA}, MtR X "list.pop" r → PE X (.Attribute (.Name x p1) fl p2) to → PA X (.Constant (.int 0) jj p4 :: []) t → PE X (.Call (.Attribute (.Attribute (.Name x p1) fl p2) "pop" p3) [.Constant (.int 0) jj p4] [] pos) (tBM X.K "list" r to t) := by
      intro r to t h1 h2 h3; exact pe_bm PySem.F.plainAttrs_list PySem.F.slot_list_pop PySem.F.type_list_pop h1 h2 h3) :
    PE X (.Call (.Attribute (.Attribute (.Name x p1) fl p2) "pop" p3) [.Constant (.int 0) jj p4] [] pos) (GX X.K (aft (rD X.K)) Wx (xFPop c fl i popF)) := peImp (hE mt_popAt (pe_fld (pe_var hN hv hd hcd) hb) (pa_cons pe_int pa_nil hst)) fun σ H Q ⟨W0, W, ρ, s, e1, ok, en, p⟩ => by
  subst e1
  obtain ⟨y, s', ea, p⟩ := okP_post p
  obtain ⟨d, f1, ea⟩ := Option.bind_eq_some_iff.mp ea
  obtain ⟨n, r, xs, ys, k1, k2, k3, k4⟩ := ownUp_to ea
  cases xs with
  | nil => cases k3
  | cons x0 xr =>
    cases k3
    refine fld_var' ok en hc hn hne f1 k1 k2 fun b vs b1 b2 b3 => ?_
    cases b2 with
    | cons r1 r2 =>
      rename_i v0 vr
      refine ⟨.inl ⟨rfl, _, SqL.of b1⟩, b, v0 :: vr, 0, 0, v0, rfl, rfl, b1, by decide, by decide, ?_, rfl, ?_⟩
      · unfold seqIndex?
        simp
      · obtain ⟨a1, a2⟩ := b3 vr ys r2
        rw [k4] at p
        exact p _ a1 a2 v0 (a1.dr r1)
theorem d_fPopL {fl : Str} {i : Nat} {x : Str} {p1 p2 p3 : Pos} (hc : Cls X.K (He.ga X.K c)) (hn : NoAttr X.K (He.ga X.K c) fl) (hne : insC c = true := by decide)
    (hN : X.N[i]? = some x := by rfl) (hv : Vis X.env.scope x := by first | exact Or.inl rfl | exact Or.inr (Or.inl rfl) | exact Or.inr (Or.inr rfl)) (hd : (x == ("__debug__" : Str)) = false := by decide) (hcd : (x == ("__classdict__" : Str)) = false := by decide)
    (hb : attributeBase (.Name x p1) fl X.env (eval (.Name x p1) X.env) = eval (.Name x p1) X.env := by rfl)
    (hE : ∀ {r : V → List V → Hp → VK → Prop} {to : TE}, MtR X "list.pop" r → PE X (.Attribute (.Name x p1) fl p2) to → PE X (.Call (.Attribute (.Attribute (.Name x p1) fl p2) "pop" p3) [] [] pos) (tBM0 X.K "list" r to) := by
      intro r to h1 h2; exact pe_bm0 PySem.F.plainAttrs_list PySem.F.slot_list_pop PySem.F.type_list_pop h1 h2) :
    PE X (.Call (.Attribute (.Attribute (.Name x p1) fl p2) "pop" p3) [] [] pos) (GX X.K (aft (rD X.K)) Wx (xFPop c fl i popL)) := peImp (hE mt_pop (pe_fld (pe_var hN hv hd hcd) hb)) fun σ H Q ⟨W0, W, ρ, s, e1, ok, en, p⟩ => by
  subst e1
  obtain ⟨y, s', ea, p⟩ := okP_post p
  obtain ⟨d, f1, ea⟩ := Option.bind_eq_some_iff.mp ea
  obtain ⟨n, r, xs, ys, k1, k2, k3, k4⟩ := ownUp_to ea
  unfold popL at k3
  obtain ⟨y0, g1, g2⟩ := Option.map_eq_some_iff.mp k3
  cases g2
  refine fld_var' ok en hc hn hne f1 k1 k2 fun b vs b1 b2 b3 => ?_
  obtain ⟨v0, w1, w2⟩ := b2.get g1
  refine ⟨.inl ⟨rfl, _, SqL.of b1⟩, b, vs, v0, rfl, rfl, b1, by rw [b2.length]; exact w1, ?_⟩
  obtain ⟨a1, a2⟩ := b3 vs.dropLast xs.dropLast b2.dropLast
  rw [k4] at p
  exact p _ a1 a2 v0 (a1.dr w2)
end
end M

/-! M, part 19: methods, making of instances. -/
namespace M
open PySem L2
open PyProof.Rows (envOfC)
/-- a method by its name -/
def MethIs (P : Program) (w : World) (K : PySem.W.Frag) (mg : Str → Option Value) (base : Heap) (k : Nat) (c mth : Str) (ps : List Str) (n : Nat) (m : Fn) : Prop :=
  ∃ fd, FnOk P w K mg base (L2.CX P w) k (He.ma K (He.ga K c) mth) fd ps (spM K n m) ∧ Binds K fd ps []
theorem meth_is {P : Program} {w : World} {K : PySem.W.Frag} {mg : Str → Option Value} {base : Heap} {c x qual : Str} {params : Arguments} {body : List Stmt} {scope : Scope} {N ps : List Str} {k n : Nat} {b : XS}
    (F : ∃ fd, FunD K x qual params body scope [] [] (He.ma K (He.ga K c) x) fd) (S : FnScope N ps scope) (hn : ps.length = n)
    (hbind : ∀ (kV doc pm : Value) (an : Option Addr) (cdv ct : Value) (us : List Value), us.length = ps.length → bindArgs (PySem.W.fnOf x qual params body scope .none kV doc pm an cdv ct) ⟨us, []⟩ = pure (ps.zip us))
    (hb : ∀ (cdv : Value) (A : Around) (outer : List PySem.Env) (s : Shared) (H : Hp) (E : XK), Room k (A.deeper (envOfC qual scope s.heap.objs.size (He.ma K (He.ga K c) x) cdv)) → PSs (cxOf (L2.CX P w) P w K mg base N qual scope (He.ma K (He.ga K c) x) cdv A outer s H E) body (GS K (wE E) b)) :
    MethIs P w K mg base (k + 1) c x ps n (runB b N.length) := by
  obtain ⟨fd, F⟩ := F
  subst hn
  exact ⟨fd, fn_rule F S hb, F.bindsN hbind⟩
/-- whether d is an instance of c that has no field of the name -/
def isRec (c mth : Str) (s : Sto) (d : D) : Bool := match recOf c s d with
  | some p => (p.2.fs.lookup mth).isNone
  | none => false
theorem isRec_to {c mth : Str} {s : Sto} {d : D} (h : isRec c mth s d = true) : ∃ n r, recOf c s d = some (n, r) ∧ r.fs.lookup mth = none := by
  unfold isRec at h
  split at h
  · rename_i p e; exact ⟨p.1, p.2, e, by simpa using h⟩
  · cases h
/-- o.m(..) -/
def xMeth (c mth : Str) (n : Nat) (m : Fn) (mo : XE) (g : XA) : XE := fun ρ s => (mo ρ s).bind fun d s1 => if isRec c mth s1 d = true then (g ρ s1).bind fun ds s2 => if ds.length + 1 = n then m (d :: ds) s2 else .bad else .bad
/-- C(..) -/
def noneOk (d : D) (r : D) (s : Sto) : Out D := match d with
  | .none => .ok r s
  | _ => .bad
def xMake (c : Str) (n : Nat) (m : Fn) (g : XA) : XE := fun ρ s => (g ρ s).bind fun ds s1 => if ds.length + 1 = n then (m (refD s1.length :: ds) (s1 ++ [⟨c, []⟩])).bind fun d s2 => noneOk d (refD s1.length) s2 else .bad
def tMethS (C : Addr) (mth : Str) (sp : Sp) (E : St → XK) (ta : TE) (t : TA) : TE := fun σ H Q => ta σ H fun x H1 => ∃ a dx fs, x = .ref a ∧ H1 a = some (.ins C dx fs) ∧ fs.lookup mth = none ∧ t σ H1 fun vs H2 => sp (x :: vs) H2 Q (E σ)
def tMakeS (C : Addr) (sp : Sp) (E : St → XK) (t : TA) : TE := fun σ H Q => t σ H fun vs H1 => ∀ x dx, H1 x = none → H1 dx = none → dx ≠ x →
  sp (.ref x :: vs) (upd (upd H1 dx (.own x)) x (.ins C dx [])) (fun v H2 => v = .non ∧ Q (.ref x) H2) (E σ)
section
variable {X : Cx} {Wx : WX} {pos apos p : Pos} {e o : Expr} {es : List Expr} {mo : XE} {g : XA} {c : Str} {ta : TE} {t : TA} {k : Nat} {C f : Addr} {fd : FuncData} {ps : List Str} {sp : Sp} {E : St → XK} {mth : Str}
theorem pe_methS {pl : Sem Bool} (he : PE X o ta) (hc : Cls X.K C) (hm : Meth X.K C mth f) (F : FnOk X.prog X.w X.K X.mg X.base (L2.CX X.prog X.w) k f fd ps sp) (hr : Room k X.A) (hb : Binds X.K fd ps []) (hx : ∀ σ, PassesAt (L2.CX X.prog X.w) X σ (E σ)) (ha : PA X (e :: es) t)
    (hst : starEach (e :: es) X.env = (false, eval e X.env) :: starEach es X.env := by rfl) (hpl : (backTo pos (starEach es X.env)).any (·.1) = false := by rfl)
    (ht : eval (.Call (.Attribute o mth apos) (e :: es) [] pos) X.env = (do
      let ov ← eval o X.env
      standAt apos.atName
      let (f, first) ← holding [ov] (getMethod ov mth pl)
      callWith pos f first (backTo pos (starEach (e :: es) X.env)) (backToKw pos (keywordEach [] X.env))) := by rfl) :
    PE X (.Call (.Attribute o mth apos) (e :: es) [] pos) (tMethS C mth sp E ta t) := by
  refine ⟨fun pins s σ H Q I h => ?_⟩
  refine PySem.W.methodCall_KW (pl := pl) (thn (he.run pins s σ H _ I h) fun u s1 ⟨x, H1, I1, rx, a, dx, fs, ex, ea, l, q⟩ => ?_) ht
  subst ex
  obtain rfl : u = Value.ref a := rx
  refine getmeth_ok I1 ea hc hm l ?_
  refine PySem.W.callWith_K (first := [.ref a]) (h₀ := X.base) I.ok.mod.kin hm.kp (thn (ha.run pos pins s1 σ H1 _ I1 q) fun us s2 ⟨vs, H2, I2, r, q2⟩ => ⟨I2.kIn, ?_⟩) hst hpl
  exact run_fnS (us := .ref a :: us) (vs := .ref a :: vs) F hr hb (hx σ) I2 (.cons rfl r) q2
theorem pe_methS0 {pl : Sem Bool} (he : PE X o ta) (hc : Cls X.K C) (hm : Meth X.K C mth f) (F : FnOk X.prog X.w X.K X.mg X.base (L2.CX X.prog X.w) k f fd ps sp) (hr : Room k X.A) (hb : Binds X.K fd ps []) (hx : ∀ σ, PassesAt (L2.CX X.prog X.w) X σ (E σ))
    (ht : eval (.Call (.Attribute o mth apos) [] [] pos) X.env = (do
      let ov ← eval o X.env
      standAt apos.atName
      let (f, first) ← holding [ov] (getMethod ov mth pl)
      callWith pos f first (backTo pos (starEach [] X.env)) (backToKw pos (keywordEach [] X.env))) := by rfl) :
    PE X (.Call (.Attribute o mth apos) [] [] pos) (tMethS C mth sp E ta tNil) := by
  refine ⟨fun pins s σ H Q I h => ?_⟩
  refine PySem.W.methodCall_KW (pl := pl) (thn (he.run pins s σ H _ I h) fun u s1 ⟨x, H1, I1, rx, a, dx, fs, ex, ea, l, q⟩ => ?_) ht
  subst ex
  obtain rfl : u = Value.ref a := rx
  refine getmeth_ok I1 ea hc hm l ?_
  exact PySem.W.callWith_K0 (first := [.ref a]) I1.kIn hm.kp (run_fnS (us := [.ref a]) (vs := [.ref a]) F hr hb (hx σ) I1 (.cons rfl .nil) q)
theorem gx_meth {K : PySem.W.Frag} {n : Nat} {m : Fn} (hne : insC c = true) : ∀ σ H Q, GX K (aft (rD K)) Wx (xMeth c mth n m mo g) σ H Q → tMethS (He.ga K c) mth (spM K n m) (WE Wx) (GX K (aft (rD K)) Wx mo) (GA K Wx g) σ H Q := by
  rintro σ H Q ⟨W0, W, ρ, s, rfl, ok, en, p⟩
  refine GX.mk ok en (Post.mono p.bind fun d s1 W1 st1 ok1 p1 v hv => ?_)
  by_cases hi : isRec c mth s1 d = true
  · rw [if_pos hi] at p1
    obtain ⟨i, r, e1, e2⟩ := isRec_to hi
    obtain ⟨a, dx, fs, rfl, hH, hk, _⟩ := ins_at ok1 hv e1 hne
    refine ⟨a, dx, fs, rfl, hH, lookup_keys _ _ hk _ e2, GA.mk ok1 (en.step st1) (Post.mono (Post.bind p1) fun ds s2 W2 st2 ok2 p2 vs hvs => ?_)⟩
    by_cases hz : ds.length + 1 = n
    · rw [if_pos hz] at p2
      exact ⟨W2, s2, d :: ds, rfl, ok2, by simpa using hz, .cons (st2.dr hv) hvs, p2⟩
    · rw [if_neg hz] at p2; exact p2.elim
  · rw [if_neg hi] at p1; exact p1.elim
theorem d_meth {j n : Nat} {m : Fn} {pl : Sem Bool} (hne : insC c = true) (hc : Cls X.K (He.ga X.K c)) (hm : Meth X.K (He.ga X.K c) mth (He.ma X.K (He.ga X.K c) mth)) (F : MethIs X.prog X.w X.K X.mg X.base j c mth ps n m) (hr : Room k X.A) (hj : j ≤ k) (tk : Takes X Wx) (ho : PE X o (GX X.K (aft (rD X.K)) Wx mo)) (ha : PA X (e :: es) (GA X.K Wx g))
    (hst : starEach (e :: es) X.env = (false, eval e X.env) :: starEach es X.env := by rfl) (hpl : (backTo pos (starEach es X.env)).any (·.1) = false := by rfl)
    (ht : eval (.Call (.Attribute o mth apos) (e :: es) [] pos) X.env = (do
      let ov ← eval o X.env
      standAt apos.atName
      let (f, first) ← holding [ov] (getMethod ov mth pl)
      callWith pos f first (backTo pos (starEach (e :: es) X.env)) (backToKw pos (keywordEach [] X.env))) := by rfl) :
    PE X (.Call (.Attribute o mth apos) (e :: es) [] pos) (GX X.K (aft (rD X.K)) Wx (xMeth c mth n m mo g)) := by
  obtain ⟨fd, F, hb⟩ := F
  exact peImp (pe_methS (pl := pl) ho hc hm F (hr.mono hj) hb (fun σ => passAt tk σ) ha hst hpl ht) (gx_meth hne)
theorem d_meth0 {j n : Nat} {m : Fn} {pl : Sem Bool} (hne : insC c = true) (hc : Cls X.K (He.ga X.K c)) (hm : Meth X.K (He.ga X.K c) mth (He.ma X.K (He.ga X.K c) mth)) (F : MethIs X.prog X.w X.K X.mg X.base j c mth ps n m) (hr : Room k X.A) (hj : j ≤ k) (tk : Takes X Wx) (ho : PE X o (GX X.K (aft (rD X.K)) Wx mo))
    (ht : eval (.Call (.Attribute o mth apos) [] [] pos) X.env = (do
      let ov ← eval o X.env
      standAt apos.atName
      let (f, first) ← holding [ov] (getMethod ov mth pl)
      callWith pos f first (backTo pos (starEach [] X.env)) (backToKw pos (keywordEach [] X.env))) := by rfl) :
    PE X (.Call (.Attribute o mth apos) [] [] pos) (GX X.K (aft (rD X.K)) Wx (xMeth c mth n m mo aN)) := by
  obtain ⟨fd, F, hb⟩ := F
  refine peImp (pe_methS0 (pl := pl) ho hc hm F (hr.mono hj) hb (fun σ => passAt tk σ) ht) fun σ H Q q => ?_
  obtain ⟨W0, W, ρ, s, rfl, ok, en, p⟩ := q
  refine GX.mk ok en (Post.mono p.bind fun d s1 W1 st1 ok1 p1 v hv => ?_)
  by_cases hi : isRec c mth s1 d = true
  · rw [if_pos hi] at p1
    obtain ⟨i, r, e1, e2⟩ := isRec_to hi
    obtain ⟨a, dx, fs, rfl, hH, hk, _⟩ := ins_at ok1 hv e1 hne
    refine ⟨a, dx, fs, rfl, hH, lookup_keys _ _ hk _ e2, ?_⟩
    have p2 : Post X.K W1 (if ([] : List D).length + 1 = n then m (d :: []) s1 else .bad) (fun d _ W' => ∀ v, aft (rD X.K) W W' v d → Q v W'.H) (wexc X.K Wx σ) := p1
    by_cases hz : ([] : List D).length + 1 = n
    · rw [if_pos hz] at p2
      exact ⟨W1, s1, [d], rfl, ok1, by simpa using hz, .cons hv .nil, p2⟩
    · rw [if_neg hz] at p2; exact p2.elim
  · rw [if_neg hi] at p1; exact p1.elim
/-! ### making -/
theorem run_makeS {pins : List (Addr × Obj)} {σ : St} {H : Hp} {s : Shared} {Q : VK} {us : List Value} {vs : List V} (mk : Mk X.K C f) (F : FnOk X.prog X.w X.K X.mg X.base (L2.CX X.prog X.w) k f fd ps sp) (hr : Room (k + 1) X.A) (hb : Binds X.K fd ps [])
    (hx : PassesAt (L2.CX X.prog X.w) X σ (E σ)) (I : Inv X pins σ H s) (r : Vals vs us)
    (h : ∀ x dx, H x = none → H dx = none → dx ≠ x → sp (.ref x :: vs) (upd (upd H dx (.own x)) x (.ins C dx [])) (fun v H2 => v = .non ∧ Q (.ref x) H2) (E σ)) :
    wpAny (model X.prog X.w) X.A (call (.ref C) us) (EP X pins σ Q) X.xe s := by
  have hq := h (s.heap.objs.size + 1) s.heap.objs.size (I.hok.fresh (Nat.le_succ _)) (I.hok.fresh (Nat.le_refl _)) (Nat.ne_of_lt (Nat.lt_succ_self _))
  have I2 := Inv.made (C := C) I
  have r2 : Vals (V.ref (s.heap.objs.size + 1) :: vs) (Value.ref (s.heap.objs.size + 1) :: us) := .cons rfl r
  have hl : (Value.ref (s.heap.objs.size + 1) :: us).length = ps.length := by
    have e := r2.length
    rw [F.len _ _ _ _ hq] at e
    exact e.symm
  have hb2 := hb
  have b := hb _ (Value.ref (s.heap.objs.size + 1) :: us) I2.kIn (by rw [List.append_nil]; exact hl)
  rw [List.append_nil] at b
  refine wpAny_call (make_map (f := f) I.kIn mk.makes mk.init (beq_iff_eq.mp mk.fn) (codeAny_mono (F.run _ X.stack _ _ ⟨Value.ref (s.heap.objs.size + 1) :: us, []⟩ (Value.ref (s.heap.objs.size + 1) :: us) _ _ (E σ) (hr.make C us [])
    (I2.env0.make C us []) b r2 hq) fun r s' hq' => ?_))
  cases r with
  | error e => exact hx pins _ _ e s' I2 hq'
  | ok fl =>
    cases fl with
    | ret u =>
      obtain ⟨v, H', I3, rv, ev, q3⟩ := I2.after hq'
      subst ev
      exact ⟨rv, ⟨V.ref (s.heap.objs.size + 1), H', I3, rfl, q3⟩⟩
    | next => exact False.elim hq'
    | brk => exact False.elim hq'
    | cont => exact False.elim hq'
theorem pe_makeS {x : Str} (mk : Mk X.K C f) (F : FnOk X.prog X.w X.K X.mg X.base (L2.CX X.prog X.w) k f fd ps sp) (hr : Room (k + 1) X.A) (hg : Gl X x) (hm : X.mg x = some (.ref C)) (hb : Binds X.K fd ps []) (hx : ∀ σ, PassesAt (L2.CX X.prog X.w) X σ (E σ))
    (ha : PA X (e :: es) t) (hdb : (x == ("__debug__" : Str)) = false := by decide) (he : starEach (e :: es) X.env = (false, eval e X.env) :: starEach es X.env := by rfl) (hpl : (backTo pos (starEach es X.env)).any (·.1) = false := by rfl) :
    PE X (.Call (.Name x p) (e :: es) [] pos) (tMakeS C sp E t) := by
  refine ⟨fun pins s σ H Q I h => ?_⟩
  refine wpAny_Call_Name_kw (ld_glob I hg hm ?_ hdb)
  refine PySem.W.callWith_K (h₀ := X.base) I.ok.mod.kin mk.kp (thn (ha.run pos pins s σ H _ I h) fun us s1 ⟨vs, H1, I1, r, q⟩ => ⟨I1.kIn, ?_⟩) he hpl
  exact run_makeS mk F hr hb (hx σ) I1 r q
/-- a new record -/
theorem new_rec {K : PySem.W.Frag} {W : Wd} {s : Sto} (ok : Ok K W s) {x dx : Addr} (hne : insC c = true) (hx : W.H x = none) (hd : W.H dx = none) (hxd : dx ≠ x) :
    ∃ W', W'.H = upd (upd W.H dx (.own x)) x (.ins (He.ga K c) dx []) ∧ Step W W' ∧ Ok K W' (s ++ [⟨c, []⟩]) ∧ W'.ι = W.ι ++ [x] := by
  have hext : Ex W.H (upd (upd W.H dx (.own x)) x (.ins (He.ga K c) dx [])) := (Ex.new hd).trans (Ex.new (by rw [upd_ne (Ne.symm hxd)]; exact hx))
  have hdom : ∀ b, W.H b ≠ none → upd (upd W.H dx (.own x)) x (.ins (He.ga K c) dx []) b ≠ none := fun b hb => by
    cases e : W.H b with
    | none => exact absurd e hb
    | some o => rw [hext b o e]; exact fun z => by cases z
  have hxi : x ∉ W.ι := fun hm => by
    obtain ⟨n, hn⟩ := List.mem_iff_getElem?.mp hm
    have hl : n < s.length := by rw [← ok.st.len]; exact (List.getElem?_eq_some_iff.mp hn).1
    obtain ⟨a, fs, o, ha, ho, _⟩ := rec_at ok (List.getElem?_eq_getElem hl)
    rw [hn] at ha
    cases ha
    rw [hx] at ho; cases ho
  refine ⟨⟨W.ι ++ [x], W.F, fun b => W.T b ∨ b = x, upd (upd W.H dx (.own x)) x (.ins (He.ga K c) dx [])⟩, rfl, ⟨List.prefix_append _ _, Ex.refl _, hdom, fun b o h _ => hext b o h, fun b h => h.imp id fun h => by rw [h]; exact hx, fun b h _ _ => h⟩, ⟨ok.ex.trans hext, fun b h => ?_, ?_⟩, rfl⟩
  · rcases h with h | h
    · exact hdom b (ok.td b h)
    · subst h
      show upd _ _ _ _ ≠ none
      rw [upd_same]; exact fun z => by cases z
  · obtain ⟨fa, h1, h2⟩ := ok.st.ex
    refine ⟨by simp [ok.st.len], ?_, fa, fun n r a e1 e2 => ?_, fun n y ys r n' y' ys' r' e1 e2 e3 e4 => ?_⟩
    · rw [List.nodup_append]
      refine ⟨ok.st.nd, by simp, fun a ha b hb => ?_⟩
      have : b = x := by simpa using hb
      subst this
      exact fun z => hxi (by rw [← z]; exact ha)
    · by_cases hn : n < s.length
      · rw [List.getElem?_append_left hn] at e1
        rw [List.getElem?_append_left (by rw [ok.st.len]; exact hn)] at e2
        obtain ⟨t, f, fs, o, ho, hro, hk, hs⟩ := h1 n r a e1 e2
        refine ⟨.inl t, f, fs, o, hext _ _ ho, hro, hk, fun y sl ey => ?_⟩
        have q := hs y sl ey
        cases sl with
        | no => trivial
        | val d =>
          obtain ⟨v, q1, q2⟩ := q
          exact ⟨v, q1, q2.mono (List.prefix_append _ _) (Ex.refl _)⟩
        | own xs =>
          obtain ⟨q1, q2, q3, vs, q4, q5⟩ := q
          exact ⟨q1, .inl q2, q3, vs, hext _ _ q4, q5.mono (List.prefix_append _ _) (Ex.refl _)⟩
      · have hl : s.length = W.ι.length := ok.st.len.symm
        rw [List.getElem?_append_right (by omega)] at e1 e2
        have hn0 : n - s.length = 0 := by
          have := (List.getElem?_eq_some_iff.mp e1).1
          simp at this; omega
        rw [hn0] at e1
        rw [← hl, hn0] at e2
        simp at e1 e2
        subst e1 e2
        refine ⟨.inr rfl, ?_, [], .ins (He.ga K c) dx [], upd_same, recO_of rfl hne, rfl, fun y sl ey => by cases ey⟩
        show W.F x = none
        exact fnone ok hx
    · have old : ∀ (n : Nat) (r : Rec) y ys, (s ++ [(⟨c, []⟩ : Rec)])[n]? = some r → r.fs.lookup y = some (.own ys) → s[n]? = some r := fun n r y ys e1 e2 => by
        by_cases hn : n < s.length
        · rw [List.getElem?_append_left hn] at e1; exact e1
        · rw [List.getElem?_append_right (by omega)] at e1
          have hn0 : n - s.length = 0 := by
            have := (List.getElem?_eq_some_iff.mp e1).1
            simp at this; omega
          rw [hn0] at e1
          simp at e1
          subst e1
          cases e2
      exact h2 n y ys r n' y' ys' r' (old _ _ _ _ e1 e2) e2 (old _ _ _ _ e3 e4) e4
theorem d_make {j n : Nat} {m : Fn} (hne : insC c = true) (mk : Mk X.K (He.ga X.K c) (He.ma X.K (He.ga X.K c) "__init__")) (F : MethIs X.prog X.w X.K X.mg X.base j c "__init__" ps n m) (hr : Room k X.A) (hj : j + 1 ≤ k) (tk : Takes X Wx) (hm : X.mg c = some (.ref (He.ga X.K c))) (ha : PA X (e :: es) (GA X.K Wx g)) (hg : Gl X c := by rfl)
    (hdb : (c == ("__debug__" : Str)) = false := by decide) (he : starEach (e :: es) X.env = (false, eval e X.env) :: starEach es X.env := by rfl) (hpl : (backTo pos (starEach es X.env)).any (·.1) = false := by rfl) :
    PE X (.Call (.Name c p) (e :: es) [] pos) (GX X.K (aft (rD X.K)) Wx (xMake c n m g)) := by
  obtain ⟨fd, F, hb⟩ := F
  refine peImp (pe_makeS mk F (hr.mono hj) hg hm hb (fun σ => passAt tk σ) ha hdb he hpl) fun σ H Q q => ?_
  obtain ⟨W0, W, ρ, s, rfl, ok, en, p⟩ := q
  refine GA.mk ok en (Post.mono p.bind fun ds s1 W1 st1 ok1 p1 vs hvs => ?_)
  intro x dx hx hd hxd
  obtain ⟨W2, w1, w2, w3, w4⟩ := new_rec ok1 hne hx hd hxd
  by_cases hz : ds.length + 1 = n
  · rw [if_pos hz] at p1
    rw [← w1]
    have hl : W1.ι.length = s1.length := ok1.st.len
    refine ⟨W2, _, refD s1.length :: ds, rfl, w3, by simpa using hz, .cons (.robj ?_) (w2.drAll hvs), Post.mono (Post.from (Post.bind p1) w2) fun d s3 W3 st3 ok3 p3 v hv => ?_⟩
    · rw [w4, List.getElem?_append_right (by omega)]; simp [hl]
    · cases hv with
      | non =>
        refine ⟨rfl, post_ok ok3 p3 _ (.robj ?_)⟩
        have e : W2.ι[s1.length]? = some x := by rw [w4, List.getElem?_append_right (by omega)]; simp [hl]
        obtain ⟨tl, htl⟩ := st3.pre
        rw [← htl, List.getElem?_append_left (List.getElem?_eq_some_iff.mp e).1]; exact e
      | _ => exact p3.elim
  · rw [if_neg hz] at p1; exact p1.elim
end
end M

/-! M, part 20: dicts with written keys as records; targets that store. -/
namespace M
open PySem L2
open PyProof.Rows (envOfC)
theorem keyOf_inj {a b : Str} (h : keyOf a = keyOf b) : a = b := by
  have key : ∀ x : Str, (∃ c, x.cps.toList = [c] ∧ 2000000 ≤ c ∧ keyOf x = .inl ((c : Int) - 2000000)) ∨ keyOf x = .inr x := fun x => by
    unfold keyOf
    split
    · rename_i c e
      by_cases hc : 2000000 ≤ c
      · rw [if_pos hc]; exact .inl ⟨c, e, hc, rfl⟩
      · rw [if_neg hc]; exact .inr rfl
    · exact .inr rfl
  rcases key a with ⟨c, e, hc, k⟩ | k <;> rcases key b with ⟨c', e', hc', k'⟩ | k'
  · rw [k, k'] at h
    injection h with h
    have : c = c' := by omega
    subst this
    have := e.trans e'.symm
    cases a with | mk a => cases b with | mk b =>
    have : a = b := Array.toList_inj.mp this
    rw [this]
  · rw [k, k'] at h; cases h
  · rw [k, k'] at h; cases h
  · rw [k, k'] at h; injection h
abbrev kvO (fs : List (Str × V)) : List (Key × V) := fs.map fun p => (keyOf p.1, p.2)
theorem valV_kv (f : Str) : ∀ fs : List (Str × V), valV (kvO fs) (keyOf f) = fs.lookup f
  | [] => rfl
  | (k, v) :: r => by
    rw [List.lookup_cons]
    show valV ((keyOf k, v) :: kvO r) (keyOf f) = _
    by_cases h : k = f
    · subst h
      rw [valV_pos (p := ((keyOf k : Key), v)) rfl]; simp
    · rw [valV_neg (p := ((keyOf k : Key), v)) (fun z => h (keyOf_inj z)), valV_kv f r]
      have : (f == k) = false := by simpa using (fun z : f = k => h z.symm)
      rw [this]
theorem any_kv (f : Str) (fs : List (Str × V)) : ((kvO fs).any fun kv => decide (kv.1 = (keyOf f : Key))) = (fs.lookup f).isSome := by rw [valV_any, valV_kv]
theorem putF_kv (f : Str) (v : V) (fs : List (Str × V)) (hn : (fs.map (·.1)).Nodup) : putK (kvO fs) (keyOf f) v = kvO (putF f v fs) := by
  unfold putK
  rw [any_kv]
  induction fs with
  | nil => rfl
  | cons p r ih =>
    obtain ⟨k, x⟩ := p
    obtain ⟨h1, h2⟩ := List.nodup_cons.mp hn
    have ih := ih h2
    rw [show putF f v ((k, x) :: r) = (if k = f then (k, v) :: r else (k, x) :: putF f v r) from rfl]
    by_cases hk : k = f
    · subst hk
      have e1 : (List.lookup k ((k, x) :: r)).isSome = true := by simp
      rw [e1, if_pos rfl, if_pos rfl]
      show (kvO ((k, x) :: r)).map (fun kv => if kv.1 = keyOf k then (kv.1, v) else kv) = (keyOf k, v) :: kvO r
      rw [show kvO ((k, x) :: r) = (keyOf k, x) :: kvO r from rfl, List.map_cons, if_pos rfl]
      congr 1
      have eid : (kvO r).map (fun kv => if kv.1 = keyOf k then (kv.1, v) else kv) = (kvO r).map id := List.map_congr_left fun q hq => by
        obtain ⟨q', hq', rfl⟩ := List.mem_map.mp hq
        rw [if_neg]
        · rfl
        intro z
        exact h1 (List.mem_map.mpr ⟨q', hq', keyOf_inj z⟩)
      rw [eid, List.map_id]
    · have e1 : List.lookup f ((k, x) :: r) = r.lookup f := by
        rw [List.lookup_cons]
        have : (f == k) = false := by simpa using (fun z : f = k => hk z.symm)
        rw [this]
      rw [e1, if_neg hk]
      rw [show kvO ((k, x) :: putF f v r) = (keyOf k, x) :: kvO (putF f v r) from rfl, ← ih]
      by_cases hs : (r.lookup f).isSome = true
      · rw [if_pos hs, if_pos hs]
        show (kvO ((k, x) :: r)).map _ = _
        rw [show kvO ((k, x) :: r) = (keyOf k, x) :: kvO r from rfl, List.map_cons, if_neg (fun z => hk (keyOf_inj z))]
      · rw [if_neg hs, if_neg hs]
        rfl
theorem recO_dk {K : PySem.W.Frag} {r : Rec} {fs : List (Str × V)} {o : HO} (h : RecO K r fs o) (e : r.c = "") : o = .dK (kvO fs) := by
  unfold RecO at h
  rw [e, if_neg (by decide), if_pos rfl] at h
  exact h
theorem recO_dkof {K : PySem.W.Frag} {r : Rec} {fs : List (Str × V)} (e : r.c = "") : RecO K r fs (.dK (kvO fs)) := by
  unfold RecO
  rw [e, if_neg (by decide), if_pos rfl]
theorem dict_at {K : PySem.W.Frag} {W : Wd} {s : Sto} (ok : Ok K W s) {d : D} {n : Nat} {r : Rec} {v : V} (hv : Dr K W.ι W.F v d) (h : recOf "" s d = some (n, r)) :
    ∃ a fs, v = .ref a ∧ W.H a = some (.dK (kvO fs)) ∧ fs.map (·.1) = r.fs.map (·.1) ∧
    (∀ x d, r.fs.lookup x = some (.val d) → ∃ v, fs.lookup x = some v ∧ Dr K W.ι W.F v d) ∧
    (∀ f v d, Dr K W.ι W.F v d → Step W (W.up a (.dK (kvO (putF f v fs)))) ∧ Ok K (W.up a (.dK (kvO (putF f v fs)))) (s.set n { r with fs := putS f (.val d) r.fs })) := by
  obtain ⟨e1, e2, e3⟩ := recOf_to h
  obtain ⟨a, rfl, ha⟩ := refOf_dr hv e1
  obtain ⟨a', fs, o, ha', ho, hro, hk, h1, h2, h3, h4⟩ := rec_at ok e2
  have ea : a' = a := Option.some.inj (ha'.symm.trans ha)
  subst ea
  obtain rfl := recO_dk hro e3
  exact ⟨a', fs, rfl, ho, hk, h1, fun f v d hd => h3 f v d _ hd (recO_dkof e3)⟩
def ndK (s : Sto) (d : D) : Bool := match recOf "" s d with
  | some p => decide ((p.2.fs.map (·.1)).Nodup)
  | none => false
section
variable {X : Cx} {Wx : WX} {pos : Pos} {a b e o : Expr} {f m m1 m2 mo mv : XE} {g : XA}
theorem units1 {k : Nat} {A : Around} (hr : Room k A) : A.units + 1 < cLine := hu_of hr
/-- d['f'] -/
theorem d_get {k : Nat} {fl : Str} {j p2} (hr : Room k X.A) (he : PE X o (GX X.K (aft (rD X.K)) Wx m)) (hs : NoSl (.Constant (.str fl) j p2) := by exact fun _ _ => rfl) (hkf : keyOf fl = .inr fl := by rfl) :
    PE X (.Subscript o (.Constant (.str fl) j p2) pos) (GX X.K (aft (rD X.K)) Wx (xFld "" fl m)) := peImp (pe_dget (hu_of hr) he pe_str hs) fun σ H Q ⟨W0, W, ρ, s, e1, ok, en, p⟩ => by
  subst e1
  refine GX.mk ok en (Post.mono p.bind fun d s1 W1 st1 ok1 p1 v hv => ?_)
  obtain ⟨d', e, q⟩ := p1.lift
  obtain ⟨n, r, e1, e2⟩ := fldD_to e
  obtain ⟨a, fs, rfl, ho, _, h1, _⟩ := dict_at ok1 hv e1
  obtain ⟨v', g1, g2⟩ := h1 _ _ e2
  refine ⟨a, v', rfl, ?_, q W1 (Step.refl _) ok1 v' g2⟩
  have := DGet.k (k := keyOf fl) ho
  rw [valV_kv, g1, hkf] at this
  exact this
/-- the store behind d['f'] = v -/
def dPut (fl : Str) (s : Sto) (d : D) (v : D) : Option Sto := if ndK s d = true then fldPut "" fl s d (.val v) else none
def sPut (fl : Str) (mo mv : XE) : XS := stX mv fun v => stX mo fun d ρ s => nextS ρ (dPut fl s d v)
theorem dPut_to {fl : Str} {s s' : Sto} {d v : D} (h : dPut fl s d v = some s') : ∃ n r, recOf "" s d = some (n, r) ∧ r.fs.length < 900 ∧ (r.fs.map (·.1)).Nodup ∧ s' = s.set n { r with fs := putS fl (.val v) r.fs } := by
  unfold dPut at h
  split at h
  · rename_i hn
    obtain ⟨n, r, e1, e2, e3⟩ := fldPut_to h
    unfold ndK at hn
    rw [e1] at hn
    exact ⟨n, r, e1, e2, of_decide_eq_true hn, e3⟩
  · cases h
theorem dput_ok {K : PySem.W.Frag} {W : Wd} {s s' : Sto} (ok : Ok K W s) {d y : D} {v w : V} {fl : Str} (hv : Dr K W.ι W.F v d) (hw : Dr K W.ι W.F w y) (h : dPut fl s d y = some s') :
    ∃ a H', v = .ref a ∧ DPut W.H a (kV (keyOf fl)) w H' ∧ ∃ W', W'.H = H' ∧ Step W W' ∧ Ok K W' s' := by
  obtain ⟨n, r, e1, e2, e3, rfl⟩ := dPut_to h
  obtain ⟨a, fs, rfl, ho, hk, _, h3⟩ := dict_at ok hv e1
  obtain ⟨a1, a2⟩ := h3 fl w y hw
  refine ⟨a, _, rfl, DPut.k (k := keyOf fl) ho ?_, W.up a (.dK (kvO (putF fl w fs))), ?_, a1, a2⟩
  · have h1 := keys_len hk
    have h2 : sizeLine = 16777216 := sizeLine_eq
    show (fs.map _).length < _
    rw [List.length_map]; omega
  · show upd W.H a _ = _
    rw [putF_kv fl w fs (by rw [hk]; exact e3)]
theorem p_put {k : Nat} {fl : Str} {j p2} {pos' : Pos} (hr : Room k X.A) (ho : PE X o (GX X.K (aft (rD X.K)) Wx mo)) (hv : PE X e (GX X.K (aft (rD X.K)) Wx mv))
    (hs : swapsWith e (some (.Subscript o (.Constant (.str fl) j p2) pos')) pos.line X.env = pure false := by rfl) (hkf : keyOf fl = .inr fl := by rfl) : L2.PS X (.Assign [.Subscript o (.Constant (.str fl) j p2) pos'] e pos) (GS X.K Wx (sPut fl mo mv)) := psImp (ps_dput (hu_of hr) ho pe_str hv hs) fun D σ H ⟨W0, W, ρ, s, e1, h, p⟩ => by
  subst e1
  refine GX.mk h.ok h.en (Post.mono (PS.x h p) fun d s1 W1 st1 ok1 ⟨h1, q1⟩ v hv => ?_)
  refine GX.mk h1.ok h1.en (Post.mono (PS.x h1 q1) fun d2 s2 W2 st2 ok2 ⟨h2, q2⟩ v2 hv2 => ?_)
  cases ef : dPut fl s2 d2 d with
  | none => unfold nextS at q2; rw [ef] at q2; exact q2.elim
  | some s3 =>
    unfold nextS at q2
    rw [ef] at q2
    obtain ⟨a, H', rfl, g, W3, w1, w2, w3⟩ := dput_ok ok2 hv2 (st2.dr hv) ef
    rw [hkf] at g
    subst w1
    exact ⟨a, W3.H, rfl, g, q2 σ W3 w2.mon (h2.to w2 w3)⟩
/-- d['f'] += e (ints) -/
def augI (put : Sto → D → Option Sto) (i : Int) : D → XS := fun y ρ s => match y with
  | .int j => nextS ρ (put s (.int (i + j)))
  | _ => .bad
def sAugD (fl : Str) (mo mv : XE) : XS := stX mo fun d ρ s => match fldD "" fl s d with
  | some (.int i) => stX mv (augI (fun s y => dPut fl s d y) i) ρ s
  | _ => .bad
theorem p_augD {k : Nat} {fl : Str} {j p2} {tpos : Pos} (hr : Room k X.A) (ho : PE X o (GX X.K (aft (rD X.K)) Wx mo)) (hv : PE X e (GX X.K (aft (rD X.K)) Wx mv))
    (ha : ∀ ov iv new, augStore (.Constant (.str fl) j p2) ov iv new = (do holding [new, ov, iv] (setItem ov iv new); release [new, ov, iv] []; pure .next) := by intro _ _ _; rfl) (hkf : keyOf fl = .inr fl := by rfl) :
    L2.PS X (.AugAssign (.Subscript o (.Constant (.str fl) j p2) tpos) .Add e pos) (GS X.K Wx (sAugD fl mo mv)) := psImp (ps_daug (hu_of hr) ho pe_str hv in_add ha) fun D σ H ⟨W0, W, ρ, s, e1, h, p⟩ => by
  subst e1
  refine GX.mk h.ok h.en (Post.mono (PS.x h p) fun d s1 W1 st1 ok1 ⟨h1, q1⟩ v hv => ?_)
  split at q1
  · rename_i i ef
    obtain ⟨n, r, e1, e2⟩ := fldD_to ef
    obtain ⟨a, fs, rfl, hH, _, k1, _⟩ := dict_at ok1 hv e1
    obtain ⟨v', g1, g2⟩ := k1 _ _ e2
    cases g2
    refine ⟨a, .int i, rfl, ?_, GX.mk h1.ok h1.en (Post.mono (PS.x h1 q1) fun y s2 W2 st2 ok2 ⟨h2, q2⟩ w hw => ?_)⟩
    · have := DGet.k (k := keyOf fl) hH
      rw [valV_kv, g1, hkf] at this
      exact this
    · cases hw with
      | int jj =>
        refine ⟨i, jj, rfl, rfl, ?_⟩
        have q3 : M.PS X.K Wx W0 W2 D (nextS ρ (dPut fl s2 d (.int (i + jj)))) := q2
        cases ef : dPut fl s2 d (.int (i + jj)) with
        | none => rw [ef] at q3; exact q3.elim
        | some s3 =>
          rw [ef] at q3
          obtain ⟨a', H', ea, g, W3, w1, w2, w3⟩ := dput_ok ok2 (st2.dr hv) (.int (i + jj)) ef
          rw [hkf] at g
          cases ea
          subst w1
          exact ⟨W3.H, g, q3 σ W3 w2.mon (h2.to w2 w3)⟩
      | _ => exact q2.elim
  · exact q1.elim
/-- o.f += e (ints) -/
def sAugF (c fl : Str) (mo mv : XE) : XS := stX mo fun d ρ s => match fldD c fl s d with
  | some (.int i) => stX mv (augI (fun s y => fldPut c fl s d (.val y)) i) ρ s
  | _ => .bad
theorem p_augF {c fl : Str} {tpos : Pos} (hc : Cls X.K (He.ga X.K c)) (hn : NoAttr X.K (He.ga X.K c) fl) (ho : PE X o (GX X.K (aft (rD X.K)) Wx mo)) (hv : PE X e (GX X.K (aft (rD X.K)) Wx mv)) (hne : insC c = true := by decide) :
    L2.PS X (.AugAssign (.Attribute o fl tpos) .Add e pos) (GS X.K Wx (sAugF c fl mo mv)) := psImp (ps_fldaug ho hv in_add) fun D σ H ⟨W0, W, ρ, s, e1, h, p⟩ => by
  subst e1
  refine GX.mk h.ok h.en (Post.mono (PS.x h p) fun d s1 W1 st1 ok1 ⟨h1, q1⟩ v hv => ?_)
  split at q1
  · rename_i i ef
    obtain ⟨n, r, e1, e2⟩ := fldD_to ef
    obtain ⟨a, dx, fs, rfl, hH, _, k1, _⟩ := ins_at ok1 hv e1 hne
    obtain ⟨v', g1, g2⟩ := k1 _ _ e2
    cases g2
    refine ⟨a, _, dx, fs, .int i, rfl, hH, hc, hn, g1, GX.mk h1.ok h1.en (Post.mono (PS.x h1 q1) fun y s2 W2 st2 ok2 ⟨h2, q2⟩ w hw => ?_)⟩
    cases hw with
    | int jj =>
      refine ⟨i, jj, rfl, rfl, ?_⟩
      have q3 : M.PS X.K Wx W0 W2 D (nextS ρ (fldPut c fl s2 d (.val (.int (i + jj))))) := q2
      cases ef : fldPut c fl s2 d (.val (.int (i + jj))) with
      | none => rw [ef] at q3; exact q3.elim
      | some s3 =>
        rw [ef] at q3
        obtain ⟨n2, r2, f1, hz, rfl⟩ := fldPut_to ef
        obtain ⟨a', dx', fs', ea, hH', hk', _, _, h3, _⟩ := ins_at ok2 (st2.dr hv) f1 hne
        cases ea
        obtain ⟨a1, a2⟩ := h3 fl (.int (i + jj)) _ (.int (i + jj))
        exact ⟨dx', fs', hH', by rw [keys_len hk']; omega, q3 σ (W2.up a _) a1.mon (h2.to a1 a2)⟩
    | _ => exact q2.elim
  · exact q1.elim

/-! ### a display -/
/-- a new record at a cell that stands -/
theorem add_rec {K : PySem.W.Frag} {W Wb : Wd} {s : Sto} (ok : Ok K W s) {p : Addr} {o : HO} {r : Rec} {fs : List (Str × V)} (sb : Step Wb W) (hp : Wb.H p = none) (hpn : W.H p ≠ none) (hpf : W.F p = none) (hpt : ¬ W.T p) (hro : RecO K r fs o) (hk : fs.map (·.1) = r.fs.map (·.1))
    (hs : ∀ x sl, r.fs.lookup x = some sl → ∃ d v, sl = .val d ∧ fs.lookup x = some v ∧ Dr K W.ι W.F v d) :
    ∃ W', W'.H = upd W.H p o ∧ Step Wb W' ∧ Ok K W' (s ++ [r]) ∧ W'.ι = W.ι ++ [p] := by
  have hpi : p ∉ W.ι := fun hm => by
    obtain ⟨n, hn⟩ := List.mem_iff_getElem?.mp hm
    have hl : n < s.length := by rw [← ok.st.len]; exact (List.getElem?_eq_some_iff.mp hn).1
    obtain ⟨fa, h1, _⟩ := ok.st.ex
    exact hpt (h1 n _ p (List.getElem?_eq_getElem hl) hn).t
  have hdom : ∀ b, W.H b ≠ none → upd W.H p o b ≠ none := fun b hb => by
    by_cases e : b = p
    · subst e; rw [upd_same]; exact fun z => by cases z
    · rw [upd_ne e]; exact hb
  have htp : ∀ b, W.T b → b ≠ p := fun b hb z => hpt (by rw [← z]; exact hb)
  refine ⟨⟨W.ι ++ [p], W.F, fun b => W.T b ∨ b = p, upd W.H p o⟩, rfl, ⟨sb.pre.trans (List.prefix_append _ _), sb.exF, fun b h => hdom b (sb.dom b h), fun b u h hnt => ?_, fun b h => ?_, sb.newF⟩, ⟨fun b u hb => ?_, fun b h => ?_, ?_⟩, rfl⟩
  · show upd W.H p o b = some u
    rw [upd_ne (fun z => by rw [z, hp] at h; cases h)]; exact sb.keep b u h hnt
  · rcases h with h | h
    · exact sb.newT b h
    · subst h; exact .inr hp
  · show upd W.H p o b = some u
    rw [upd_ne (fun z => by rw [z, hpf] at hb; cases hb)]; exact ok.ex b u hb
  · rcases h with h | h
    · exact hdom b (ok.td b h)
    · subst h; exact hdom b hpn
  · obtain ⟨fa, h1, h2⟩ := ok.st.ex
    have hnr : ∀ x xs, r.fs.lookup x ≠ some (.own xs) := fun x xs z => by
      obtain ⟨d, v, e, _⟩ := hs x _ z
      cases e
    refine ⟨by simp [ok.st.len], ?_, fa, fun n rn a e1 e2 => ?_, fun n y ys rn n' y' ys' rn' e1 e2 e3 e4 => ?_⟩
    · rw [List.nodup_append]
      refine ⟨ok.st.nd, by simp, fun a ha b hb => ?_⟩
      have : b = p := by simpa using hb
      subst this
      exact fun z => hpi (by rw [← z]; exact ha)
    · by_cases hn : n < s.length
      · rw [List.getElem?_append_left hn] at e1
        rw [List.getElem?_append_left (by rw [ok.st.len]; exact hn)] at e2
        obtain ⟨t, f, fs', o', ho, hro', hk', hs'⟩ := h1 n rn a e1 e2
        refine ⟨.inl t, f, fs', o', ?_, hro', hk', fun y sl ey => ?_⟩
        · show upd W.H p o a = _; rw [upd_ne (htp a t)]; exact ho
        · have q := hs' y sl ey
          cases sl with
          | no => trivial
          | val d =>
            obtain ⟨v, q1, q2⟩ := q
            exact ⟨v, q1, q2.mono (List.prefix_append _ _) (Ex.refl _)⟩
          | own xs =>
            obtain ⟨q1, q2, q3, vs, q4, q5⟩ := q
            refine ⟨q1, .inl q2, q3, vs, ?_, q5.mono (List.prefix_append _ _) (Ex.refl _)⟩
            show upd W.H p o _ = _; rw [upd_ne (htp _ q2)]; exact q4
      · have hl : s.length = W.ι.length := ok.st.len.symm
        rw [List.getElem?_append_right (by omega)] at e1 e2
        have hn0 : n - s.length = 0 := by
          have := (List.getElem?_eq_some_iff.mp e1).1
          simp at this; omega
        rw [hn0] at e1
        rw [← hl, hn0] at e2
        simp at e1 e2
        subst e1 e2
        refine ⟨.inr rfl, hpf, fs, o, upd_same, hro, hk, fun y sl ey => ?_⟩
        obtain ⟨d, v, rfl, q1, q2⟩ := hs y sl ey
        exact ⟨v, q1, q2.mono (List.prefix_append _ _) (Ex.refl _)⟩
    · have old : ∀ (n : Nat) (rn : Rec) (y : Str) (ys : List D), (s ++ [r])[n]? = some rn → rn.fs.lookup y = some (.own ys) → s[n]? = some rn := fun n rn y ys e1 e2 => by
        by_cases hn : n < s.length
        · rw [List.getElem?_append_left hn] at e1; exact e1
        · rw [List.getElem?_append_right (by omega)] at e1
          have hn0 : n - s.length = 0 := by
            have := (List.getElem?_eq_some_iff.mp e1).1
            simp at this; omega
          rw [hn0] at e1
          simp at e1
          subst e1
          exact absurd e2 (hnr y ys)
      exact h2 n y ys rn n' y' ys' rn' (old _ _ _ _ e1 e2) e2 (old _ _ _ _ e3 e4) e4
/-- the pairs of a display -/
def GP (K : PySem.W.Frag) (Wx : WX) (ks : List Str) (g : XA) : St → Hp → (List (V × V) → Hp → Prop) → Prop := fun σ H Q => ∃ W0 W ρ s, W.H = H ∧ Ok K W s ∧ EnvR K W0 W σ ρ ∧
  Post K W (g ρ s) (fun ds _ W' => ∀ vs, DrAll K W'.ι W'.F vs ds → vs.length = ks.length → Q (List.zipWith (fun k v => (V.str k, v)) ks vs) W'.H) (wexc K Wx σ)
def RPs (X : Cx) (Wx : WX) (p2 : Pos) (keys : List (Option Expr)) (values : List Expr) (ks : List Str) (g : XA) : Prop := ∃ trs, PPs X p2 keys values trs ∧ ∀ σ H Q, GP X.K Wx ks g σ H Q → tPairs trs σ H Q
theorem rp_nil {p2 : Pos} : RPs X Wx p2 [] [] [] aN := ⟨[], pps_nil, fun σ H Q ⟨W0, W, ρ, s, e1, ok, en, p⟩ => by
  subst e1
  exact post_ok ok p [] .nil rfl⟩
theorem rp_cons {p2 : Pos} {k : Str} {j pk} {keys : List (Option Expr)} {values : List Expr} {ks : List Str} (hv : PE X e (GX X.K (aft (rD X.K)) Wx f)) (h : RPs X Wx p2 keys values ks g) : RPs X Wx p2 (some (.Constant (.str k) j pk) :: keys) (e :: values) (k :: ks) (aC f g) := by
  obtain ⟨trs, h1, h2⟩ := h
  refine ⟨_, pps_cons pe_str hv h1, fun σ H Q ⟨W0, W, ρ, s, e1, ok, en, p⟩ => ?_⟩
  subst e1
  show GX X.K (aft (rD X.K)) Wx f σ W.H fun y H2 => tPairs trs σ H2 fun ps H3 => Q ((.str k, y) :: ps) H3
  refine GX.mk ok en (Post.mono p.bind fun d s1 W1 st1 ok1 p1 v hv => ?_)
  refine h2 σ _ _ ⟨W0, W1, ρ, s1, rfl, ok1, en.step st1, Post.mono (Post.bind p1) fun ds s2 W2 st2 ok2 p2 vs hvs hl => ?_⟩
  exact post_ok ok2 p2 (v :: vs) (.cons (st2.dr hv) hvs) (by simp [hl])
def xRec (ks : List Str) (g : XA) : XE := fun ρ s => (g ρ s).bind fun ds s1 => if ds.length = ks.length then .ok (refD s1.length) (s1 ++ [⟨"", ks.zip (ds.map .val)⟩]) else .bad
theorem mergeK_nodup : ∀ (fs acc : List (Key × V)), ((acc ++ fs).map (·.1)).Nodup → mergeK acc fs = acc ++ fs
  | [], acc, _ => by simp [mergeK]
  | p :: r, acc, h => by
    have hn : valV acc p.1 = none := by
      cases e : valV acc p.1 with
      | none => rfl
      | some v =>
        exfalso
        have ha : (acc.any fun kv => decide (kv.1 = p.1)) = true := by rw [valV_any, e]; rfl
        obtain ⟨q, hq, hqe⟩ := List.any_eq_true.mp ha
        have hqe := of_decide_eq_true hqe
        rw [List.map_append, List.nodup_append] at h
        exact h.2.2 q.1 (List.mem_map.mpr ⟨q, hq, rfl⟩) p.1 (List.mem_map.mpr ⟨p, List.mem_cons_self, rfl⟩) hqe
    have e1 : putK acc p.1 p.2 = acc ++ [p] := by
      unfold putK
      rw [valV_any, hn]
      rfl
    show mergeK (putK acc p.1 p.2) r = _
    rw [e1, mergeK_nodup r (acc ++ [p]) (by simpa using h)]
    simp
theorem lookup_zip : ∀ (ks : List Str) (vs : List V) (ds : List D) {K : PySem.W.Frag} {ι : List Addr} {F : Hp}, DrAll K ι F vs ds → ∀ x sl, (ks.zip (ds.map Slot.val)).lookup x = some sl → ∃ d v, sl = .val d ∧ (ks.zip vs).lookup x = some v ∧ Dr K ι F v d
  | [], _, _, _, _, _, _, x, sl, h => by cases h
  | k :: ks, _, _, _, _, _, .nil, x, sl, h => by cases h
  | k :: ks, _, _, _, _, _, .cons (v := v) (d := d) r1 r2, x, sl, h => by
    rw [List.map_cons, List.zip_cons_cons, List.lookup_cons] at h
    rw [List.zip_cons_cons, List.lookup_cons]
    cases q : x == k with
    | true => rw [q] at h; cases h; exact ⟨d, v, rfl, rfl, r1⟩
    | false => rw [q] at h; exact lookup_zip ks _ _ r2 x sl h
theorem d_rec {keys : List (Option Expr)} {values : List Expr} {ks : List Str} (h : RPs X Wx pos keys values ks g) (hn : ks.Nodup := by decide) (hall : keys.all (·.isSome) = true := by rfl) (hl : keys.length = values.length := by rfl) (h0 : keys ≠ [] := by exact fun z => by cases z) (h15 : keys.length ≤ 15 := by decide) (hk : ks.length ≤ 15 := by decide) (hkf : ks.map keyOf = ks.map Sum.inr := by rfl) :
    PE X (.Dict keys values pos) (GX X.K (aft (rD X.K)) Wx (xRec ks g)) := by
  obtain ⟨trs, h1, h2⟩ := h
  refine peImp (pe_disp h1 hall hl h0 h15) fun σ H Q ⟨W0, W, ρ, s, e1, ok, en, q⟩ => ?_
  subst e1
  intro p hp
  obtain ⟨a1, a2⟩ := step_new (o := .dK []) ok hp
  refine h2 σ _ _ ⟨W0, W.new p (.dK []), ρ, s, rfl, a2, en.step a1, Post.mono (Post.bindB q a1) fun ds s1 W1 st1 ok1 q1 vs hvs hl => ?_⟩
  have hP := st1.keep p _ upd_same (tnone ok hp)
  have hpne : (W.new p (.dK [])).H p ≠ none := by
    show upd W.H p _ p ≠ none
    rw [upd_same]; exact fun z => by cases z
  have hF : W1.F p = none := st1.newF p (show W.F p = none from fnone ok hp) hpne (tnone ok hp)
  have hT : ¬ W1.T p := fun z => (st1.newT p z).elim (tnone ok hp) hpne
  have hds : ds.length = ks.length := by rw [← hvs.length]; exact hl
  have q2 : Post X.K W (if ds.length = ks.length then .ok (refD s1.length) (s1 ++ [⟨"", ks.zip (ds.map .val)⟩]) else .bad) (fun d _ W' => ∀ v, aft (rD X.K) W W' v d → Q v W'.H) (wexc X.K Wx σ) := q1
  rw [if_pos hds] at q2
  have em : ∀ (ks : List Str) (vs : List V), vs.length = ks.length → (ks.zip vs).map (·.1) = ks := fun ks vs h => by
    rw [List.map_fst_zip]; omega
  have ez : ∀ (ks : List Str) (vs : List V), ks.map keyOf = ks.map Sum.inr → List.zipWith (fun k v => (V.str k, v)) ks vs = (kvO (ks.zip vs)).map fun kv => (kV kv.1, kv.2) := fun ks => by
    induction ks with
    | nil => intro vs _; rfl
    | cons k ks ih =>
      intro vs hk
      rw [List.map_cons, List.map_cons] at hk
      injection hk with hk1 hk2
      cases vs with
      | nil => rfl
      | cons v vs =>
        rw [List.zipWith_cons_cons, ih vs hk2]
        show _ = (kV (keyOf k), v) :: _
        rw [hk1]
        rfl
  obtain ⟨W3, w1, w2, w3, w4⟩ := add_rec (Wb := W) ok1 (o := .dK (kvO (ks.zip vs))) (r := ⟨"", ks.zip (ds.map .val)⟩) (fs := ks.zip vs) (a1.trans st1) hp (by rw [hP]; exact fun z => by cases z) hF hT (recO_dkof rfl)
    (by rw [em ks vs hl]; show ks = (ks.zip (ds.map Slot.val)).map (·.1); rw [List.map_fst_zip]; simp [hds]) (fun x sl e => lookup_zip ks vs ds hvs x sl e)
  refine ⟨hP, kvO (ks.zip vs), ez ks vs hkf, ?_, ?_⟩
  · show (List.map _ _).length ≤ 15
    rw [List.length_map, List.length_zip]; omega
  · have e2 : mergeK [] (kvO (ks.zip vs)) = kvO (ks.zip vs) := by
      rw [mergeK_nodup _ [] ?_]
      · rfl
      · rw [List.nil_append]
        show ((ks.zip vs).map _ |>.map _).Nodup
        rw [List.map_map]
        have : ((fun p : Key × V => p.1) ∘ fun p : Str × V => ((keyOf p.1 : Key), p.2)) = keyOf ∘ (·.1) := rfl
        rw [this, ← List.map_map, em ks vs hl]
        exact List.Pairwise.map keyOf (fun a b (hab : a ≠ b) z => hab (keyOf_inj z)) hn
    rw [e2, ← w1]
    refine q2 W3 w2 w3 (.ref p) (.robj ?_)
    rw [w4, List.getElem?_append_right (by rw [ok1.st.len]; exact Nat.le_refl _)]
    simp [ok1.st.len]
end
end M

/-! M, part 21: targets that store; items of own lists. -/
namespace M
open PySem L2
open PyProof.Rows (envOfC)
abbrev XH := D → Env → Sto → Option (Env × Sto)
abbrev XHs := List D → Env → Sto → Option (Env × Sto)
def GH (K : PySem.W.Frag) (t : XH) : TG := fun v σ H Q => ∃ W0 W ρ s d, W.H = H ∧ St2 K W0 W σ ρ s ∧ Dr K W.ι W.F v d ∧ ∃ ρ' s', t d ρ s = some (ρ', s') ∧ ∀ σ' W', Mon W W' → St2 K W0 W' σ' ρ' s' → Q σ' W'.H
def GHs (K : PySem.W.Frag) (t : XHs) : TGs := fun vs σ H Q => ∃ W0 W ρ s ds, W.H = H ∧ St2 K W0 W σ ρ s ∧ DrAll K W.ι W.F vs ds ∧ ∃ ρ' s', t ds ρ s = some (ρ', s') ∧ ∀ σ' W', Mon W W' → St2 K W0 W' σ' ρ' s' → Q σ' W'.H
def hN (i : Nat) : XH := fun d ρ s => some (ρ.set i (.val d), s)
def hSub (fl : Str) (i : Nat) : XH := fun d ρ s => (valAt ρ i).bind fun o => (dPut fl s o d).map fun s' => (ρ, s')
def hsN : XHs := fun ds ρ s => match ds with
  | [] => some (ρ, s)
  | _ => none
def hsC (t : XH) (u : XHs) : XHs := fun ds ρ s => match ds with
  | d :: ds => (t d ρ s).bind fun p => u ds p.1 p.2
  | [] => none
def hT (n : Nat) (u : XHs) : XH := fun d ρ s => match d with
  | .tuple ds => if ds.length = n then u ds ρ s else none
  | _ => none
section
variable {X : Cx} {Wx : WX} {pos : Pos} {a b e o tg : Expr} {f m m1 m2 mo mv : XE} {g : XA}
theorem h_name {i : Nat} {x : Str} (hNd : X.N.Nodup) (hi : X.N[i]? = some x := by rfl) (hx : Loc X.env.scope x := by first | exact Or.inl rfl | exact Or.inr rfl)
    (hf : X.fn x = true ∨ X.env.scope.names.lookup x = some .local := by first | exact .inl rfl | exact .inr rfl | assumption) : PG X (.Name x pos) (GH X.K (hN i)) := by
  have h := pg_name (X := X) (pos := pos) hNd hi hx hf
  refine ⟨fun pins s σ H v u Q I r q => h.run pins s σ H v u Q I r ?_⟩
  obtain ⟨W0, W, ρ, s1, d, rfl, st, dr, ρ', s', e, k⟩ := q
  cases e
  exact k _ W (Mon.refl W) ⟨st.st, st.ok, st.en.set dr⟩
theorem h_sub {k : Nat} {fl x : Str} {i : Nat} {j p1 p2} (hr : Room k X.A) (hN : X.N[i]? = some x := by rfl) (hv : Vis X.env.scope x := by first | exact Or.inl rfl | exact Or.inr (Or.inl rfl) | exact Or.inr (Or.inr rfl)) (hd : (x == ("__debug__" : Str)) = false := by decide)
    (hcd : (x == ("__classdict__" : Str)) = false := by decide)
    (ha : ∀ v, assign (.Subscript (.Name x p1) (.Constant (.str fl) j p2) pos) X.env v = (do
      let ov ← holding [v] (eval (.Name x p1) X.env)
      let iv ← holding [v, ov] (eval (.Constant (.str fl) j p2) X.env)
      standAt pos
      holding [v, ov, iv] (setItem ov iv v)
      release [v, ov, iv] []) := by intro _; rfl) (hkf : keyOf fl = .inr fl := by rfl) : PG X (.Subscript (.Name x p1) (.Constant (.str fl) j p2) pos) (GH X.K (hSub fl i)) := by
  have h := pg_sub (X := X) (pos := pos) (pe_var (pos := p1) hN hv hd hcd) (pe_str (x := fl) (pos := p2)) (set_dict (hu_of hr)) ha
  refine ⟨fun pins s σ H v u Q I r q => h.run pins s σ H v u Q I r ?_⟩
  obtain ⟨W0, W, ρ, s1, d, rfl, st, dr, ρ', s', e, kk⟩ := q
  obtain ⟨ov, e1, e⟩ := Option.bind_eq_some_iff.mp (show (valAt ρ i).bind (fun o => (dPut fl s1 o d).map fun s' => (ρ, s')) = some (ρ', s') from e)
  obtain ⟨s2, e2, e3⟩ := Option.map_eq_some_iff.mp e
  cases e3
  obtain ⟨w, g1, g2⟩ := st.en.val i ov (valAt_to e1)
  obtain ⟨a, H', rfl, gp, W3, w1, w2, w3⟩ := dput_ok st.ok g2 dr e2
  rw [hkf] at gp
  subst w1
  exact ⟨_, g1, a, W3.H, rfl, gp, kk σ W3 w2.mon (st.to w2 w3)⟩
theorem hh_nil : PGs X [] (GHs X.K hsN) := by
  refine ⟨fun pins s σ H vs us Q I r q => (pgs_nil (X := X)).run pins s σ H vs us Q I r ?_⟩
  obtain ⟨W0, W, ρ, s1, ds, rfl, st, dr, ρ', s', e, k⟩ := q
  cases dr with
  | nil => cases e; exact ⟨rfl, k _ W (Mon.refl W) st⟩
  | cons _ _ => cases e
theorem hh_cons {es : List Expr} {t : XH} {u : XHs} (h1 : PG X e (GH X.K t)) (h2 : PGs X es (GHs X.K u)) (hs : (assignEach (e :: es) X.env).map (·.2) = assign e X.env :: (assignEach es X.env).map (·.2) := by rfl) : PGs X (e :: es) (GHs X.K (hsC t u)) := by
  refine ⟨fun pins s σ H vs us Q I r q => (pgs_cons h1 h2 hs).run pins s σ H vs us Q I r ?_⟩
  obtain ⟨W0, W, ρ, s1, ds, rfl, st, dr, ρ', s', e, k⟩ := q
  cases dr with
  | nil => cases e
  | cons d1 d2 =>
    obtain ⟨⟨ρ1, sx⟩, e1, e2⟩ := Option.bind_eq_some_iff.mp (show (t _ ρ s1).bind (fun p => u _ p.1 p.2) = some (ρ', s') from e)
    refine ⟨_, _, rfl, W0, W, ρ, s1, _, rfl, st, d1, ρ1, sx, e1, fun σ1 W1 m1 st1 => ?_⟩
    exact ⟨W0, W1, ρ1, sx, _, rfl, st1, m1.drAll d2, ρ', s', e2, fun σ2 W2 m2 st2 => k σ2 W2 (m1.trans m2) st2⟩
theorem hh_tup {es : List Expr} {k n : Nat} {u : XHs} (hc : X.calm = true) (h : PGs X es (GHs X.K u)) (hn : (assignEach es X.env).length = n := by rfl) (hst : (assignEach es X.env).findIdx? (·.1) = none := by rfl) : PG X (.Tuple es k pos) (GH X.K (hT n u)) := by
  refine ⟨fun pins s σ H v w Q I r q => (pg_tup hc h hn hst).run pins s σ H v w Q I r ?_⟩
  obtain ⟨W0, W, ρ, s1, d, rfl, st, dr, ρ', s', e, k⟩ := q
  unfold hT at e
  cases dr with
  | tup h1 h2 =>
    have e' : (if _ then u _ ρ s1 else none) = some (ρ', s') := e
    split at e'
    · rename_i hz
      exact ⟨_, _, rfl, SqT.of (st.ok.ex _ _ h1), by rw [h2.length]; exact hz, W0, W, ρ, s1, _, rfl, st, h2, ρ', s', e', k⟩
    · cases e'
  | _ => cases e
def nextP (o : Option (Env × Sto)) : Res := match o with
  | some p => .next p.1 p.2
  | none => .bad
def sToH (t : XH) (f : XE) : XS := stX f fun d ρ s => nextP (t d ρ s)
theorem p_toH {t : XH} (he : PE X e (GX X.K (aft (rD X.K)) Wx f)) (hg : PG X tg (GH X.K t)) (hs : swapsWithSole [tg] e pos.line X.env = pure false := by rfl) (hw : swappedStores [tg] e X.env = pure none := by rfl)
    (h1 : (assignEach [tg] X.env).map (·.2) = [assign tg X.env] := by rfl) : L2.PS X (.Assign [tg] e pos) (GS X.K Wx (sToH t f)) := psImp (ps_asg he hg hs hw h1) fun D σ H ⟨W0, W, ρ, s, e1, h, q⟩ => by
  subst e1
  refine GX.mk h.ok h.en (Post.mono (PS.x h q) fun d s1 W1 _ _ q1 v hv => ?_)
  obtain ⟨h1, q1⟩ := q1
  cases et : t d ρ s1 with
  | none => unfold nextP at q1; rw [et] at q1; exact q1.elim
  | some p =>
    unfold nextP at q1
    rw [et] at q1
    exact ⟨W0, W1, ρ, s1, d, rfl, h1, hv, p.1, p.2, et, fun σ' W' m' st' => q1 σ' W' m' st'⟩

/-! ### own lists by places -/
def ownAt (ρ : Env) (i : Nat) : Option (List D) := match ρ[i]? with
  | some (.own xs) => some xs
  | _ => none
theorem ownAt_to {ρ : Env} {i : Nat} {xs : List D} (h : ownAt ρ i = some xs) : ρ[i]? = some (.own xs) := by
  unfold ownAt at h
  split at h
  · rename_i e; cases h; exact e
  · cases h
def setAt (i : Nat) (k : D) (v : D) (ρ : Env) : Option Env := match k with
  | .int k => (ownAt ρ i).bind fun xs => (ixN xs.length k).map fun j => ρ.set i (.own (xs.set j v))
  | _ => none
/-- x[e] = v, x a list of the frame's own -/
def sSetI (i : Nat) (mi mv : XE) : XS := stX mv fun v ρ s => match ownAt ρ i with
  | some _ => stX mi (fun k ρ s => toN (setAt i k v ρ) s) ρ s
  | none => .bad
theorem p_setI {i : Nat} {x : Str} {p1 : Pos} {pos' : Pos} (hi : PE X o (GX X.K (aft (rD X.K)) Wx mo)) (hv : PE X e (GX X.K (aft (rD X.K)) Wx mv))
    (hN : X.N[i]? = some x := by rfl) (hvis : Vis X.env.scope x := by first | exact Or.inl rfl | exact Or.inr (Or.inl rfl) | exact Or.inr (Or.inr rfl)) (hd : (x == ("__debug__" : Str)) = false := by decide)
    (hcd : (x == ("__classdict__" : Str)) = false := by decide)
    (ha : ∀ v, assign (.Subscript (.Name x p1) o pos') X.env v = (do
      let ov ← holding [v] (eval (.Name x p1) X.env)
      let iv ← holding [v, ov] (eval o X.env)
      standAt pos'
      holding [v, ov, iv] (setItem ov iv v)
      release [v, ov, iv] []) := by intro _; rfl)
    (hs : swapsWithSole [.Subscript (.Name x p1) o pos'] e pos.line X.env = pure false := by rfl) (hw : swappedStores [.Subscript (.Name x p1) o pos'] e X.env = pure none := by rfl)
    (h1 : (assignEach [.Subscript (.Name x p1) o pos'] X.env).map (·.2) = [assign (.Subscript (.Name x p1) o pos') X.env] := by rfl) :
    L2.PS X (.Assign [.Subscript (.Name x p1) o pos'] e pos) (GS X.K Wx (sSetI i mo mv)) := psImp (ps_asg hv (pg_sub (pe_var hN hvis hd hcd) hi set_list ha) hs hw h1) fun D σ H ⟨W0, W, ρ, s, e1, h, q⟩ => by
  subst e1
  refine GX.mk h.ok h.en (Post.mono (PS.x h q) fun d s1 W1 _ _ q1 v hv => ?_)
  obtain ⟨h1, q1⟩ := q1
  split at q1
  · rename_i xs0 eo
    obtain ⟨a, vs, g1, g2, _⟩ := own_upd h1 (ownAt_to eo)
    refine ⟨_, g1, GX.mk h1.ok h1.en (Post.mono (PS.x h1 q1) fun k s2 W2 st2 _ q2 w hw => ?_)⟩
    obtain ⟨h2, q2⟩ := q2
    cases hw with
    | int k =>
      cases es : setAt i (.int k) d ρ with
      | none => rw [es] at q2; exact q2.elim
      | some ρ2 =>
        rw [es] at q2
        obtain ⟨xs, k1, es⟩ := Option.bind_eq_some_iff.mp (show (ownAt ρ i).bind (fun xs => (ixN xs.length k).map fun j => ρ.set i (.own (xs.set j d))) = some ρ2 from es)
        obtain ⟨j, k2, k3⟩ := Option.map_eq_some_iff.mp es
        subst k3
        obtain ⟨a', vs', g1', g2', _, g4', g5'⟩ := own_upd h2 (ownAt_to k1)
        have ea : a' = a := by rw [g1] at g1'; cases g1'; rfl
        subst ea
        obtain ⟨W3, w1, _, _, w4, w5⟩ := g5' (vs'.set j v) (xs.set j d) (g4'.set j (st2.dr hv))
        refine ⟨a', vs', k, j, rfl, rfl, g2', by rw [g4'.length]; exact k2, ?_⟩
        rw [← w1]
        exact q2 σ W3 w4 w5
    | _ => exact q2.elim
  · exact q1.elim
/-- the item of a list, from the front -/
def rGetL (K : PySem.W.Frag) : V → V → Hp → VK → Prop := fun x y H Q => ∃ p xs i v, x = .ref p ∧ y = .int i ∧ 0 ≤ i ∧ SqL K H p xs ∧ xs[i.toNat]? = some v ∧ Q v H
theorem get_list : PGet X (rGetL X.K) := by
  intro pins s σ H x y v u Q I rx ry h
  obtain ⟨p, xs, i, z, rfl, rfl, h0, hq, he, q⟩ := h
  cases rx
  obtain ⟨t, rfl⟩ := ry
  obtain ⟨its, r, pl, hz⟩ := I.list hq
  obtain ⟨w, ew, rw'⟩ := r.get he
  have hl := r.length
  have hn := line63
  have hlt : i.toNat < xs.length := (List.getElem?_eq_some_iff.mp he).1
  exact PySem.wpAny_getItem_list pl.isList h0 (by omega) (by simpa using ew) ⟨z, H, I, rw', q⟩
/-- x[e] += v (ints) -/
def augAt (i : Nat) (k : Int) (a : Int) : D → XS := fun y ρ s => match y with
  | .int c => toN (setAt i (.int k) (.int (a + c)) ρ) s
  | _ => .bad
def intAt (xs : List D) (k : Int) : Option Int := if 0 ≤ k then (match xs[k.toNat]? with
  | some (.int a) => some a
  | _ => none) else none
def sAugI (i : Nat) (mi mv : XE) : XS := fun ρ s => match ownAt ρ i with
  | some _ => stX mi (fun k ρ s => match k with
    | .int k => (match (ownAt ρ i).bind fun xs => intAt xs k with
      | some a => stX mv (augAt i k a) ρ s
      | none => .bad)
    | _ => .bad) ρ s
  | none => .bad
theorem p_augI {i : Nat} {x : Str} {p1 : Pos} {pos' : Pos} (hi : PE X o (GX X.K (aft (rD X.K)) Wx mo)) (hv : PE X e (GX X.K (aft (rD X.K)) Wx mv))
    (hN : X.N[i]? = some x := by rfl) (hvis : Vis X.env.scope x := by first | exact Or.inl rfl | exact Or.inr (Or.inl rfl) | exact Or.inr (Or.inr rfl)) (hd : (x == ("__debug__" : Str)) = false := by decide)
    (hcd : (x == ("__classdict__" : Str)) = false := by decide)
    (ha : ∀ ov iv new, augStore o ov iv new = (do holding [new, ov, iv] (setItem ov iv new); release [new, ov, iv] []; pure .next) := by intros; rfl) :
    L2.PS X (.AugAssign (.Subscript (.Name x p1) o pos') .Add e pos) (GS X.K Wx (sAugI i mo mv)) := psImp (ps_augS (pe_var hN hvis hd hcd) hi get_list hv ip_add set_list ha) fun D σ H ⟨W0, W, ρ, s, e1, h, q⟩ => by
  subst e1
  unfold sAugI at q
  split at q
  · rename_i xs0 eo
    obtain ⟨a, vs, g1, g2, _⟩ := own_upd h (ownAt_to eo)
    refine ⟨_, g1, GX.mk h.ok h.en (Post.mono (PS.x h q) fun k s2 W2 st2 _ q2 w hw => ?_)⟩
    obtain ⟨h2, q2⟩ := q2
    cases hw with
    | int k =>
      have q3 : M.PS X.K Wx W0 W2 D (match (ownAt ρ i).bind fun xs => intAt xs k with
        | some a => stX mv (augAt i k a) ρ s2
        | none => .bad) := q2
      cases es : (ownAt ρ i).bind fun xs => intAt xs k with
      | none => rw [es] at q3; exact q3.elim
      | some c =>
        rw [es] at q3
        obtain ⟨xs, k1, k2⟩ := Option.bind_eq_some_iff.mp es
        obtain ⟨a', vs', g1', g2', _, g4', _⟩ := own_upd h2 (ownAt_to k1)
        have ea : a' = a := by rw [g1] at g1'; cases g1'; rfl
        subst ea
        unfold intAt at k2
        split at k2
        · rename_i h0
          split at k2
          · rename_i a0 ex
            cases k2
            obtain ⟨z, z1, z2⟩ := g4'.get ex
            cases z2
            refine ⟨a', vs', k, .int c, rfl, rfl, h0, SqL.of g2', z1, GX.mk h2.ok h2.en (Post.mono (PS.x h2 q3) fun y s3 W3 st3 _ q4 w hw => ?_)⟩
            obtain ⟨h3, q4⟩ := q4
            cases hw with
            | int cc =>
              refine ⟨c, cc, rfl, rfl, ?_⟩
              have q5 : M.PS X.K Wx W0 W3 D (toN (setAt i (.int k) (.int (c + cc)) ρ) s3) := q4
              cases ez : setAt i (.int k) (.int (c + cc)) ρ with
              | none => rw [ez] at q5; exact q5.elim
              | some ρ2 =>
                rw [ez] at q5
                obtain ⟨ys, l1, ez⟩ := Option.bind_eq_some_iff.mp (show (ownAt ρ i).bind (fun xs => (ixN xs.length k).map fun j => ρ.set i (.own (xs.set j (.int (c + cc))))) = some ρ2 from ez)
                obtain ⟨j, l2, l3⟩ := Option.map_eq_some_iff.mp ez
                subst l3
                obtain ⟨a2, vs2, f1, f2, _, f4, f5⟩ := own_upd h3 (ownAt_to l1)
                have ea : a2 = a' := by rw [g1] at f1; cases f1; rfl
                subst ea
                obtain ⟨W4, w1, _, _, w4, w5⟩ := f5 (vs2.set j (.int (c + cc))) (ys.set j (.int (c + cc))) (f4.set j (.int _))
                refine ⟨a2, vs2, k, j, rfl, rfl, f2, by rw [f4.length]; exact l2, ?_⟩
                rw [← w1]
                exact q5 σ W4 w4 w5
            | _ => exact q4.elim
          · cases k2
        · cases k2
    | _ => exact q2.elim
  · exact q.elim
end
end M

/-! M, part 22: list(range(n)); dicts that are read alone. -/
namespace M
open PySem L2
section
variable {X : Cx} {Wx : WX} {pos : Pos} {a b e o : Expr} {f m m1 m2 mo mv : XE} {g : XA}
/-! ### list(range(n)) -/
def rgL (n : Int) : Option D := if (rngOk n && decide (n ≤ 4096)) = true then some (.list (rngD 0 n.toNat)) else none
def lrD (d : D) : Option D := match d with
  | .int n => rgL n
  | _ => none
theorem drAll_rng {K : PySem.W.Frag} {ι : List Addr} {F : Hp} (lo : Int) : ∀ ns : List Nat, DrAll K ι F (ns.map fun i => V.int (lo + (i : Nat))) (ns.map fun (i : Nat) => PyData.int (lo + (i : Int)))
  | [] => .nil
  | n :: r => .cons (.int _) (drAll_rng lo r)
theorem n_lrg {p p1 p2 : Pos} (hc : X.calm = true) (hg : Gl X "list") (hm : X.mg "list" = none) (hg2 : Gl X "range") (hm2 : X.mg "range" = none) (ha : PE X a (GX X.K (aft (rD X.K)) Wx f))
    (na : starEach [a] X.env = (false, eval a X.env) :: starEach [] X.env := by rfl) (nb : starEach [.Call (.Name "range" p1) [a] [] p2] X.env = (false, eval (.Call (.Name "range" p1) [a] [] p2) X.env) :: starEach [] X.env := by rfl) :
    PE X (.Call (.Name "list" p) [.Call (.Name "range" p1) [a] [] p2] [] pos) (GX X.K (rN X.K) Wx (x1 lrD f)) := peImp (pe_listRg hc hg hm (prg_1 hg2 hm2 ha na) nb) fun σ H Q ⟨W0, W, ρ, s, e1, ok, en, p⟩ => by
  subst e1
  show GX X.K (aft (rD X.K)) Wx f σ W.H fun x H1 => ∃ n, x = .int n ∧ (RgOk 0 n ∧ ∀ q, H1 q = none → Q (.ref q) (upd H1 q (.lst (rgV 0 n))))
  refine GX.mk ok en (Post.mono p.bind fun d s1 W1 st1 ok1 p1 v hv => ?_)
  obtain ⟨d', e, q⟩ := p1.lift
  cases hv with
  | int n =>
    have e' : rgL n = some d' := e
    unfold rgL at e'
    split at e'
    · rename_i hz
      rw [Bool.and_eq_true] at hz
      have h1 := rngOk_to hz.1
      have h2 := of_decide_eq_true hz.2
      cases e'
      refine ⟨n, rfl, ⟨by omega, by omega, h1.1, h1.2, by omega⟩, fun q' hq => ?_⟩
      have dr : DrAll X.K W1.ι W1.F (rgV 0 n) (rngD 0 n.toNat) := by
        unfold rgV rngD
        rw [show n - 0 = n by omega]
        exact drAll_rng 0 _
      obtain ⟨a1, a2, a3⟩ := new_lst ok1 hq dr
      exact q _ a1 a2 _ (a3.back st1)
    · cases e'
  | _ => cases e
/-! ### dicts that are read alone -/
theorem freezeO {K : PySem.W.Frag} {W W' : Wd} {s : Sto} {p : Addr} {o : HO} (st : Step W W') (ok : Ok K W' s) (h1 : W.H p = none) (h2 : W'.H p = some o) (h3 : W'.F p = none) (h4 : ¬ W'.T p) :
    Step W { W' with F := upd W'.F p o } ∧ Ok K { W' with F := upd W'.F p o } s := by
  have hx : Ex W'.F (upd W'.F p o) := Ex.new h3
  refine ⟨⟨st.pre, st.exF.trans hx, st.dom, st.keep, st.newT, fun b q1 q2 q3 => ?_⟩, ⟨fun a u q => ?_, ok.td, ?_⟩⟩
  · show upd W'.F p o b = none
    rw [upd_ne (fun z => q2 (by rw [z]; exact h1))]
    exact st.newF b q1 q2 q3
  · have q' : upd W'.F p o a = some u := q
    by_cases ha : a = p
    · subst ha
      rw [upd_same] at q'
      show W'.H a = some u
      rw [h2]; exact q'
    · rw [upd_ne ha] at q'
      exact ok.ex _ _ q'
  · exact ok.st.kept rfl (fun _ h => h) hx (fun b hb q => by show upd W'.F p o b = none; rw [upd_ne (fun z => h4 (by rw [← z]; exact hb))]; exact q) fun _ _ _ h => h
/-- a dict with written keys -/
def xDct (ks : List Str) (g : XA) : XE := fun ρ s => (g ρ s).bind fun ds s1 => if ds.length = ks.length then .ok (dctD ks ds) s1 else .bad
theorem d_dct {keys : List (Option Expr)} {values : List Expr} {ks : List Str} (h : RPs X Wx pos keys values ks g) (hn : ks.Nodup := by decide) (hall : keys.all (·.isSome) = true := by rfl) (hl : keys.length = values.length := by rfl) (h0 : keys ≠ [] := by exact fun z => by cases z) (h15 : keys.length ≤ 15 := by decide) (hk : ks.length ≤ 15 := by decide) (hkf : ks.map keyOf = ks.map Sum.inr := by rfl) :
    PE X (.Dict keys values pos) (GX X.K (aft (rD X.K)) Wx (xDct ks g)) := by
  obtain ⟨trs, h1, h2⟩ := h
  refine peImp (pe_disp h1 hall hl h0 h15) fun σ H Q ⟨W0, W, ρ, s, e1, ok, en, q⟩ => ?_
  subst e1
  intro p hp
  obtain ⟨a1, a2⟩ := step_new (o := .dK []) ok hp
  refine h2 σ _ _ ⟨W0, W.new p (.dK []), ρ, s, rfl, a2, en.step a1, Post.mono (Post.bindB q a1) fun ds s1 W1 st1 ok1 q1 vs hvs hl => ?_⟩
  have hP := st1.keep p _ upd_same (tnone ok hp)
  have hpne : (W.new p (.dK [])).H p ≠ none := by
    show upd W.H p _ p ≠ none
    rw [upd_same]; exact fun z => by cases z
  have hF : W1.F p = none := st1.newF p (show W.F p = none from fnone ok hp) hpne (tnone ok hp)
  have hT : ¬ W1.T p := fun z => (st1.newT p z).elim (tnone ok hp) hpne
  have hds : ds.length = ks.length := by rw [← hvs.length]; exact hl
  have q2 : Post X.K W (if ds.length = ks.length then .ok (dctD ks ds) s1 else .bad) (fun d _ W' => ∀ v, aft (rD X.K) W W' v d → Q v W'.H) (wexc X.K Wx σ) := q1
  rw [if_pos hds] at q2
  have em : ∀ (ks : List Str) (vs : List V), vs.length = ks.length → (ks.zip vs).map (·.1) = ks := fun ks vs h => by
    rw [List.map_fst_zip]; omega
  have ez : ∀ (ks : List Str) (vs : List V), ks.map keyOf = ks.map Sum.inr → List.zipWith (fun k v => (V.str k, v)) ks vs = (kvO (ks.zip vs)).map fun kv => (kV kv.1, kv.2) := fun ks => by
    induction ks with
    | nil => intro vs _; rfl
    | cons k ks ih =>
      intro vs hk
      rw [List.map_cons, List.map_cons] at hk
      injection hk with hk1 hk2
      cases vs with
      | nil => rfl
      | cons v vs =>
        rw [List.zipWith_cons_cons, ih vs hk2]
        show _ = (kV (keyOf k), v) :: _
        rw [hk1]
        rfl
  obtain ⟨b1, b2⟩ := cell_upd (o := .dK (kvO (ks.zip vs))) (a1.trans st1) ok1 hp hF hT
  obtain ⟨c1, c2⟩ := freezeO b1 b2 hp (o := .dK (kvO (ks.zip vs))) (by show upd W1.H p _ p = _; exact upd_same) hF hT
  refine ⟨hP, kvO (ks.zip vs), ez ks vs hkf, ?_, ?_⟩
  · show (List.map _ _).length ≤ 15
    rw [List.length_map, List.length_zip]; omega
  · have e2 : mergeK [] (kvO (ks.zip vs)) = kvO (ks.zip vs) := by
      rw [mergeK_nodup _ [] ?_]
      · rfl
      · rw [List.nil_append]
        show ((ks.zip vs).map _ |>.map _).Nodup
        rw [List.map_map]
        have : ((fun p : Key × V => p.1) ∘ fun p : Str × V => ((keyOf p.1 : Key), p.2)) = keyOf ∘ (·.1) := rfl
        rw [this, ← List.map_map, em ks vs hl]
        exact List.Pairwise.map keyOf (fun a b (hab : a ≠ b) z => hab (keyOf_inj z)) hn
    rw [e2]
    refine q2 _ c1 c2 (.ref p) (.dct upd_same hds.symm (hvs.mono (List.prefix_refl _) (Ex.new hF)))
/-- the names and values of such a dict -/
def strOf : D → Option Str
  | .str x => some x
  | _ => none
def dctOf (d : D) : Option (List (Str × D)) := match d with
  | .dict [(.bool true, .list [.list ks, .list ds])] => (ks.mapM strOf).map fun ks => ks.zip ds
  | _ => none
theorem mapM_str : ∀ ks : List Str, (ks.map PyData.str).mapM strOf = some ks
  | [] => rfl
  | k :: r => by rw [List.map_cons, List.mapM_cons, mapM_str r]; rfl
theorem dctOf_e {ks : List Str} {ds : List D} : dctOf (dctD ks ds) = some (ks.zip ds) := by
  show ((ks.map PyData.str).mapM strOf).map _ = _
  rw [mapM_str]
  rfl
/-- the name of a key -/
def nmOf (d : D) : Option Str := match d with
  | .str x => if keyOf x = .inr x then some x else none
  | .int (.ofNat k) => some ⟨#[2000000 + k]⟩
  | _ => none
theorem keyOf_nat (k : Nat) : keyOf ⟨#[2000000 + k]⟩ = .inl (k : Int) := by
  show (if 2000000 ≤ 2000000 + k then (Sum.inl (((2000000 + k : Nat) : Int) - 2000000) : Key) else _) = _
  rw [if_pos (by omega)]
  congr 1
  omega
theorem nmOf_to {K : PySem.W.Frag} {ι : List Addr} {F : Hp} {v : V} {d : D} {x : Str} (hv : Dr K ι F v d) (h : nmOf d = some x) : v = kV (keyOf x) := by
  unfold nmOf at h
  split at h
  · rename_i y
    split at h
    · rename_i hy
      cases h
      rw [hy]
      cases hv
      rfl
    · cases h
  · rename_i k
    cases h
    rw [keyOf_nat]
    cases hv
    rfl
  · cases h
/-- d[k], d.get(k, e) -/
def dIx (d k : D) : Option D := (dctOf d).bind fun kvs => (nmOf k).bind fun x => kvs.lookup x
def gtK (kvs : List (Str × D)) (k e : D) : Option D := (nmOf k).map fun x => (kvs.lookup x).getD e
def xDGet (m m1 m2 : XE) : XE := fun ρ s => (m ρ s).bind fun d s1 => match dctOf d with
  | some kvs => (m1 ρ s1).bind fun k s2 => (m2 ρ s2).bind fun e s3 => lift (gtK kvs k e) s3
  | none => .bad
def lkR (K : PySem.W.Frag) (ι : List Addr) (F : Hp) (o : Option D) (o' : Option V) : Prop := match o with
  | some d => ∃ v, o' = some v ∧ Dr K ι F v d
  | none => o' = none
theorem zip_lookup {K : PySem.W.Frag} {ι : List Addr} {F : Hp} (x : Str) {vs : List V} {ds : List D} (h : DrAll K ι F vs ds) : ∀ ks : List Str, lkR K ι F ((ks.zip ds).lookup x) ((ks.zip vs).lookup x) := by
  induction ds generalizing vs with
  | nil =>
    intro ks
    rw [List.zip_nil_right]
    cases h
    rw [List.zip_nil_right]
    exact rfl
  | cons d ds ih =>
    intro ks
    cases h with
    | cons h1 h2 =>
      rename_i v vs
      cases ks with
      | nil => exact rfl
      | cons k ks =>
        rw [List.zip_cons_cons, List.zip_cons_cons, List.lookup_cons, List.lookup_cons]
        cases q : x == k with
        | true => exact ⟨v, rfl, h1⟩
        | false => exact ih h2 ks
theorem dct_at {K : PySem.W.Frag} {W : Wd} {s : Sto} (ok : Ok K W s) {v : V} {d : D} {kvs : List (Str × D)} (hv : Dr K W.ι W.F v d) (h : dctOf d = some kvs) :
    ∃ a fs, v = .ref a ∧ W.H a = some (.dK (kvO fs)) ∧ ∀ x, lkR K W.ι W.F (kvs.lookup x) (fs.lookup x) := by
  cases hv with
  | dct h1 h2 h3 =>
    rename_i a ks xs ds
    rw [dctOf_e] at h
    cases h
    exact ⟨a, _, rfl, ok.ex _ _ h1, fun x => zip_lookup x h3 _⟩
  | _ => cases h
theorem d_dix {k : Nat} (hr : Room k X.A) (he : PE X o (GX X.K (aft (rD X.K)) Wx m)) (hi : PE X e (GX X.K (aft (rD X.K)) Wx m1)) (hs : NoSl e := by exact fun _ _ => rfl) :
    PE X (.Subscript o e pos) (GX X.K (aft (rD X.K)) Wx (x2 dIx m m1)) := peImp (pe_dget (hu_of hr) he hi hs) fun σ H Q ⟨W0, W, ρ, s, e1, ok, en, p⟩ => by
  subst e1
  refine GX.mk ok en (Post.mono p.bind fun d s1 W1 st1 ok1 p1 v hv => ?_)
  refine GX.mk ok1 (en.step st1) (Post.mono (Post.bind p1) fun kd s2 W2 st2 ok2 p2 kv hkv => ?_)
  obtain ⟨d', e1, q⟩ := p2.lift
  obtain ⟨kvs, e2, e3⟩ := Option.bind_eq_some_iff.mp (show (dctOf d).bind (fun kvs => (nmOf kd).bind fun x => kvs.lookup x) = some d' from e1)
  obtain ⟨x, e4, e5⟩ := Option.bind_eq_some_iff.mp e3
  obtain ⟨a, fs, rfl, ho, hx⟩ := dct_at ok2 (st2.dr hv) e2
  have hx := hx x
  rw [e5] at hx
  obtain ⟨v', g1, g2⟩ := hx
  refine ⟨a, v', rfl, ?_, q W2 (Step.refl _) ok2 v' g2⟩
  rw [nmOf_to hkv e4]
  have := DGet.k (k := keyOf x) ho
  rw [valV_kv, g1] at this
  exact this
theorem d_dget2 {k : Nat} {apos cpos : Pos} (hr : Room k X.A) (he : PE X o (GX X.K (aft (rD X.K)) Wx m)) (hi : PE X e (GX X.K (aft (rD X.K)) Wx m1)) (hf : PE X a (GX X.K (aft (rD X.K)) Wx m2)) (hm : L2.M2 X o "get" apos e a cpos := by exact ⟨rfl, rfl, rfl, rfl⟩) :
    PE X (.Call (.Attribute o "get" apos) [e, a] [] cpos) (GX X.K (aft (rD X.K)) Wx (xDGet m m1 m2)) := peImp (pe_dget2 (hu_of hr) he hi hf hm) fun σ H Q ⟨W0, W, ρ, s, e1, ok, en, p⟩ => by
  subst e1
  refine GX.mk ok en (Post.mono p.bind fun d s1 W1 st1 ok1 p1 v hv => ?_)
  cases ed : dctOf d with
  | none => rw [ed] at p1; exact p1.elim
  | some kvs =>
    rw [ed] at p1
    obtain ⟨a0, fs0, ev, ho0, _⟩ := dct_at ok1 hv ed
    subst ev
    refine ⟨a0, rfl, .inl ⟨_, .inl ho0⟩, GX.mk ok1 (en.step st1) (Post.mono (Post.bind p1) fun kd s2 W2 st2 ok2 p2 kv hkv => ?_)⟩
    refine GX.mk ok2 (en.step (st1.trans st2)) (Post.mono (Post.bind p2) fun ed' s3 W3 st3 ok3 p3 ev hev => ?_)
    obtain ⟨d', e1, q⟩ := p3.lift
    obtain ⟨x, e4, e5⟩ := Option.map_eq_some_iff.mp (show (nmOf kd).map (fun x => (kvs.lookup x).getD ed') = some d' from e1)
    obtain ⟨a1, fs, ea, ho, hx⟩ := dct_at ok3 ((st2.trans st3).dr hv) ed
    cases ea
    have hx := hx x
    refine ⟨fs.lookup x, ?_, ?_⟩
    · rw [nmOf_to hkv e4]
      have := DGet.k (k := keyOf x) ho
      rw [valV_kv] at this
      exact this
    · cases el : kvs.lookup x with
      | none =>
        rw [el] at hx e5
        have hx : fs.lookup x = none := hx
        rw [hx]
        have e5 : ed' = d' := e5
        subst e5
        exact q W3 (Step.refl _) ok3 _ hev
      | some d2 =>
        rw [el] at hx e5
        obtain ⟨v', g1, g2⟩ := hx
        rw [g1]
        have e5 : d2 = d' := e5
        subst e5
        exact q W3 (Step.refl _) ok3 _ g2
/-- dict(..) of a list of pairs (number, value) -/
def pairNm : D → Option (Str × D)
  | .tuple [.int (.ofNat k), d] => some (⟨#[2000000 + k]⟩, d)
  | _ => none
def pairsD (d : D) : Option D := match d with
  | .list ds => (ds.mapM pairNm).bind fun ps => if (decide ((ps.map (·.1)).Nodup)) = true then some (dctD (ps.map (·.1)) (ps.map (·.2))) else none
  | _ => none
theorem npairs_dr {K : PySem.W.Frag} {W : Wd} {s : Sto} (ok : Ok K W s) : ∀ {vs : List V} {ds : List D} {ps : List (Str × D)}, DrAll K W.ι W.F vs ds → ds.mapM pairNm = some ps →
    ∃ (as : List Addr) (xs : List V), vs = as.map V.ref ∧ DrAll K W.ι W.F xs (ps.map (·.2)) ∧ Paired (fun p kv => SqT K W.H p [kV kv.1, kv.2]) as (kvO ((ps.map (·.1)).zip xs))
  | _, _, _, .nil, h => by
    cases h
    exact ⟨[], [], rfl, .nil, Paired.nil⟩
  | _, _, ps, .cons (v := v) (vs := vs) (d := d) (ds := ds) h1 h2, h => by
    rw [List.mapM_cons] at h
    obtain ⟨p, e1, h⟩ := Option.bind_eq_some_iff.mp h
    obtain ⟨r, e2, h⟩ := Option.bind_eq_some_iff.mp h
    cases h
    obtain ⟨as, xs, rfl, hxs, hp⟩ := npairs_dr ok h2 e2
    unfold pairNm at e1
    split at e1
    · rename_i k d
      cases e1
      cases h1 with
      | tup f1 f2 =>
        cases f2 with
        | cons g1 f2 =>
          cases f2 with
          | cons g2 f2 =>
            cases f2
            cases g1
            rename_i a x
            refine ⟨a :: as, x :: xs, rfl, .cons g2 hxs, ?_⟩
            show Paired _ (a :: as) ((keyOf _, x) :: kvO _)
            refine Paired.cons ?_ hp
            show SqT K W.H a [kV (keyOf (⟨#[2000000 + k]⟩ : Str)), x]
            rw [keyOf_nat]
            exact SqT.of (ok.ex _ _ f1)
    · cases e1
theorem o_dctP {K : PySem.W.Frag} : C1D K (aft (rD K)) (fun xs H Q => ∃ (a : Addr) (ps : List Addr) (kvs : List (Key × V)), xs = [.ref a] ∧ SqL K H a (ps.map V.ref) ∧ Paired (fun p kv => SqT K H p [kV kv.1, kv.2]) ps kvs ∧
    ∀ p, H p = none → Q (.ref p) (upd H p (.dK (mergeK [] kvs)))) pairsD := by
  intro W s v d d' Q ok h e q
  unfold pairsD at e
  split at e
  · obtain ⟨ps, e1, e2⟩ := Option.bind_eq_some_iff.mp e
    split at e2
    · rename_i hn
      cases e2
      obtain ⟨a, vs, rfl, h2, h3⟩ := h.list ok
      obtain ⟨as, xs, rfl, hxs, hp⟩ := npairs_dr ok h3 e1
      refine ⟨a, as, _, rfl, SqL.of h2, hp, fun p hp' => ?_⟩
      have hl : xs.length = ps.length := by rw [hxs.length, List.length_map]
      have e2 : mergeK [] (kvO ((ps.map (·.1)).zip xs)) = kvO ((ps.map (·.1)).zip xs) := by
        rw [mergeK_nodup _ [] ?_]
        · rfl
        · rw [List.nil_append, List.map_map]
          have : ((fun p : Key × V => p.1) ∘ fun p : Str × V => ((keyOf p.1 : Key), p.2)) = keyOf ∘ (·.1) := rfl
          rw [this, ← List.map_map, List.map_fst_zip (by rw [List.length_map, hl]; exact Nat.le_refl _)]
          exact List.Pairwise.map keyOf (fun a b (hab : a ≠ b) z => hab (keyOf_inj z)) (of_decide_eq_true hn)
      rw [e2]
      obtain ⟨b1, b2⟩ := step_newF (o := .dK (kvO ((ps.map (·.1)).zip xs))) ok hp'
      exact q _ _ b1 b2 (.dct upd_same (by simp) (hxs.mono (List.prefix_refl _) (Ex.new (fnone ok hp'))))
    · cases e2
  · cases e
theorem bt_dict : bootBuiltins "dict" = some (.type "dict") := by decide +kernel
/-! ### a dict of the module -/
/-- the module's dict x: its texts, their numbers -/
def TabIs (K : PySem.W.Frag) (w : World) (mg : Str → Option Value) (x : Str) (kvs : List (Str × Int)) : Prop := ∃ a es n, mg x = some (.ref a) ∧ PySem.W.keepIn K (.ref a) = true ∧ KDict K w a es n ∧
  ∀ z, (match kvs.lookup z with
    | some i => ∃ t, PySem.W.nsIn K a z = some (some (.int i t))
    | none => PySem.W.nsIn K a z = some none)
def tbD (kvs : List (Str × Int)) (k e : D) : Option D := match k with
  | .str z => some (match kvs.lookup z with
    | some i => .int i
    | none => e)
  | _ => none
theorem call_kget {pins : List (Addr × Obj)} {σ : St} {H : Hp} {s : Shared} {A : Around} {E : Value → Shared → Prop} {d : Addr} {es : Array DictEntry} {n : Nat} {z : Str} {t : Tok} {r : Option Value} {u : Value} {Q : Value → Shared → Prop} (D : KDict X.K X.w d es n) (I : Inv X pins σ H s)
    (he : PySem.W.nsIn X.K d z = some r) (h : ∀ s', Inv X pins σ H s' → Q (r.getD u) s') : wpAny (model X.prog X.w) A (call (.builtin "dict.get") [.ref d, .str z t, u]) Q E s := by
  have hm := PySem.W.mapOf_K (prog := X.prog) (w := X.w) I.kIn D.at_ D.lit
  refine PySem.call_meetsIn PySem.F.slot_dict_get hm.typeIs PySem.F.entry_dict_get (PySem.F.args_dict_get_3 _ _ _) (meets_dict_get_default (strKind X.prog X.w) d (strKind_is X.prog X.w z t) D.low u) ⟨_, hm, ?_⟩
  rw [PySem.W.find_K D.at_ he]
  exact h _ (I.tok _)
def tbV (kvs : List (Str × Int)) (z : Str) (v : V) : V := match kvs.lookup z with
  | some i => .int i
  | none => v
def tTab (kvs : List (Str × Int)) (ty tx : TE) : TE := fun σ H Q => ty σ H fun y H1 => tx σ H1 fun v H2 => ∃ z, y = .str z ∧ Q (tbV kvs z v) H2
theorem pe_tget {x : Str} {kvs : List (Str × Int)} {p apos cpos : Pos} {ty tx : TE} (ht : TabIs X.K X.w X.mg x kvs) (hg : Gl X x) (he : PE X e ty) (hf : PE X a tx) (m : L2.M2 X (.Name x p) "get" apos e a cpos) (hd : (x == ("__debug__" : Str)) = false := by decide) :
    PE X (.Call (.Attribute (.Name x p) "get" apos) [e, a] [] cpos) (tTab kvs ty tx) := by
  obtain ⟨d, es, n, h1, h2, D, h3⟩ := ht
  refine ⟨fun pins s σ H Q I h => ?_⟩
  have ho : PE X (.Name x p) (tC (.ref d)) := pe_glob (v := .ref d) hg h1 rfl hd
  refine wpAny_Call_method m.base m.few m.line PySem.F.plainAttrs_dict PySem.F.slot_dict_get PySem.F.type_dict_get (thn (ho.run pins s σ H (fun v H1 => v = .ref d ∧ H1 = H) I ⟨rfl, rfl⟩) fun u s1 ⟨v, H1, I1, rx, ev, eh⟩ => ?_)
  subst ev eh
  obtain rfl : u = Value.ref d := rx
  refine ⟨kd_type D I1, fun b q => ?_, ?_⟩
  · cases q
    exact ⟨_, I1.kIn _ _ D.at_, rfl⟩
  rw [m.trees]
  refine Calls.callWith_builtin rfl (Calls.evalArgs_plain (Calls.spliced_cons (thn (he.run pins s1 σ _ _ I1 h) fun iv s2 ⟨y, H2, I2, ry, q2⟩ =>
    Calls.spliced_cons (thn (hf.run pins s2 σ H2 _ I2 q2) fun fv s3 ⟨z, H3, I3, rz, zs, ey, q3⟩ => Calls.spliced_nil ?_))))
  subst ey
  obtain ⟨t, rfl⟩ := (show ∃ t, iv = Value.str zs t from ry)
  have hz := h3 zs
  unfold tbV at q3
  cases el : kvs.lookup zs with
  | none =>
    rw [el] at hz q3
    exact call_kget D I3 hz fun s4 I4 => ⟨_, H3, I4, rz, q3⟩
  | some i =>
    rw [el] at hz q3
    obtain ⟨t', hz⟩ := hz
    exact call_kget D I3 hz fun s4 I4 => ⟨.int i, H3, I4, ⟨t', rfl⟩, q3⟩
def xTab (kvs : List (Str × Int)) (m1 m2 : XE) : XE := fun ρ s => (m1 ρ s).bind fun k s1 => (m2 ρ s1).bind fun e s2 => lift (tbD kvs k e) s2
theorem d_tget {x : Str} {kvs : List (Str × Int)} {p apos cpos : Pos} (ht : TabIs X.K X.w X.mg x kvs) (he : PE X e (GX X.K (aft (rD X.K)) Wx m1)) (hf : PE X a (GX X.K (aft (rD X.K)) Wx m2)) (hg : Gl X x := by rfl) (m : L2.M2 X (.Name x p) "get" apos e a cpos := by exact ⟨rfl, rfl, rfl, rfl⟩) (hd : (x == ("__debug__" : Str)) = false := by decide) :
    PE X (.Call (.Attribute (.Name x p) "get" apos) [e, a] [] cpos) (GX X.K (aft (rD X.K)) Wx (xTab kvs m1 m2)) := peImp (pe_tget ht hg he hf m hd) fun σ H Q ⟨W0, W, ρ, s, e1, ok, en, p⟩ => by
  subst e1
  refine GX.mk ok en (Post.mono p.bind fun kd s1 W1 st1 ok1 p1 kv hkv => ?_)
  refine GX.mk ok1 (en.step st1) (Post.mono (Post.bind p1) fun ed s2 W2 st2 ok2 p2 ev hev => ?_)
  obtain ⟨d', e1, q⟩ := p2.lift
  unfold tbD at e1
  split at e1
  · rename_i z
    cases hkv
    refine ⟨z, rfl, ?_⟩
    unfold tbV
    cases el : kvs.lookup z with
    | none => rw [el] at e1; cases e1; exact q W2 (Step.refl _) ok2 _ hev
    | some i => rw [el] at e1; cases e1; exact q W2 (Step.refl _) ok2 _ (.int i)
  · cases e1
end
end M

/-! M, part 23: a module's dict, looked at. -/
namespace M
open PySem L2
def entD (e : DictEntry) : Option (Str × Int) := match e.key, e.val with
  | .str x _, .int i _ => some (x, i)
  | _, _ => none
def tabB (K : PySem.W.Frag) (a : Addr) (kvs : List (Str × Int)) : Bool := match K.lookup a with
  | some ⟨_, _, .dict es _, _⟩ => decide (es.toList.map entD = kvs.map some)
  | _ => false
theorem entD_to {e : DictEntry} {x : Str} {i : Int} (h : entD e = some (x, i)) : (∃ t, e.key = .str x t) ∧ ∃ t, e.val = .int i t := by
  unfold entD at h
  split at h
  · rename_i q1 q2
    cases h
    exact ⟨⟨_, q1⟩, _, q2⟩
  · cases h
theorem ent_find (z : Str) : ∀ (l : List DictEntry) (kvs : List (Str × Int)), l.map entD = kvs.map some → (match kvs.lookup z with
    | some i => ∃ e t, l.find? (·.key.isStr z) = some e ∧ e.val = .int i t
    | none => l.find? (·.key.isStr z) = none) ∧ l.any (·.refKey) = false
  | [], [], _ => ⟨rfl, rfl⟩
  | [], _ :: _, h => by cases h
  | _ :: _, [], h => by cases h
  | e :: l, (x, i) :: kvs, h => by
    rw [List.map_cons, List.map_cons] at h
    injection h with h1 h2
    obtain ⟨⟨t, k1⟩, t', k2⟩ := entD_to h1
    obtain ⟨ih, ih2⟩ := ent_find z l kvs h2
    have e1 : e.key.isStr z = (x == z) := by rw [k1]; rfl
    have e2 : e.refKey = false := by unfold DictEntry.refKey; rw [k1]
    refine ⟨?_, by rw [List.any_cons, e2, ih2]; rfl⟩
    rw [List.lookup_cons, List.find?_cons, e1]
    by_cases q : z = x
    · subst q
      have : (z == z) = true := by simp
      rw [this]
      exact ⟨e, t', rfl, k2⟩
    · have a1 : (z == x) = false := by simpa using q
      have a2 : (x == z) = false := by simpa using (fun w : x = z => q w.symm)
      rw [a1, a2]
      exact ih
theorem tab_is {K : PySem.W.Frag} {w : World} {h : Heap} {mg : Str → Option Value} {x : Str} {kvs : List (Str × Int)} (X : K.In h) (G : h.Ns mainGlobals mg) (g : (He.Fa.glo x).ok K = true) (k : (He.Fa.keep x).ok K = true) (d : He.dicW K (He.ga K x) = some (He.keysIn w.params (kvs.map (·.1))))
    (b : tabB K (He.ga K x) kvs = true) : TabIs K w mg x kvs := by
  obtain ⟨es, n, D⟩ := He.dicW_ok d
  refine ⟨He.ga K x, es, n, He.glo_ok X G g, k, D, fun z => ?_⟩
  unfold tabB at b
  rw [D.at_] at b
  obtain ⟨h1, h2⟩ := ent_find z es.toList kvs (of_decide_eq_true b)
  unfold PySem.W.nsIn
  rw [D.at_]
  cases el : kvs.lookup z with
  | some i =>
    rw [el] at h1
    obtain ⟨e, t, f1, f2⟩ := h1
    refine ⟨t, ?_⟩
    show (match es.toList.find? (·.key.isStr z) with | some e => some (some e.val) | none => if es.toList.any (·.refKey) then none else some none) = _
    rw [f1, ← f2]
  | none =>
    rw [el] at h1
    show (match es.toList.find? (·.key.isStr z) with | some e => some (some e.val) | none => if es.toList.any (·.refKey) then none else some none) = _
    rw [h1, h2]
    rfl
end M

/-! M, part 24: >= of pairs (number, text). -/
namespace M
open PySem L2
def geB (i : Int) (x : Str) (j : Int) (y : Str) : Bool := if i = j then (if x = y then true else !decide (x.cps.toList < y.cps.toList)) else decide (j ≤ i)
def rGePS (K : PySem.W.Frag) : R2 := fun v u H Q => ∃ (a b : Addr) (i j : Int) (x y : Str), v = .ref a ∧ u = .ref b ∧ SqT K H a [.int i, .str x] ∧ SqT K H b [.int j, .str y] ∧ Q (.bl (geB i x j y)) H
theorem op_gePS {X : Cx} (hu : X.A.units < cLine) : OpR X (compareOp .GtE) (rGePS X.K) := by
  intro pins s σ H v0 u0 v u Q I rx ry h
  obtain ⟨a, b, i, j, x, y, rfl, rfl, ha, hb, q⟩ := h
  cases rx
  cases ry
  obtain ⟨its, r1, p1, _⟩ := I.tuple ha
  obtain ⟨its2, r2, p2, _⟩ := I.tuple hb
  cases r1 with
  | cons a1 r1 =>
    cases r1 with
    | cons a2 r1 =>
      cases r1
      cases r2 with
      | cons b1 r2 =>
        cases r2 with
        | cons b2 r2 =>
          cases r2
          obtain ⟨t1, rfl⟩ := a1
          obtain ⟨t2, rfl⟩ := a2
          obtain ⟨t3, rfl⟩ := b1
          obtain ⟨t4, rfl⟩ := b2
          have R := Ob.RcOp.tuples_ge (A := X.A) (s := s) (e := fun k => if k = 0 then decide (i = j) else decide (x = y)) (r := fun k => if k = 0 then decide (j ≤ i) else !decide (x.cps.toList < y.cps.toList)) p1 p2 hu (fun k h1 h2 => by
            have hk : k < 2 := h1
            rcases (by omega : k = 0 ∨ k = 1) with rfl | rfl
            · show SeqAt.EqAt X.A.in1 s (.int i t1) (.int j t3) (decide (i = j))
              have z : (i == j) = decide (i = j) := by
                by_cases q : i = j
                · rw [decide_eq_true q]; exact beq_iff_eq.mpr q
                · rw [decide_eq_false q]; exact beq_eq_false_iff_ne.mpr q
              rw [← z]
              exact SeqAt.EqAt.int_int _ _ _ _
            · show SeqAt.EqAt X.A.in1 s (.str x t2) (.str y t4) (decide (x = y))
              have z : (x == y) = decide (x = y) := by
                by_cases q : x = y
                · rw [decide_eq_true q]; exact beq_iff_eq.mpr q
                · rw [decide_eq_false q]; exact beq_eq_false_iff_ne.mpr q
              rw [← z]
              exact SeqAt.EqAt.str_str _ _ _ _) (fun k h1 h2 _ => by
            have hk : k < 2 := h1
            rcases (by omega : k = 0 ∨ k = 1) with rfl | rfl
            · exact Ob.RcOp.ge_int _ _ _ _
            · exact fun prog w E Q h => PySem.P.ge_str h)
          have z : wpAny (model X.prog X.w) X.A (compareOp .GtE (.ref a) (.ref b)) (EP X pins σ Q) X.xe s := R X.prog X.w X.xe (EP X pins σ Q) ⟨.bl (geB i x j y), H, I, by
            show Value.bool _ = Value.bool _
            congr 1
            show Ob.lexAt _ _ _ 0 2 = _
            unfold geB
            by_cases h1 : i = j
            · by_cases h2 : x = y
              · simp [Ob.lexAt, h1, h2]
              · simp [Ob.lexAt, h1, h2]
            · simp [Ob.lexAt, h1], q⟩
          exact z
theorem hu0 {k : Nat} {A : Around} (hr : Room k A) : A.units < cLine := by have := hr.un; omega
def geTD (a b : D) : Option D := match a, b with
  | .tuple [.int i, .str x], .tuple [.int j, .str y] => some (.bool (geB i x j y))
  | _, _ => none
theorem o_geT {K : PySem.W.Frag} : OpD K (aft (rD K)) (rGePS K) geTD := by
  intro W s v1 v2 d1 d2 d Q ok h1 h2 e q
  unfold geTD at e
  split at e
  · cases e
    rename_i i x j y
    obtain ⟨a, vs, rfl, f1, f2, f3⟩ := h1.tup ok
    obtain ⟨b, us, rfl, g1, g2, g3⟩ := h2.tup ok
    cases f3 with
    | cons a1 f3 => cases f3 with
      | cons a2 f3 =>
        cases f3
        cases g3 with
        | cons b1 g3 => cases g3 with
          | cons b2 g3 =>
            cases g3
            cases a1; cases a2; cases b1; cases b2
            exact ⟨a, b, i, j, x, y, rfl, rfl, SqT.of f2, SqT.of g2, q _ W (Step.refl W) ok (.bl _)⟩
  · cases e
end M

/-! M, part 25: texts' methods. -/
namespace M
open PySem L2
section
variable {X : Cx} {Wx : WX} {pos : Pos} {a b : Expr} {f1 f2 : XE}
def stripD (z : Str) (d : D) : Option D := match d with
  | .str y => if z.length ≤ sizeLine then some (.str (Txt.stripChars z y)) else none
  | _ => none
theorem o_strip {K : PySem.W.Frag} : M1D K (aft (rD K)) (fun x xs H Q => ∃ a b, x = .str a ∧ xs = [.str b] ∧ a.length ≤ sizeLine ∧ Q (.str (Txt.stripChars a b)) H) stripD := by
  intro W s z v d d' Q ok h e q
  unfold stripD at e
  split at e
  · split at e
    · rename_i y hz
      cases e
      obtain rfl := h.str
      exact ⟨z, y, rfl, rfl, hz, q _ W (Step.refl W) ok (.str _)⟩
    · cases e
  · cases e
theorem d_strip {apos : Pos} (ho : PE X a (GX X.K (aft (rD X.K)) Wx f1)) (he : PE X b (GX X.K (aft (rU X.K)) Wx f2)) (hs : starEach [b] X.env = [(false, eval b X.env)] := by rfl) (hbase : attributeBase a "strip" X.env (eval a X.env) = eval a X.env := by rfl) (hline : (apos.endLine == pos.line) = true := by rfl) :
    PE X (.Call (.Attribute a "strip" apos) [b] [] pos) (GX X.K (aft (rD X.K)) Wx (xM1 stripD f1 f2)) := peImp (pe_m1 PySem.F.slot_str_strip PySem.F.type_str_strip mt_stripChars ho he hs hbase hline) (gx_m1 o_strip)
/-- x.split(sep), a new list -/
def splitD (z : Str) (d : D) : Option D := match d with
  | .str y => if (y.length == 0) = false ∧ z.length + 2 ≤ sizeLine then some (.list ((Txt.split z y).map .str)) else none
  | _ => none
theorem drAll_strs {K : PySem.W.Frag} {ι : List Addr} {F : Hp} : ∀ ys : List Str, DrAll K ι F (ys.map V.str) (ys.map PyData.str)
  | [] => .nil
  | y :: r => .cons (.str y) (drAll_strs r)
theorem o_split {K : PySem.W.Frag} : M1D K (rN K) (fun x xs H Q => ∃ a b, x = .str a ∧ xs = [.str b] ∧ (b.length == 0) = false ∧ a.length + 2 ≤ sizeLine ∧ rNewStrs (Txt.split a b) H Q) splitD := by
  intro W s z v d d' Q ok h e q
  unfold splitD at e
  split at e
  · split at e
    · rename_i y hz
      cases e
      obtain rfl := h.str
      refine ⟨z, y, rfl, rfl, hz.1, hz.2, fun p hp => ?_⟩
      obtain ⟨a1, a2, a3⟩ := new_lst ok hp (drAll_strs (Txt.split z y))
      exact q _ _ a1 a2 a3
    · cases e
  · cases e
theorem n_split {apos : Pos} (ho : PE X a (GX X.K (aft (rD X.K)) Wx f1)) (he : PE X b (GX X.K (aft (rU X.K)) Wx f2)) (hs : starEach [b] X.env = [(false, eval b X.env)] := by rfl) (hbase : attributeBase a "split" X.env (eval a X.env) = eval a X.env := by rfl) (hline : (apos.endLine == pos.line) = true := by rfl) :
    PE X (.Call (.Attribute a "split" apos) [b] [] pos) (GX X.K (rN X.K) Wx (xM1 splitD f1 f2)) := peImp (pe_m1 PySem.F.slot_str_split PySem.F.type_str_split mt_split ho he hs hbase hline) (gx_m1 o_split)
end
/-- str(n), int(text) -/
def strOfD (d : D) : Option D := match d with
  | .int i => if (small i) = true then some (.str (toString i)) else none
  | _ => none
theorem o_strI {K : PySem.W.Frag} : C1D K (aft (rD K)) (fun xs H Q => ∃ i, xs = [.int i] ∧ i.natAbs.log2 < 1920 ∧ Q (.str (toString i)) H) strOfD := by
  intro W s v d d' Q ok h e q
  unfold strOfD at e
  split at e
  · split at e
    · rename_i i hz
      cases e
      obtain rfl := h.int
      refine ⟨i, rfl, ?_, q _ W (Step.refl W) ok (.str _)⟩
      rw [small_iff] at hz
      by_cases h0 : i.natAbs = 0
      · rw [h0]; decide
      · rw [Nat.log2_lt h0]
        exact Nat.lt_of_lt_of_le (by omega : i.natAbs < 2 ^ 64) (Nat.pow_le_pow_right (by omega) (by omega))
    · cases e
  · cases e
def intTD (d : D) : Option D := match d with
  | .str z => if z.length ≤ 640 then (PySem.intText? z).map .int else none
  | _ => none
theorem o_intT {K : PySem.W.Frag} : C1D K (aft (rD K)) (fun xs H Q => ∃ a n, xs = [.str a] ∧ PySem.intText? a = some n ∧ a.length ≤ 640 ∧ Q (.int n) H) intTD := by
  intro W s v d d' Q ok h e q
  unfold intTD at e
  split at e
  · split at e
    · rename_i z hz
      obtain ⟨n, e1, e2⟩ := Option.map_eq_some_iff.mp e
      cases e2
      obtain rfl := h.str
      exact ⟨z, n, rfl, e1, hz, q _ W (Step.refl W) ok (.int _)⟩
    · cases e
  · cases e
end M

/-! M, part 12: mirrors reckoned. -/
namespace M
open PySem L2
section
variable {α : Type} {ρ : Env} {s : Sto} {d : D}
@[simp] theorem xC_e : xC d ρ s = .ok d s := rfl
@[simp] theorem xV_e {i : Nat} : xV i ρ s = (match ρ[i]? with | some (.val d) => .ok d s | _ => .bad) := rfl
@[simp] theorem xL_e {i : Nat} : xL i ρ s = (match ρ[i]? with | some (.val d) => .ok d s | some (.own xs) => .ok (.list xs) s | _ => .bad) := rfl
@[simp] theorem aN_e : aN ρ s = .ok [] s := rfl
@[simp] theorem aC_e {f : XE} {g : XA} : aC f g ρ s = ((f ρ s).bind fun d s1 => (g ρ s1).bind fun ds s2 => .ok (d :: ds) s2) := rfl
@[simp] theorem x1_e {g : D → Option D} {f : XE} : x1 g f ρ s = ((f ρ s).bind fun a s1 => lift (g a) s1) := rfl
@[simp] theorem x2_e {g : D → D → Option D} {f1 f2 : XE} : x2 g f1 f2 ρ s = ((f1 ρ s).bind fun a s1 => (f2 ρ s1).bind fun b s2 => lift (g a b) s2) := rfl
@[simp] theorem x3_e {g g' : D → D → Option D} {f1 f2 f3 : XE} : x3 g g' f1 f2 f3 ρ s = ((f1 ρ s).bind fun a s1 => (f2 ρ s1).bind fun b s2 => (lift (g a b) s2).bind fun k s3 => match k with
  | .bool true => (f3 ρ s3).bind fun c s4 => lift (g' b c) s4
  | .bool false => .ok (.bool false) s3
  | _ => .bad) := rfl
@[simp] theorem xB_e {f : XE} : xB f ρ s = ((f ρ s).bind fun d s1 => match d with | .bool b => .ok b s1 | _ => .bad) := rfl
@[simp] theorem tTru_e {f : XE} : tTru f ρ s = ((f ρ s).bind fun d s1 => lift (truD d) s1) := rfl
@[simp] theorem tAnd2_e {t u : XT} : tAnd2 t u ρ s = ((t ρ s).bind fun k s1 => if k = true then u ρ s1 else .ok false s1) := rfl
@[simp] theorem tOr2_e {t u : XT} : tOr2 t u ρ s = ((t ρ s).bind fun k s1 => if k = true then .ok true s1 else u ρ s1) := rfl
@[simp] theorem tNot1_e {t : XT} : tNot1 t ρ s = ((t ρ s).bind fun k s1 => .ok (!k) s1) := rfl
@[simp] theorem xAnd_e {f g : XE} : xAnd f g ρ s = ((f ρ s).bind fun d s1 => match d with | .bool true => g ρ s1 | .bool false => .ok (.bool false) s1 | _ => .bad) := rfl
@[simp] theorem xOr_e {f g : XE} : xOr f g ρ s = ((f ρ s).bind fun d s1 => match d with | .bool false => g ρ s1 | .bool true => .ok (.bool true) s1 | _ => .bad) := rfl
@[simp] theorem xIf_e {t : XT} {f g : XE} : xIf t f g ρ s = ((t ρ s).bind fun k s1 => if k = true then f ρ s1 else g ρ s1) := rfl
@[simp] theorem xNotT_e {f : XE} : xNotT f ρ s = ((f ρ s).bind fun d s1 => (lift (truD d) s1).bind fun k s2 => .ok (.bool !k) s2) := rfl
@[simp] theorem x1t_e {g : D → D} {f : XE} : x1t g f ρ s = ((f ρ s).bind fun a s1 => .ok (g a) s1) := rfl
@[simp] theorem oN_e : oN ρ s = .ok none s := rfl
@[simp] theorem oS_e {f : XE} : oS f ρ s = ((f ρ s).bind fun d s1 => match d with | .int i => .ok (some i) s1 | _ => .bad) := rfl
@[simp] theorem xSl_e {g : D → Option Int → Option Int → Option D} {f : XE} {l h : XO} : xSl g f l h ρ s = ((f ρ s).bind fun d s1 => (l ρ s1).bind fun i s2 => (h ρ s2).bind fun j s3 => lift (g d i j) s3) := rfl
@[simp] theorem xTup_e {g : XA} : xTup g ρ s = ((g ρ s).bind fun ds s1 => if ds.length ≤ sizeLine then .ok (.tuple ds) s1 else .bad) := rfl
@[simp] theorem xLst_e {g : XA} : xLst g ρ s = ((g ρ s).bind fun ds s1 => if ds.length ≤ sizeLine then .ok (.list ds) s1 else .bad) := rfl
@[simp] theorem xM1_e {g : Str → D → Option D} {f1 f2 : XE} : xM1 g f1 f2 ρ s = ((f1 ρ s).bind fun d s1 => match d with | .str z => (f2 ρ s1).bind fun d2 s2 => lift (g z d2) s2 | _ => .bad) := rfl
@[simp] theorem b2D_e {h : Int → Int → Int} {g : XA} : b2D h g ρ s = ((g ρ s).bind fun ds s1 => match ds with | [.int i, .int j] => .ok (.int (h i j)) s1 | _ => .bad) := rfl
@[simp] theorem xLit_e {kvs : Tb} {f : XE} : xLit kvs f ρ s = ((f ρ s).bind fun a s1 => lift (litD kvs a) s1) := rfl
@[simp] theorem xCall_e {n : Nat} {m : Fn} {g : XA} : xCall n m g ρ s = ((g ρ s).bind fun ds s1 => if ds.length = n then m ds s1 else .bad) := rfl
@[simp] theorem xComp_e {m : XI} {t : XG} {c : XT} {e : XE} {vs : List Nat} : xComp m t c e vs ρ s = ((m ρ s).bind fun ds s1 => (compL t c e vs ds [] ρ s1).bind fun ys s2 => .ok (.list ys) s2) := rfl
@[simp] theorem iAny_e {f : XE} : iAny f ρ s = ((f ρ s).bind fun d s1 => match d with | .list ds => .ok ds s1 | .tuple ds => .ok ds s1 | .str x => .ok (strD x) s1 | _ => .bad) := rfl
@[simp] theorem iR1_e {g : XA} : iR1 g ρ s = ((g ρ s).bind fun ds s1 => match ds with | [.int n] => if rngOk n = true then .ok (rngD 0 n.toNat) s1 else .bad | _ => .bad) := rfl
@[simp] theorem iR2_e {g : XA} : iR2 g ρ s = ((g ρ s).bind fun ds s1 => match ds with | [.int i, .int n] => if (rngOk i && rngOk n) = true then .ok (rngD i (n - i).toNat) s1 else .bad | _ => .bad) := rfl
@[simp] theorem iEnA_e {g : XA} : iEnA g ρ s = ((g ρ s).bind fun ds s1 => match ds with | [.list ds] => .ok (enumD 0 ds) s1 | [.tuple ds] => .ok (enumD 0 ds) s1 | _ => .bad) := rfl
@[simp] theorem gN_e {i : Nat} : gN i d ρ = some (ρ.set i (.val d)) := rfl
@[simp] theorem gsN_e : gsN [] ρ = some ρ := rfl
@[simp] theorem gsC_e {t : XG} {u : XGs} {ds : List D} : gsC t u (d :: ds) ρ = (t d ρ).bind (u ds) := rfl
@[simp] theorem gT_e {n : Nat} {u : XGs} {ds : List D} : gT n u (.tuple ds) ρ = if ds.length = n then u ds ρ else none := rfl
@[simp] theorem tAll_e : tAll ρ s = .ok true s := rfl
/-! statements -/
@[simp] theorem sNil_e : sNil ρ s = .next ρ s := rfl
@[simp] theorem sCont_e : sCont ρ s = .cont ρ s := rfl
@[simp] theorem sSeq_e {b1 b2 : XS} : sSeq b1 b2 ρ s = (match b1 ρ s with | .next ρ1 s1 => b2 ρ1 s1 | r => r) := rfl
@[simp] theorem stX_e {f : Env → Sto → Out α} {k : α → XS} : stX f k ρ s = (match f ρ s with | .ok d s1 => k d ρ s1 | .exc c s1 => .exc c ρ s1 | .bad => .bad) := rfl
@[simp] theorem sDrop_e {f : XE} : sDrop f ρ s = stX f (fun _ ρ s => .next ρ s) ρ s := rfl
@[simp] theorem sSet_e {i : Nat} {f : XE} : sSet i f ρ s = stX f (fun d ρ s => .next (ρ.set i (.val d)) s) ρ s := rfl
@[simp] theorem sOwn_e {i : Nat} {f : XE} : sOwn i f ρ s = stX f (fun d => ownOf d i) ρ s := rfl
@[simp] theorem ownOf_e {i : Nat} {xs : List D} : ownOf (.list xs) i ρ s = .next (ρ.set i (.own xs)) s := rfl
@[simp] theorem sRet_e {f : XE} : sRet f ρ s = stX f (fun d _ s => .ret d s) ρ s := rfl
@[simp] theorem sRetN_e : sRetN ρ s = .ret .none s := rfl
@[simp] theorem sIf_e {t : XT} {b1 b2 : XS} : sIf t b1 b2 ρ s = (match t ρ s with | .ok k s1 => (if k = true then b1 ρ s1 else b2 ρ s1) | .exc c s1 => .exc c ρ s1 | .bad => .bad) := by
  simp only [sIf, stX]
  cases t ρ s with
  | ok k s1 => cases k <;> rfl
  | _ => rfl
@[simp] theorem sAug_e {g : Int → Int → Int} {i : Nat} {f : XE} : sAug g i f ρ s = (match ρ[i]? with | some (.val (.int a)) => stX f (augK g i a) ρ s | _ => .bad) := rfl
@[simp] theorem augK_e {g : Int → Int → Int} {i : Nat} {a c : Int} : augK g i a (.int c) ρ s = .next (ρ.set i (.val (.int (g a c)))) s := rfl
@[simp] theorem sApp_e {i : Nat} {f : XE} : sApp i f ρ s = (match ρ[i]? with | some (.own xs) => stX f (appK i xs) ρ s | _ => .bad) := rfl
@[simp] theorem appK_e {i : Nat} {xs : List D} : appK i xs d ρ s = (if xs.length < sizeLine then .next (ρ.set i (.own (xs ++ [d]))) s else .bad) := rfl
@[simp] theorem sExt_e {i : Nat} {f : XE} : sExt i f ρ s = (match ρ[i]? with | some (.own xs) => stX f (extK i xs) ρ s | _ => .bad) := rfl
@[simp] theorem extK_e {i : Nat} {xs ys : List D} : extK i xs (.list ys) ρ s = (if xs.length + ys.length ≤ sizeLine then .next (ρ.set i (.own (xs ++ ys))) s else .bad) := rfl
@[simp] theorem sRaise_e {c : Str} : sRaise c ρ s = .exc c ρ s := rfl
@[simp] theorem sFrz_e {i : Nat} {b : XS} : sFrz i b ρ s = b (frz i ρ) s := rfl
@[simp] theorem frz_e {i : Nat} : frz i ρ = (match ρ[i]? with | some (.own xs) => ρ.set i (.val (.list xs)) | _ => ρ) := rfl
@[simp] theorem sFor_e {m : XI} {t : XG} {b : XS} : sFor m t b ρ s = stX m (forL t b) ρ s := rfl
@[simp] theorem sTo_e {t : XG} {f : XE} : sTo t f ρ s = stX f (fun d ρ s => toN (t d ρ) s) ρ s := rfl
@[simp] theorem toN_e : toN (some ρ) s = .next ρ s := rfl
@[simp] theorem runB_e {b : XS} {n : Nat} {ds : List D} : runB b n ds s = (match b (startD n ds) s with | .ret d s' => .ok d s' | .next _ s' => .ok .none s' | .exc c _ s' => .exc c s' | _ => .bad) := rfl
@[simp] theorem startD_e {n : Nat} {ds : List D} : startD n ds = ds.map .val ++ List.replicate (n - ds.length) .no := rfl
/-! operators -/
@[simp] theorem i2_e {g : Int → Int → D} {i j : Int} : i2 g (.int i) (.int j) = some (g i j) := rfl
@[simp] theorem subD_e {i j : Int} : subD (.int i) (.int j) = some (.int (i - j)) := rfl
@[simp] theorem modD_e {i j : Int} : modD (.int i) (.int j) = if 0 < j then some (.int (i % j)) else none := by
  show (if decide (0 < j) = true then some (PyData.int (i % j)) else none) = _
  simp only [decide_eq_true_eq]
@[simp] theorem fdivD_e {i j : Int} : fdivD (.int i) (.int j) = if 0 < j ∧ j < 1073741824 then some (.int (i / j)) else none := by
  show (if decide (0 < j ∧ j < 1073741824) = true then some (PyData.int (i / j)) else none) = _
  simp only [decide_eq_true_eq]
@[simp] theorem powD_e {i j : Int} : powD (.int i) (.int j) = if 0 ≤ j ∧ j ≤ 1000000 ∧ i.natAbs < 2 ^ 64 then some (.int (i ^ j.toNat)) else none := by
  show (if decide (0 ≤ j ∧ j ≤ 1000000 ∧ i.natAbs < 2 ^ 64) = true then some (PyData.int (i ^ j.toNat)) else none) = _
  simp only [decide_eq_true_eq]
@[simp] theorem ltD_e {i j : Int} : ltD (.int i) (.int j) = some (.bool (decide (i < j))) := rfl
@[simp] theorem leD_e {i j : Int} : leD (.int i) (.int j) = some (.bool (decide (i ≤ j))) := rfl
@[simp] theorem gtD_e {i j : Int} : gtD (.int i) (.int j) = some (.bool (decide (j < i))) := rfl
@[simp] theorem geD_e {i j : Int} : geD (.int i) (.int j) = some (.bool (decide (j ≤ i))) := rfl
@[simp] theorem addD_i {i j : Int} : addD (.int i) (.int j) = some (.int (i + j)) := rfl
@[simp] theorem addD_l {xs ys : List D} : addD (.list xs) (.list ys) = if xs.length + ys.length ≤ sizeLine then some (.list (xs ++ ys)) else none := rfl
@[simp] theorem addD_t {xs ys : List D} : addD (.tuple xs) (.tuple ys) = if xs.length + ys.length ≤ sizeLine then some (.tuple (xs ++ ys)) else none := rfl
@[simp] theorem mulD_i {i j : Int} : mulD (.int i) (.int j) = if cMul i j = true then some (.int (i * j)) else none := rfl
@[simp] theorem mulD_l {xs : List D} {k : Int} : mulD (.list xs) (.int k) = if repOk xs.length k = true then some (.list (List.replicate k.toNat xs).flatten) else none := rfl
@[simp] theorem ixD_l {ds : List D} {i : Int} : ixD (.list ds) (.int i) = atI ds i := rfl
@[simp] theorem ixD_t {ds : List D} {i : Int} : ixD (.tuple ds) (.int i) = atI ds i := rfl
@[simp] theorem negD_e {i : Int} : negD (.int i) = some (.int (-i)) := rfl
@[simp] theorem truD_b {b : Bool} : truD (.bool b) = some b := rfl
@[simp] theorem truD_i {i : Int} : truD (.int i) = some (i != 0) := rfl
@[simp] theorem truD_l {ds : List D} : truD (.list ds) = some !ds.isEmpty := rfl
@[simp] theorem truD_t {ds : List D} : truD (.tuple ds) = some !ds.isEmpty := rfl
@[simp] theorem truD_n : truD .none = some false := rfl
@[simp] theorem lenD_l {ds : List D} : lenD (.list ds) = some (.int ds.length) := rfl
@[simp] theorem lenD_t {ds : List D} : lenD (.tuple ds) = some (.int ds.length) := rfl
@[simp] theorem tupD_l {ds : List D} : tupD (.list ds) = some (.tuple ds) := rfl
@[simp] theorem tupD_t {ds : List D} : tupD (.tuple ds) = some (.tuple ds) := rfl
@[simp] theorem sliD_l {ds : List D} {lo hi : Option Int} : sliD (.list ds) lo hi = some (.list (cutD ds lo hi)) := rfl
@[simp] theorem sliD_t {ds : List D} {lo hi : Option Int} : sliD (.tuple ds) lo hi = some (.tuple (cutD ds lo hi)) := rfl
end
/-! ### loops -/
/-- a loop that goes from state to state -/
theorem forL_all {α : Type} (env : α → Env) (step : α → D → α) {t : XG} {b : XS} {s : Sto} : ∀ (ds : List D) (a : α), (∀ a d, d ∈ ds → ∃ ρ1, t d (env a) = some ρ1 ∧ b ρ1 s = .next (env (step a d)) s) → forL t b ds (env a) s = .next (env (ds.foldl step a)) s
  | [], a, _ => rfl
  | d :: ds, a, h => by
    obtain ⟨ρ1, e1, e2⟩ := h a d List.mem_cons_self
    unfold forL
    rw [e1]
    show (match b ρ1 s with | .next ρ2 s2 => forL t b ds ρ2 s2 | .cont ρ2 s2 => forL t b ds ρ2 s2 | .brk ρ2 s2 => .next ρ2 s2 | r => r) = _
    rw [e2]
    exact forL_all env step ds (step a d) fun a d hd => h a d (List.mem_cons_of_mem _ hd)
theorem compL_all {t : XG} {c : XT} {e : XE} {vs : List Nat} {ρ : Env} {s : Sto} (p : D → Bool) (f : D → D) : ∀ (ds acc : List D), (∀ d, d ∈ ds → ∃ ρ1, t d (wipeD ρ vs) = some ρ1 ∧ c ρ1 s = .ok (p d) s ∧ (p d = true → e ρ1 s = .ok (f d) s)) → acc.length + ds.length ≤ sizeLine →
    compL t c e vs ds acc ρ s = .ok (acc ++ (ds.filter p).map f) s
  | [], acc, _, _ => by simp [compL]
  | d :: ds, acc, h, hz => by
    obtain ⟨ρ1, e1, e2, e3⟩ := h d List.mem_cons_self
    have ih := fun acc hz => compL_all p f ds acc (fun d hd => h d (List.mem_cons_of_mem _ hd)) hz
    have hz' : acc.length + (ds.length + 1) ≤ sizeLine := by simpa using hz
    unfold compL
    rw [e1]
    simp only [e2, nx_ok, bind_ok]
    by_cases hp : p d = true
    · rw [if_pos hp, e3 hp]
      simp only [nx_ok, bind_ok]
      rw [if_pos (by omega), ih _ (by simp; omega), List.filter_cons, if_pos hp]
      simp
    · rw [if_neg hp, ih _ (by omega), List.filter_cons, if_neg hp]
theorem whileN_all (env : Nat → Env) {t : XT} {b : XS} {s : Sto} : ∀ (k n i : Nat), k < n → (∀ j, i ≤ j → j < i + k → t (env j) s = .ok true s ∧ b (env j) s = .next (env (j + 1)) s) → t (env (i + k)) s = .ok false s → whileN t b n (env i) s = .next (env (i + k)) s
  | 0, n + 1, i, _, _, hf => by
    unfold whileN
    have hf' : t (env i) s = .ok false s := hf
    rw [hf']; rfl
  | k + 1, n + 1, i, hn, h, hf => by
    obtain ⟨h1, h2⟩ := h i (Nat.le_refl _) (by omega)
    unfold whileN
    rw [h1]
    show (match b (env i) s with | .next ρ2 s2 => whileN t b n ρ2 s2 | .cont ρ2 s2 => whileN t b n ρ2 s2 | .brk ρ2 s2 => .next ρ2 s2 | r => r) = _
    rw [h2]
    have e : i + (k + 1) = i + 1 + k := by omega
    rw [e] at hf ⊢
    exact whileN_all env k n (i + 1) (by omega) (fun j h3 h4 => h j (by omega) (by omega)) hf
/-! isinstance -/
@[simp] theorem isi_none_int : isiD .int .none = some (.bool false) := rfl
@[simp] theorem isi_none_bool : isiD .bool .none = some (.bool false) := rfl
@[simp] theorem isi_none_str : isiD .str .none = some (.bool false) := rfl
@[simp] theorem isi_none_tuple : isiD .tuple .none = some (.bool false) := rfl
@[simp] theorem isi_none_list : isiD .list .none = some (.bool false) := rfl
@[simp] theorem isi_bool_int {b : Bool} : isiD .int (.bool b) = some (.bool true) := rfl
@[simp] theorem isi_bool_bool {b : Bool} : isiD .bool (.bool b) = some (.bool true) := rfl
@[simp] theorem isi_bool_str {b : Bool} : isiD .str (.bool b) = some (.bool false) := rfl
@[simp] theorem isi_bool_tuple {b : Bool} : isiD .tuple (.bool b) = some (.bool false) := rfl
@[simp] theorem isi_bool_list {b : Bool} : isiD .list (.bool b) = some (.bool false) := rfl
@[simp] theorem isi_int_int {i : Int} : isiD .int (.int i) = some (.bool true) := rfl
@[simp] theorem isi_int_bool {i : Int} : isiD .bool (.int i) = some (.bool false) := rfl
@[simp] theorem isi_int_str {i : Int} : isiD .str (.int i) = some (.bool false) := rfl
@[simp] theorem isi_int_tuple {i : Int} : isiD .tuple (.int i) = some (.bool false) := rfl
@[simp] theorem isi_int_list {i : Int} : isiD .list (.int i) = some (.bool false) := rfl
@[simp] theorem isi_str_int {x : Str} : isiD .int (.str x) = some (.bool false) := rfl
@[simp] theorem isi_str_bool {x : Str} : isiD .bool (.str x) = some (.bool false) := rfl
@[simp] theorem isi_str_str {x : Str} : isiD .str (.str x) = some (.bool true) := rfl
@[simp] theorem isi_str_tuple {x : Str} : isiD .tuple (.str x) = some (.bool false) := rfl
@[simp] theorem isi_str_list {x : Str} : isiD .list (.str x) = some (.bool false) := rfl
@[simp] theorem isi_list_int {ds : List D} : isiD .int (.list ds) = some (.bool false) := rfl
@[simp] theorem isi_list_bool {ds : List D} : isiD .bool (.list ds) = some (.bool false) := rfl
@[simp] theorem isi_list_str {ds : List D} : isiD .str (.list ds) = some (.bool false) := rfl
@[simp] theorem isi_list_tuple {ds : List D} : isiD .tuple (.list ds) = some (.bool false) := rfl
@[simp] theorem isi_list_list {ds : List D} : isiD .list (.list ds) = some (.bool true) := rfl
@[simp] theorem isi_tuple_int {ds : List D} : isiD .int (.tuple ds) = some (.bool false) := rfl
@[simp] theorem isi_tuple_bool {ds : List D} : isiD .bool (.tuple ds) = some (.bool false) := rfl
@[simp] theorem isi_tuple_str {ds : List D} : isiD .str (.tuple ds) = some (.bool false) := rfl
@[simp] theorem isi_tuple_tuple {ds : List D} : isiD .tuple (.tuple ds) = some (.bool true) := rfl
@[simp] theorem isi_tuple_list {ds : List D} : isiD .list (.tuple ds) = some (.bool false) := rfl
/-! ### kinds of data: == is equality within one kind -/
inductive Ty where
  | int | bool | str | non
  | list (t : Ty)
  | tup (ts : List Ty)
mutual
inductive HasTy : Ty → D → Prop
  | int (i : Int) : HasTy .int (.int i)
  | bool (b : Bool) : HasTy .bool (.bool b)
  | str (x : Str) (h : PyData.strOk x = true) : HasTy .str (.str x)
  | non : HasTy .non .none
  | list {t : Ty} {ds : List D} : HasL t ds → HasTy (.list t) (.list ds)
  | tup {ts : List Ty} {ds : List D} : HasT ts ds → HasTy (.tup ts) (.tuple ds)
inductive HasL : Ty → List D → Prop
  | nil {t : Ty} : HasL t []
  | cons {t : Ty} {d : D} {ds : List D} : HasTy t d → HasL t ds → HasL t (d :: ds)
inductive HasT : List Ty → List D → Prop
  | nil : HasT [] []
  | cons {t : Ty} {ts : List Ty} {d : D} {ds : List D} : HasTy t d → HasT ts ds → HasT (t :: ts) (d :: ds)
end
mutual
def Ty.dep : Ty → Nat
  | .list t => t.dep + 1
  | .tup ts => depL ts + 1
  | _ => 0
def depL : List Ty → Nat
  | [] => 0
  | t :: ts => max t.dep (depL ts)
end
mutual
theorem HasTy.lay : ∀ {t : Ty} {d : D}, HasTy t d → d.canLay0 = true ∧ d.depth ≤ t.dep
  | _, _, .int i => ⟨by simp [PyData.canLay0], by simp [PyData.depth]⟩
  | _, _, .bool b => ⟨by simp [PyData.canLay0], by simp [PyData.depth]⟩
  | _, _, .str x h => ⟨by simpa [PyData.canLay0] using h, by simp [PyData.depth]⟩
  | _, _, .non => ⟨by simp [PyData.canLay0], by simp [PyData.depth]⟩
  | _, _, .list h => ⟨by simpa [PyData.canLay0] using (HasL.lay h).1, by have := (HasL.lay h).2; simp only [PyData.depth, Ty.dep]; omega⟩
  | _, _, .tup h => ⟨by simpa [PyData.canLay0] using (HasT.lay h).1, by have := (HasT.lay h).2; simp only [PyData.depth, Ty.dep]; omega⟩
theorem HasL.lay : ∀ {t : Ty} {ds : List D}, HasL t ds → PyData.canLayAll0 ds = true ∧ PyData.depthAll ds ≤ t.dep
  | _, _, .nil => ⟨by simp [PyData.canLayAll0], by simp [PyData.depthAll]⟩
  | _, _, .cons h hs => ⟨by simp [PyData.canLayAll0, (HasTy.lay h).1, (HasL.lay hs).1], by have := (HasTy.lay h).2; have := (HasL.lay hs).2; simp only [PyData.depthAll]; omega⟩
theorem HasT.lay : ∀ {t : List Ty} {ds : List D}, HasT t ds → PyData.canLayAll0 ds = true ∧ PyData.depthAll ds ≤ depL t
  | _, _, .nil => ⟨by simp [PyData.canLayAll0], by simp [PyData.depthAll]⟩
  | _, _, .cons h hs => ⟨by simp [PyData.canLayAll0, (HasTy.lay h).1, (HasT.lay hs).1], by have := (HasTy.lay h).2; have := (HasT.lay hs).2; simp only [PyData.depthAll, depL]; omega⟩
end
theorem HasTy.shaped {t : Ty} {d : D} (h : HasTy t d) (hd : t.dep ≤ 64) : SeqAt.shaped d = true := by
  unfold SeqAt.shaped
  obtain ⟨h1, h2⟩ := h.lay
  rw [h1, Bool.true_and, decide_eq_true_eq]
  omega
mutual
theorem HasTy.eqv : ∀ {t : Ty} {a b : D}, HasTy t a → HasTy t b → (PyData.eqv a b = true ↔ a = b)
  | _, _, _, .int i, .int j => by simp [PyData.eqv]
  | _, _, _, .bool i, .bool j => by simp [PyData.eqv]
  | _, _, _, .str i _, .str j _ => by simp [PyData.eqv]
  | _, _, _, .non, .non => by simp [PyData.eqv]
  | _, _, _, .list h, .list h' => by simp [PyData.eqv, HasL.eqv h h']
  | _, _, _, .tup h, .tup h' => by simp [PyData.eqv, HasT.eqv h h']
theorem HasL.eqv : ∀ {t : Ty} {a b : List D}, HasL t a → HasL t b → (PyData.eqvAll a b = true ↔ a = b)
  | _, _, _, .nil, .nil => by simp [PyData.eqvAll]
  | _, _, _, .nil, .cons _ _ => by simp [PyData.eqvAll]
  | _, _, _, .cons _ _, .nil => by simp [PyData.eqvAll]
  | _, _, _, .cons h hs, .cons h' hs' => by simp [PyData.eqvAll, HasTy.eqv h h', HasL.eqv hs hs']
theorem HasT.eqv : ∀ {t : List Ty} {a b : List D}, HasT t a → HasT t b → (PyData.eqvAll a b = true ↔ a = b)
  | _, _, _, .nil, .nil => by simp [PyData.eqvAll]
  | _, _, _, .cons h hs, .cons h' hs' => by simp [PyData.eqvAll, HasTy.eqv h h', HasT.eqv hs hs']
end
noncomputable instance (a b : D) : Decidable (a = b) := Classical.propDecidable _
theorem eqD_ty {t : Ty} {a b : D} (ha : HasTy t a) (hb : HasTy t b) (hd : t.dep ≤ 64) {k : Bool} (hk : k = true ↔ a = b) : eqD a b = some (.bool k) := by
  unfold eqD
  rw [ha.shaped hd, hb.shaped hd]
  have e : PyData.eqv a b = k := Bool.eq_iff_iff.mpr ((ha.eqv hb).trans hk.symm)
  rw [e]; rfl
theorem neD_ty {t : Ty} {a b : D} (ha : HasTy t a) (hb : HasTy t b) (hd : t.dep ≤ 64) {k : Bool} (hk : k = true ↔ a = b) : neD a b = some (.bool !k) := by
  unfold neD
  rw [ha.shaped hd, hb.shaped hd]
  have e : PyData.eqv a b = k := Bool.eq_iff_iff.mpr ((ha.eqv hb).trans hk.symm)
  rw [e]; rfl
@[simp] theorem eqD_i {i j : Int} : eqD (.int i) (.int j) = some (.bool (decide (i = j))) := eqD_ty (.int i) (.int j) (Nat.zero_le _) (by simp)
@[simp] theorem neD_i {i j : Int} : neD (.int i) (.int j) = some (.bool (!decide (i = j))) := neD_ty (.int i) (.int j) (Nat.zero_le _) (by simp)
@[simp] theorem eqD_b {i j : Bool} : eqD (.bool i) (.bool j) = some (.bool (decide (i = j))) := eqD_ty (.bool i) (.bool j) (Nat.zero_le _) (by simp)
theorem eqD_s {i j : Str} (hi : PyData.strOk i = true) (hj : PyData.strOk j = true) : eqD (.str i) (.str j) = some (.bool (decide (i = j))) := eqD_ty (.str i hi) (.str j hj) (Nat.zero_le _) (by simp)
theorem neD_s {i j : Str} (hi : PyData.strOk i = true) (hj : PyData.strOk j = true) : neD (.str i) (.str j) = some (.bool (!decide (i = j))) := neD_ty (.str i hi) (.str j hj) (Nat.zero_le _) (by simp)
theorem HasL.all {t : Ty} : ∀ {ds : List D}, (∀ d ∈ ds, HasTy t d) → HasL t ds
  | [], _ => .nil
  | d :: ds, h => .cons (h d List.mem_cons_self) (HasL.all fun x hx => h x (List.mem_cons_of_mem _ hx))
theorem HasL.map {α : Type} {t : Ty} {f : α → D} (h : ∀ x, HasTy t (f x)) (xs : List α) : HasL t (xs.map f) := HasL.all fun d hd => by
  obtain ⟨x, _, rfl⟩ := List.mem_map.mp hd
  exact h x
theorem HasL.mapM {α : Type} {t : Ty} {f : α → D} {xs : List α} (h : ∀ x ∈ xs, HasTy t (f x)) : HasL t (xs.map f) := HasL.all fun d hd => by
  obtain ⟨x, hx, rfl⟩ := List.mem_map.mp hd
  exact h x hx
/-- x in a list of one kind -/
theorem inB_l {t : Ty} {d : D} {ds : List D} (hd : HasTy t d) (hs : HasL t ds) (hz : t.dep ≤ 60) : inB d (.list ds) = some (decide (d ∈ ds)) := by
  have e1 := hd.shaped (by omega)
  have e2 : SeqAt.shaped (.list ds) = true := HasTy.shaped (.list hs) (by simp only [Ty.dep]; omega)
  have e3 : (ds.any fun z => PyData.eqv z d) = decide (d ∈ ds) := by
    clear e2
    induction ds with
    | nil => simp
    | cons z r ih =>
      cases hs with
      | cons h1 h2 =>
        rw [List.any_cons, ih h2]
        apply Bool.eq_iff_iff.mpr
        simp only [Bool.or_eq_true, decide_eq_true_eq, List.mem_cons]
        rw [h1.eqv hd]
        exact ⟨fun q => q.imp Eq.symm id, fun q => q.imp Eq.symm id⟩
  unfold inB
  split
  · rename_i h; cases h
  · rename_i h; cases h; rw [e1, e2, e3]; rfl
  · rename_i h; cases h
  · rename_i q1 q2 q3; exact (q1 _ rfl).elim
theorem niD_l {t : Ty} {d : D} {ds : List D} (hd : HasTy t d) (hs : HasL t ds) (hz : t.dep ≤ 60) : niD d (.list ds) = some (.bool (!decide (d ∈ ds))) := by
  unfold niD; rw [inB_l hd hs hz]; rfl
theorem inD_l {t : Ty} {d : D} {ds : List D} (hd : HasTy t d) (hs : HasL t ds) (hz : t.dep ≤ 60) : inD d (.list ds) = some (.bool (decide (d ∈ ds))) := by
  unfold inD; rw [inB_l hd hs hz]; rfl

/-! ### loops over what is told by other things -/
theorem compL_map {α : Type} {t : XG} {c : XT} {e : XE} {vs : List Nat} {ρ : Env} {s : Sto} (g : α → D) (p : α → Bool) (f : α → D) : ∀ (xs : List α) (acc : List D), (∀ x, x ∈ xs → ∃ ρ1, t (g x) (wipeD ρ vs) = some ρ1 ∧ c ρ1 s = .ok (p x) s ∧ (p x = true → e ρ1 s = .ok (f x) s)) → acc.length + xs.length ≤ sizeLine →
    compL t c e vs (xs.map g) acc ρ s = .ok (acc ++ (xs.filter p).map f) s
  | [], acc, _, _ => by simp [compL]
  | x :: xs, acc, h, hz => by
    obtain ⟨ρ1, e1, e2, e3⟩ := h x List.mem_cons_self
    have ih := fun acc hz => compL_map g p f xs acc (fun d hd => h d (List.mem_cons_of_mem _ hd)) hz
    have hz' : acc.length + (xs.length + 1) ≤ sizeLine := by simpa using hz
    rw [List.map_cons]
    unfold compL
    rw [e1]
    simp only [e2, nx_ok, bind_ok]
    by_cases hp : p x = true
    · rw [if_pos hp, e3 hp]
      simp only [nx_ok, bind_ok]
      rw [if_pos (by omega), ih _ (by simp; omega), List.filter_cons, if_pos hp]
      simp
    · rw [if_neg hp, ih _ (by omega), List.filter_cons, if_neg hp]
/-- all kept -/
theorem compL_mapA {α : Type} {t : XG} {e : XE} {vs : List Nat} {ρ : Env} {s : Sto} (g : α → D) (f : α → D) (xs : List α) (h : ∀ x, x ∈ xs → ∃ ρ1, t (g x) (wipeD ρ vs) = some ρ1 ∧ e ρ1 s = .ok (f x) s) (hz : xs.length ≤ sizeLine) :
    compL t tAll e vs (xs.map g) [] ρ s = .ok (xs.map f) s := by
  have := compL_map (t := t) (c := tAll) (e := e) (vs := vs) (ρ := ρ) (s := s) g (fun _ => true) f xs [] (fun x hx => by
    obtain ⟨ρ1, e1, e2⟩ := h x hx
    exact ⟨ρ1, e1, rfl, fun _ => e2⟩) (by simpa using hz)
  rw [this, List.filter_eq_self.mpr (fun _ _ => rfl)]; rfl
theorem compL_rng {t : XG} {e : XE} {vs : List Nat} {ρ : Env} {s : Sto} {lo : Int} {n : Nat} (f : Nat → D) (h : ∀ i, i < n → ∃ ρ1, t (.int (lo + (i : Int))) (wipeD ρ vs) = some ρ1 ∧ e ρ1 s = .ok (f i) s) (hz : n ≤ sizeLine) :
    compL t tAll e vs (rngD lo n) [] ρ s = .ok ((List.range n).map f) s :=
  compL_mapA (fun i : Nat => .int (lo + (i : Int))) f (List.range n) (fun i hi => h i (List.mem_range.mp hi)) (by simpa using hz)
theorem compL_rngF {t : XG} {c : XT} {e : XE} {vs : List Nat} {ρ : Env} {s : Sto} {lo : Int} {n : Nat} (p : Nat → Bool) (f : Nat → D) (h : ∀ i, i < n → ∃ ρ1, t (.int (lo + (i : Int))) (wipeD ρ vs) = some ρ1 ∧ c ρ1 s = .ok (p i) s ∧ (p i = true → e ρ1 s = .ok (f i) s)) (hz : n ≤ sizeLine) :
    compL t c e vs (rngD lo n) [] ρ s = .ok (((List.range n).filter p).map f) s := by
  have := compL_map (t := t) (c := c) (e := e) (vs := vs) (ρ := ρ) (s := s) (fun i : Nat => .int (lo + (i : Int))) p f (List.range n) [] (fun i hi => h i (List.mem_range.mp hi)) (by simpa using hz)
  rw [List.nil_append] at this; exact this
theorem forL_inv {α β : Type} {t : XG} {b : XS} (g : α → D) (env : β → Env) (sto : β → Sto) (step : β → α → β) (I : β → List α → Prop) (h : ∀ a x r, I a (x :: r) → I (step a x) r ∧ ∃ ρ1, t (g x) (env a) = some ρ1 ∧ (b ρ1 (sto a) = .next (env (step a x)) (sto (step a x)) ∨ b ρ1 (sto a) = .cont (env (step a x)) (sto (step a x)))) :
    ∀ (xs : List α) (a : β), I a xs → forL t b (xs.map g) (env a) (sto a) = .next (env (xs.foldl step a)) (sto (xs.foldl step a))
  | [], a, _ => rfl
  | x :: xs, a, hi => by
    obtain ⟨h1, ρ1, e1, e2⟩ := h a x xs hi
    rw [List.map_cons]
    unfold forL
    rw [e1]
    show (match b ρ1 (sto a) with | .next ρ2 s2 => forL t b (xs.map g) ρ2 s2 | .cont ρ2 s2 => forL t b (xs.map g) ρ2 s2 | .brk ρ2 s2 => .next ρ2 s2 | r => r) = _
    rcases e2 with e2 | e2 <;> rw [e2] <;> exact forL_inv g env sto step I h xs (step a x) h1
theorem enumD_map {α : Type} (g : α → D) : ∀ (xs : List α) (n : Nat), enumD n (xs.map g) = (xs.zipIdx n).map fun p => .tuple [.int (p.2 : Int), g p.1]
  | [], _ => rfl
  | x :: xs, n => by
    rw [List.map_cons, List.zipIdx_cons, List.map_cons, ← enumD_map g xs (n + 1)]; rfl
theorem atI_nat {α : Type} {xs : List α} {i : Nat} (h : i < xs.length) : atI xs (i : Int) = some xs[i] := by
  unfold atI ixN
  have h0 : (0 : Int) ≤ (i : Int) := Int.natCast_nonneg i
  have h1 : (i : Int) < (xs.length : Int) := by omega
  simp [h1, h]
theorem small_of {i : Int} (h0 : -1000000000000 ≤ i) (h1 : i ≤ 1000000000000) : small i = true := small_iff.mpr (by omega)
theorem rngOk_of {i : Int} (h0 : -1000000000000 ≤ i) (h1 : i ≤ 1000000000000) : rngOk i = true := small_of h0 h1
theorem repOk_of {n : Nat} {k : Int} (h0 : -1000000 ≤ k) (h1 : k ≤ 1000000) (h : n * k.toNat ≤ 4096) : repOk n k = true := by
  have z : 4096 ≤ sizeLine := by decide
  unfold repOk
  rw [Bool.and_eq_true]
  exact ⟨small_of (by omega) (by omega), Nat.ble_eq_true_of_le (Nat.le_trans h z)⟩
theorem cMul_r {i j : Int} (h : small j = true) : cMul i j = true := by unfold cMul; rw [h, Bool.or_true]
theorem cMul_l {i j : Int} (h : small i = true) : cMul i j = true := by unfold cMul; rw [h, Bool.true_or]
@[simp] theorem small_0 : small 0 = true := rfl
@[simp] theorem small_1 : small 1 = true := rfl
@[simp] theorem small_2 : small 2 = true := rfl
@[simp] theorem small_3 : small 3 = true := rfl
@[simp] theorem small_4 : small 4 = true := rfl
@[simp] theorem small_5 : small 5 = true := rfl
@[simp] theorem small_6 : small 6 = true := rfl
@[simp] theorem small_7 : small 7 = true := rfl
@[simp] theorem small_8 : small 8 = true := rfl
@[simp] theorem small_9 : small 9 = true := rfl
@[simp] theorem small_10 : small 10 = true := rfl
@[simp] theorem small_11 : small 11 = true := rfl
@[simp] theorem small_12 : small 12 = true := rfl
@[simp] theorem small_13 : small 13 = true := rfl
@[simp] theorem small_14 : small 14 = true := rfl
@[simp] theorem small_15 : small 15 = true := rfl
@[simp] theorem small_16 : small 16 = true := rfl
@[simp] theorem small_17 : small 17 = true := rfl
@[simp] theorem small_18 : small 18 = true := rfl
@[simp] theorem small_19 : small 19 = true := rfl
@[simp] theorem small_20 : small 20 = true := rfl
@[simp] theorem small_21 : small 21 = true := rfl
@[simp] theorem small_22 : small 22 = true := rfl
@[simp] theorem small_23 : small 23 = true := rfl
@[simp] theorem small_24 : small 24 = true := rfl
@[simp] theorem small_25 : small 25 = true := rfl
@[simp] theorem small_26 : small 26 = true := rfl
@[simp] theorem small_27 : small 27 = true := rfl
@[simp] theorem small_28 : small 28 = true := rfl
@[simp] theorem small_29 : small 29 = true := rfl
@[simp] theorem small_30 : small 30 = true := rfl
@[simp] theorem small_31 : small 31 = true := rfl
@[simp] theorem small_32 : small 32 = true := rfl
@[simp] theorem small_33 : small 33 = true := rfl
@[simp] theorem small_34 : small 34 = true := rfl
@[simp] theorem small_35 : small 35 = true := rfl
@[simp] theorem small_36 : small 36 = true := rfl
@[simp] theorem small_37 : small 37 = true := rfl
@[simp] theorem small_38 : small 38 = true := rfl
@[simp] theorem small_39 : small 39 = true := rfl
@[simp] theorem small_40 : small 40 = true := rfl
@[simp] theorem small_48271 : small 48271 = true := rfl
@[simp] theorem small_7919 : small 7919 = true := rfl
@[simp] theorem small_12345 : small 12345 = true := rfl
@[simp] theorem small_1103515245 : small 1103515245 = true := rfl
@[simp] theorem small_2147483647 : small 2147483647 = true := rfl
@[simp] theorem small_400 : small 400 = true := rfl
@[simp] theorem small_401 : small 401 = true := rfl
@[simp] theorem small_9949 : small 9949 = true := rfl
@[simp] theorem small_97 : small 97 = true := rfl
@[simp] theorem small_100 : small 100 = true := rfl
@[simp] theorem cMul_e {i j : Int} : cMul i j = (small i || small j) := rfl

theorem compL_none {α : Type} {t : XG} {c : XT} {e : XE} {vs : List Nat} {ρ : Env} {s : Sto} (g : α → D) : ∀ (xs : List α), (∀ x, x ∈ xs → ∃ ρ1, t (g x) (wipeD ρ vs) = some ρ1 ∧ c ρ1 s = .ok false s) → compL t c e vs (xs.map g) [] ρ s = .ok [] s
  | [], _ => rfl
  | x :: xs, h => by
    obtain ⟨ρ1, e1, e2⟩ := h x List.mem_cons_self
    rw [List.map_cons]
    unfold compL
    rw [e1]
    simp only [e2, nx_ok, bind_ok]
    rw [if_neg Bool.false_ne_true]
    exact compL_none g xs fun x hx => h x (List.mem_cons_of_mem _ hx)
@[simp] theorem lenD_scr {ds : List D} : lenD (scrD ds) = some (.int ds.length) := rfl
@[simp] theorem ixD_scr {ds : List D} {i : Int} : ixD (scrD ds) (.int i) = atI ds i := rfl
/-- the first turn at which it holds -/
def firstT (p : Nat → Bool) : Nat := ((List.range 401).find? p).getD 0
theorem firstT_spec {p : Nat → Bool} {k : Nat} (hk : k ≤ 400) (h : p k = true) : p (firstT p) = true ∧ firstT p ≤ k ∧ ∀ j, j < firstT p → p j = false := by
  unfold firstT
  cases e : (List.range 401).find? p with
  | none =>
    have := List.find?_eq_none.mp e k (List.mem_range.mpr (by omega))
    exact absurd h this
  | some i =>
    obtain ⟨h1, h2, h3⟩ := List.find?_range_eq_some.mp e
    refine ⟨h1, ?_, fun j hj => ?_⟩
    · show i ≤ k
      rcases Nat.lt_or_ge k i with q | q
      · have := h3 k q; rw [h] at this; simp at this
      · exact q
    · have := h3 j hj; simpa using this
theorem firstT_congr {p q : Nat → Bool} (h : ∀ i, i ≤ 400 → p i = q i) : firstT p = firstT q := by
  unfold firstT
  have e : (List.range 401).find? p = (List.range 401).find? q := by
    have : ∀ l : List Nat, (∀ i ∈ l, p i = q i) → l.find? p = l.find? q := by
      intro l
      induction l with
      | nil => intro _; rfl
      | cons x r ih =>
        intro hl
        rw [List.find?_cons, List.find?_cons, hl x List.mem_cons_self, ih fun i hi => hl i (List.mem_cons_of_mem _ hi)]
    exact this _ fun i hi => h i (by have := List.mem_range.mp hi; omega)
  rw [e]
/-- a loop up to the first turn at which p holds -/
theorem whileN_first {ρ0 : Env} (env : Nat → Env) (h0 : env 0 = ρ0) {t : XT} {b : XS} {s : Sto} {p : Nat → Bool} {k : Nat} (hk : k ≤ 400) (h : p k = true) (ht : ∀ i, i ≤ 400 → t (env i) s = .ok (!p i) s) (hb : ∀ i, b (env i) s = .next (env (i + 1)) s) : whileN t b 2000 ρ0 s = .next (env (firstT p)) s := by
  subst h0
  obtain ⟨h1, h2, h3⟩ := firstT_spec hk h
  have := whileN_all env (t := t) (b := b) (s := s) (firstT p) 2000 0 (by omega) (fun j _ hj => ⟨by rw [ht j (by omega), h3 j (by omega)]; rfl, hb j⟩) (by rw [Nat.zero_add, ht _ (by omega), h1]; rfl)
  rw [Nat.zero_add] at this
  exact this

theorem inB_t {t : Ty} {d : D} {ds : List D} (hd : HasTy t d) (hs : HasL t ds) (hz : t.dep ≤ 60) (hdep : SeqAt.shaped (.tuple ds) = true) : inB d (.tuple ds) = some (decide (d ∈ ds)) := by
  have e1 := hd.shaped (by omega)
  have e3 : (ds.any fun z => PyData.eqv z d) = decide (d ∈ ds) := by
    clear hdep
    induction ds with
    | nil => simp
    | cons z r ih =>
      cases hs with
      | cons h1 h2 =>
        rw [List.any_cons, ih h2]
        apply Bool.eq_iff_iff.mpr
        simp only [Bool.or_eq_true, decide_eq_true_eq, List.mem_cons]
        rw [h1.eqv hd]
        exact ⟨fun q => q.imp Eq.symm id, fun q => q.imp Eq.symm id⟩
  unfold inB
  split
  · rename_i h; cases h
  · rename_i h; cases h
  · rename_i h; cases h; rw [e1, hdep, e3]; rfl
  · rename_i q1 q2 q3; exact (q2 _ rfl).elim
@[simp] theorem neD_b {i j : Bool} : neD (.bool i) (.bool j) = some (.bool (!decide (i = j))) := neD_ty (.bool i) (.bool j) (Nat.zero_le _) (by simp)
theorem sorted_is {l l' : List Int} (hp : l.Perm l') (hs : l'.Pairwise (· ≤ ·)) : l.mergeSort leI = l' := by
  refine List.Perm.eq_of_pairwise (le := fun a b : Int => a ≤ b) (fun a b _ _ h1 h2 => Int.le_antisymm h1 h2) ?_ hs ((List.mergeSort_perm l leI).trans hp)
  have := List.pairwise_mergeSort (le := leI) (fun a b c h1 h2 => by simp only [leI, decide_eq_true_eq] at *; omega) (fun a b => by simp only [leI, Bool.or_eq_true, decide_eq_true_eq]; omega) l
  exact this.imp fun h => of_decide_eq_true h
theorem sortedD_i (ns : List Int) : sortedD (.list (ns.map .int)) = some (.list ((ns.mergeSort leI).map .int)) := by
  show (match intsOf (ns.map .int) with | some ns => some (PyData.list ((ns.mergeSort leI).map .int)) | none => (pairsOf (ns.map .int)).map fun (ps : List (Int × Int)) => PyData.list ((ps.mergeSort leP).map pairD)) = _
  rw [intsOf_map]
end M

namespace M
open PySem L2
def excNames : List Str := ["LineError", "NoSetting", "NoCode", "NoHouse", "IsOff", "IsOn", "NoTone", "NoTalk", "NoCall", "NoCount", "NoDeeds", "NoText"]
def exmT : Str → Str → Option Bool := exmOf excNames
def tb_WORDS : List (Str × Int) := [("lift", 1), ("hang", 1), ("dial", 2), ("out", 1), ("call", 1), ("end", 0), ("hold", 1), ("take", 1), ("tick", 1)]
def b_is_within : XS :=
  (sRet (xAnd (x1 (isiD .int) (xV 0)) (xAnd (xNotT (x1 (isiD .bool) (xV 0))) (x3 leD leD (xV 1) (xV 0) (xV 2)))))
def m_is_within : Fn := runB b_is_within 3
def b_is_code : XS :=
  (sSeq (sIf (tOr2 (tNot1 (tTru (x1 (isiD .str) (xV 0)))) (tNot1 (xB (x3 leD leD (xC (.int 1)) (x1 lenD (xV 0)) (xC (.int 4)))))) (sRet (xC (.bool false))) sNil)
    (sRet (xNotT (xComp (iAny (xV 0)) (gN 1) (xB (x2 niD (xV 1) (xC (.str "sl")))) (xV 1) [1]))))
def m_is_code : Fn := runB b_is_code 2
def b_beats : XS :=
  (sSeq (sOwn 1 (xLst aN))
    (sSeq (sFor (iAny (xV 0)) (gN 2) (sExt 1 (x2 addD (x2 mulD (xLst (aC (xC (.bool true)) aN)) (xIf (xB (x2 eqD (xV 2) (xC (.str "l")))) (xC (.int 3)) (xC (.int 1)))) (xLst (aC (xC (.bool false)) aN)))))
    (sRet (x2 addD (xL 1) (x2 mulD (xLst (aC (xC (.bool false)) aN)) (x2 subD (xC (.int 4)) (xC (.int 1))))))))
def m_beats : Fn := runB b_beats 3
def b__law_cell : XS :=
  (sSeq (sIf (xB (x2 ltD (xV 1) (x1 lenD (xV 0)))) (sRet (x2 ixD (xV 0) (xV 1))) sNil)
    (sRet (xC (.int 0))))
def m__law_cell : Fn := runB b__law_cell 2
def b__law_mix : XS :=
  (sRet (x2 modD (x2 modD (x2 powD (x2 modD (x2 mulD (xV 0) (xC (.int 48271))) (xV 1)) (xC (.int 3))) (xV 1)) (xV 2)))
def m__law_mix : Fn := runB b__law_mix 3
def b__law_whole : XS :=
  (sRet (xAnd (x1 (isiD .int) (xV 0)) (xNotT (x1 (isiD .bool) (xV 0)))))
def m__law_whole : Fn := runB b__law_whole 1
def b__law_seed : XS :=
  (sRet (x2 modD (x2 powD (x2 modD (x2 addD (x2 addD (x2 mulD (xV 0) (xC (.int 1103515245))) (x2 mulD (xC (.int 7919)) (xV 1))) (xC (.int 12345))) (xC (.int 2147483647))) (xC (.int 5))) (xC (.int 2147483647))))
def m__law_seed : Fn := runB b__law_seed 2
def b__law_pick : XS :=
  (sRet (x2 modD (x2 fdivD (xV 0) (xC (.int 97))) (xV 1)))
def m__law_pick : Fn := runB b__law_pick 2
def b__law_beats : XS :=
  (sSeq (sSet 1 (xLst aN))
    (sSeq (sFor (iAny (xV 0)) (gN 2) (sSet 1 (x2 addD (x2 addD (xV 1) (x2 mulD (xLst (aC (xC (.bool true)) aN)) (xLit [("s", .int 1), ("l", .int 3)] (xV 2)))) (xLst (aC (xC (.bool false)) aN)))))
    (sRet (x2 addD (xV 1) (xLst (aC (xC (.bool false)) (aC (xC (.bool false)) (aC (xC (.bool false)) aN))))))))
def m__law_beats : Fn := runB b__law_beats 3
def b_is_setting : XS :=
  (sSeq (sIf (tOr2 (tNot1 (tTru (x1 (isiD .tuple) (xV 0)))) (tOr2 (xB (x2 neD (x1 lenD (xV 0)) (xC (.int 3)))) (tNot1 (tTru (x1 (isiD .tuple) (x2 ixD (xV 0) (xC (.int 0)))))))) (sRet (xC (.bool false))) sNil)
    (sSeq (sIf (tOr2 (tNot1 (xB (x3 leD leD (xC (.int 2)) (x1 lenD (x2 ixD (xV 0) (xC (.int 0)))) (xC (.int 8))))) (tTru (xComp (iAny (x2 ixD (xV 0) (xC (.int 0)))) (gN 1) (tNot1 (tTru (xCall 1 m_is_code (aC (xV 1) aN)))) (xV 1) [1]))) (sRet (xC (.bool false))) sNil)
    (sSeq (sIf (xB (x2 neD (x1 lenSetD (x2 ixD (xV 0) (xC (.int 0)))) (x1 lenD (x2 ixD (xV 0) (xC (.int 0)))))) (sRet (xC (.bool false))) sNil)
    (sRet (xAnd (x1 (isiD .bool) (x2 ixD (xV 0) (xC (.int 1)))) (xCall 3 m_is_within (aC (x2 ixD (xV 0) (xC (.int 2))) (aC (xC (.int 1)) (aC (xC (.int 60)) aN)))))))))
def m_is_setting : Fn := runB b_is_setting 2
def b_look_house : XS :=
  (sIf (tNot1 (tTru (xCall 3 m_is_within (aC (xV 1) (aC (xC (.int 0)) (aC (x2 subD (x1 lenD (x2 ixD (xV 0) (xC (.int 0)))) (xC (.int 1))) aN)))))) (sRaise "NoHouse") sNil)
def m_look_house : Fn := runB b_look_house 2
def b_ring : XS :=
  (sSeq (sIf (tNot1 (tTru (xCall 1 m_is_code (aC (xV 0) aN)))) (sRaise "NoCode") sNil)
    (sSeq (sIf (tNot1 (tTru (xCall 3 m_is_within (aC (xV 1) (aC (xC (.int 0)) (aC (xC (.int 400)) aN)))))) (sRaise "NoCount") sNil)
    (sSeq (sSet 2 (xCall 1 m_beats (aC (xV 0) aN)))
    (sRet (xComp (iR1 (aC (xV 1) aN)) (gN 3) tAll (x2 ixD (xV 2) (x2 modD (xV 3) (x1 lenD (xV 2)))) [3])))))
def m_ring : Fn := runB b_ring 4
def b__law_code : XS :=
  (sRet (xM1 joinD (xC (.str "")) (xComp (iR1 (aC (x2 addD (xC (.int 1)) (x2 modD (x2 fdivD (xV 0) (xC (.int 5))) (xC (.int 4)))) aN)) (gN 1) tAll (x2 ixD (xC (.str "sl")) (xCall 2 m__law_pick (aC (xCall 2 m__law_seed (aC (xV 0) (aC (xV 1) aN))) (aC (xC (.int 2)) aN)))) [1])))
def m__law_code : Fn := runB b__law_code 2
def b__law_ring : XS :=
  (sSeq (sSet 2 (xCall 1 m__law_beats (aC (xV 0) aN)))
    (sRet (xComp (iR1 (aC (xV 1) aN)) (gN 3) tAll (x2 ixD (xV 2) (x2 modD (xV 3) (x1 lenD (xV 2)))) [3])))
def m__law_ring : Fn := runB b__law_ring 4
def b__law_pair : XS :=
  (sSeq (sSet 3 (x1 lenD (x2 ixD (xV 0) (xC (.int 0)))))
    (sSeq (sSet 4 (x2 modD (xCall 2 m__law_cell (aC (xV 1) (aC (xV 2) aN))) (xV 3)))
    (sSeq (sSet 5 (x2 modD (x2 addD (x2 addD (xV 4) (xC (.int 1))) (xCall 3 m__law_mix (aC (xCall 2 m__law_cell (aC (xV 1) (aC (x2 addD (xV 2) (xC (.int 1))) aN))) (aC (xC (.int 9949)) (aC (x2 subD (xV 3) (xC (.int 1))) aN))))) (xV 3)))
    (sRet (xTup (aC (xV 4) (aC (xV 5) aN)))))))
def m__law_pair : Fn := runB b__law_pair 6
def b_look : XS :=
  (sIf (tNot1 (tTru (xCall 1 m_is_setting (aC (xV 0) aN)))) (sRaise "NoSetting") sNil)
def m_look : Fn := runB b_look 1
def b__law_setting : XS :=
  (sSeq (sOwn 1 (xLst aN))
    (sSeq (sFor (iR1 (aC (x2 addD (xC (.int 2)) (x2 modD (x2 fdivD (xV 0) (xC (.int 7))) (xC (.int 7)))) aN)) (gN 2) (sSeq (sSet 3 (xCall 1 m__law_code (aC (xCall 2 m__law_seed (aC (xV 0) (aC (x2 addD (xC (.int 10)) (xV 2)) aN))) aN)))
    (sIf (xB (x2 niD (xV 3) (xL 1))) (sApp 1 (xV 3)) sNil)))
    (sSeq (sIf (xB (x2 ltD (x1 lenD (xL 1)) (xC (.int 2)))) (sOwn 1 (x2 catD (xL 1) (xSl sliD (xComp (iAny (xTup (aC (xC (.str "sl")) (aC (xC (.str "ls")) aN)))) (gN 3) (xB (x2 niD (xV 3) (xL 1))) (xV 3) [3]) oN (oS (xC (.int 1)))))) sNil)
    (sRet (xTup (aC (x1 tupD (xL 1)) (aC (x2 eqD (x2 modD (x2 fdivD (xV 0) (xC (.int 11))) (xC (.int 2))) (xC (.int 0))) (aC (x2 addD (xC (.int 1)) (xCall 2 m__law_pick (aC (xCall 2 m__law_seed (aC (xV 0) (aC (xC (.int 30)) aN))) (aC (x2 ixD (xLst (aC (xC (.int 60)) (aC (xC (.int 9)) aN))) (x2 modD (x2 fdivD (xV 0) (xC (.int 13))) (xC (.int 2)))) aN)))) aN))))))))
def m__law_setting : Fn := runB b__law_setting 4
def b_meant : XS :=
  (sSeq (sDrop (xCall 1 m_look (aC (xV 0) aN)))
    (sSeq (sIf (tOr2 (tNot1 (tTru (x1 (isiD .list) (xV 1)))) (tOr2 (xB (x2 gtD (x1 lenD (xV 1)) (xC (.int 400)))) (tTru (xComp (iAny (xV 1)) (gN 2) (tNot1 (tTru (x1 (isiD .bool) (xV 2)))) (xV 2) [2])))) (sRaise "NoCode") sNil)
    (sRet (xComp (iEnA (aC (x2 ixD (xV 0) (xC (.int 0))) aN)) (gT 2 (gsC (gN 3) (gsC (gN 4) gsN))) (xB (x2 eqD (xCall 2 m_ring (aC (xV 4) (aC (x1 lenD (xV 1)) aN))) (xV 1))) (xV 3) [3, 4]))))
def m_meant : Fn := runB b_meant 5
def b_apart_behind : XS :=
  (sSeq (sDrop (xCall 1 m_look (aC (xV 0) aN)))
    (sSeq (sDrop (xCall 2 m_look_house (aC (xV 0) (aC (xV 1) aN))))
    (sSeq (sDrop (xCall 2 m_look_house (aC (xV 0) (aC (xV 2) aN))))
    (sSeq (sIf (xB (x2 eqD (xV 1) (xV 2))) (sRaise "NoHouse") sNil)
    (sSeq (sSet 3 (xCall 2 m_ring (aC (x2 ixD (x2 ixD (xV 0) (xC (.int 0))) (xV 1)) (aC (xC (.int 400)) aN))))
    (sSeq (sSet 4 (xCall 2 m_ring (aC (x2 ixD (x2 ixD (xV 0) (xC (.int 0))) (xV 2)) (aC (xC (.int 400)) aN))))
    (sSeq (sSet 5 (xC (.int 0)))
    (sSeq (whileN (xB (x2 eqD (xSl sliD (xV 3) oN (oS (xV 5))) (xSl sliD (xV 4) oN (oS (xV 5))))) (sAug (fun a c => a + c) 5 (xC (.int 1))) 2000)
    (sRet (xV 5))))))))))
def m_apart_behind : Fn := runB b_apart_behind 6
def b_mistaken : XS :=
  (sSeq (sDrop (xCall 1 m_look (aC (xV 0) aN)))
    (sSeq (sIf (tNot1 (tTru (xCall 3 m_is_within (aC (xV 1) (aC (xC (.int 0)) (aC (xC (.int 400)) aN)))))) (sRaise "NoCount") sNil)
    (sSeq (sSet 2 (xComp (iAny (x2 ixD (xV 0) (xC (.int 0)))) (gN 3) tAll (xCall 2 m_ring (aC (xV 3) (aC (xV 1) aN))) [3]))
    (sSeq (sOwn 4 (xLst aN))
    (sSeq (sFor (iR1 (aC (x1 lenD (xV 2)) aN)) (gN 5) (sExt 4 (xComp (iR1 (aC (xV 5) aN)) (gN 6) (xB (x2 eqD (x2 ixD (xV 2) (xV 6)) (x2 ixD (xV 2) (xV 5)))) (xTup (aC (xV 6) (aC (xV 5) aN))) [6])))
    (sRet (x1 sortedD (xL 4))))))))
def m_mistaken : Fn := runB b_mistaken 7
def b_sure_behind : XS :=
  (sSeq (sDrop (xCall 1 m_look (aC (xV 0) aN)))
    (sSeq (sDrop (xCall 2 m_look_house (aC (xV 0) (aC (xV 1) aN))))
    (sSeq (sSet 2 (xCall 2 m_ring (aC (x2 ixD (x2 ixD (xV 0) (xC (.int 0))) (xV 1)) (aC (xC (.int 400)) aN))))
    (sSeq (sSet 3 (xC (.int 0)))
    (sSeq (whileN (xB (x2 neD (xCall 2 m_meant (aC (xV 0) (aC (xSl sliD (xV 2) oN (oS (xV 3))) aN))) (xLst (aC (xV 1) aN)))) (sAug (fun a c => a + c) 3 (xC (.int 1))) 2000)
    (sRet (xV 3)))))))
def m_sure_behind : Fn := runB b_sure_behind 4
def b_all_sure_behind : XS :=
  (sSeq (sDrop (xCall 1 m_look (aC (xV 0) aN)))
    (sRet (x1 maxD (xComp (iR1 (aC (x1 lenD (x2 ixD (xV 0) (xC (.int 0)))) aN)) (gN 1) tAll (xCall 2 m_sure_behind (aC (xV 0) (aC (xV 1) aN))) [1]))))
def m_all_sure_behind : Fn := runB b_all_sure_behind 2
def b_law_k13_1 : XS := (sSet 1 (xCall 1 m__law_setting (aC (xCall 2 m__law_seed (aC (xCall 2 m__law_cell (aC (xV 0) (aC (xC (.int 0)) aN))) (aC (xC (.int 0)) aN))) aN)))
def b_law_k13_2 : XS := (sTo (gT 2 (gsC (gN 2) (gsC (gN 3) gsN))) (xCall 3 m__law_pair (aC (xV 1) (aC (xV 0) (aC (xC (.int 1)) aN)))))
def b_law_k13_3 : XS := (sSet 4 (xComp (iAny (x2 ixD (xV 1) (xC (.int 0)))) (gN 5) tAll (xCall 2 m__law_ring (aC (xV 5) (aC (xC (.int 400)) aN))) [5]))
def b_law_k13_4 : XS := (sSet 6 (xC (.int 0)))
def b_law_k13_5a : XS := (sAug (fun a c => a + c) 6 (xC (.int 1)))
def b_law_k13_5 : XS := (whileN (xB (x2 eqD (xSl sliD (x2 ixD (xV 4) (xV 2)) oN (oS (xV 6))) (xSl sliD (x2 ixD (xV 4) (xV 3)) oN (oS (xV 6))))) b_law_k13_5a 2000)
def b_law_k13_6 : XS := (sIf (tOr2 (xB (x2 neD (xCall 3 m_apart_behind (aC (xV 1) (aC (xV 2) (aC (xV 3) aN)))) (xV 6))) (tNot1 (tTru (xCall 1 m__law_whole (aC (xCall 3 m_apart_behind (aC (xV 1) (aC (xV 2) (aC (xV 3) aN)))) aN))))) (sRet (xC (.bool false))) sNil)
def b_law_k13_7 : XS := (sSet 7 (x1 lenD (xV 4)))
def b_law_k13_8a : XS := (sSet 9 (x2 addD (xV 9) (xComp (iR2 (aC (x2 addD (xV 10) (xC (.int 1))) (aC (xV 7) aN))) (gN 11) (xB (x2 eqD (xSl sliD (x2 ixD (xV 4) (xV 10)) oN (oS (xV 8))) (xSl sliD (x2 ixD (xV 4) (xV 11)) oN (oS (xV 8))))) (xTup (aC (xV 10) (aC (xV 11) aN))) [11])))
def b_law_k13_8b : XS := (sSeq (sSet 9 (xLst aN))
    (sSeq (sFor (iR1 (aC (xV 7) aN)) (gN 10) b_law_k13_8a)
    (sIf (xB (x2 neD (xCall 2 m_mistaken (aC (xV 1) (aC (xV 8) aN))) (xV 9))) (sRet (xC (.bool false))) sNil)))
def b_law_k13_8 : XS := (sFor (iAny (xTup (aC (x2 modD (xCall 2 m__law_cell (aC (xV 0) (aC (xC (.int 3)) aN))) (xC (.int 30))) (aC (x2 modD (xCall 2 m__law_cell (aC (xV 0) (aC (xC (.int 4)) aN))) (xC (.int 401))) aN)))) (gN 8) b_law_k13_8b)
def b_law_k13_9 : XS := (sSet 12 (xC (.int 0)))
def b_law_k13_10a : XS := (sAug (fun a c => a + c) 6 (xC (.int 1)))
def b_law_k13_10b : XS := (sSeq (sSet 6 (xC (.int 0)))
    (sSeq (whileN (xB (x2 neD (xComp (iAny (xV 4)) (gN 14) (xB (x2 eqD (xSl sliD (xV 14) oN (oS (xV 6))) (xSl sliD (x2 ixD (xV 4) (xV 13)) oN (oS (xV 6))))) (xC (.int 1)) [14]) (xLst (aC (xC (.int 1)) aN)))) b_law_k13_10a 2000)
    (sSet 12 (b2D (fun i j => if j > i then j else i) (aC (xV 12) (aC (xV 6) aN))))))
def b_law_k13_10 : XS := (sFor (iR1 (aC (xV 7) aN)) (gN 13) b_law_k13_10b)
def b_law_k13_11 : XS := (sRet (x2 eqD (xCall 1 m_all_sure_behind (aC (xV 1) aN)) (xV 12)))
def b_law_k13 : XS :=
  (sSeq b_law_k13_1 (sSeq b_law_k13_2 (sSeq b_law_k13_3 (sSeq b_law_k13_4 (sSeq b_law_k13_5 (sSeq b_law_k13_6 (sSeq b_law_k13_7 (sSeq b_law_k13_8 (sSeq b_law_k13_9 (sSeq b_law_k13_10 b_law_k13_11))))))))))
def m_law_k13 : Fn := runB b_law_k13 15
def b_Line_moment : XS :=
  (sRet (xFld "Line" "tick_now" (xV 0)))
def m_Line_moment : Fn := runB b_Line_moment 1
def b_Line_lifted : XS :=
  (sRet (x1 sortedD (xFldL "Line" "off" (xV 0))))
def m_Line_lifted : Fn := runB b_Line_lifted 1
def b_Line_talking : XS :=
  (sRet (x1 sortedD (xFldL "Line" "inside" (xV 0))))
def m_Line_talking : Fn := runB b_Line_talking 1
def b_Line_caller : XS :=
  (sRet (xFld "Line" "outside" (xV 0)))
def m_Line_caller : Fn := runB b_Line_caller 1
def b_Line_waiting : XS :=
  (sRet (x1 lstD (xFldL "Line" "queue" (xV 0))))
def m_Line_waiting : Fn := runB b_Line_waiting 1
def b_Line_is_let : XS :=
  (sRet (xOr (xNotT (x2 ixD (xFld "Line" "setting" (xV 0)) (xC (.int 1)))) (x2 inD (xV 1) (xFld "Line" "let" (xV 0)))))
def m_Line_is_let : Fn := runB b_Line_is_let 2
def b_Line_is_idle : XS :=
  (sRet (xAnd (x1t isND (xFld "Line" "rung" (xV 0))) (xAnd (x2 eqD (xFld "Line" "outside" (xV 0)) (xC (.str ""))) (xAnd (xNotT (xFldL "Line" "inside" (xV 0))) (x1t isND (xFld "Line" "asker" (xV 0)))))))
def m_Line_is_idle : Fn := runB b_Line_is_idle 1
def b_Line_ring_for : XS :=
  (sSeq (sFld "Line" "rung" (xV 0) (xTup (aC (xV 1) (aC (xC .none) (aC (xFld "Line" "tick_now" (xV 0)) aN)))))
    (sSeq (sFld "Line" "outside" (xV 0) (xC (.str "rings")))
    (sFld "Line" "let" (xV 0) (xLst (aC (xV 1) aN)))))
def m_Line_ring_for : Fn := runB b_Line_ring_for 2
def b_Line_answer : XS :=
  (sIf (xB (x2 eqD (xV 1) (x2 ixD (xFld "Line" "rung" (xV 0)) (xC (.int 1))))) (sFld "Line" "rung" (xV 0) (xC .none)) (sIf (tOr2 (xB (x2 eqD (xV 1) (x2 ixD (xFld "Line" "rung" (xV 0)) (xC (.int 0))))) (tNot1 (tTru (x2 ixD (xFld "Line" "setting" (xV 0)) (xC (.int 1)))))) (sSeq (sFld "Line" "rung" (xV 0) (xC .none))
    (sSeq (sFldN "Line" "inside" (xV 0) (xLst (aC (xV 1) aN)))
    (sIf (xB (x2 eqD (xFld "Line" "outside" (xV 0)) (xC (.str "rings")))) (sFld "Line" "outside" (xV 0) (xC (.str "talks"))) sNil))) sNil))
def m_Line_answer : Fn := runB b_Line_answer 2
def b__law_in : XS :=
  (sRet (xAnd (x1 (isiD .int) (xV 0)) (xAnd (xNotT (x1 (isiD .bool) (xV 0))) (x3 leD leD (xV 1) (xV 0) (xV 2)))))
def m__law_in : Fn := runB b__law_in 3
def b__law_start : XS :=
  (sSeq (sSet 1 (xRec ["setting", "now", "off", "asker", "dialled", "rung", "out"] (aC (xV 0) (aC (xC (.int 0)) (aC (xLst aN) (aC (xC .none) (aC (xC .none) (aC (xC .none) (aC (xC (.str "")) aN)))))))))
    (sSeq (sToH (hT 3 (hsC (hSub "in" 1) (hsC (hSub "queue" 1) (hsC (hSub "let" 1) hsN)))) (xTup (aC (xLst aN) (aC (xLst aN) (aC (xLst aN) aN)))))
    (sRet (xV 1))))
def m__law_start : Fn := runB b__law_start 2
def b__law_is_idle : XS :=
  (sRet (xAnd (x1t isND (xFld "" "rung" (xV 0))) (xAnd (x2 eqD (xFld "" "out" (xV 0)) (xC (.str ""))) (xAnd (x2 eqD (xFld "" "in" (xV 0)) (xLst aN)) (x1t isND (xFld "" "asker" (xV 0)))))))
def m__law_is_idle : Fn := runB b__law_is_idle 1
def b_Line_settle : XS :=
  (sSeq (sIf (tNot1 (tTru (xMeth "Line" "is_idle" 1 m_Line_is_idle (xV 0) aN))) sRetN sNil)
    (sIf (tTru (xFldL "Line" "off" (xV 0))) (sSeq (sFld "Line" "asker" (xV 0) (x1 minD (xFldL "Line" "off" (xV 0))))
    (sFld "Line" "let" (xV 0) (xLst (aC (xFld "Line" "asker" (xV 0)) aN)))) (sIf (tTru (xFldL "Line" "queue" (xV 0))) (sDrop (xMeth "Line" "ring_for" 2 m_Line_ring_for (xV 0) (aC (xFPop "Line" "queue" 0 popF) aN))) sNil)))
def m_Line_settle : Fn := runB b_Line_settle 1
def b_Line_rings : XS :=
  (sSeq (sIf (xB (x1t isND (xFld "Line" "rung" (xV 0)))) (sRet (xC (.bool false))) sNil)
    (sSeq (sSet 1 (xCall 1 m_beats (aC (x2 ixD (x2 ixD (xFld "Line" "setting" (xV 0)) (xC (.int 0))) (x2 ixD (xFld "Line" "rung" (xV 0)) (xC (.int 0)))) aN)))
    (sSeq (sIf (xB (x1t notND (x2 ixD (xFld "Line" "rung" (xV 0)) (xC (.int 1))))) (sSet 1 (x2 addD (xV 1) (xCall 1 m_beats (aC (x2 ixD (x2 ixD (xFld "Line" "setting" (xV 0)) (xC (.int 0))) (x2 ixD (xFld "Line" "rung" (xV 0)) (xC (.int 1)))) aN)))) sNil)
    (sRet (x2 ixD (xV 1) (x2 modD (x2 subD (xFld "Line" "tick_now" (xV 0)) (x2 ixD (xFld "Line" "rung" (xV 0)) (xC (.int 2)))) (x1 lenD (xV 1))))))))
def m_Line_rings : Fn := runB b_Line_rings 2
def b__law_settle : XS :=
  (sIf (tAnd2 (tTru (xCall 1 m__law_is_idle (aC (xV 0) aN))) (xB (x2 neD (xFld "" "off" (xV 0)) (xLst aN)))) (sSeq (sPut "asker" (xV 0) (x1 minD (xFld "" "off" (xV 0))))
    (sPut "let" (xV 0) (xLst (aC (xFld "" "asker" (xV 0)) aN)))) (sIf (tAnd2 (tTru (xCall 1 m__law_is_idle (aC (xV 0) aN))) (xB (x2 neD (xFld "" "queue" (xV 0)) (xLst aN)))) (sSeq (sSet 1 (x2 ixD (xFld "" "queue" (xV 0)) (xC (.int 0))))
    (sSeq (sToH (hT 2 (hsC (hSub "queue" 0) (hsC (hSub "let" 0) hsN))) (xTup (aC (xSl sliD (xFld "" "queue" (xV 0)) (oS (xC (.int 1))) oN) (aC (xLst (aC (xV 1) aN)) aN))))
    (sToH (hT 2 (hsC (hSub "rung" 0) (hsC (hSub "out" 0) hsN))) (xTup (aC (xTup (aC (xV 1) (aC (xC .none) (aC (xFld "" "now" (xV 0)) aN)))) (aC (xC (.str "rings")) aN)))))) sNil))
def m__law_settle : Fn := runB b__law_settle 2
def b__law_rings : XS :=
  (sSeq (sIf (xB (x1t isND (xFld "" "rung" (xV 0)))) (sRet (xC (.bool false))) sNil)
    (sSeq (sTo (gT 3 (gsC (gN 1) (gsC (gN 2) (gsC (gN 3) gsN)))) (xFld "" "rung" (xV 0)))
    (sSeq (sSet 4 (xCall 1 m__law_beats (aC (x2 ixD (x2 ixD (xFld "" "setting" (xV 0)) (xC (.int 0))) (xV 1)) aN)))
    (sSeq (sIf (xB (x1t notND (xV 2))) (sSet 4 (x2 addD (xV 4) (xCall 1 m__law_beats (aC (x2 ixD (x2 ixD (xFld "" "setting" (xV 0)) (xC (.int 0))) (xV 2)) aN)))) sNil)
    (sRet (x2 ixD (xV 4) (x2 modD (x2 subD (xFld "" "now" (xV 0)) (xV 3)) (x1 lenD (xV 4)))))))))
def m__law_rings : Fn := runB b__law_rings 5
def b__law_deed_1 : XS := (sSet 2 (x1 lenD (x2 ixD (xFld "" "setting" (xV 0)) (xC (.int 0)))))
def b__law_deed_2 : XS := (sPar 3 4 (aC (xCall 2 m__law_pick (aC (xCall 2 m__law_seed (aC (xV 1) (aC (xC (.int 1)) aN))) (aC (xV 2) aN))) (aC (xCall 2 m__law_pick (aC (xCall 2 m__law_seed (aC (xV 1) (aC (xC (.int 2)) aN))) (aC (xV 2) aN))) aN)))
def b__law_deed_3 : XS := (sSet 5 (xCall 2 m__law_pick (aC (xV 1) (aC (xC (.int 26)) aN))))
def b__law_deed_4 : XS := (sIf (xB (x2 ltD (xV 5) (xC (.int 7)))) (sRet (xTup (aC (xC (.str "tick")) aN))) sNil)
def b__law_deed_5 : XS := (sIf (xB (x2 ltD (xV 5) (xC (.int 16)))) (sRet (xTup (aC (xIf (xB (x2 inD (xV 3) (xFld "" "off" (xV 0)))) (xC (.str "hang")) (xC (.str "lift"))) (aC (xV 3) aN)))) sNil)
def b__law_deed_6 : XS := (sIf (tAnd2 (xB (x2 eqD (xV 5) (xC (.int 16)))) (xB (x1t notND (xFld "" "rung" (xV 0))))) (sRet (xTup (aC (xC (.str "lift")) (aC (xIf (xB (x1t notND (x2 ixD (xFld "" "rung" (xV 0)) (x2 modD (x2 fdivD (xV 1) (xC (.int 5))) (xC (.int 2)))))) (x2 ixD (xFld "" "rung" (xV 0)) (x2 modD (x2 fdivD (xV 1) (xC (.int 5))) (xC (.int 2)))) (xV 3)) aN)))) sNil)
def b__law_deed_7 : XS := (sSet 6 (xIf (tOr2 (xB (x1t isND (xFld "" "asker" (xV 0)))) (xB (x2 eqD (x2 modD (x2 fdivD (xV 1) (xC (.int 7))) (xC (.int 5))) (xC (.int 0))))) (xV 3) (xFld "" "asker" (xV 0))))
def b__law_deed_8 : XS := (sSet 7 (xIf (tOr2 (xB (x2 eqD (xFld "" "in" (xV 0)) (xLst aN))) (xB (x2 eqD (x2 modD (x2 fdivD (xV 1) (xC (.int 7))) (xC (.int 5))) (xC (.int 0))))) (xV 3) (x2 ixD (xFld "" "in" (xV 0)) (xC (.int 0)))))
def b__law_deed_9 : XS := (sIf (xB (x2 ltD (xV 5) (xC (.int 20)))) (sRet (xIf (xB (x2 ltD (xV 5) (xC (.int 19)))) (xTup (aC (xC (.str "dial")) (aC (xV 6) (aC (xV 4) aN)))) (xTup (aC (xC (.str "out")) (aC (xV 6) aN))))) sNil)
def b__law_deed_10 : XS := (sIf (xB (x2 ltD (xV 5) (xC (.int 23)))) (sRet (xIf (xB (x2 ltD (xV 5) (xC (.int 22)))) (xTup (aC (xC (.str "call")) (aC (xV 3) aN))) (xTup (aC (xC (.str "end")) aN)))) sNil)
def b__law_deed_11 : XS := (sIf (xB (x2 ltD (xV 5) (xC (.int 25)))) (sRet (xTup (aC (x2 ixD (xLst (aC (xC (.str "hold")) (aC (xC (.str "take")) aN))) (x2 subD (xV 5) (xC (.int 23)))) (aC (xV 7) aN)))) sNil)
def b__law_deed_12 : XS := (sSet 8 (xLst (aC (xTup (aC (xC (.str "lift")) (aC (xV 2) aN))) (aC (xTup (aC (xC (.str "hang")) (aC (x1 negD (xC (.int 1))) aN))) (aC (xTup (aC (xC (.str "dial")) (aC (xV 6) (aC (xV 6) aN)))) (aC (xTup (aC (xC (.str "dial")) (aC (xV 6) (aC (xC .none) aN)))) (aC (xTup (aC (xC (.str "call")) (aC (xC (.bool true)) aN))) (aC (xTup (aC (xC (.str "out")) (aC (xC (.str "0")) aN))) aN))))))))
def b__law_deed_13 : XS := (sSet 8 (x2 addD (xV 8) (xLst (aC (xTup (aC (xC (.str "hold")) (aC (xC .none) aN))) (aC (xTup (aC (xC (.str "take")) (aC (xV 2) aN))) (aC (xTup (aC (xC (.str "lift")) (aC (xV 4) aN))) (aC (xTup (aC (xC (.str "hang")) (aC (xV 4) aN))) (aC (xTup (aC (xC (.str "dial")) (aC (xV 2) (aC (xC (.int 0)) aN)))) (aC (xTup (aC (xC (.str "call")) (aC (xV 2) aN))) aN)))))))))
def b__law_deed_14 : XS := (sRet (x2 ixD (xV 8) (x2 modD (x2 fdivD (xV 1) (xC (.int 5))) (xC (.int 12)))))
def b__law_deed : XS :=
  (sSeq b__law_deed_1 (sSeq b__law_deed_2 (sSeq b__law_deed_3 (sSeq b__law_deed_4 (sSeq b__law_deed_5 (sSeq b__law_deed_6 (sSeq b__law_deed_7 (sSeq b__law_deed_8 (sSeq b__law_deed_9 (sSeq b__law_deed_10 (sSeq b__law_deed_11 (sSeq b__law_deed_12 (sSeq b__law_deed_13 b__law_deed_14)))))))))))))
def m__law_deed : Fn := runB b__law_deed 9
def b__law_told_inside : XS :=
  (sSeq (sIf (xB (x2 inD (xV 1) (xTup (aC (xC (.str "hold")) (aC (xC (.str "take")) aN))))) (sSeq (sIf (tOr2 (xB (x2 niD (xV 2) (xFld "" "in" (xV 0)))) (xB (x2 neD (xFld "" "out" (xV 0)) (xLit [("hold", .str "talks"), ("take", .str "held")] (xV 1))))) (sRet (xC (.str "talk"))) sNil)
    (sSeq (sPut "out" (xV 0) (xLit [("hold", .str "held"), ("take", .str "talks")] (xV 1)))
    (sRet (xC .none)))) sNil)
    (sSeq (sIf (tOr2 (xB (x2 neD (xFld "" "asker" (xV 0)) (xV 2))) (xB (x1t notND (xFld "" "dialled" (xV 0))))) (sRet (xC (.str "tone"))) sNil)
    (sSeq (sIf (xB (x2 eqD (xV 1) (xC (.str "out")))) (sSeq (sToH (hT 3 (hsC (hSub "asker" 0) (hsC (hSub "in" 0) (hsC (hSub "out" 0) hsN)))) (xTup (aC (xC .none) (aC (xLst (aC (xV 2) aN)) (aC (xC (.str "talks")) aN)))))
    (sRet (xC .none))) sNil)
    (sSeq (sIf (tOr2 (tNot1 (tTru (xCall 3 m__law_in (aC (x2 ixD (xV 3) (xC (.int 1))) (aC (xC (.int 0)) (aC (x2 subD (x1 lenD (x2 ixD (xFld "" "setting" (xV 0)) (xC (.int 0)))) (xC (.int 1))) aN)))))) (xB (x2 eqD (x2 ixD (xV 3) (xC (.int 1))) (xV 2)))) (sRet (xC (.str "house"))) sNil)
    (sSeq (sPut "dialled" (xV 0) (x2 ixD (xV 3) (xC (.int 1))))
    (sRet (xC .none)))))))
def m__law_told_inside : Fn := runB b__law_told_inside 4
def b_Line_look_tone : XS :=
  (sSeq (sDrop (xCall 2 m_look_house (aC (xFld "Line" "setting" (xV 0)) (aC (xV 1) aN))))
    (sIf (tOr2 (xB (x2 neD (xFld "Line" "asker" (xV 0)) (xV 1))) (xB (x1t notND (xFld "Line" "dialled" (xV 0))))) (sRaise "NoTone") sNil))
def m_Line_look_tone : Fn := runB b_Line_look_tone 2
def b_Line_hang : XS :=
  (sSeq (sDrop (xCall 2 m_look_house (aC (xFld "Line" "setting" (xV 0)) (aC (xV 1) aN))))
    (sSeq (sIf (xB (x2 niD (xV 1) (xFldL "Line" "off" (xV 0)))) (sRaise "IsOn") sNil)
    (sSeq (sFRem "Line" "off" 0 1)
    (sSeq (sIf (xB (x2 eqD (xFld "Line" "asker" (xV 0)) (xV 1))) (sSeq (sFld "Line" "asker" (xV 0) (xC .none))
    (sSeq (sIf (tAnd2 (xB (x1t notND (xFld "Line" "dialled" (xV 0)))) (xB (x2 niD (xFld "Line" "dialled" (xV 0)) (xFldL "Line" "off" (xV 0))))) (sSeq (sFld "Line" "rung" (xV 0) (xTup (aC (xFld "Line" "dialled" (xV 0)) (aC (xV 1) (aC (xFld "Line" "tick_now" (xV 0)) aN)))))
    (sFld "Line" "let" (xV 0) (xLst (aC (xFld "Line" "dialled" (xV 0)) (aC (xV 1) aN))))) sNil)
    (sFld "Line" "dialled" (xV 0) (xC .none)))) (sIf (xB (x2 inD (xV 1) (xFldL "Line" "inside" (xV 0)))) (sSeq (sFRem "Line" "inside" 0 1)
    (sIf (tAnd2 (tNot1 (tTru (xFldL "Line" "inside" (xV 0)))) (xB (x2 eqD (xFld "Line" "outside" (xV 0)) (xC (.str "talks"))))) (sFld "Line" "outside" (xV 0) (xC (.str ""))) sNil)) sNil))
    (sDrop (xMeth "Line" "settle" 1 m_Line_settle (xV 0) aN))))))
def m_Line_hang : Fn := runB b_Line_hang 2
def b_Line_call_in : XS :=
  (sSeq (sDrop (xCall 2 m_look_house (aC (xFld "Line" "setting" (xV 0)) (aC (xV 1) aN))))
    (sSeq (sIf (tTru (xMeth "Line" "is_idle" 1 m_Line_is_idle (xV 0) aN)) (sSeq (sDrop (xMeth "Line" "ring_for" 2 m_Line_ring_for (xV 0) (aC (xV 1) aN)))
    (sRet (xC (.str "rings")))) sNil)
    (sSeq (sIf (xB (x2 eqD (x1 lenD (xFldL "Line" "queue" (xV 0))) (xC (.int 3)))) (sRet (xC (.str "busy"))) sNil)
    (sSeq (sFApp "Line" "queue" 0 1)
    (sRet (xC (.str "waits")))))))
def m_Line_call_in : Fn := runB b_Line_call_in 2
def b_Line_end : XS :=
  (sSeq (sIf (xB (x2 eqD (xFld "Line" "outside" (xV 0)) (xC (.str "")))) (sRaise "NoCall") sNil)
    (sSeq (sIf (xB (x2 eqD (xFld "Line" "outside" (xV 0)) (xC (.str "rings")))) (sFld "Line" "rung" (xV 0) (xC .none)) sNil)
    (sSeq (sFld "Line" "outside" (xV 0) (xC (.str "")))
    (sDrop (xMeth "Line" "settle" 1 m_Line_settle (xV 0) aN)))))
def m_Line_end : Fn := runB b_Line_end 1
def b_Line_turn : XS :=
  (sSeq (sDrop (xCall 2 m_look_house (aC (xFld "Line" "setting" (xV 0)) (aC (xV 1) aN))))
    (sSeq (sIf (tOr2 (xB (x2 niD (xV 1) (xFldL "Line" "inside" (xV 0)))) (xB (x2 neD (xFld "Line" "outside" (xV 0)) (xV 2)))) (sRaise "NoTalk") sNil)
    (sFld "Line" "outside" (xV 0) (xV 3))))
def m_Line_turn : Fn := runB b_Line_turn 4
def b_Line_tick : XS :=
  (sSeq (sAugF "Line" "tick_now" (xV 0) (xC (.int 1)))
    (sIf (tAnd2 (xB (x1t notND (xFld "Line" "rung" (xV 0)))) (xB (x2 geD (x2 subD (xFld "Line" "tick_now" (xV 0)) (x2 ixD (xFld "Line" "rung" (xV 0)) (xC (.int 2)))) (x2 ixD (xFld "Line" "setting" (xV 0)) (xC (.int 2)))))) (sSeq (sFld "Line" "rung" (xV 0) (xC .none))
    (sSeq (sFld "Line" "outside" (xV 0) (xC (.str "")))
    (sDrop (xMeth "Line" "settle" 1 m_Line_settle (xV 0) aN)))) sNil))
def m_Line_tick : Fn := runB b_Line_tick 1
def b_Line_heard : XS :=
  (sSeq (sDrop (xCall 2 m_look_house (aC (xFld "Line" "setting" (xV 0)) (aC (xV 1) aN))))
    (sSeq (sIf (xB (x2 niD (xV 1) (xFldL "Line" "off" (xV 0)))) (sRet (xIf (tTru (xMeth "Line" "rings" 1 m_Line_rings (xV 0) aN)) (xTup (aC (xC (.str "ring")) aN)) (xTup aN))) sNil)
    (sSeq (sIf (xB (x2 eqD (xFld "Line" "asker" (xV 0)) (xV 1))) (sRet (xIf (xB (x1t isND (xFld "Line" "dialled" (xV 0)))) (xTup (aC (xC (.str "tone")) aN)) (xTup (aC (xC (.str "busy")) aN)))) sNil)
    (sSeq (sIf (xB (x2 niD (xV 1) (xFldL "Line" "inside" (xV 0)))) (sRet (xTup (aC (xC (.str "shut")) aN))) sNil)
    (sRet (xTup (aC (xC (.str "talk")) (aC (x1 tupD (xComp (iAny (xMeth "Line" "talking" 1 m_Line_talking (xV 0) aN)) (gN 2) (xB (x2 neD (xV 2) (xV 1))) (xV 2) [2])) (aC (x2 eqD (xFld "Line" "outside" (xV 0)) (xC (.str "talks"))) aN)))))))))
def m_Line_heard : Fn := runB b_Line_heard 3
def b__law_hang : XS :=
  (sSeq (sPut "off" (xV 0) (xComp (iAny (xFld "" "off" (xV 0))) (gN 2) (xB (x2 neD (xV 2) (xV 1))) (xV 2) [2]))
    (sSeq (sIf (xB (x2 eqD (xFld "" "asker" (xV 0)) (xV 1))) (sSeq (sToH (hT 3 (hsC (hN 3) (hsC (hSub "asker" 0) (hsC (hSub "dialled" 0) hsN)))) (xTup (aC (xFld "" "dialled" (xV 0)) (aC (xC .none) (aC (xC .none) aN)))))
    (sIf (tAnd2 (xB (x1t notND (xV 3))) (xB (x2 niD (xV 3) (xFld "" "off" (xV 0))))) (sToH (hT 2 (hsC (hSub "rung" 0) (hsC (hSub "let" 0) hsN))) (xTup (aC (xTup (aC (xV 3) (aC (xV 1) (aC (xFld "" "now" (xV 0)) aN)))) (aC (xLst (aC (xV 3) (aC (xV 1) aN))) aN)))) sNil)) (sIf (xB (x2 inD (xV 1) (xFld "" "in" (xV 0)))) (sSeq (sPut "in" (xV 0) (xComp (iAny (xFld "" "in" (xV 0))) (gN 2) (xB (x2 neD (xV 2) (xV 1))) (xV 2) [2]))
    (sIf (tAnd2 (xB (x2 eqD (xFld "" "in" (xV 0)) (xLst aN))) (xB (x2 eqD (xFld "" "out" (xV 0)) (xC (.str "talks"))))) (sPut "out" (xV 0) (xC (.str ""))) sNil)) sNil))
    (sSeq (sDrop (xCall 1 m__law_settle (aC (xV 0) aN)))
    (sRet (xC .none)))))
def m__law_hang : Fn := runB b__law_hang 4
def b__law_tick : XS :=
  (sSeq (sAugD "now" (xV 0) (xC (.int 1)))
    (sIf (tAnd2 (xB (x1t notND (xFld "" "rung" (xV 0)))) (xB (x2 geD (x2 subD (xFld "" "now" (xV 0)) (x2 ixD (xFld "" "rung" (xV 0)) (xC (.int 2)))) (x2 ixD (xFld "" "setting" (xV 0)) (xC (.int 2)))))) (sSeq (sToH (hT 2 (hsC (hSub "rung" 0) (hsC (hSub "out" 0) hsN))) (xTup (aC (xC .none) (aC (xC (.str "")) aN))))
    (sDrop (xCall 1 m__law_settle (aC (xV 0) aN)))) sNil))
def m__law_tick : Fn := runB b__law_tick 1
def b__law_heard : XS :=
  (sSeq (sIf (xB (x2 niD (xV 1) (xFld "" "off" (xV 0)))) (sRet (xIf (tTru (xCall 1 m__law_rings (aC (xV 0) aN))) (xTup (aC (xC (.str "ring")) aN)) (xTup aN))) sNil)
    (sSeq (sIf (xB (x2 eqD (xV 1) (xFld "" "asker" (xV 0)))) (sRet (xIf (xB (x1t notND (xFld "" "dialled" (xV 0)))) (xTup (aC (xC (.str "busy")) aN)) (xTup (aC (xC (.str "tone")) aN)))) sNil)
    (sSeq (sIf (xB (x2 inD (xV 1) (xFld "" "in" (xV 0)))) (sSeq (sSet 2 (x1 tupD (xComp (iAny (x1 sortedD (xFld "" "in" (xV 0)))) (gN 3) (xB (x2 neD (xV 3) (xV 1))) (xV 3) [3])))
    (sRet (xTup (aC (xC (.str "talk")) (aC (xV 2) (aC (x2 eqD (xFld "" "out" (xV 0)) (xC (.str "talks"))) aN)))))) sNil)
    (sRet (xTup (aC (xC (.str "shut")) aN))))))
def m__law_heard : Fn := runB b__law_heard 4
def b_Line___init__ : XS :=
  (sSeq (sDrop (xCall 1 m_look (aC (xV 1) aN)))
    (sSeq (sFld "Line" "setting" (xV 0) (xV 1))
    (sSeq (sFld "Line" "tick_now" (xV 0) (xC (.int 0)))
    (sSeq (sFldN "Line" "off" (xV 0) (xLst aN))
    (sSeq (sFld "Line" "asker" (xV 0) (xC .none))
    (sSeq (sFld "Line" "dialled" (xV 0) (xC .none))
    (sSeq (sFld "Line" "rung" (xV 0) (xC .none))
    (sSeq (sFld "Line" "outside" (xV 0) (xC (.str "")))
    (sSeq (sFldN "Line" "inside" (xV 0) (xLst aN))
    (sSeq (sFldN "Line" "queue" (xV 0) (xLst aN))
    (sFld "Line" "let" (xV 0) (xLst aN))))))))))))
def m_Line___init__ : Fn := runB b_Line___init__ 2
def b_Line_lift : XS :=
  (sSeq (sDrop (xCall 2 m_look_house (aC (xFld "Line" "setting" (xV 0)) (aC (xV 1) aN))))
    (sSeq (sIf (xB (x2 inD (xV 1) (xFldL "Line" "off" (xV 0)))) (sRaise "IsOff") sNil)
    (sSeq (sFApp "Line" "off" 0 1)
    (sSeq (sIf (xB (x1t notND (xFld "Line" "rung" (xV 0)))) (sDrop (xMeth "Line" "answer" 2 m_Line_answer (xV 0) (aC (xV 1) aN))) (sIf (tOr2 (xB (x2 neD (xFld "Line" "outside" (xV 0)) (xC (.str "")))) (tTru (xFldL "Line" "inside" (xV 0)))) (sIf (tTru (xMeth "Line" "is_let" 2 m_Line_is_let (xV 0) (aC (xV 1) aN))) (sFApp "Line" "inside" 0 1) sNil) (sIf (tAnd2 (xB (x1t notND (xFld "Line" "asker" (xV 0)))) (tAnd2 (xB (x1t isND (xFld "Line" "dialled" (xV 0)))) (tNot1 (tTru (x2 ixD (xFld "Line" "setting" (xV 0)) (xC (.int 1))))))) (sSeq (sFldN "Line" "inside" (xV 0) (xLst (aC (xFld "Line" "asker" (xV 0)) (aC (xV 1) aN))))
    (sFld "Line" "asker" (xV 0) (xC .none))) sNil)))
    (sSeq (sDrop (xMeth "Line" "settle" 1 m_Line_settle (xV 0) aN))
    (sRet (xMeth "Line" "heard" 2 m_Line_heard (xV 0) (aC (xV 1) aN))))))))
def m_Line_lift : Fn := runB b_Line_lift 2
def b_Line_dial : XS :=
  (sSeq (sDrop (xMeth "Line" "look_tone" 2 m_Line_look_tone (xV 0) (aC (xV 1) aN)))
    (sSeq (sDrop (xCall 2 m_look_house (aC (xFld "Line" "setting" (xV 0)) (aC (xV 2) aN))))
    (sSeq (sIf (xB (x2 eqD (xV 2) (xV 1))) (sRaise "NoHouse") sNil)
    (sFld "Line" "dialled" (xV 0) (xV 2)))))
def m_Line_dial : Fn := runB b_Line_dial 3
def b_Line_call_out : XS :=
  (sSeq (sDrop (xMeth "Line" "look_tone" 2 m_Line_look_tone (xV 0) (aC (xV 1) aN)))
    (sSeq (sFld "Line" "asker" (xV 0) (xC .none))
    (sSeq (sFldN "Line" "inside" (xV 0) (xLst (aC (xV 1) aN)))
    (sFld "Line" "outside" (xV 0) (xC (.str "talks"))))))
def m_Line_call_out : Fn := runB b_Line_call_out 2
def b_Line_hold : XS :=
  (sDrop (xMeth "Line" "turn" 4 m_Line_turn (xV 0) (aC (xV 1) (aC (xC (.str "talks")) (aC (xC (.str "held")) aN)))))
def m_Line_hold : Fn := runB b_Line_hold 2
def b_Line_take : XS :=
  (sDrop (xMeth "Line" "turn" 4 m_Line_turn (xV 0) (aC (xV 1) (aC (xC (.str "held")) (aC (xC (.str "talks")) aN)))))
def m_Line_take : Fn := runB b_Line_take 2
def b__law_lift : XS :=
  (sSeq (sSet 2 (xOr (xNotT (x2 ixD (xFld "" "setting" (xV 0)) (xC (.int 1)))) (x2 inD (xV 1) (xFld "" "let" (xV 0)))))
    (sSeq (sPut "off" (xV 0) (x2 addD (xFld "" "off" (xV 0)) (xLst (aC (xV 1) aN))))
    (sSeq (sIf (xB (x1t notND (xFld "" "rung" (xV 0)))) (sSeq (sTo (gT 3 (gsC (gN 3) (gsC (gN 4) (gsC (gN 5) gsN)))) (xFld "" "rung" (xV 0)))
    (sIf (xB (x2 eqD (xV 1) (xV 4))) (sPut "rung" (xV 0) (xC .none)) (sIf (tOr2 (xB (x2 eqD (xV 1) (xV 3))) (tNot1 (tTru (x2 ixD (xFld "" "setting" (xV 0)) (xC (.int 1)))))) (sSeq (sToH (hT 2 (hsC (hSub "rung" 0) (hsC (hSub "in" 0) hsN))) (xTup (aC (xC .none) (aC (xLst (aC (xV 1) aN)) aN))))
    (sPut "out" (xV 0) (xIf (xB (x2 eqD (xFld "" "out" (xV 0)) (xC (.str "rings")))) (xC (.str "talks")) (xFld "" "out" (xV 0))))) sNil))) (sIf (tOr2 (xB (x2 neD (xFld "" "out" (xV 0)) (xC (.str "")))) (xB (x2 neD (xFld "" "in" (xV 0)) (xLst aN)))) (sPut "in" (xV 0) (x2 addD (xFld "" "in" (xV 0)) (x2 mulD (xLst (aC (xV 1) aN)) (x1 intOfD (xV 2))))) (sIf (tAnd2 (xB (x1t notND (xFld "" "asker" (xV 0)))) (tAnd2 (xB (x1t isND (xFld "" "dialled" (xV 0)))) (tNot1 (tTru (x2 ixD (xFld "" "setting" (xV 0)) (xC (.int 1))))))) (sToH (hT 2 (hsC (hSub "in" 0) (hsC (hSub "asker" 0) hsN))) (xTup (aC (xLst (aC (xFld "" "asker" (xV 0)) (aC (xV 1) aN))) (aC (xC .none) aN)))) sNil)))
    (sSeq (sDrop (xCall 1 m__law_settle (aC (xV 0) aN)))
    (sRet (xCall 2 m__law_heard (aC (xV 0) (aC (xV 1) aN))))))))
def m__law_lift : Fn := runB b__law_lift 6
def b__law_told : XS :=
  (sSeq (sPar 2 3 (aC (x2 ixD (xV 1) (xC (.int 0))) (aC (xSl sliD (xV 1) (oS (xC (.int 1))) oN) aN)))
    (sSeq (sIf (xB (x2 eqD (xV 2) (xC (.str "tick")))) (sSeq (sDrop (xCall 1 m__law_tick (aC (xV 0) aN)))
    (sRet (xC .none))) sNil)
    (sSeq (sIf (xB (x2 eqD (xV 2) (xC (.str "end")))) (sSeq (sIf (xB (x2 eqD (xFld "" "out" (xV 0)) (xC (.str "")))) (sRet (xC (.str "call"))) sNil)
    (sSeq (sPut "rung" (xV 0) (xIf (xB (x2 eqD (xFld "" "out" (xV 0)) (xC (.str "rings")))) (xC .none) (xFld "" "rung" (xV 0))))
    (sSeq (sPut "out" (xV 0) (xC (.str "")))
    (sSeq (sDrop (xCall 1 m__law_settle (aC (xV 0) aN)))
    (sRet (xC .none)))))) sNil)
    (sSeq (sSet 4 (x2 ixD (xV 3) (xC (.int 0))))
    (sSeq (sIf (tNot1 (tTru (xCall 3 m__law_in (aC (xV 4) (aC (xC (.int 0)) (aC (x2 subD (x1 lenD (x2 ixD (xFld "" "setting" (xV 0)) (xC (.int 0)))) (xC (.int 1))) aN)))))) (sRet (xC (.str "house"))) sNil)
    (sSeq (sIf (xB (x2 inD (xV 2) (xTup (aC (xC (.str "lift")) (aC (xC (.str "hang")) aN))))) (sSeq (sIf (xB (x2 eqD (x2 inD (xV 4) (xFld "" "off" (xV 0))) (x2 eqD (xV 2) (xC (.str "lift"))))) (sRet (x2 ixD (xLst (aC (xC (.str "on")) (aC (xC (.str "off")) aN))) (x1 intOfD (x2 eqD (xV 2) (xC (.str "lift")))))) sNil)
    (sRet (xIf (xB (x2 eqD (xV 2) (xC (.str "lift")))) (xCall 2 m__law_lift (aC (xV 0) (aC (xV 4) aN))) (xCall 2 m__law_hang (aC (xV 0) (aC (xV 4) aN)))))) sNil)
    (sSeq (sIf (xB (x2 eqD (xV 2) (xC (.str "call")))) (sSeq (sIf (tTru (xCall 1 m__law_is_idle (aC (xV 0) aN))) (sSeq (sPut "queue" (xV 0) (xLst (aC (xV 4) aN)))
    (sSeq (sDrop (xCall 1 m__law_settle (aC (xV 0) aN)))
    (sRet (xC (.str "rings"))))) sNil)
    (sSeq (sIf (xB (x2 eqD (x1 lenD (xFld "" "queue" (xV 0))) (xC (.int 3)))) (sRet (xC (.str "busy"))) sNil)
    (sSeq (sPut "queue" (xV 0) (x2 addD (xFld "" "queue" (xV 0)) (xLst (aC (xV 4) aN))))
    (sRet (xC (.str "waits")))))) sNil)
    (sRet (xCall 4 m__law_told_inside (aC (xV 0) (aC (xV 2) (aC (xV 4) (aC (xV 3) aN)))))))))))))
def m__law_told : Fn := runB b__law_told 5
def b__law_asked : XS :=
  (sSeq (sPar 2 3 (aC (x2 ixD (xV 1) (xC (.int 0))) (aC (xSl sliD (xV 1) (oS (xC (.int 1))) oN) aN)))
    (sSeq (sIf (xB (x2 inD (xV 2) (xTup (aC (xC (.str "tick")) (aC (xC (.str "end")) aN))))) (sRet (xIf (xB (x2 eqD (xV 2) (xC (.str "tick")))) (xMeth "Line" "tick" 1 m_Line_tick (xV 0) aN) (xMeth "Line" "end" 1 m_Line_end (xV 0) aN))) sNil)
    (sSeq (sIf (xB (x2 inD (xV 2) (xTup (aC (xC (.str "lift")) (aC (xC (.str "hang")) aN))))) (sRet (xIf (xB (x2 eqD (xV 2) (xC (.str "lift")))) (xMeth "Line" "lift" 2 m_Line_lift (xV 0) (aC (x2 ixD (xV 3) (xC (.int 0))) aN)) (xMeth "Line" "hang" 2 m_Line_hang (xV 0) (aC (x2 ixD (xV 3) (xC (.int 0))) aN)))) sNil)
    (sSeq (sIf (xB (x2 inD (xV 2) (xTup (aC (xC (.str "dial")) (aC (xC (.str "out")) aN))))) (sRet (xIf (xB (x2 eqD (xV 2) (xC (.str "dial")))) (xMeth "Line" "dial" 3 m_Line_dial (xV 0) (aC (x2 ixD (xV 3) (xC (.int 0))) (aC (x2 ixD (xV 3) (xC (.int 1))) aN))) (xMeth "Line" "call_out" 2 m_Line_call_out (xV 0) (aC (x2 ixD (xV 3) (xC (.int 0))) aN)))) sNil)
    (sSeq (sIf (xB (x2 eqD (xV 2) (xC (.str "call")))) (sRet (xMeth "Line" "call_in" 2 m_Line_call_in (xV 0) (aC (x2 ixD (xV 3) (xC (.int 0))) aN))) sNil)
    (sRet (xIf (xB (x2 eqD (xV 2) (xC (.str "hold")))) (xMeth "Line" "hold" 2 m_Line_hold (xV 0) (aC (x2 ixD (xV 3) (xC (.int 0))) aN)) (xMeth "Line" "take" 2 m_Line_take (xV 0) (aC (x2 ixD (xV 3) (xC (.int 0))) aN)))))))))
def m__law_asked : Fn := runB b__law_asked 4
def b__law_do : XS :=
  (sSeq (sSet 2 (xC .none))
    (sSeq (sTry exmT (sSet 2 (xCall 2 m__law_asked (aC (xV 0) (aC (xV 1) aN)))) [("NoHouse", (sSet 2 (xC (.str "house")))), ("IsOff", (sSet 2 (xC (.str "off")))), ("IsOn", (sSet 2 (xC (.str "on")))), ("NoTone", (sSet 2 (xC (.str "tone")))), ("NoTalk", (sSet 2 (xC (.str "talk")))), ("NoCall", (sSet 2 (xC (.str "call"))))])
    (sRet (xV 2))))
def m__law_do : Fn := runB b__law_do 3
def b_law_k01_1 : XS := (sSet 1 (xCall 1 m__law_setting (aC (xCall 2 m__law_seed (aC (xCall 2 m__law_cell (aC (xV 0) (aC (xC (.int 0)) aN))) (aC (xC (.int 0)) aN))) aN)))
def b_law_k01_2 : XS := (sPar 2 3 (aC (xMake "Line" 2 m_Line___init__ (aC (xV 1) aN)) (aC (xCall 1 m__law_start (aC (xV 1) aN)) aN)))
def b_law_k01_3a : XS := (sIf (xB (x2 neD (xMeth "Line" "heard" 2 m_Line_heard (xV 2) (aC (xV 6) aN)) (xCall 2 m__law_heard (aC (xV 3) (aC (xV 6) aN))))) (sRet (xC (.bool false))) sNil)
def b_law_k01_3b : XS := (sSeq (sSet 5 (xCall 2 m__law_deed (aC (xV 3) (aC (xCall 2 m__law_seed (aC (x2 addD (xCall 2 m__law_cell (aC (xV 0) (aC (x2 addD (xC (.int 2)) (x2 modD (xV 4) (xC (.int 8)))) aN))) (x2 mulD (xC (.int 61)) (xV 4))) (aC (xV 4) aN))) aN))))
    (sSeq (sIf (xB (x2 neD (xCall 2 m__law_do (aC (xV 2) (aC (xV 5) aN))) (xCall 2 m__law_told (aC (xV 3) (aC (xV 5) aN))))) (sRet (xC (.bool false))) sNil)
    (sSeq (sFor (iR1 (aC (x1 lenD (x2 ixD (xV 1) (xC (.int 0)))) aN)) (gN 6) b_law_k01_3a)
    (sSeq (sIf (xB (x2 neD (xTup (aC (xMeth "Line" "lifted" 1 m_Line_lifted (xV 2) aN) (aC (xMeth "Line" "talking" 1 m_Line_talking (xV 2) aN) (aC (xMeth "Line" "caller" 1 m_Line_caller (xV 2) aN) aN)))) (xTup (aC (x1 sortedD (xFld "" "off" (xV 3))) (aC (x1 sortedD (xFld "" "in" (xV 3))) (aC (xFld "" "out" (xV 3)) aN)))))) (sRet (xC (.bool false))) sNil)
    (sIf (tOr2 (xB (x2 neD (xMeth "Line" "waiting" 1 m_Line_waiting (xV 2) aN) (xFld "" "queue" (xV 3)))) (xB (x2 neD (xMeth "Line" "moment" 1 m_Line_moment (xV 2) aN) (xFld "" "now" (xV 3))))) (sRet (xC (.bool false))) sNil)))))
def b_law_k01_3 : XS := (sFor (iR1 (aC (xCall 3 m__law_mix (aC (xCall 2 m__law_cell (aC (xV 0) (aC (xC (.int 1)) aN))) (aC (xC (.int 9949)) (aC (xC (.int 121)) aN)))) aN)) (gN 4) b_law_k01_3b)
def b_law_k01_4 : XS := (sRet (xC (.bool true)))
def b_law_k01 : XS :=
  (sSeq b_law_k01_1 (sSeq b_law_k01_2 (sSeq b_law_k01_3 b_law_k01_4)))
def m_law_k01 : Fn := runB b_law_k01 7
def b__law_is_setting : XS :=
  (sSeq (sIf (tOr2 (tNot1 (tTru (x1 (isiD .tuple) (xV 0)))) (tOr2 (xB (x2 neD (x1 lenD (xV 0)) (xC (.int 3)))) (tNot1 (tTru (x1 (isiD .tuple) (x2 ixD (xV 0) (xC (.int 0)))))))) (sRet (xC (.bool false))) sNil)
    (sSeq (sIf (tNot1 (xB (x3 leD leD (xC (.int 2)) (x1 lenD (x2 ixD (xV 0) (xC (.int 0)))) (xC (.int 8))))) (sRet (xC (.bool false))) sNil)
    (sSeq (sFor (iAny (x2 ixD (xV 0) (xC (.int 0)))) (gN 1) (sIf (tOr2 (tNot1 (tTru (x1 (isiD .str) (xV 1)))) (tOr2 (tNot1 (xB (x3 leD leD (xC (.int 1)) (x1 lenD (xV 1)) (xC (.int 4))))) (xB (x2 neD (xM1 stripD (xV 1) (xC (.str "sl"))) (xC (.str "")))))) (sRet (xC (.bool false))) sNil))
    (sSeq (sIf (tOr2 (tNot1 (tTru (x1 (isiD .bool) (x2 ixD (xV 0) (xC (.int 1)))))) (tNot1 (tTru (xCall 3 m__law_in (aC (x2 ixD (xV 0) (xC (.int 2))) (aC (xC (.int 1)) (aC (xC (.int 60)) aN))))))) (sRet (xC (.bool false))) sNil)
    (sRet (x2 eqD (x1 lenSetD (x2 ixD (xV 0) (xC (.int 0)))) (x1 lenD (x2 ixD (xV 0) (xC (.int 0))))))))))
def m__law_is_setting : Fn := runB b__law_is_setting 2
def b__law_looked : XS :=
  (sSeq (sIf (xB (x2 ltD (xV 0) (xC (.int 4)))) (sSeq (sIf (xB (x2 eqD (xV 0) (xC (.int 0)))) (sRet (xMake "Line" 2 m_Line___init__ (aC (xV 1) aN))) sNil)
    (sSeq (sIf (xB (x2 eqD (xV 0) (xC (.int 1)))) (sRet (xCall 2 m_meant (aC (x2 ixD (xV 1) (xC (.int 0))) (aC (x2 ixD (xV 1) (xC (.int 1))) aN)))) sNil)
    (sRet (xIf (xB (x2 eqD (xV 0) (xC (.int 2)))) (xCall 2 m_ring (aC (x2 ixD (xV 1) (xC (.int 0))) (aC (x2 ixD (xV 1) (xC (.int 1))) aN))) (xCall 2 m_sure_behind (aC (x2 ixD (xV 1) (xC (.int 0))) (aC (x2 ixD (xV 1) (xC (.int 1))) aN))))))) sNil)
    (sSeq (sIf (xB (x2 ltD (xV 0) (xC (.int 8)))) (sSeq (sIf (xB (x2 eqD (xV 0) (xC (.int 4)))) (sRet xBad) sNil)
    (sSeq (sIf (xB (x2 eqD (xV 0) (xC (.int 5)))) (sRet xBad) sNil)
    (sRet (xIf (xB (x2 eqD (xV 0) (xC (.int 6)))) xBad xBad)))) sNil)
    (sRet (xIf (xB (x2 eqD (xV 0) (xC (.int 8)))) xBad xBad))))
def m__law_looked : Fn := runB b__law_looked 2
def b__law_word : XS :=
  (sSeq (sSet 2 (xC (.str "")))
    (sSeq (sTry exmT (sDrop (xCall 2 m__law_looked (aC (xV 0) (aC (xV 1) aN)))) [("NoSetting", (sSet 2 (xC (.str "setting")))), ("NoCode", (sSet 2 (xC (.str "code")))), ("NoHouse", (sSet 2 (xC (.str "house")))), ("NoCount", (sSet 2 (xC (.str "count")))), ("NoDeeds", (sSet 2 (xC (.str "deeds")))), ("NoText", (sSet 2 (xC (.str "text"))))])
    (sRet (xV 2))))
def m__law_word : Fn := runB b__law_word 3
def b_law_k02_1 : XS := (sSet 1 (xCall 1 m__law_setting (aC (xCall 2 m__law_seed (aC (xCall 2 m__law_cell (aC (xV 0) (aC (xC (.int 0)) aN))) (aC (xC (.int 0)) aN))) aN)))
def b_law_k02_2 : XS := (sSet 2 (xLst (aC (xC .none) (aC (xTup aN) (aC (xTup (aC (xC (.str "s")) aN)) (aC (xTup (aC (xC (.str "s")) (aC (xC (.str "s")) aN))) (aC (xTup (aC (xC (.str "s")) (aC (xC (.str "")) aN))) (aC (xTup (aC (xC (.str "s")) (aC (xC (.str "x")) aN))) (aC (xTup (aC (xC (.str "sssss")) (aC (xC (.str "s")) aN))) (aC (xC (.bool true)) (aC (xC (.int 0)) (aC (xC (.int 1)) (aC (xC (.int 60)) (aC (xC (.int 61)) (aC (xLst (aC (xC (.str "s")) (aC (xC (.str "l")) aN))) aN)))))))))))))))
def b_law_k02_3 : XS := (sSet 2 (x2 addD (xV 2) (xLst (aC (xTup (aC (xC (.str "l")) (aC (xC (.str "s")) aN))) (aC (x1 negD (xC (.int 1))) aN)))))
def b_law_k02_4 : XS := (sSet 3 (x2 modD (xCall 2 m__law_cell (aC (xV 0) (aC (xC (.int 1)) aN))) (xC (.int 3))))
def b_law_k02_5 : XS := (sSet 4 (x2 addD (x2 addD (xSl sliD (xV 1) oN (oS (xV 3))) (xTup (aC (x2 ixD (xV 2) (x2 modD (xCall 2 m__law_cell (aC (xV 0) (aC (xC (.int 2)) aN))) (xC (.int 15)))) aN))) (xSl sliD (xV 1) (oS (x2 addD (xV 3) (xC (.int 1)))) oN)))
def b_law_k02_6 : XS := (sSet 4 (x2 ixD (xLst (aC (xV 4) (aC (xV 4) (aC (x1 lstD (xV 1)) (aC (xSl sliD (xV 1) oN (oS (xC (.int 2)))) (aC (x2 addD (xV 1) (xTup (aC (xC (.int 1)) aN))) aN)))))) (x2 modD (xCall 2 m__law_cell (aC (xV 0) (aC (xC (.int 3)) aN))) (xC (.int 5)))))
def b_law_k02_7 : XS := (sSet 5 (xCall 1 m__law_is_setting (aC (xV 4) aN)))
def b_law_k02_8 : XS := (sIf (xB (x2 neD (xLst (aC (xCall 1 m_is_setting (aC (xV 1) aN)) (aC (xCall 1 m_is_setting (aC (xV 4) aN)) (aC (x2 eqD (xCall 2 m__law_word (aC (xC (.int 0)) (aC (xV 4) aN))) (xC (.str ""))) aN)))) (xLst (aC (xC (.bool true)) (aC (xV 5) (aC (xV 5) aN)))))) (sRet (xC (.bool false))) sNil)
def b_law_k02_9 : XS := (sPar 6 7 (aC (x2 ixD (xV 1) (xC (.int 0))) (aC (x2 modD (xCall 2 m__law_cell (aC (xV 0) (aC (xC (.int 4)) aN))) (x1 lenD (x2 ixD (xV 1) (xC (.int 0))))) aN)))
def b_law_k02_10 : XS := (sSet 8 (x2 ixD (xLst (aC (x2 modD (xCall 2 m__law_cell (aC (xV 0) (aC (xC (.int 5)) aN))) (xC (.int 30))) (aC (x2 modD (xCall 2 m__law_cell (aC (xV 0) (aC (xC (.int 5)) aN))) (xC (.int 401))) aN))) (x2 modD (xCall 2 m__law_cell (aC (xV 0) (aC (xC (.int 6)) aN))) (xC (.int 2)))))
def b_law_k02_11 : XS := (sSet 9 (xCall 2 m__law_ring (aC (x2 ixD (xV 6) (xV 7)) (aC (xV 8) aN))))
def b_law_k02_12 : XS := (sIf (xB (x2 neD (xCall 2 m_ring (aC (x2 ixD (xV 6) (xV 7)) (aC (xV 8) aN))) (xV 9))) (sRet (xC (.bool false))) sNil)
def b_law_k02_13 : XS := (sIf (tAnd2 (xB (x2 gtD (xV 8) (xC (.int 0)))) (xB (x2 eqD (x2 modD (xCall 2 m__law_cell (aC (xV 0) (aC (xC (.int 7)) aN))) (xC (.int 3))) (xC (.int 0))))) (sSeq (sSet 3 (x2 modD (xCall 2 m__law_cell (aC (xV 0) (aC (xC (.int 8)) aN))) (xV 8)))
    (sSet 9 (x2 addD (x2 addD (xSl sliD (xV 9) oN (oS (xV 3))) (xLst (aC (xNotT (x2 ixD (xV 9) (xV 3))) aN))) (xSl sliD (xV 9) (oS (x2 addD (xV 3) (xC (.int 1)))) oN)))) sNil)
def b_law_k02_14 : XS := (sSet 10 (xComp (iEnA (aC (xV 6) aN)) (gT 2 (gsC (gN 11) (gsC (gN 12) gsN))) (xB (x2 eqD (xCall 2 m__law_ring (aC (xV 12) (aC (xV 8) aN))) (xV 9))) (xV 11) [11, 12]))
def b_law_k02_15 : XS := (sIf (xB (x2 neD (xComp (iAny (xTup (aC (xCall 2 m_ring (aC (x2 ixD (xV 6) (xV 7)) (aC (xC (.int 400)) aN))) (aC (x1 lstD (xV 9)) aN)))) (gN 13) tAll (xCall 2 m_meant (aC (xV 1) (aC (xV 13) aN))) [13]) (xLst (aC (xLst (aC (xV 7) aN)) (aC (xV 10) aN))))) (sRet (xC (.bool false))) sNil)
def b_law_k02_16a : XS := (sSeq (sSet 15 (xComp (iAny (xV 6)) (gN 13) (xB (x2 eqD (xCall 2 m__law_ring (aC (xV 13) (aC (b2D (fun i j => if j > i then j else i) (aC (xC (.int 0)) (aC (xV 8) aN))) aN))) (xCall 2 m__law_ring (aC (xV 12) (aC (b2D (fun i j => if j > i then j else i) (aC (xC (.int 0)) (aC (xV 8) aN))) aN))))) (xV 13) [13]))
    (sIf (xB (x2 neD (x2 eqD (x1 lenD (xV 15)) (xC (.int 1))) (x2 eqD (xV 8) (xV 14)))) (sRet (xC (.bool false))) sNil))
def b_law_k02_16b : XS := (sSeq (sSet 14 (xCall 2 m_sure_behind (aC (xV 1) (aC (xV 11) aN))))
    (sFor (iAny (xTup (aC (x2 subD (xV 14) (xC (.int 1))) (aC (xV 14) aN)))) (gN 8) b_law_k02_16a))
def b_law_k02_16 : XS := (sFor (iEnA (aC (xV 6) aN)) (gT 2 (gsC (gN 11) (gsC (gN 12) gsN))) b_law_k02_16b)
def b_law_k02_17 : XS := (sSet 16 (x2 ixD (xLst (aC (xC .none) (aC (xTup (aC (xC (.bool true)) aN)) (aC (xLst (aC (xC (.int 1)) aN)) (aC (x2 mulD (xLst (aC (xC (.bool true)) aN)) (xC (.int 401))) (aC (xC (.str "")) (aC (xLst (aC (xC .none) aN)) (aC (xC (.int 7)) aN)))))))) (x2 modD (xCall 2 m__law_cell (aC (xV 0) (aC (xC (.int 9)) aN))) (xC (.int 7)))))
def b_law_k02_18 : XS := (sSet 17 (x2 ixD (xLst (aC (x1 negD (xC (.int 1))) (aC (xC (.int 401)) (aC (xC .none) (aC (xC (.bool true)) aN))))) (x2 modD (xCall 2 m__law_cell (aC (xV 0) (aC (xC (.int 10)) aN))) (xC (.int 4)))))
def b_law_k02_19 : XS := (sSet 18 (xLst (aC (xCall 2 m__law_word (aC (xC (.int 1)) (aC (xTup (aC (xC .none) (aC (xV 16) aN))) aN))) (aC (xCall 2 m__law_word (aC (xC (.int 1)) (aC (xTup (aC (xV 1) (aC (xV 16) aN))) aN))) (aC (xCall 2 m__law_word (aC (xC (.int 2)) (aC (xTup (aC (xC (.str "")) (aC (xV 17) aN))) aN))) aN)))))
def b_law_k02_20 : XS := (sSet 18 (x2 addD (xV 18) (xLst (aC (xCall 2 m__law_word (aC (xC (.int 2)) (aC (xTup (aC (xC (.str "s")) (aC (xV 17) aN))) aN))) (aC (xCall 2 m__law_word (aC (xC (.int 3)) (aC (xTup (aC (xC .none) (aC (xV 17) aN))) aN))) (aC (xCall 2 m__law_word (aC (xC (.int 3)) (aC (xTup (aC (xV 1) (aC (xV 17) aN))) aN))) aN))))))
def b_law_k02_21 : XS := (sRet (x2 eqD (xV 18) (xLst (aC (xC (.str "setting")) (aC (xC (.str "code")) (aC (xC (.str "code")) (aC (xC (.str "count")) (aC (xC (.str "setting")) (aC (xC (.str "house")) aN)))))))))
def b_law_k02 : XS :=
  (sSeq b_law_k02_1 (sSeq b_law_k02_2 (sSeq b_law_k02_3 (sSeq b_law_k02_4 (sSeq b_law_k02_5 (sSeq b_law_k02_6 (sSeq b_law_k02_7 (sSeq b_law_k02_8 (sSeq b_law_k02_9 (sSeq b_law_k02_10 (sSeq b_law_k02_11 (sSeq b_law_k02_12 (sSeq b_law_k02_13 (sSeq b_law_k02_14 (sSeq b_law_k02_15 (sSeq b_law_k02_16 (sSeq b_law_k02_17 (sSeq b_law_k02_18 (sSeq b_law_k02_19 (sSeq b_law_k02_20 b_law_k02_21))))))))))))))))))))
def m_law_k02 : Fn := runB b_law_k02 19
end M

/-! P1: codes, rings, settings. -/
namespace M
open PySem L2
theorem size_big : 4096 ≤ sizeLine := by decide
theorem le_size {n : Nat} (h : n ≤ 4096) : n ≤ sizeLine := Nat.le_trans h size_big
theorem lt_size {n : Nat} (h : n < 4096) : n < sizeLine := Nat.lt_of_lt_of_le h size_big
/-! ### codes -/
def signsOf : Nat → List (List Nat)
  | 0 => [[]]
  | n + 1 => (signsOf n).flatMap fun r => [115 :: r, 108 :: r]
def codeLists : List (List Nat) := signsOf 1 ++ signsOf 2 ++ signsOf 3 ++ signsOf 4
/-- the thirty codes -/
def codes30 : List Str := codeLists.map fun r => ⟨⟨r⟩⟩
def beatSign (c : Nat) : List Bool := (if c = 108 then [true, true, true] else [true]) ++ [false]
def beatsOf (c : Str) : List Bool := c.cps.toList.flatMap beatSign ++ [false, false, false]
def boolsD (bs : List Bool) : List D := bs.map .bool
theorem m_is_within_e {t lo hi : Int} {s : Sto} : m_is_within [.int t, .int lo, .int hi] s = .ok (.bool (decide (lo ≤ t) && decide (t ≤ hi))) s := by
  by_cases h : lo ≤ t <;> simp [m_is_within, b_is_within, h]
theorem all_codes {p : Str → Prop} (h : ∀ r ∈ codeLists, p ⟨⟨r⟩⟩) : ∀ c ∈ codes30, p c := fun c hc => by
  obtain ⟨r, hr, rfl⟩ := List.mem_map.mp hc
  exact h r hr
/-- one by one -/
def AllL {α : Type} (p : α → Prop) : List α → Prop
  | [] => True
  | x :: r => p x ∧ AllL p r
theorem AllL.all {α : Type} {p : α → Prop} : ∀ {l : List α}, AllL p l → ∀ x ∈ l, p x
  | [], _, x, h => by simp at h
  | y :: r, h, x, hx => by
    rcases List.mem_cons.mp hx with rfl | hx
    · exact h.1
    · exact AllL.all h.2 x hx
theorem m_is_code_e {c : Str} (h : c ∈ codes30) {s : Sto} : m_is_code [.str c] s = .ok (.bool true) s := by
  refine all_codes (p := fun c => m_is_code [.str c] s = .ok (.bool true) s) (AllL.all ?_) c h
  repeat' (first | exact trivial | refine And.intro ?_ ?_)
  all_goals rfl
def sg (c : Nat) : Str := ⟨⟨[c]⟩⟩
theorem ok_s : PyData.strOk (sg 115) = true := by decide +kernel
theorem ok_l : PyData.strOk (sg 108) = true := by decide +kernel
theorem eq_sl : eqD (.str (sg 115)) (.str "l") = some (.bool false) := by
  have e : ("l" : Str) = sg 108 := by decide +kernel
  rw [e, eqD_s ok_s ok_l]
  have : sg 115 ≠ sg 108 := by decide
  simp [this]
theorem eq_ll : eqD (.str (sg 108)) (.str "l") = some (.bool true) := by
  have e : ("l" : Str) = sg 108 := by decide +kernel
  rw [e, eqD_s ok_l ok_l]
  simp
theorem boolsD_app (a b : List Bool) : boolsD (a ++ b) = boolsD a ++ boolsD b := List.map_append
@[simp] theorem boolsD_len (a : List Bool) : (boolsD a).length = a.length := List.length_map _
/-- the loop of beats -/
theorem beats_loop {s : Sto} {t : XG} {b : XS} {c : D} (hb : ∀ (z : Slot) (acc : List Bool) (x : Nat), (x = 115 ∨ x = 108) → acc.length ≤ 100 → ∃ ρ1, t (.str (sg x)) [.val c, .own (boolsD acc), z] = some ρ1 ∧ b ρ1 s = .next [.val c, .own (boolsD (acc ++ beatSign x)), .val (.str (sg x))] s) :
    ∀ (r : List Nat) (z : Slot) (acc : List Bool), (∀ x ∈ r, x = 115 ∨ x = 108) → acc.length + r.length * 4 ≤ 100 → ∃ z', forL t b (r.map fun x => .str (sg x)) [.val c, .own (boolsD acc), z] s = .next [.val c, .own (boolsD (acc ++ r.flatMap beatSign)), z'] s
  | [], z, acc, _, _ => ⟨z, by simp [forL]⟩
  | x :: r, z, acc, h, hz => by
    have hl : (beatSign x).length ≤ 4 := by unfold beatSign; split <;> simp
    rw [List.length_cons] at hz
    obtain ⟨ρ1, e1, e2⟩ := hb z acc x (h x List.mem_cons_self) (by omega)
    obtain ⟨z', e3⟩ := beats_loop hb r (.val (.str (sg x))) (acc ++ beatSign x) (fun y hy => h y (List.mem_cons_of_mem _ hy)) (by rw [List.length_append]; omega)
    refine ⟨z', ?_⟩
    rw [List.map_cons, List.flatMap_cons]
    unfold forL
    rw [e1]
    show (match b ρ1 s with | .next ρ2 s2 => forL t b _ ρ2 s2 | .cont ρ2 s2 => forL t b _ ρ2 s2 | .brk ρ2 s2 => .next ρ2 s2 | r => r) = _
    rw [e2]
    show forL t b _ _ s = _
    rw [e3, List.append_assoc]
theorem code_signs {r : List Nat} (h : r ∈ codeLists) : (∀ x ∈ r, x = 115 ∨ x = 108) ∧ 1 ≤ r.length ∧ r.length ≤ 4 := by
  have : ∀ r ∈ codeLists, (∀ x ∈ r, x = 115 ∨ x = 108) ∧ 1 ≤ r.length ∧ r.length ≤ 4 := by decide +kernel
  exact this r h
theorem m_beats_e {c : Str} (h : c ∈ codes30) {s : Sto} : m_beats [.str c] s = .ok (.list (boolsD (beatsOf c))) s := by
  obtain ⟨r, hr, rfl⟩ := List.mem_map.mp h
  obtain ⟨h1, h2, h3⟩ := code_signs hr
  obtain ⟨z', e⟩ := beats_loop (s := s) (c := .str ⟨⟨r⟩⟩) (t := gN 2) (b := sExt 1 (x2 addD (x2 mulD (xLst (aC (xC (.bool true)) aN)) (xIf (xB (x2 eqD (xV 2) (xC (.str "l")))) (xC (.int 3)) (xC (.int 1)))) (xLst (aC (xC (.bool false)) aN))))
    (by
      intro z acc x hx ha
      refine ⟨_, rfl, ?_⟩
      have hs : ∀ k, k ≤ 4 → acc.length + k ≤ sizeLine := fun k hk => le_size (by omega)
      rcases hx with rfl | rfl
      · simp [eq_sl, le_size, repOk, hs, boolsD_app, beatSign, boolsD]
      · simp [eq_ll, le_size, repOk, hs, boolsD_app, beatSign, boolsD]) r .no [] h1 (by simp; omega)
  have es : strD ⟨⟨r⟩⟩ = r.map fun x => .str (sg x) := rfl
  have eb : boolsD [] = [] := rfl
  rw [← es, eb] at e
  have hl : (r.flatMap beatSign).length ≤ 16 := by
    have : ∀ r ∈ codeLists, (r.flatMap beatSign).length ≤ 16 := by decide +kernel
    exact this r hr
  have hz : (r.flatMap beatSign).length + 3 ≤ sizeLine := le_size (by omega)
  simp [-List.length_flatMap, m_beats, b_beats, le_size, e, repOk, boolsD_app, beatsOf, hz]
  rfl

/-- its rows -/
def ringOf (c : Str) (t : Nat) : List Bool := (List.range t).map fun i => (beatsOf c).getD (i % (beatsOf c).length) false
@[simp] theorem ringOf_len (c : Str) (t : Nat) : (ringOf c t).length = t := by unfold ringOf; simp
theorem beats_pos (c : Str) : 0 < (beatsOf c).length := by unfold beatsOf; simp
theorem beats_lt {c : Str} (h : c ∈ codes30) : (beatsOf c).length < 100 := by
  obtain ⟨r, hr, rfl⟩ := List.mem_map.mp h
  have : ∀ r ∈ codeLists, (beatsOf ⟨⟨r⟩⟩).length < 100 := by decide +kernel
  exact this r hr
theorem ring_comp {c : Str} (h : c ∈ codes30) {t : Nat} (ht : t ≤ 400) {d1 : D} {z : Slot} {s : Sto} : compL (gN 3) tAll (x2 ixD (xV 2) (x2 modD (xV 3) (x1 lenD (xV 2)))) [3] (rngD 0 t) [] [.val (.str c), .val d1, .val (.list (boolsD (beatsOf c))), z] s = .ok (boolsD (ringOf c t)) s := by
  rw [compL_rng (fun i => .bool ((beatsOf c).getD (i % (beatsOf c).length) false)) (fun i hi => ⟨_, rfl, ?_⟩) (le_size (by omega))]
  · unfold ringOf boolsD; rw [List.map_map]; rfl
  · have h0 := beats_pos c
    have h1 : (0 : Int) < ((beatsOf c).length : Int) := by omega
    have h2 : (0 + (i : Int)) % ((beatsOf c).length : Int) = ((i % (beatsOf c).length : Nat) : Int) := by simp
    have h3 : i % (beatsOf c).length < (boolsD (beatsOf c)).length := by rw [boolsD_len]; exact Nat.mod_lt _ h0
    simp only [wipeD, List.set_cons_succ, List.set_cons_zero, x2_e, xV_e, x1_e, List.getElem?_cons_succ, List.getElem?_cons_zero, bind_ok, lenD_l, lift_some, boolsD_len, modD_e, if_pos h1, h2, ixD_l]
    rw [atI_nat h3]
    simp [boolsD, List.getD_eq_getElem?_getD, List.getElem?_eq_getElem (Nat.mod_lt i h0)]
theorem m_ring_e {c : Str} (h : c ∈ codes30) {t : Nat} (ht : t ≤ 400) {s : Sto} : m_ring [.str c, .int t] s = .ok (.list (boolsD (ringOf c t))) s := by
  have e1 : ((t : Int) ≤ 400) := by omega
  have e2 : rngOk (t : Int) = true := rngOk_of (by omega) (by omega)
  simp [m_ring, b_ring, m_is_code_e h, m_is_within_e, e1, m_beats_e h, e2, ring_comp h ht]
theorem m__law_ring_e {c : Str} (h : c ∈ codes30) {t : Nat} (ht : t ≤ 400) {s : Sto} (hb : m__law_beats [.str c] s = .ok (.list (boolsD (beatsOf c))) s) : m__law_ring [.str c, .int t] s = .ok (.list (boolsD (ringOf c t))) s := by
  have e2 : rngOk (t : Int) = true := rngOk_of (by omega) (by omega)
  simp [m__law_ring, b__law_ring, hb, e2, ring_comp h ht]

/-! ### settings -/
structure Stg where
  codes : List Str
  priv : Bool
  pat : Int
def codesD (cs : List Str) : D := .tuple (cs.map .str)
def Stg.d (S : Stg) : D := .tuple [codesD S.codes, .bool S.priv, .int S.pat]
structure Stg.Ok (S : Stg) : Prop where
  l2 : 2 ≤ S.codes.length
  l8 : S.codes.length ≤ 8
  nd : S.codes.Nodup
  c30 : ∀ c ∈ S.codes, c ∈ codes30
  p1 : 1 ≤ S.pat
  p60 : S.pat ≤ 60
theorem metS_nodup : ∀ (xs acc : List Str), (acc ++ xs).Nodup → xs.foldl stepS acc = acc ++ xs
  | [], acc, _ => by simp
  | x :: xs, acc, h => by
    have hx : acc.any (· == x) = false := by
      rw [List.any_eq_false]
      intro y hy e
      have e' : y = x := by simpa using e
      subst e'
      exact (List.nodup_append.mp h).2.2 y hy y List.mem_cons_self rfl
    rw [List.foldl_cons]
    have e : stepS acc x = acc ++ [x] := by unfold stepS; rw [hx]; rfl
    rw [e, metS_nodup xs (acc ++ [x]) (by simpa using h)]
    simp
theorem lenSet_e {cs : List Str} (h : cs.Nodup) (hl : cs.length ≤ 100) : lenSetD (codesD cs) = some (.int cs.length) := by
  have hb : cs.length + 1 < scanBound := by unfold scanBound; omega
  have e : metS cs = cs := metS_nodup cs [] (by simpa using h)
  show (strsOf (cs.map .str)).bind _ = _
  rw [strsOf_map]
  show (if cs.length + 1 < scanBound then some (PyData.int (metS cs).length) else none) = _
  rw [if_pos hb, e]
@[simp] theorem lenD_codes {cs : List Str} : lenD (codesD cs) = some (.int cs.length) := by unfold codesD; simp
@[simp] theorem isi_codes {cs : List Str} : isiD .tuple (codesD cs) = some (.bool true) := rfl
@[simp] theorem atI_0 {α : Type} {a : α} {r : List α} : atI (a :: r) 0 = some a := by
  have := atI_nat (xs := a :: r) (i := 0) (by simp)
  simpa using this
@[simp] theorem atI_1 {α : Type} {a b : α} {r : List α} : atI (a :: b :: r) 1 = some b := by
  have := atI_nat (xs := a :: b :: r) (i := 1) (by simp)
  simpa using this
@[simp] theorem atI_2 {α : Type} {a b c : α} {r : List α} : atI (a :: b :: c :: r) 2 = some c := by
  have := atI_nat (xs := a :: b :: c :: r) (i := 2) (by simp)
  simpa using this
theorem m_is_setting_e {S : Stg} (h : S.Ok) {s : Sto} : m_is_setting [S.d] s = .ok (.bool true) s := by
  have h1 : (2 : Int) ≤ (S.codes.length : Int) := by have := h.l2; omega
  have h2 : (S.codes.length : Int) ≤ 8 := by have := h.l8; omega
  have hc : compL (gN 1) (tNot1 (tTru (xCall 1 m_is_code (aC (xV 1) aN)))) (xV 1) [1] (S.codes.map .str) [] [.val S.d, .no] s = .ok [] s := by
    have := compL_map (t := gN 1) (c := tNot1 (tTru (xCall 1 m_is_code (aC (xV 1) aN)))) (e := xV 1) (vs := [1]) (ρ := [.val S.d, .no]) (s := s) PyData.str (fun _ => false) PyData.str S.codes [] (fun c hc => ⟨_, rfl, by simp [wipeD, m_is_code_e (h.c30 c hc)], fun z => by cases z⟩) (le_size (by have := h.l8; simp; omega))
    have e : List.filter (fun _ : Str => false) S.codes = [] := by simp [List.filter_eq_nil_iff]
    rw [e] at this
    exact this
  unfold Stg.d codesD at hc
  have hl := lenSet_e h.nd (by have := h.l8; omega)
  have hp1 := h.p1
  have hp2 := h.p60
  unfold codesD at hl
  simp [m_is_setting, b_is_setting, Stg.d, codesD, hc, h1, h2, hl, m_is_within_e, hp1, hp2]
@[simp] theorem ix_codes {S : Stg} : ixD S.d (.int 0) = some (codesD S.codes) := by simp [Stg.d]
theorem m_look_e {S : Stg} (h : S.Ok) {s : Sto} : m_look [S.d] s = .ok .none s := by
  simp [m_look, b_look, m_is_setting_e h]
theorem m_look_house_e {S : Stg} {k : Nat} (h : k < S.codes.length) {s : Sto} : m_look_house [S.d, .int k] s = .ok .none s := by
  have h1 : (k : Int) ≤ (S.codes.length : Int) - 1 := by omega
  simp [m_look_house, b_look_house, m_is_within_e, h1]
theorem ix_code {cs : List Str} {k : Nat} (h : k < cs.length) : ixD (codesD cs) (.int k) = some (.str cs[k]) := by
  unfold codesD
  rw [ixD_t, atI_nat (by simpa using h)]
  simp
/-! ### rows -/
/-- the houses that a row may mean -/
def meantOf (cs : List Str) (row : List Bool) : List Nat := (cs.zipIdx.filter fun p => decide (ringOf p.1 row.length = row)).map (·.2)
def natsD (ns : List Nat) : List D := ns.map fun n : Nat => .int (n : Int)
theorem map_inj {α β : Type} {f : α → β} (hf : ∀ x y, f x = f y → x = y) : ∀ {a b : List α}, a.map f = b.map f → a = b
  | [], [], _ => rfl
  | [], _ :: _, h => by simp at h
  | _ :: _, [], h => by simp at h
  | x :: a, y :: b, h => by
    rw [List.map_cons, List.map_cons] at h
    injection h with h1 h2
    rw [hf x y h1, map_inj hf h2]
theorem boolsD_inj {a b : List Bool} (h : boolsD a = boolsD b) : a = b := map_inj (fun x y e => by injection e) h
theorem natsD_inj {a b : List Nat} (h : natsD a = natsD b) : a = b := map_inj (fun x y e => by injection e with e; omega) h
theorem ty_bools (a : List Bool) : HasTy (.list .bool) (.list (boolsD a)) := .list (HasL.map (fun b => .bool b) a)
theorem ty_nats (a : List Nat) : HasTy (.list .int) (.list (natsD a)) := .list (HasL.map (fun b : Nat => .int (b : Int)) a)
theorem eq_bools (a b : List Bool) : eqD (.list (boolsD a)) (.list (boolsD b)) = some (.bool (decide (a = b))) :=
  eqD_ty (ty_bools a) (ty_bools b) (by decide) (by rw [decide_eq_true_eq]; exact ⟨fun e => by rw [e], fun e => boolsD_inj (by injection e)⟩)
theorem ne_nats (a b : List Nat) : neD (.list (natsD a)) (.list (natsD b)) = some (.bool (!decide (a = b))) :=
  neD_ty (ty_nats a) (ty_nats b) (by decide) (by rw [decide_eq_true_eq]; exact ⟨fun e => by rw [e], fun e => natsD_inj (by injection e)⟩)
theorem m_meant_e {S : Stg} (h : S.Ok) {row : List Bool} (hr : row.length ≤ 400) {s : Sto} : m_meant [S.d, .list (boolsD row)] s = .ok (.list (natsD (meantOf S.codes row))) s := by
  have h1 : ¬ (400 : Int) < (row.length : Int) := by omega
  have hc : compL (gN 2) (tNot1 (tTru (x1 (isiD .bool) (xV 2)))) (xV 2) [2] (boolsD row) [] [.val S.d, .val (.list (boolsD row)), .no, .no, .no] s = .ok [] s :=
    compL_none (fun b => .bool b) row fun b hb => ⟨_, rfl, by simp [wipeD]⟩
  have he : compL (gT 2 (gsC (gN 3) (gsC (gN 4) gsN))) (xB (x2 eqD (xCall 2 m_ring (aC (xV 4) (aC (x1 lenD (xV 1)) aN))) (xV 1))) (xV 3) [3, 4] (enumD 0 (S.codes.map .str)) [] [.val S.d, .val (.list (boolsD row)), .no, .no, .no] s = .ok (natsD (meantOf S.codes row)) s := by
    rw [enumD_map]
    have := compL_map (t := gT 2 (gsC (gN 3) (gsC (gN 4) gsN))) (c := xB (x2 eqD (xCall 2 m_ring (aC (xV 4) (aC (x1 lenD (xV 1)) aN))) (xV 1))) (e := xV 3) (vs := [3, 4]) (ρ := [.val S.d, .val (.list (boolsD row)), .no, .no, .no]) (s := s)
      (fun p : Str × Nat => .tuple [.int (p.2 : Int), .str p.1]) (fun p => decide (ringOf p.1 row.length = row)) (fun p => .int (p.2 : Int)) S.codes.zipIdx [] (fun p hp => ⟨_, rfl, by
        have hc := h.c30 p.1 (List.fst_mem_of_mem_zipIdx hp)
        simp [wipeD, m_ring_e hc hr, eq_bools], fun _ => by simp [wipeD]⟩) (le_size (by have := h.l8; simp; omega))
    rw [this]
    unfold natsD meantOf
    rw [List.map_map]; rfl
  simp [m_meant, b_meant, m_look_e h, h1, hc]
  simp [codesD, he]
end M

/-! P2: houses told apart. -/
namespace M
open PySem L2
theorem cut_take {ds : List D} {i : Nat} : cutD ds none (some (i : Int)) = ds.take i := by
  unfold cutD
  have e0 : HT.sIx ds.length 0 none = 0 := rfl
  have e1 : HT.sIx ds.length ds.length (some (i : Int)) = min i ds.length := by
    exact HT.sIx_nat _ _ _
  rw [e0, e1, List.drop_zero, Nat.sub_zero]
  rcases Nat.le_total i ds.length with h | h
  · rw [Nat.min_eq_left h]
  · rw [Nat.min_eq_right h, List.take_length, List.take_of_length_le h]
theorem boolsD_take (r : List Bool) (i : Nat) : (boolsD r).take i = boolsD (r.take i) := by unfold boolsD; rw [List.map_take]
theorem ring_take {c : Str} {t i : Nat} (h : i ≤ t) : (ringOf c t).take i = ringOf c i := by
  unfold ringOf
  rw [← List.map_take, List.take_range, Nat.min_eq_left h]
/-- different codes ring otherwise -/
theorem apart30 : ∀ c ∈ codes30, ∀ d ∈ codes30, c ≠ d → ringOf c 40 ≠ ringOf d 40 := by
  decide +kernel

theorem ring_inj {c d : Str} (hc : c ∈ codes30) (hd : d ∈ codes30) {i : Nat} (hi : 40 ≤ i) (e : ringOf c i = ringOf d i) : c = d := by
  apply Classical.byContradiction
  intro hn
  apply apart30 c hc d hd hn
  rw [← ring_take hi, ← ring_take (c := d) hi, e]
theorem zipIdx_rng {α : Type} (d : α) : ∀ (xs : List α) (k : Nat), xs.zipIdx k = (List.range xs.length).map fun i => (xs.getD i d, k + i)
  | [], k => rfl
  | x :: xs, k => by
    rw [List.zipIdx_cons, zipIdx_rng d xs (k + 1), List.length_cons, List.range_succ_eq_map, List.map_cons, List.map_map]
    congr 1
    apply List.map_congr_left
    intro i _
    simp [Nat.add_comm, Nat.add_left_comm]
/-- the code of a house -/
def cod (cs : List Str) (i : Nat) : Str := cs.getD i Str.empty
theorem cod_eq {cs : List Str} {i : Nat} (h : i < cs.length) : cod cs i = cs[i] := by unfold cod; simp [List.getD_eq_getElem?_getD, h]
theorem cod_mem {cs : List Str} {i : Nat} (h : i < cs.length) : cod cs i ∈ cs := by rw [cod_eq h]; exact List.getElem_mem h
theorem meantOf_rng (cs : List Str) (row : List Bool) : meantOf cs row = (List.range cs.length).filter fun i => decide (ringOf (cod cs i) row.length = row) := by
  unfold meantOf
  rw [zipIdx_rng Str.empty, List.filter_map, List.map_map]
  have : ((fun p : Str × Nat => p.2) ∘ fun i => (cs.getD i Str.empty, 0 + i)) = id := by funext i; simp
  rw [this, List.map_id]
  rfl
theorem filter_one {n h : Nat} {p : Nat → Bool} (hn : h < n) (hp : ∀ i, i < n → (p i = true ↔ i = h)) : (List.range n).filter p = [h] := by
  induction n with
  | zero => omega
  | succ n ih =>
    rw [List.range_succ, List.filter_append]
    by_cases e : h = n
    · subst e
      have h1 : (List.range h).filter p = [] := by
        rw [List.filter_eq_nil_iff]
        intro i hi
        have hi' := List.mem_range.mp hi
        rw [hp i (by omega)]
        omega
      have h2 : p h = true := (hp h hn).mpr rfl
      rw [h1]
      simp [h2]
    · have h2 : p n = false := by
        cases q : p n with
        | false => rfl
        | true => exact absurd ((hp n (by omega)).mp q).symm e
      rw [ih (by omega) fun i hi => hp i (by omega)]
      simp [h2]
def sureP (cs : List Str) (h : Nat) (i : Nat) : Bool := decide (meantOf cs (ringOf (cod cs h) i) = [h])
def sureOf (cs : List Str) (h : Nat) : Nat := firstT (sureP cs h)
theorem cod_inj {S : Stg} (hS : S.Ok) {i j : Nat} (hi : i < S.codes.length) (hj : j < S.codes.length) (e : cod S.codes i = cod S.codes j) : i = j := by
  rw [cod_eq hi, cod_eq hj] at e
  exact (List.getElem_inj hS.nd).mp e
theorem sure_40 {S : Stg} (hS : S.Ok) {h i : Nat} (hh : h < S.codes.length) (hi : 40 ≤ i) : sureP S.codes h i = true := by
  unfold sureP
  rw [decide_eq_true_eq, meantOf_rng, ringOf_len]
  refine filter_one hh fun j hj => ?_
  rw [decide_eq_true_eq]
  constructor
  · intro e
    exact cod_inj hS hj hh (ring_inj (hS.c30 _ (cod_mem hj)) (hS.c30 _ (cod_mem hh)) hi e)
  · rintro rfl; rfl
theorem ix_cod {cs : List Str} {k : Nat} (h : k < cs.length) : ixD (codesD cs) (.int k) = some (.str (cod cs k)) := by rw [ix_code h, cod_eq h]
theorem m_sure_behind_e {S : Stg} (hS : S.Ok) {h : Nat} (hh : h < S.codes.length) {s : Sto} : m_sure_behind [S.d, .int h] s = .ok (.int (sureOf S.codes h)) s := by
  have hr : m_ring [.str (cod S.codes h), .int 400] s = _ := m_ring_e (hS.c30 _ (cod_mem hh)) (t := 400) (Nat.le_refl _) (s := s)
  have hw := whileN_first (fun i : Nat => [.val S.d, .val (.int h), .val (.list (boolsD (ringOf (cod S.codes h) 400))), .val (.int i)]) rfl (s := s) (p := sureP S.codes h) (k := 40)
    (t := xB (x2 neD (xCall 2 m_meant (aC (xV 0) (aC (xSl sliD (xV 2) oN (oS (xV 3))) aN))) (xLst (aC (xV 1) aN)))) (b := sAug (fun a c => a + c) 3 (xC (.int 1))) (by omega) (sure_40 hS hh (Nat.le_refl _))
    (fun i hi => by
      have hm := m_meant_e hS (row := ringOf (cod S.codes h) i) (by simpa using hi) (s := s)
      have hn : neD (.list (natsD (meantOf S.codes (ringOf (cod S.codes h) i)))) (.list [.int (h : Int)]) = some (.bool (!decide (meantOf S.codes (ringOf (cod S.codes h) i) = [h]))) := ne_nats _ [h]
      simp [cut_take, boolsD_take, ring_take hi, hm, le_size, hn, sureP]) (fun i => by simp)
  simp at hw
  simp [m_sure_behind, b_sure_behind, m_look_e hS, m_look_house_e hh, ix_cod hh, hr, hw, sureOf]
/-! ### two houses -/
def apartP (c d : Str) (i : Nat) : Bool := !decide (ringOf c i = ringOf d i)
def apartOf (c d : Str) : Nat := firstT (apartP c d)
theorem apart_40 {c d : Str} (hc : c ∈ codes30) (hd : d ∈ codes30) (hn : c ≠ d) : apartP c d 40 = true := by
  unfold apartP
  rw [Bool.not_eq_true', decide_eq_false_iff_not]
  exact apart30 c hc d hd hn
theorem m_apart_behind_e {S : Stg} (hS : S.Ok) {i j : Nat} (hi : i < S.codes.length) (hj : j < S.codes.length) (hn : i ≠ j) {s : Sto} : m_apart_behind [S.d, .int i, .int j] s = .ok (.int (apartOf (cod S.codes i) (cod S.codes j))) s := by
  have ci := hS.c30 _ (cod_mem hi)
  have cj := hS.c30 _ (cod_mem hj)
  have hri : m_ring [.str (cod S.codes i), .int 400] s = _ := m_ring_e ci (t := 400) (Nat.le_refl _) (s := s)
  have hrj : m_ring [.str (cod S.codes j), .int 400] s = _ := m_ring_e cj (t := 400) (Nat.le_refl _) (s := s)
  have hne : cod S.codes i ≠ cod S.codes j := fun e => hn (cod_inj hS hi hj e)
  have hw := whileN_first (fun k : Nat => [.val S.d, .val (.int i), .val (.int j), .val (.list (boolsD (ringOf (cod S.codes i) 400))), .val (.list (boolsD (ringOf (cod S.codes j) 400))), .val (.int k)]) rfl (s := s) (p := apartP (cod S.codes i) (cod S.codes j)) (k := 40)
    (t := xB (x2 eqD (xSl sliD (xV 3) oN (oS (xV 5))) (xSl sliD (xV 4) oN (oS (xV 5))))) (b := sAug (fun a c => a + c) 5 (xC (.int 1))) (by omega) (apart_40 ci cj hne)
    (fun k hk => by simp [cut_take, boolsD_take, ring_take hk, eq_bools, apartP]) (fun k => by simp)
  have hij : ¬ ((i : Int) = (j : Int)) := by omega
  simp at hw
  simp [m_apart_behind, b_apart_behind, m_look_e hS, m_look_house_e hi, m_look_house_e hj, ix_cod hi, ix_cod hj, hij, hri, hrj, hw, apartOf]
/-! ### all houses -/
theorem intsOf_nats (ns : List Nat) : intsOf (natsD ns) = some (ns.map fun n : Nat => (n : Int)) := by
  have e : natsD ns = (ns.map fun n : Nat => (n : Int)).map PyData.int := by unfold natsD; rw [List.map_map]; rfl
  rw [e, intsOf_map]
def maxN (ns : List Nat) : Nat := ns.foldl max 0
theorem foldl_max_cast : ∀ (ns : List Nat) (a : Nat), (ns.map fun n : Nat => (n : Int)).foldl max (a : Int) = ((ns.foldl max a : Nat) : Int)
  | [], a => rfl
  | n :: r, a => by
    rw [List.map_cons, List.foldl_cons, List.foldl_cons]
    have e : max (a : Int) (n : Int) = ((max a n : Nat) : Int) := by omega
    rw [e, foldl_max_cast r]
theorem maxL_nats {ns : List Nat} : maxL (ns.map fun n : Nat => (n : Int)) = ((maxN ns : Nat) : Int) := by
  cases ns with
  | nil => rfl
  | cons n r =>
    show (r.map fun n : Nat => (n : Int)).foldl max (n : Int) = _
    rw [foldl_max_cast]
    unfold maxN
    rw [List.foldl_cons, Nat.zero_max]
theorem maxD_nats {ns : List Nat} (h : 0 < ns.length) : maxD (.list (natsD ns)) = some (.int (maxN ns)) := by
  show (intsOf (natsD ns)).bind _ = _
  rw [intsOf_nats]
  show (if 0 < (ns.map fun n : Nat => (n : Int)).length then some (PyData.int (maxL (ns.map fun n : Nat => (n : Int)))) else none) = _
  rw [if_pos (by simpa using h), maxL_nats]
def allSure (cs : List Str) : Nat := maxN ((List.range cs.length).map (sureOf cs))
theorem m_all_sure_behind_e {S : Stg} (hS : S.Ok) {s : Sto} : m_all_sure_behind [S.d] s = .ok (.int (allSure S.codes)) s := by
  have e2 : rngOk (S.codes.length : Int) = true := rngOk_of (by omega) (by have := hS.l8; omega)
  have hc : compL (gN 1) tAll (xCall 2 m_sure_behind (aC (xV 0) (aC (xV 1) aN))) [1] (rngD 0 S.codes.length) [] [.val S.d, .no] s = .ok (natsD ((List.range S.codes.length).map (sureOf S.codes))) s := by
    rw [compL_rng (fun i => .int (sureOf S.codes i)) (fun i hi => ⟨_, rfl, by simp [wipeD, m_sure_behind_e hS hi]⟩) (le_size (by have := hS.l8; omega))]
    unfold natsD; rw [List.map_map]; rfl
  have hl : 0 < ((List.range S.codes.length).map (sureOf S.codes)).length := by have := hS.l2; simp; omega
  simp [m_all_sure_behind, b_all_sure_behind, m_look_e hS, e2, hc, maxD_nats hl, allSure]
/-! ### who is mistaken -/
def pairN (p : Nat × Nat) : D := .tuple [.int p.1, .int p.2]
/-- pairs i < j that ring alike in the first t ticks, by j -/
def mistBy (cs : List Str) (t : Nat) : List (Nat × Nat) := (List.range cs.length).flatMap fun j => ((List.range j).filter fun i => decide (ringOf (cod cs i) t = ringOf (cod cs j) t)).map fun i => (i, j)
/-- .. in order -/
def mist (cs : List Str) (t : Nat) : List (Nat × Nat) := (List.range cs.length).flatMap fun i => ((List.range (cs.length - (i + 1))).filter fun k => decide (ringOf (cod cs i) t = ringOf (cod cs (i + 1 + k)) t)).map fun k => (i, i + 1 + k)
def toI (p : Nat × Nat) : Int × Int := (p.1, p.2)
def ltP (p q : Nat × Nat) : Prop := p.1 < q.1 ∨ (p.1 = q.1 ∧ p.2 < q.2)
theorem mist_mem {cs : List Str} {t : Nat} {p : Nat × Nat} : p ∈ mist cs t ↔ p.1 < p.2 ∧ p.2 < cs.length ∧ ringOf (cod cs p.1) t = ringOf (cod cs p.2) t := by
  unfold mist
  simp only [List.mem_flatMap, List.mem_range, List.mem_map, List.mem_filter, decide_eq_true_eq]
  constructor
  · rintro ⟨i, hi, k, ⟨hk, e⟩, rfl⟩
    exact ⟨by show i < i + 1 + k; omega, by show i + 1 + k < _; omega, e⟩
  · rintro ⟨h1, h2, h3⟩
    refine ⟨p.1, by omega, p.2 - (p.1 + 1), ⟨by omega, ?_⟩, ?_⟩
    · rw [show p.1 + 1 + (p.2 - (p.1 + 1)) = p.2 by omega]; exact h3
    · rw [show p.1 + 1 + (p.2 - (p.1 + 1)) = p.2 by omega]
theorem mistBy_mem {cs : List Str} {t : Nat} {p : Nat × Nat} : p ∈ mistBy cs t ↔ p.1 < p.2 ∧ p.2 < cs.length ∧ ringOf (cod cs p.1) t = ringOf (cod cs p.2) t := by
  unfold mistBy
  simp only [List.mem_flatMap, List.mem_range, List.mem_map, List.mem_filter, decide_eq_true_eq]
  constructor
  · rintro ⟨j, hj, i, ⟨hi, e⟩, rfl⟩
    exact ⟨hi, hj, e⟩
  · rintro ⟨h1, h2, h3⟩
    exact ⟨p.2, h2, p.1, ⟨h1, h3⟩, rfl⟩
theorem mist_lt (cs : List Str) (t : Nat) : (mist cs t).Pairwise ltP := by
  unfold mist
  rw [List.pairwise_flatMap]
  refine ⟨fun i hi => ?_, ?_⟩
  · rw [List.pairwise_map]
    exact (List.Pairwise.filter _ List.pairwise_lt_range).imp fun {a b} h => .inr ⟨rfl, by show i + 1 + a < i + 1 + b; omega⟩
  · refine List.pairwise_lt_range.imp fun {a b} h x hx y hy => ?_
    obtain ⟨k, _, rfl⟩ := List.mem_map.mp hx
    obtain ⟨k', _, rfl⟩ := List.mem_map.mp hy
    exact .inl h
theorem mistBy_nd (cs : List Str) (t : Nat) : (mistBy cs t).Nodup := by
  unfold mistBy
  rw [List.Nodup, List.pairwise_flatMap]
  refine ⟨fun i hi => ?_, ?_⟩
  · rw [List.pairwise_map]
    exact (List.Pairwise.filter _ List.pairwise_lt_range).imp fun {a b} h e => by have := congrArg Prod.fst e; simp at this; omega
  · refine List.pairwise_lt_range.imp fun {a b} h x hx y hy e => ?_
    obtain ⟨k, _, rfl⟩ := List.mem_map.mp hx
    obtain ⟨k', _, rfl⟩ := List.mem_map.mp hy
    have := congrArg Prod.snd e; simp at this; omega
theorem mist_perm (cs : List Str) (t : Nat) : (mistBy cs t).Perm (mist cs t) := by
  refine (List.perm_ext_iff_of_nodup (mistBy_nd cs t) ?_).mpr fun p => by rw [mist_mem, mistBy_mem]
  exact (mist_lt cs t).imp fun {a b} h e => by
    subst e
    rcases h with h | ⟨_, h⟩ <;> omega
theorem toI_inj {p q : Nat × Nat} (h : toI p = toI q) : p = q := by
  have h1 := congrArg Prod.fst h
  have h2 := congrArg Prod.snd h
  simp only [toI] at h1 h2
  exact Prod.ext (by omega) (by omega)
theorem sort_mist (cs : List Str) (t : Nat) : ((mistBy cs t).map toI).mergeSort leP = (mist cs t).map toI := by
  refine List.Perm.eq_of_pairwise (le := fun p q => leP p q = true) (fun p q _ _ h1 h2 => ?_) ?_ ?_ ?_
  · simp only [leP, decide_eq_true_eq] at h1 h2
    have : p.1 = q.1 ∧ p.2 = q.2 := by omega
    exact Prod.ext this.1 this.2
  · exact List.pairwise_mergeSort (le := leP) (fun a b c h1 h2 => by simp only [leP, decide_eq_true_eq] at *; omega) (fun a b => by simp only [leP, Bool.or_eq_true, decide_eq_true_eq]; omega) _
  · rw [List.pairwise_map]
    refine (mist_lt cs t).imp fun {a b} h => ?_
    unfold leP toI
    rw [decide_eq_true_eq]
    rcases h with h | ⟨h1, h2⟩
    · exact .inl (by show (a.1 : Int) < (b.1 : Int); omega)
    · exact .inr ⟨by show (a.1 : Int) = (b.1 : Int); omega, by show (a.2 : Int) ≤ (b.2 : Int); omega⟩
  · exact (List.mergeSort_perm _ leP).trans ((mist_perm cs t).map toI)
theorem pairsOf_map (ps : List (Int × Int)) : pairsOf (ps.map pairD) = some ps := by
  induction ps with
  | nil => rfl
  | cons p r ih =>
    show (pairsOf (r.map pairD)).map ((p.1, p.2) :: ·) = _
    rw [ih]; rfl
theorem sortedD_pairs (ps : List (Int × Int)) : sortedD (.list (ps.map pairD)) = some (.list ((ps.mergeSort leP).map pairD)) := by
  cases ps with
  | nil => simp [sortedD, intsOf]
  | cons p r =>
    have e : intsOf ((p :: r).map pairD) = none := rfl
    show (match intsOf ((p :: r).map pairD) with | some ns => some (PyData.list ((ns.mergeSort leI).map .int)) | none => (pairsOf ((p :: r).map pairD)).map fun (ps : List (Int × Int)) => PyData.list ((ps.mergeSort leP).map pairD)) = _
    rw [e]
    show (pairsOf ((p :: r).map pairD)).map _ = _
    rw [pairsOf_map]; rfl
theorem pairs_toI (ps : List (Nat × Nat)) : (ps.map toI).map pairD = ps.map pairN := by rw [List.map_map]; rfl
theorem sorted_mist (cs : List Str) (t : Nat) : sortedD (.list ((mistBy cs t).map pairN)) = some (.list ((mist cs t).map pairN)) := by
  rw [← pairs_toI, sortedD_pairs, sort_mist, pairs_toI]

theorem rows_ix {cs : List Str} {t k : Nat} (h : k < cs.length) : ixD (.list (cs.map fun c => .list (boolsD (ringOf c t)))) (.int k) = some (.list (boolsD (ringOf (cod cs k) t))) := by
  rw [ixD_l, atI_nat (by simpa using h), cod_eq h]
  simp
theorem len_filter_le {α : Type} (p : α → Bool) (l : List α) : (l.filter p).length ≤ l.length := List.length_filter_le p l
/-- the first n rounds -/
def mistTo (cs : List Str) (t n : Nat) : List (Nat × Nat) := (List.range n).flatMap fun j => ((List.range j).filter fun i => decide (ringOf (cod cs i) t = ringOf (cod cs j) t)).map fun i => (i, j)
theorem mistTo_succ (cs : List Str) (t n : Nat) : mistTo cs t (n + 1) = mistTo cs t n ++ ((List.range n).filter fun i => decide (ringOf (cod cs i) t = ringOf (cod cs n) t)).map fun i => (i, n) := by
  unfold mistTo
  rw [List.range_succ, List.flatMap_append]
  simp
theorem mistTo_len (cs : List Str) (t : Nat) : ∀ n, (mistTo cs t n).length ≤ n * n
  | 0 => by simp [mistTo]
  | n + 1 => by
    have h1 := mistTo_len cs t n
    have h2 := List.length_filter_le (fun i => decide (ringOf (cod cs i) t = ringOf (cod cs n) t)) (List.range n)
    rw [List.length_range] at h2
    have h3 : (n + 1) * (n + 1) = n * n + n + n + 1 := by rw [Nat.add_mul, Nat.mul_add]; omega
    rw [mistTo_succ, List.length_append, List.length_map, h3]
    omega
/-- a loop over numbers from 0 -/
theorem forL_rng {t : XG} {b : XS} {s : Sto} (env : Nat → Env) : ∀ (n i : Nat), (∀ j, i ≤ j → j < i + n → ∃ ρ1, t (.int (j : Int)) (env j) = some ρ1 ∧ b ρ1 s = .next (env (j + 1)) s) → forL t b ((List.range' i n).map fun j : Nat => .int (j : Int)) (env i) s = .next (env (i + n)) s
  | 0, i, _ => rfl
  | n + 1, i, h => by
    obtain ⟨ρ1, e1, e2⟩ := h i (Nat.le_refl _) (by omega)
    rw [List.range'_succ, List.map_cons]
    unfold forL
    rw [e1]
    show (match b ρ1 s with | .next ρ2 s2 => forL t b _ ρ2 s2 | .cont ρ2 s2 => forL t b _ ρ2 s2 | .brk ρ2 s2 => .next ρ2 s2 | r => r) = _
    rw [e2]
    have := forL_rng env n (i + 1) (fun j h1 h2 => h j (by omega) (by omega))
    rw [show i + (n + 1) = i + 1 + n by omega]
    exact this
theorem rngD_0 (n : Nat) : rngD 0 n = (List.range' 0 n).map fun j : Nat => .int (j : Int) := by
  unfold rngD
  rw [List.range_eq_range']
  apply List.map_congr_left
  intro i _
  simp
theorem forL_rng0 {t : XG} {b : XS} {s : Sto} {ρ0 : Env} {n : Nat} (env : Nat → Env) (h0 : env 0 = ρ0) (h : ∀ j, j < n → ∃ ρ1, t (.int (j : Int)) (env j) = some ρ1 ∧ b ρ1 s = .next (env (j + 1)) s) : forL t b (rngD 0 n) ρ0 s = .next (env n) s := by
  subst h0
  rw [rngD_0, forL_rng env n 0 fun j _ hj => h j (by omega), Nat.zero_add]
/-- the slot of a loop's number behind n turns -/
def lastN (n : Nat) : Slot := match n with
  | 0 => .no
  | n + 1 => .val (.int (n : Int))
theorem m_mistaken_e {S : Stg} (hS : S.Ok) {t : Nat} (ht : t ≤ 400) {s : Sto} : m_mistaken [S.d, .int t] s = .ok (.list ((mist S.codes t).map pairN)) s := by
  have h8 := hS.l8
  have e1 : ((t : Int) ≤ 400) := by omega
  have e2 : rngOk (S.codes.length : Int) = true := rngOk_of (by omega) (by omega)
  have hc : ∀ ρ : Env, compL (gN 3) tAll (xCall 2 m_ring (aC (xV 3) (aC (xV 1) aN))) [3] (S.codes.map .str) [] [.val S.d, .val (.int t), .no, .no, .no, .no, .no] s = .ok (S.codes.map fun c => .list (boolsD (ringOf c t))) s := fun _ =>
    compL_mapA PyData.str _ S.codes (fun c hc => ⟨_, rfl, by simp [wipeD, m_ring_e (hS.c30 c hc) ht]⟩) (le_size (by omega))
  have hc := hc []
  generalize hR : (PyData.list (S.codes.map fun c => .list (boolsD (ringOf c t)))) = R at hc
  have hix : ∀ k, k < S.codes.length → ixD R (.int k) = some (.list (boolsD (ringOf (cod S.codes k) t))) := fun k hk => by rw [← hR]; exact rows_ix hk
  have hlen : lenD R = some (.int S.codes.length) := by rw [← hR]; simp
  have hf : forL (gN 5) (sExt 4 (xComp (iR1 (aC (xV 5) aN)) (gN 6) (xB (x2 eqD (x2 ixD (xV 2) (xV 6)) (x2 ixD (xV 2) (xV 5)))) (xTup (aC (xV 6) (aC (xV 5) aN))) [6])) (rngD 0 S.codes.length)
      [.val S.d, .val (.int t), .val R, .no, .own [], .no, .no] s = .next [.val S.d, .val (.int t), .val R, .no, .own ((mistTo S.codes t S.codes.length).map pairN), lastN S.codes.length, .no] s :=
    forL_rng0 (fun n => [.val S.d, .val (.int t), .val R, .no, .own ((mistTo S.codes t n).map pairN), lastN n, .no]) rfl fun j hj => ⟨_, rfl, by
      have e3 : rngOk (j : Int) = true := rngOk_of (by omega) (by omega)
      have hcc : compL (gN 6) (xB (x2 eqD (x2 ixD (xV 2) (xV 6)) (x2 ixD (xV 2) (xV 5)))) (xTup (aC (xV 6) (aC (xV 5) aN))) [6] (rngD 0 j) [] [.val S.d, .val (.int t), .val R, .no, .own ((mistTo S.codes t j).map pairN), .val (.int j), .no] s
          = .ok (((List.range j).filter fun i => decide (ringOf (cod S.codes i) t = ringOf (cod S.codes j) t)).map fun i => pairN (i, j)) s :=
        compL_rngF _ _ (fun i hi => ⟨_, rfl, by simp [wipeD, hix i (by omega), hix j hj, eq_bools], fun _ => by simp [wipeD, le_size, pairN]⟩) (le_size (by omega))
      have h1 := mistTo_len S.codes t j
      have h2 := List.length_filter_le (fun i => decide (ringOf (cod S.codes i) t = ringOf (cod S.codes j) t)) (List.range j)
      rw [List.length_range] at h2
      have hj8 : j ≤ 8 := by omega
      have h3 : j * j ≤ 64 := Nat.mul_le_mul hj8 hj8
      have hz : (mistTo S.codes t j).length + ((List.range j).filter fun i => decide (ringOf (cod S.codes i) t = ringOf (cod S.codes j) t)).length ≤ sizeLine := le_size (by omega)
      simp [e3, hcc, hz, mistTo_succ, lastN, Function.comp_def]⟩
  have hm : mistTo S.codes t S.codes.length = mistBy S.codes t := rfl
  rw [hm] at hf
  simp [m_mistaken, b_mistaken, m_look_e hS, m_is_within_e, e1, codesD, hc]
  simp [hR, hlen, e2, hf, sorted_mist, le_size]
end M

/-! P3: what the laws draw. -/
namespace M
open PySem L2
def cellOf (ns : List Int) (k : Nat) : Int := ns.getD k 0
theorem m__law_cell_e {ns : List Int} {k : Nat} {s : Sto} : m__law_cell [scrD (ns.map .int), .int k] s = .ok (.int (cellOf ns k)) s := by
  by_cases h : k < ns.length
  · have h1 : (k : Int) < (ns.length : Int) := by omega
    have h2 : atI (ns.map PyData.int) (k : Int) = some (.int (cellOf ns k)) := by
      rw [atI_nat (by simpa using h)]
      simp [cellOf, List.getD_eq_getElem?_getD, h]
    simp [m__law_cell, b__law_cell, h1, h2]
  · have h1 : ¬ (k : Int) < (ns.length : Int) := by omega
    have h3 : ns[k]? = none := by simp; omega
    simp [m__law_cell, b__law_cell, h1, cellOf, List.getD_eq_getElem?_getD, h3]
def modNat {a p : Int} (hp : 0 < p) (hl : p ≤ 1000000000000) : (a % p).natAbs < 2 ^ 64 := by
  have h1 := Int.emod_nonneg a (by omega : p ≠ 0)
  have h2 := Int.emod_lt_of_pos a hp
  omega
def mixOf (a p m : Int) : Int := (a * 48271 % p) ^ 3 % p % m
theorem m__law_mix_e {a p m : Int} (hp : 0 < p) (hl : p ≤ 1000000000000) (hm : 0 < m) {s : Sto} : m__law_mix [.int a, .int p, .int m] s = .ok (.int (mixOf a p m)) s := by
  have h1 := modNat (a := a * 48271) hp hl
  simp [m__law_mix, b__law_mix, hp, hm, h1, mixOf]
def seedOf (a k : Int) : Int := ((a * 1103515245 + 7919 * k + 12345) % 2147483647) ^ 5 % 2147483647
theorem m__law_seed_e {a k : Int} {s : Sto} : m__law_seed [.int a, .int k] s = .ok (.int (seedOf a k)) s := by
  have h1 := modNat (a := a * 1103515245 + 7919 * k + 12345) (p := 2147483647) (by omega) (by omega)
  simp [m__law_seed, b__law_seed, h1, seedOf]
def pickOf (a m : Int) : Int := a / 97 % m
theorem m__law_pick_e {a m : Int} (hm : 0 < m) {s : Sto} : m__law_pick [.int a, .int m] s = .ok (.int (pickOf a m)) s := by
  simp [m__law_pick, b__law_pick, hm, pickOf]
theorem m__law_whole_e {i : Int} {s : Sto} : m__law_whole [.int i] s = .ok (.bool true) s := by
  simp [m__law_whole, b__law_whole]
theorem ix_sl0 : ixD (.str "sl") (.int 0) = some (.str (sg 115)) := by rfl
theorem ix_sl1 : ixD (.str "sl") (.int 1) = some (.str (sg 108)) := by rfl

def draw (a : Int) (k : Nat) : Nat := if pickOf (seedOf a k) 2 = 0 then 115 else 108
theorem pick2 (a : Int) : pickOf a 2 = 0 ∨ pickOf a 2 = 1 := by
  unfold pickOf
  have h1 := Int.emod_nonneg (a / 97) (by omega : (2 : Int) ≠ 0)
  have h2 := Int.emod_lt_of_pos (a / 97) (by omega : (0 : Int) < 2)
  omega
theorem ix_draw {a : Int} {k : Nat} : ixD (.str "sl") (.int (pickOf (seedOf a k) 2)) = some (.str (sg (draw a k))) := by
  unfold draw
  rcases pick2 (seedOf a k) with e | e <;> rw [e]
  · exact ix_sl0
  · exact ix_sl1
def lenC (a : Int) : Nat := (1 + a / 5 % 4).toNat
theorem lenC_le (a : Int) : 1 ≤ lenC a ∧ lenC a ≤ 4 ∧ (1 + a / 5 % 4) = (lenC a : Int) := by
  unfold lenC
  have h1 := Int.emod_nonneg (a / 5) (by omega : (4 : Int) ≠ 0)
  have h2 := Int.emod_lt_of_pos (a / 5) (by omega : (0 : Int) < 4)
  omega
def drawn (a : Int) : List Nat := (List.range (lenC a)).map (draw a)
theorem drawn_code (a : Int) : drawn a ∈ codeLists := by
  obtain ⟨h1, h2, _⟩ := lenC_le a
  have hd : ∀ k, draw a k = 115 ∨ draw a k = 108 := fun k => by unfold draw; split <;> simp
  have key : ∀ x y z u : Nat, (x = 115 ∨ x = 108) → (y = 115 ∨ y = 108) → (z = 115 ∨ z = 108) → (u = 115 ∨ u = 108) → [x] ∈ codeLists ∧ [x, y] ∈ codeLists ∧ [x, y, z] ∈ codeLists ∧ [x, y, z, u] ∈ codeLists := by
    rintro x y z u (rfl | rfl) (rfl | rfl) (rfl | rfl) (rfl | rfl) <;> decide +kernel
  obtain ⟨k1, k2, k3, k4⟩ := key _ _ _ _ (hd 0) (hd 1) (hd 2) (hd 3)
  unfold drawn
  have : lenC a = 1 ∨ lenC a = 2 ∨ lenC a = 3 ∨ lenC a = 4 := by omega
  rcases this with e | e | e | e <;> rw [e]
  · exact k1
  · exact k2
  · exact k3
  · exact k4
def codeOf (a : Int) : Str := ⟨⟨drawn a⟩⟩
theorem codeOf_30 (a : Int) : codeOf a ∈ codes30 := List.mem_map.mpr ⟨drawn a, drawn_code a, rfl⟩
theorem join_sg : ∀ rs : List Nat, Txt.join "" (rs.map sg) = ⟨⟨rs⟩⟩ := by
  intro rs
  have key : ∀ (r : List Nat) (acc : Array Nat), (r.map sg).foldl (fun acc (p : Str) => acc ++ ("" : Str).cps ++ p.cps) acc = acc ++ ⟨r⟩ := by
    intro r
    induction r with
    | nil => intro acc; simp
    | cons x r ih =>
      intro acc
      rw [List.map_cons, List.foldl_cons, ih]
      have e0 : ("" : Str).cps = #[] := by decide
      have e1 : (sg x).cps = ⟨[x]⟩ := rfl
      rw [e0, e1]
      apply Array.ext'
      simp
  cases rs with
  | nil => rfl
  | cons x r =>
    show (⟨(r.map sg).foldl (fun acc (p : Str) => acc ++ ("" : Str).cps ++ p.cps) (sg x).cps⟩ : Str) = _
    rw [key]
    refine congrArg Str.mk (Array.ext' ?_)
    simp [sg]
theorem m__law_code_e {a : Int} {s : Sto} : m__law_code [.int a] s = .ok (.str (codeOf a)) s := by
  obtain ⟨h1, h2, h3⟩ := lenC_le a
  have e2 : rngOk (lenC a : Int) = true := rngOk_of (by omega) (by omega)
  have hc : compL (gN 1) tAll (x2 ixD (xC (.str "sl")) (xCall 2 m__law_pick (aC (xCall 2 m__law_seed (aC (xV 0) (aC (xV 1) aN))) (aC (xC (.int 2)) aN)))) [1] (rngD 0 (lenC a)) [] [.val (.int a), .no] s = .ok ((drawn a).map fun x => .str (sg x)) s := by
    rw [compL_rng (fun k => .str (sg (draw a k))) (fun k hk => ⟨_, rfl, by simp [wipeD, m__law_seed_e, m__law_pick_e, ix_draw]⟩) (le_size (by omega))]
    unfold drawn; rw [List.map_map]; rfl
  have hj : joinD "" (.list ((drawn a).map fun x => .str (sg x))) = some (.str (codeOf a)) := by
    have e : ((drawn a).map fun x => PyData.str (sg x)) = ((drawn a).map sg).map .str := by rw [List.map_map]; rfl
    rw [e]
    show (strsOf (((drawn a).map sg).map .str)).bind _ = _
    rw [strsOf_map]
    have hl : (drawn a).length ≤ 4 := by unfold drawn; simp; omega
    have hs : (((drawn a).map sg).map (·.length)).sum = (drawn a).length := by
      have : ∀ l : List Nat, ((l.map sg).map (·.length)).sum = l.length := by
        intro l
        induction l with
        | nil => rfl
        | cons x r ih =>
          rw [List.map_cons, List.map_cons, List.sum_cons, ih, List.length_cons]
          show 1 + r.length = _
          omega
      exact this _
    have ok : joinOk "" ((drawn a).map sg) = true := by
      unfold joinOk
      rw [decide_eq_true_eq, hs]
      have : ("" : Str).length = 0 := by decide
      rw [this]; omega
    show (if joinOk "" ((drawn a).map sg) = true then some (PyData.str (Txt.join "" ((drawn a).map sg))) else none) = _
    rw [if_pos ok, join_sg]; rfl
  have hk : ((1 : Int) + a / 5 % 4) = (lenC a : Int) := h3
  simp [m__law_code, b__law_code, hk, e2, hc, hj]

/-! ### the setting that a law draws -/
theorem ok30 {c : Str} (h : c ∈ codes30) : PyData.strOk c = true := by
  obtain ⟨r, hr, rfl⟩ := List.mem_map.mp h
  have : ∀ r ∈ codeLists, PyData.strOk ⟨⟨r⟩⟩ = true := by decide +kernel
  exact this r hr
theorem strs_mem {c : Str} {cs : List Str} : PyData.str c ∈ cs.map PyData.str ↔ c ∈ cs := by
  rw [List.mem_map]
  exact ⟨fun ⟨x, hx, e⟩ => by injection e with e; rw [← e]; exact hx, fun h => ⟨c, h, rfl⟩⟩
theorem ni_codes {c : Str} {cs : List Str} (hc : c ∈ codes30) (hs : ∀ x ∈ cs, x ∈ codes30) : niD (.str c) (.list (cs.map .str)) = some (.bool (!decide (c ∈ cs))) := by
  rw [niD_l (.str c (ok30 hc)) (HasL.mapM fun x hx => .str x (ok30 (hs x hx))) (by decide)]
  simp [strs_mem]
theorem in_codes {c : Str} {cs : List Str} (hc : c ∈ codes30) (hs : ∀ x ∈ cs, x ∈ codes30) : inD (.str c) (.list (cs.map .str)) = some (.bool (decide (c ∈ cs))) := by
  rw [inD_l (.str c (ok30 hc)) (HasL.mapM fun x hx => .str x (ok30 (hs x hx))) (by decide)]
  simp [strs_mem]
/-- the codes drawn in n turns -/
def cds (a : Int) : Nat → List Str
  | 0 => []
  | n + 1 => if codeOf (seedOf a (10 + (n : Int))) ∈ cds a n then cds a n else cds a n ++ [codeOf (seedOf a (10 + (n : Int)))]
theorem cds_ok (a : Int) : ∀ n, (cds a n).Nodup ∧ (∀ c ∈ cds a n, c ∈ codes30) ∧ (cds a n).length ≤ n ∧ (0 < n → 0 < (cds a n).length)
  | 0 => ⟨List.nodup_nil, fun c h => by simp [cds] at h, Nat.le_refl _, fun h => by omega⟩
  | n + 1 => by
    obtain ⟨h1, h2, h3, h4⟩ := cds_ok a n
    unfold cds
    split
    · rename_i hm
      exact ⟨h1, h2, by omega, fun _ => List.length_pos_of_mem hm⟩
    · rename_i hm
      refine ⟨?_, fun c hc => ?_, by simp; omega, fun _ => by simp⟩
      · rw [List.nodup_append]
        exact ⟨h1, by simp, fun x hx y hy e => hm (by rw [← List.mem_singleton.mp hy, ← e]; exact hx)⟩
      · rcases List.mem_append.mp hc with q | q
        · exact h2 c q
        · have : c = codeOf (seedOf a (10 + (n : Int))) := List.mem_singleton.mp q
          rw [this]; exact codeOf_30 (seedOf a (10 + (n : Int)))
def lastC (a : Int) : Nat → Slot
  | 0 => .no
  | n + 1 => .val (.str (codeOf (seedOf a (10 + (n : Int)))))
theorem two_codes : (∀ c ∈ codes30, ("sl" : Str) = c ∨ ("sl" : Str) ≠ c) ∧ ("sl" : Str) ∈ codes30 ∧ ("ls" : Str) ∈ codes30 ∧ ("sl" : Str) ≠ "ls" := ⟨fun c _ => Classical.em _, by decide +kernel, by decide +kernel, by decide +kernel⟩
theorem m__law_setting_e (a : Int) : ∃ S : Stg, S.Ok ∧ ∀ s, m__law_setting [.int a] s = .ok S.d s := by
  have q1 := Int.emod_nonneg (a / 7) (by omega : (7 : Int) ≠ 0)
  have q2 := Int.emod_lt_of_pos (a / 7) (by omega : (0 : Int) < 7)
  obtain ⟨n, hn⟩ : ∃ n : Nat, 2 + a / 7 % 7 = (n : Int) := ⟨(2 + a / 7 % 7).toNat, by omega⟩
  have hn1 : 2 ≤ n := by omega
  have hn2 : n ≤ 8 := by omega
  have e2 : rngOk (n : Int) = true := rngOk_of (by omega) (by omega)
  obtain ⟨c1, c2, c3, c4⟩ := cds_ok a n
  have c4 := c4 (by omega)
  have hf : ∀ s, forL (gN 2) (sSeq (sSet 3 (xCall 1 m__law_code (aC (xCall 2 m__law_seed (aC (xV 0) (aC (x2 addD (xC (.int 10)) (xV 2)) aN))) aN))) (sIf (xB (x2 niD (xV 3) (xL 1))) (sApp 1 (xV 3)) sNil)) (rngD 0 n) [.val (.int a), .own [], .no, .no] s
      = .next [.val (.int a), .own ((cds a n).map .str), lastN n, lastC a n] s := fun s =>
    forL_rng0 (fun k => [.val (.int a), .own ((cds a k).map .str), lastN k, lastC a k]) rfl fun j hj => ⟨_, rfl, by
      obtain ⟨d1, d2, d3, d4⟩ := cds_ok a j
      have hz : (cds a j).length < sizeLine := lt_size (by omega)
      have hni := ni_codes (codeOf_30 (seedOf a (10 + (j : Int)))) d2
      by_cases hm : codeOf (seedOf a (10 + (j : Int))) ∈ cds a j
      · simp [m__law_seed_e, m__law_code_e, hni, hm, cds, lastN, lastC]
      · simp [m__law_seed_e, m__law_code_e, hni, hm, cds, lastN, lastC, hz]⟩
  -- the codes at the end
  obtain ⟨cs, hcs, hd, h2, h8, h30⟩ : ∃ cs : List Str, (∀ s z1 z2, (sIf (xB (x2 ltD (x1 lenD (xL 1)) (xC (.int 2)))) (sOwn 1 (x2 catD (xL 1) (xSl sliD (xComp (iAny (xTup (aC (xC (.str "sl")) (aC (xC (.str "ls")) aN)))) (gN 3) (xB (x2 niD (xV 3) (xL 1))) (xV 3) [3]) oN (oS (xC (.int 1)))))) sNil)
      [.val (.int a), .own ((cds a n).map .str), z1, z2] s = .next [.val (.int a), .own (cs.map .str), z1, z2] s) ∧ cs.Nodup ∧ 2 ≤ cs.length ∧ cs.length ≤ 8 ∧ ∀ c ∈ cs, c ∈ codes30 := by
    by_cases hl : (cds a n).length < 2
    · obtain ⟨c, hc⟩ : ∃ c, cds a n = [c] := by
        cases e : cds a n with
        | nil => rw [e] at c4; simp at c4
        | cons c r =>
          cases r with
          | nil => exact ⟨c, rfl⟩
          | cons d r => rw [e] at hl; simp at hl; omega
      have hc30 : c ∈ codes30 := c2 c (by rw [hc]; exact List.mem_cons_self)
      obtain ⟨_, t1, t2, t3⟩ := two_codes
      have hcomp : ∀ s z1 z2, compL (gN 3) (xB (x2 niD (xV 3) (xL 1))) (xV 3) [3] ((["sl", "ls"] : List Str).map PyData.str) [] [.val (.int a), .own [.str c], z1, z2] s = .ok (((["sl", "ls"] : List Str).filter fun x => !decide (x ∈ [c])).map .str) s := fun s z1 z2 => by
        have := compL_map (t := gN 3) (c := xB (x2 niD (xV 3) (xL 1))) (e := xV 3) (vs := [3]) (ρ := [.val (.int a), .own [.str c], z1, z2]) (s := s) PyData.str (fun x => !decide (x ∈ [c])) PyData.str ["sl", "ls"] [] (fun x hx => ⟨_, rfl, by
          have hx30 : x ∈ codes30 := by
            rcases List.mem_cons.mp hx with rfl | hx
            · exact t1
            · rw [List.mem_singleton.mp hx]; exact t2
          have := ni_codes (cs := [c]) hx30 (by simpa using hc30)
          simp only [List.map_cons, List.map_nil] at this
          simp [wipeD, this], fun _ => by simp [wipeD]⟩) (le_size (by simp))
        rw [this, List.nil_append]
      have ht : ∀ ds : List D, cutD ds none (some 1) = ds.take 1 := fun ds => cut_take (i := 1)
      by_cases hsl : ("sl" : Str) = c
      · have hls : ("ls" : Str) ≠ c := fun e => t3 (hsl.trans e.symm)
        refine ⟨[c, "ls"], fun s z1 z2 => ?_, by simpa using fun e => hls e.symm, by simp, by simp, ?_⟩
        · have hh := hcomp s z1 z2
          simp [hsl, hls] at hh
          simp [hc, hh, le_size, ht, catD, hsl]
        · intro x hx
          simp at hx
          rcases hx with rfl | rfl
          · exact hc30
          · exact t2
      · refine ⟨[c, "sl"], fun s z1 z2 => ?_, by simpa using fun e => hsl e.symm, by simp, by simp, ?_⟩
        · have hh := hcomp s z1 z2
          simp [hsl] at hh
          simp [hc, hh, le_size, ht, catD]
        · intro x hx
          simp at hx
          rcases hx with rfl | rfl
          · exact hc30
          · exact t1
    · have hl' : ¬ ((cds a n).length : Int) < 2 := by omega
      exact ⟨cds a n, fun s z1 z2 => by simp [hl'], c1, by omega, by omega, c2⟩
  have p1 := Int.emod_nonneg (a / 13) (by omega : (2 : Int) ≠ 0)
  have p2 := Int.emod_lt_of_pos (a / 13) (by omega : (0 : Int) < 2)
  obtain ⟨m, hm, hm1, hm2⟩ : ∃ m : Int, atI [PyData.int 60, PyData.int 9] (a / 13 % 2) = some (.int m) ∧ 1 ≤ m ∧ m ≤ 60 := by
    have : a / 13 % 2 = 0 ∨ a / 13 % 2 = 1 := by omega
    rcases this with e | e <;> rw [e]
    · exact ⟨60, by simp, by omega, by omega⟩
    · exact ⟨9, by simp, by omega, by omega⟩
  have r1 := Int.emod_nonneg (seedOf a 30 / 97) (by omega : m ≠ 0)
  have r2 := Int.emod_lt_of_pos (seedOf a 30 / 97) (by omega : (0 : Int) < m)
  refine ⟨⟨cs, decide (a / 11 % 2 = 0), 1 + pickOf (seedOf a 30) m⟩, ⟨h2, h8, hd, h30, by unfold pickOf; show 1 ≤ 1 + _; omega, by unfold pickOf; show 1 + _ ≤ 60; omega⟩, fun s => ?_⟩
  have eA : sOwn 1 (xLst aN) ([.val (.int a)] ++ List.replicate 3 .no) s = .next [.val (.int a), .own [], .no, .no] s := by simp [le_size, List.replicate]
  have eB : sFor (iR1 (aC (x2 addD (xC (.int 2)) (x2 modD (x2 fdivD (xV 0) (xC (.int 7))) (xC (.int 7)))) aN)) (gN 2) (sSeq (sSet 3 (xCall 1 m__law_code (aC (xCall 2 m__law_seed (aC (xV 0) (aC (x2 addD (xC (.int 10)) (xV 2)) aN))) aN))) (sIf (xB (x2 niD (xV 3) (xL 1))) (sApp 1 (xV 3)) sNil)) [.val (.int a), .own [], .no, .no] s
      = .next [.val (.int a), .own ((cds a n).map .str), lastN n, lastC a n] s := by simp [hn, e2, hf]
  have eD : eqD (.int (a / 11 % 2)) (.int 0) = some (.bool (decide (a / 11 % 2 = 0))) := eqD_i
  show (match (sSeq _ (sSeq _ (sSeq _ _))) ([.val (.int a)] ++ List.replicate 3 .no) s with | .ret d s' => Out.ok d s' | .next _ s' => Out.ok .none s' | .exc c _ s' => Out.exc c s' | _ => Out.bad) = _
  simp only [sSeq_e, eA, eB, hcs]
  simp [m__law_seed_e, le_size, hm, m__law_pick_e (show (0 : Int) < m by omega), Stg.d, codesD]
end M

/-! P13: the law of houses told apart. -/
namespace M
open PySem L2
theorem lit_s : litD [("s", .int 1), ("l", .int 3)] (.str (sg 115)) = some (.int 1) := by rfl
theorem lit_l : litD [("s", .int 1), ("l", .int 3)] (.str (sg 108)) = some (.int 3) := by rfl
theorem lawbeats_loop {s : Sto} {t : XG} {b : XS} {c : D} (hb : ∀ (z : Slot) (acc : List Bool) (x : Nat), (x = 115 ∨ x = 108) → acc.length ≤ 100 → ∃ ρ1, t (.str (sg x)) [.val c, .val (.list (boolsD acc)), z] = some ρ1 ∧ b ρ1 s = .next [.val c, .val (.list (boolsD (acc ++ beatSign x))), .val (.str (sg x))] s) :
    ∀ (r : List Nat) (z : Slot) (acc : List Bool), (∀ x ∈ r, x = 115 ∨ x = 108) → acc.length + r.length * 4 ≤ 100 → ∃ z', forL t b (r.map fun x => .str (sg x)) [.val c, .val (.list (boolsD acc)), z] s = .next [.val c, .val (.list (boolsD (acc ++ r.flatMap beatSign))), z'] s
  | [], z, acc, _, _ => ⟨z, by simp [forL]⟩
  | x :: r, z, acc, h, hz => by
    have hl : (beatSign x).length ≤ 4 := by unfold beatSign; split <;> simp
    rw [List.length_cons] at hz
    obtain ⟨ρ1, e1, e2⟩ := hb z acc x (h x List.mem_cons_self) (by omega)
    obtain ⟨z', e3⟩ := lawbeats_loop hb r (.val (.str (sg x))) (acc ++ beatSign x) (fun y hy => h y (List.mem_cons_of_mem _ hy)) (by rw [List.length_append]; omega)
    refine ⟨z', ?_⟩
    rw [List.map_cons, List.flatMap_cons]
    unfold forL
    rw [e1]
    show (match b ρ1 s with | .next ρ2 s2 => forL t b _ ρ2 s2 | .cont ρ2 s2 => forL t b _ ρ2 s2 | .brk ρ2 s2 => .next ρ2 s2 | r => r) = _
    rw [e2]
    show forL t b _ _ s = _
    rw [e3, List.append_assoc]
theorem m__law_beats_e {c : Str} (h : c ∈ codes30) {s : Sto} : m__law_beats [.str c] s = .ok (.list (boolsD (beatsOf c))) s := by
  obtain ⟨r, hr, rfl⟩ := List.mem_map.mp h
  obtain ⟨h1, h2, h3⟩ := code_signs hr
  obtain ⟨z', e⟩ := lawbeats_loop (s := s) (c := .str ⟨⟨r⟩⟩) (t := gN 2) (b := sSet 1 (x2 addD (x2 addD (xV 1) (x2 mulD (xLst (aC (xC (.bool true)) aN)) (xLit [("s", .int 1), ("l", .int 3)] (xV 2)))) (xLst (aC (xC (.bool false)) aN))))
    (by
      intro z acc x hx ha
      refine ⟨_, rfl, ?_⟩
      have hs : ∀ k, k ≤ 4 → acc.length + k ≤ sizeLine := fun k hk => le_size (by omega)
      rcases hx with rfl | rfl
      · simp [lit_s, le_size, repOk, hs, beatSign, boolsD, Nat.add_assoc]
      · simp [lit_l, le_size, repOk, hs, beatSign, boolsD, Nat.add_assoc]) r .no [] h1 (by simp; omega)
  have es : strD ⟨⟨r⟩⟩ = r.map fun x => .str (sg x) := rfl
  have eb : boolsD [] = [] := rfl
  rw [← es, eb] at e
  have hl : (r.flatMap beatSign).length ≤ 16 := by
    have : ∀ r ∈ codeLists, (r.flatMap beatSign).length ≤ 16 := by decide +kernel
    exact this r hr
  have hz : (r.flatMap beatSign).length + 3 ≤ sizeLine := le_size (by omega)
  simp [-List.length_flatMap, m__law_beats, b__law_beats, le_size, e, boolsD_app, beatsOf, hz]
  rfl
theorem m__law_ring_e' {c : Str} (h : c ∈ codes30) {t : Nat} (ht : t ≤ 400) {s : Sto} : m__law_ring [.str c, .int t] s = .ok (.list (boolsD (ringOf c t))) s := m__law_ring_e h ht (m__law_beats_e h)
theorem m__law_pair_e {S : Stg} (hS : S.Ok) {ns : List Int} {k : Nat} : ∃ i j : Nat, i < S.codes.length ∧ j < S.codes.length ∧ i ≠ j ∧ ∀ s, m__law_pair [S.d, scrD (ns.map .int), .int k] s = .ok (.tuple [.int i, .int j]) s := by
  have h2 := hS.l2
  have hn : (0 : Int) < (S.codes.length : Int) := by omega
  have hn1 : (0 : Int) < (S.codes.length : Int) - 1 := by omega
  have a1 := Int.emod_nonneg (cellOf ns k) (by omega : (S.codes.length : Int) ≠ 0)
  have a2 := Int.emod_lt_of_pos (cellOf ns k) hn
  have b1 : 0 ≤ mixOf (cellOf ns (k + 1)) 9949 ((S.codes.length : Int) - 1) := Int.emod_nonneg _ (by omega)
  have b2 : mixOf (cellOf ns (k + 1)) 9949 ((S.codes.length : Int) - 1) < (S.codes.length : Int) - 1 := Int.emod_lt_of_pos _ hn1
  generalize hm : mixOf (cellOf ns (k + 1)) 9949 ((S.codes.length : Int) - 1) = m at b1 b2
  generalize ha : cellOf ns k % (S.codes.length : Int) = a at a1 a2
  have c1 := Int.emod_nonneg (a + 1 + m) (by omega : (S.codes.length : Int) ≠ 0)
  have c2 := Int.emod_lt_of_pos (a + 1 + m) hn
  have c3 : (a + 1 + m) % (S.codes.length : Int) ≠ a := by
    rcases Int.lt_or_le (a + 1 + m) (S.codes.length : Int) with q | q
    · rw [Int.emod_eq_of_lt (by omega) q]; omega
    · have e : (a + 1 + m) % (S.codes.length : Int) = a + 1 + m - (S.codes.length : Int) := by
        rw [← Int.sub_emod_right, Int.emod_eq_of_lt (by omega) (by omega)]
      rw [e]; omega
  obtain ⟨i, hi⟩ : ∃ i : Nat, a = (i : Int) := ⟨a.toNat, by omega⟩
  obtain ⟨j, hj⟩ : ∃ j : Nat, (a + 1 + m) % (S.codes.length : Int) = (j : Int) := ⟨((a + 1 + m) % (S.codes.length : Int)).toNat, by omega⟩
  refine ⟨i, j, by omega, by omega, fun e => c3 (by rw [hj, hi, e]), fun s => ?_⟩
  have e1 : m__law_cell [scrD (ns.map .int), .int ((k : Int) + 1)] s = .ok (.int (cellOf ns (k + 1))) s := m__law_cell_e (k := k + 1)
  have hx := m__law_mix_e (a := cellOf ns (k + 1)) (p := 9949) (m := (S.codes.length : Int) - 1) (by omega) (by omega) hn1 (s := s)
  rw [hm] at hx
  have hc0 : 0 < S.codes.length := by omega
  rw [hi] at ha
  rw [hi] at hj
  simp [m__law_pair, b__law_pair, m__law_cell_e, hc0, ha, e1, hx, hj, le_size]

def lastZ (z : Slot) (n : Nat) : Slot := match n with
  | 0 => z
  | n + 1 => .val (.int (n : Int))
def mistUp (cs : List Str) (t m : Nat) : List (Nat × Nat) := (List.range m).flatMap fun i => ((List.range (cs.length - (i + 1))).filter fun k => decide (ringOf (cod cs i) t = ringOf (cod cs (i + 1 + k)) t)).map fun k => (i, i + 1 + k)
theorem mistUp_succ (cs : List Str) (t n : Nat) : mistUp cs t (n + 1) = mistUp cs t n ++ ((List.range (cs.length - (n + 1))).filter fun k => decide (ringOf (cod cs n) t = ringOf (cod cs (n + 1 + k)) t)).map fun k => (n, n + 1 + k) := by
  unfold mistUp
  rw [List.range_succ, List.flatMap_append]
  simp
theorem mistUp_len (cs : List Str) (t : Nat) : ∀ n, (mistUp cs t n).length ≤ n * cs.length
  | 0 => by simp [mistUp]
  | n + 1 => by
    have h1 := mistUp_len cs t n
    have h2 := List.length_filter_le (fun k => decide (ringOf (cod cs n) t = ringOf (cod cs (n + 1 + k)) t)) (List.range (cs.length - (n + 1)))
    rw [List.length_range] at h2
    rw [mistUp_succ, List.length_append, List.length_map, Nat.add_mul]
    omega
theorem ty_pairs (ps : List (Nat × Nat)) : HasTy (.list (.tup [.int, .int])) (.list (ps.map pairN)) := .list (HasL.map (fun p => .tup (.cons (.int _) (.cons (.int _) .nil))) ps)
theorem pairN_inj {p q : Nat × Nat} (h : pairN p = pairN q) : p = q := by
  unfold pairN at h
  injection h with h
  injection h with h1 h2
  injection h1 with h1
  injection h2 with h2
  injection h2 with h2
  exact Prod.ext (by omega) (by omega)
theorem ne_pairs (a b : List (Nat × Nat)) : neD (.list (a.map pairN)) (.list (b.map pairN)) = some (.bool (!decide (a = b))) :=
  neD_ty (ty_pairs a) (ty_pairs b) (by decide) (by rw [decide_eq_true_eq]; exact ⟨fun e => by rw [e], fun e => map_inj (fun x y => pairN_inj) (by injection e)⟩)
/-- how many houses ring alike in the first i ticks -/
theorem count_sure {cs : List Str} {h i : Nat} (hh : h < cs.length) : decide (((cs.filter fun c => decide (ringOf c i = ringOf (cod cs h) i)).map fun _ => (1 : Nat)) = [1]) = sureP cs h i := by
  unfold sureP
  have e1 : cs = (List.range cs.length).map (cod cs) := by
    apply List.ext_getElem
    · simp
    · intro k h1 h2
      simp [cod_eq h1]
  have e2 : (cs.filter fun c => decide (ringOf c i = ringOf (cod cs h) i)).length = (meantOf cs (ringOf (cod cs h) i)).length := by
    rw [meantOf_rng, ringOf_len]
    generalize ringOf (cod cs h) i = row
    conv => lhs; rw [e1]
    rw [List.filter_map, List.length_map]
    rfl
  have hm : h ∈ meantOf cs (ringOf (cod cs h) i) := by
    rw [meantOf_rng, ringOf_len, List.mem_filter]
    exact ⟨List.mem_range.mpr hh, by simp⟩
  apply Bool.eq_iff_iff.mpr
  rw [decide_eq_true_eq, decide_eq_true_eq]
  constructor
  · intro q
    have ql := congrArg List.length q
    rw [List.length_map, e2] at ql
    match hq : meantOf cs (ringOf (cod cs h) i), ql with
    | [x], _ =>
      rw [hq] at hm
      rw [List.mem_singleton.mp hm]
  · intro q
    rw [q] at e2
    match hq : cs.filter fun c => decide (ringOf c i = ringOf (cod cs h) i), e2 with
    | [x], _ => rfl
section
variable {S : Stg} (hS : S.Ok) {d : D} {s : Sto} {i j : Nat} {z0 z1 z2 z3 z4 z5 z6 z7 z8 z9 z10 z11 z12 z13 z14 : Slot}
def rowsD (cs : List Str) : D := .list (cs.map fun c => .list (boolsD (ringOf c 400)))
theorem rows_at {cs : List Str} {k : Nat} (h : k < cs.length) : ixD (rowsD cs) (.int k) = some (.list (boolsD (ringOf (cod cs k) 400))) := rows_ix h
theorem k13_3 (hS : S.Ok) : b_law_k13_3 [z0, .val S.d, z2, z3, z4, z5, z6, z7, z8, z9, z10, z11, z12, z13, z14] s = .next [z0, .val S.d, z2, z3, .val (rowsD S.codes), z5, z6, z7, z8, z9, z10, z11, z12, z13, z14] s := by
  have hc : compL (gN 5) tAll (xCall 2 m__law_ring (aC (xV 5) (aC (xC (.int 400)) aN))) [5] (S.codes.map .str) [] [z0, .val S.d, z2, z3, z4, z5, z6, z7, z8, z9, z10, z11, z12, z13, z14] s = .ok (S.codes.map fun c => .list (boolsD (ringOf c 400))) s :=
    compL_mapA PyData.str _ S.codes (fun c hc => ⟨_, rfl, by
      have hr : m__law_ring [.str c, .int 400] s = _ := m__law_ring_e' (hS.c30 c hc) (t := 400) (Nat.le_refl _)
      simp [wipeD, hr]⟩) (le_size (by have := hS.l8; omega))
  simp [b_law_k13_3, codesD, hc, rowsD]
theorem k13_5 (hS : S.Ok) (hi : i < S.codes.length) (hj : j < S.codes.length) (hn : i ≠ j) : b_law_k13_5 [z0, .val S.d, .val (.int i), .val (.int j), .val (rowsD S.codes), z5, .val (.int 0), z7, z8, z9, z10, z11, z12, z13, z14] s
    = .next [z0, .val S.d, .val (.int i), .val (.int j), .val (rowsD S.codes), z5, .val (.int (apartOf (cod S.codes i) (cod S.codes j))), z7, z8, z9, z10, z11, z12, z13, z14] s := by
  have hne : cod S.codes i ≠ cod S.codes j := fun e => hn (cod_inj hS hi hj e)
  exact whileN_first (fun k : Nat => [z0, .val S.d, .val (.int i), .val (.int j), .val (rowsD S.codes), z5, .val (.int k), z7, z8, z9, z10, z11, z12, z13, z14]) rfl (k := 40) (by omega) (apart_40 (hS.c30 _ (cod_mem hi)) (hS.c30 _ (cod_mem hj)) hne)
    (fun k hk => by simp [rows_at hi, rows_at hj, cut_take, boolsD_take, ring_take hk, eq_bools, apartP]) (fun k => by simp [b_law_k13_5a])
theorem k13_6 (hS : S.Ok) (hi : i < S.codes.length) (hj : j < S.codes.length) (hn : i ≠ j) : b_law_k13_6 [z0, .val S.d, .val (.int i), .val (.int j), z4, z5, .val (.int (apartOf (cod S.codes i) (cod S.codes j))), z7, z8, z9, z10, z11, z12, z13, z14] s
    = .next [z0, .val S.d, .val (.int i), .val (.int j), z4, z5, .val (.int (apartOf (cod S.codes i) (cod S.codes j))), z7, z8, z9, z10, z11, z12, z13, z14] s := by
  simp [b_law_k13_6, m_apart_behind_e hS hi hj hn, m__law_whole_e]
theorem k13_8b (hS : S.Ok) {t : Nat} (ht : t ≤ 400) : b_law_k13_8b [z0, .val S.d, z2, z3, .val (rowsD S.codes), z5, z6, .val (.int S.codes.length), .val (.int t), z9, z10, z11, z12, z13, z14] s
    = .next [z0, .val S.d, z2, z3, .val (rowsD S.codes), z5, z6, .val (.int S.codes.length), .val (.int t), .val (.list ((mist S.codes t).map pairN)), lastZ z10 S.codes.length, z11, z12, z13, z14] s := by
  have h8 := hS.l8
  have e2 : rngOk (S.codes.length : Int) = true := rngOk_of (by omega) (by omega)
  have hf : forL (gN 10) b_law_k13_8a (rngD 0 S.codes.length) [z0, .val S.d, z2, z3, .val (rowsD S.codes), z5, z6, .val (.int S.codes.length), .val (.int t), .val (.list []), z10, z11, z12, z13, z14] s
      = .next [z0, .val S.d, z2, z3, .val (rowsD S.codes), z5, z6, .val (.int S.codes.length), .val (.int t), .val (.list ((mistUp S.codes t S.codes.length).map pairN)), lastZ z10 S.codes.length, z11, z12, z13, z14] s :=
    forL_rng0 (fun n => [z0, .val S.d, z2, z3, .val (rowsD S.codes), z5, z6, .val (.int S.codes.length), .val (.int t), .val (.list ((mistUp S.codes t n).map pairN)), lastZ z10 n, z11, z12, z13, z14]) rfl fun n hn => ⟨_, rfl, by
      have e3 : rngOk ((n : Int) + 1) = true := rngOk_of (by omega) (by omega)
      have e4 : ((S.codes.length : Int) - ((n : Int) + 1)).toNat = S.codes.length - (n + 1) := by omega
      have hcc : compL (gN 11) (xB (x2 eqD (xSl sliD (x2 ixD (xV 4) (xV 10)) oN (oS (xV 8))) (xSl sliD (x2 ixD (xV 4) (xV 11)) oN (oS (xV 8))))) (xTup (aC (xV 10) (aC (xV 11) aN))) [11] (rngD ((n : Int) + 1) (S.codes.length - (n + 1))) []
          [z0, .val S.d, z2, z3, .val (rowsD S.codes), z5, z6, .val (.int S.codes.length), .val (.int t), .val (.list ((mistUp S.codes t n).map pairN)), .val (.int n), z11, z12, z13, z14] s
          = .ok (((List.range (S.codes.length - (n + 1))).filter fun k => decide (ringOf (cod S.codes n) t = ringOf (cod S.codes (n + 1 + k)) t)).map fun k => pairN (n, n + 1 + k)) s :=
        compL_rngF _ _ (fun k hk => by
          have hql : n + 1 + k < S.codes.length := by omega
          have ek : (n : Int) + 1 + (k : Int) = ((n + 1 + k : Nat) : Int) := by omega
          rw [ek]
          generalize n + 1 + k = q at hql
          refine ⟨_, rfl, ?_, fun _ => ?_⟩
          · simp [wipeD, rows_at hn, rows_at hql, cut_take, boolsD_take, ring_take ht, eq_bools]
          · simp [wipeD, le_size, pairN]) (le_size (by omega))
      have h1 := mistUp_len S.codes t n
      have h2 := List.length_filter_le (fun k => decide (ringOf (cod S.codes n) t = ringOf (cod S.codes (n + 1 + k)) t)) (List.range (S.codes.length - (n + 1)))
      rw [List.length_range] at h2
      have h3 : n * S.codes.length ≤ 64 := Nat.mul_le_mul (show n ≤ 8 by omega) h8
      have hz : (mistUp S.codes t n).length + ((List.range (S.codes.length - (n + 1))).filter fun k => decide (ringOf (cod S.codes n) t = ringOf (cod S.codes (n + 1 + k)) t)).length ≤ sizeLine := le_size (by omega)
      simp [b_law_k13_8a, e3, e2, e4, hcc, hz, mistUp_succ, lastZ, Function.comp_def]⟩
  have hm : mistUp S.codes t S.codes.length = mist S.codes t := rfl
  rw [hm] at hf
  simp [b_law_k13_8b, le_size, e2, hf, m_mistaken_e hS ht, ne_pairs]
theorem k13_10b (hS : S.Ok) {h : Nat} (hh : h < S.codes.length) {m : Nat} : b_law_k13_10b [z0, .val S.d, z2, z3, .val (rowsD S.codes), z5, z6, z7, z8, z9, z10, z11, .val (.int m), .val (.int h), z14] s
    = .next [z0, .val S.d, z2, z3, .val (rowsD S.codes), z5, .val (.int (sureOf S.codes h)), z7, z8, z9, z10, z11, .val (.int (max m (sureOf S.codes h) : Nat)), .val (.int h), z14] s := by
  have hw : whileN (xB (x2 neD (xComp (iAny (xV 4)) (gN 14) (xB (x2 eqD (xSl sliD (xV 14) oN (oS (xV 6))) (xSl sliD (x2 ixD (xV 4) (xV 13)) oN (oS (xV 6))))) (xC (.int 1)) [14]) (xLst (aC (xC (.int 1)) aN)))) b_law_k13_10a 2000
      [z0, .val S.d, z2, z3, .val (rowsD S.codes), z5, .val (.int 0), z7, z8, z9, z10, z11, .val (.int m), .val (.int h), z14] s = _ :=
    whileN_first (fun k : Nat => [z0, .val S.d, z2, z3, .val (rowsD S.codes), z5, .val (.int k), z7, z8, z9, z10, z11, .val (.int m), .val (.int h), z14]) rfl (p := sureP S.codes h) (k := 40) (by omega) (sure_40 hS hh (Nat.le_refl _))
    (fun k hk => by
      have hcc : compL (gN 14) (xB (x2 eqD (xSl sliD (xV 14) oN (oS (xV 6))) (xSl sliD (x2 ixD (xV 4) (xV 13)) oN (oS (xV 6))))) (xC (.int 1)) [14] (S.codes.map fun c => .list (boolsD (ringOf c 400))) []
          [z0, .val S.d, z2, z3, .val (rowsD S.codes), z5, .val (.int k), z7, z8, z9, z10, z11, .val (.int m), .val (.int h), z14] s = .ok (natsD ((S.codes.filter fun c => decide (ringOf c k = ringOf (cod S.codes h) k)).map fun _ => 1)) s := by
        rw [compL_map (fun c => .list (boolsD (ringOf c 400))) (fun c => decide (ringOf c k = ringOf (cod S.codes h) k)) (fun _ => .int 1) S.codes [] (fun c hc => ⟨_, rfl, by simp [wipeD, rows_at hh, cut_take, boolsD_take, ring_take hk, eq_bools], fun _ => by simp⟩) (le_size (by have := hS.l8; simp; omega))]
        unfold natsD; rw [List.map_map]; rfl
      have hn : neD (.list (natsD ((S.codes.filter fun c => decide (ringOf c k = ringOf (cod S.codes h) k)).map fun _ => 1))) (.list [.int 1]) = some (.bool (!sureP S.codes h k)) := by
        rw [← count_sure hh]
        exact ne_nats _ [1]
      have hr : (rowsD S.codes) = .list (S.codes.map fun c => .list (boolsD (ringOf c 400))) := rfl
      rw [hr] at hcc ⊢
      simp [hcc, le_size, hn]) (fun k => by simp [b_law_k13_10a])
  simp only [b_law_k13_10b, sSeq_e, sSet_e, stX_e, xC_e, List.set_cons_succ, List.set_cons_zero, hw]
  have hmx : (if (sureOf S.codes h : Int) > (m : Int) then (sureOf S.codes h : Int) else (m : Int)) = ((max m (sureOf S.codes h) : Nat) : Int) := by
    split <;> omega
  simp
  refine ⟨rfl, ?_⟩
  show (if m < sureOf S.codes h then ((sureOf S.codes h : Nat) : Int) else (m : Int)) = _
  split <;> omega
end
theorem says_law_k13 (ns : List Int) (hl : ns.length ≤ 63) : Says m_law_k13 ns := by
  obtain ⟨S, hS, eS⟩ := m__law_setting_e (seedOf (cellOf ns 0) 0)
  obtain ⟨i, j, hi, hj, hn, ep⟩ := m__law_pair_e hS (ns := ns) (k := 1)
  have h2 := hS.l2
  have h8 := hS.l8
  have e2 : rngOk (S.codes.length : Int) = true := rngOk_of (by omega) (by omega)
  generalize hd : scrD (ns.map PyData.int) = d
  have hcell : ∀ (k : Nat) s, m__law_cell [d, .int k] s = .ok (.int (cellOf ns k)) s := fun k s => by rw [← hd]; exact m__law_cell_e
  have c0 : ∀ s, m__law_cell [d, .int 0] s = .ok (.int (cellOf ns 0)) s := fun s => hcell 0 s
  have c3 : ∀ s, m__law_cell [d, .int 3] s = .ok (.int (cellOf ns 3)) s := fun s => hcell 3 s
  have c4 : ∀ s, m__law_cell [d, .int 4] s = .ok (.int (cellOf ns 4)) s := fun s => hcell 4 s
  have ep' : ∀ s, m__law_pair [S.d, d, .int 1] s = .ok (.tuple [.int i, .int j]) s := fun s => by rw [← hd]; exact ep s
  have u1 := Int.emod_nonneg (cellOf ns 3) (by omega : (30 : Int) ≠ 0)
  have u2 := Int.emod_lt_of_pos (cellOf ns 3) (by omega : (0 : Int) < 30)
  have v1 := Int.emod_nonneg (cellOf ns 4) (by omega : (401 : Int) ≠ 0)
  have v2 := Int.emod_lt_of_pos (cellOf ns 4) (by omega : (0 : Int) < 401)
  obtain ⟨t1, ht1⟩ : ∃ t : Nat, cellOf ns 3 % 30 = (t : Int) := ⟨(cellOf ns 3 % 30).toNat, by omega⟩
  obtain ⟨t2, ht2⟩ : ∃ t : Nat, cellOf ns 4 % 401 = (t : Int) := ⟨(cellOf ns 4 % 401).toNat, by omega⟩
  have hl1 : t1 ≤ 400 := by omega
  have hl2 : t2 ≤ 400 := by omega
  have a1 : b_law_k13_1 [.val d, .no, .no, .no, .no, .no, .no, .no, .no, .no, .no, .no, .no, .no, .no] [] = .next [.val d, .val S.d, .no, .no, .no, .no, .no, .no, .no, .no, .no, .no, .no, .no, .no] [] := by
    simp [b_law_k13_1, c0, m__law_seed_e, eS]
  have a2 : b_law_k13_2 [.val d, .val S.d, .no, .no, .no, .no, .no, .no, .no, .no, .no, .no, .no, .no, .no] [] = .next [.val d, .val S.d, .val (.int i), .val (.int j), .no, .no, .no, .no, .no, .no, .no, .no, .no, .no, .no] [] := by
    simp [b_law_k13_2, ep']
  have a4 : b_law_k13_4 [.val d, .val S.d, .val (.int i), .val (.int j), .val (rowsD S.codes), .no, .no, .no, .no, .no, .no, .no, .no, .no, .no] [] = .next [.val d, .val S.d, .val (.int i), .val (.int j), .val (rowsD S.codes), .no, .val (.int 0), .no, .no, .no, .no, .no, .no, .no, .no] [] := by
    simp [b_law_k13_4]
  generalize hap : apartOf (cod S.codes i) (cod S.codes j) = ap
  have a5 := k13_5 (s := []) (z0 := .val d) (z5 := .no) (z7 := .no) (z8 := .no) (z9 := .no) (z10 := .no) (z11 := .no) (z12 := .no) (z13 := .no) (z14 := .no) hS hi hj hn
  have a6 := k13_6 (s := []) (z0 := .val d) (z4 := .val (rowsD S.codes)) (z5 := .no) (z7 := .no) (z8 := .no) (z9 := .no) (z10 := .no) (z11 := .no) (z12 := .no) (z13 := .no) (z14 := .no) hS hi hj hn
  rw [hap] at a5 a6
  have a7 : b_law_k13_7 [.val d, .val S.d, .val (.int i), .val (.int j), .val (rowsD S.codes), .no, .val (.int ap), .no, .no, .no, .no, .no, .no, .no, .no] [] = .next [.val d, .val S.d, .val (.int i), .val (.int j), .val (rowsD S.codes), .no, .val (.int ap), .val (.int S.codes.length), .no, .no, .no, .no, .no, .no, .no] [] := by
    simp [b_law_k13_7, rowsD]
  obtain ⟨n', hn'⟩ : ∃ n', S.codes.length = n' + 1 := ⟨S.codes.length - 1, by omega⟩
  have hlz : ∀ z, lastZ z S.codes.length = .val (.int (n' : Int)) := fun z => by rw [hn']; rfl
  have a8 : b_law_k13_8 [.val d, .val S.d, .val (.int i), .val (.int j), .val (rowsD S.codes), .no, .val (.int ap), .val (.int S.codes.length), .no, .no, .no, .no, .no, .no, .no] []
      = .next [.val d, .val S.d, .val (.int i), .val (.int j), .val (rowsD S.codes), .no, .val (.int ap), .val (.int S.codes.length), .val (.int t2), .val (.list ((mist S.codes t2).map pairN)), .val (.int (n' : Int)), .no, .no, .no, .no] [] := by
    have k1 := k13_8b (s := []) (z0 := .val d) (z2 := .val (.int i)) (z3 := .val (.int j)) (z5 := .no) (z6 := .val (.int ap)) (z9 := .no) (z10 := .no) (z11 := .no) (z12 := .no) (z13 := .no) (z14 := .no) hS hl1
    have k2 := k13_8b (s := []) (z0 := .val d) (z2 := .val (.int i)) (z3 := .val (.int j)) (z5 := .no) (z6 := .val (.int ap)) (z9 := .val (.list ((mist S.codes t1).map pairN))) (z10 := .val (.int (n' : Int))) (z11 := .no) (z12 := .no) (z13 := .no) (z14 := .no) hS hl2
    rw [hlz] at k1 k2
    simp [b_law_k13_8, c3, c4, ht1, ht2, le_size, forL, k1, k2]
  have a9 : b_law_k13_9 [.val d, .val S.d, .val (.int i), .val (.int j), .val (rowsD S.codes), .no, .val (.int ap), .val (.int S.codes.length), .val (.int t2), .val (.list ((mist S.codes t2).map pairN)), .val (.int (n' : Int)), .no, .no, .no, .no] []
      = .next [.val d, .val S.d, .val (.int i), .val (.int j), .val (rowsD S.codes), .no, .val (.int ap), .val (.int S.codes.length), .val (.int t2), .val (.list ((mist S.codes t2).map pairN)), .val (.int (n' : Int)), .no, .val (.int 0), .no, .no] [] := by
    simp [b_law_k13_9]
  have hmx : ∀ m, maxN ((List.range (m + 1)).map (sureOf S.codes)) = max (maxN ((List.range m).map (sureOf S.codes))) (sureOf S.codes m) := fun m => by
    unfold maxN
    rw [List.range_succ, List.map_append, List.foldl_append]
    rfl
  have a10 : b_law_k13_10 [.val d, .val S.d, .val (.int i), .val (.int j), .val (rowsD S.codes), .no, .val (.int ap), .val (.int S.codes.length), .val (.int t2), .val (.list ((mist S.codes t2).map pairN)), .val (.int (n' : Int)), .no, .val (.int 0), .no, .no] []
      = .next [.val d, .val S.d, .val (.int i), .val (.int j), .val (rowsD S.codes), .no, (match S.codes.length with | 0 => .val (.int ap) | k + 1 => .val (.int (sureOf S.codes k))), .val (.int S.codes.length), .val (.int t2), .val (.list ((mist S.codes t2).map pairN)), .val (.int (n' : Int)), .no, .val (.int (allSure S.codes)), lastN S.codes.length, .no] [] := by
    have := forL_rng0 (t := gN 13) (b := b_law_k13_10b) (s := []) (n := S.codes.length) (fun m => [.val d, .val S.d, .val (.int i), .val (.int j), .val (rowsD S.codes), .no, (match m with | 0 => .val (.int ap) | k + 1 => .val (.int (sureOf S.codes k))), .val (.int S.codes.length), .val (.int t2), .val (.list ((mist S.codes t2).map pairN)), .val (.int (n' : Int)), .no, .val (.int (maxN ((List.range m).map (sureOf S.codes)))), lastN m, .no]) rfl
      (fun h hh => ⟨_, rfl, by
        simp only [List.set_cons_succ, List.set_cons_zero]
        rw [k13_10b hS hh, hmx]
        rfl⟩)
    have e0 : (maxN ((List.range 0).map (sureOf S.codes)) : Int) = 0 := rfl
    simp only [e0] at this
    simp only [b_law_k13_10, sFor_e, stX_e, iR1_e, aC_e, aN_e, xV_e, List.getElem?_cons_succ, List.getElem?_cons_zero, bind_ok, e2, if_true, Int.toNat_natCast]
    exact this
  refine ⟨[], ?_⟩
  rw [hd]
  show (match b_law_k13 [.val d, .no, .no, .no, .no, .no, .no, .no, .no, .no, .no, .no, .no, .no, .no] [] with | .ret d s' => Out.ok d s' | .next _ s' => Out.ok .none s' | .exc c _ s' => Out.exc c s' | _ => Out.bad) = _
  simp only [b_law_k13, sSeq_e, a1, a2, k13_3 hS, a4, a5, a6, a7, a8, a9, a10]
  simp [b_law_k13_11, m_all_sure_behind_e hS]
end M

/-! P20: the state of a line, as an instance and as a dict. Written by wip/gen/p20.py. -/
namespace M
open PySem L2
inductive Oc where
  | no | rings | talks | held
  deriving DecidableEq
def Oc.s : Oc → Str
  | .no => ""
  | .rings => "rings"
  | .talks => "talks"
  | .held => "held"
def optD : Option Nat → D
  | none => .none
  | some h => .int (h : Int)
def rungD : Option (Nat × Option Nat × Int) → D
  | none => .none
  | some (c, b, t) => .tuple [.int (c : Int), optD b, .int t]
structure Ln where
  S : Stg
  now : Int
  off : List Nat
  asker : Option Nat
  dialled : Option Nat
  rung : Option (Nat × Option Nat × Int)
  out : Oc
  ins : List Nat
  queue : List Nat
  lt : List Nat
def recL (L : Ln) : Rec := ⟨"Line", [("setting", .val L.S.d), ("tick_now", .val (.int L.now)), ("off", .own (natsD L.off)), ("asker", .val (optD L.asker)), ("dialled", .val (optD L.dialled)), ("rung", .val (rungD L.rung)), ("outside", .val (.str L.out.s)), ("inside", .own (natsD L.ins)), ("queue", .own (natsD L.queue)), ("let", .val (.list (natsD L.lt)))]⟩
def recS (L : Ln) : Rec := ⟨"", [("setting", .val L.S.d), ("now", .val (.int L.now)), ("off", .val (.list (natsD L.off))), ("asker", .val (optD L.asker)), ("dialled", .val (optD L.dialled)), ("rung", .val (rungD L.rung)), ("out", .val (.str L.out.s)), ("in", .val (.list (natsD L.ins))), ("queue", .val (.list (natsD L.queue))), ("let", .val (.list (natsD L.lt)))]⟩
section
variable {s : Sto} {n : Nat} {L : Ln} (hn : n < s.length)
include hn
theorem recOf_L : recOf "Line" (s.set n (recL L)) (refD n) = some (n, recL L) := by
  unfold recOf
  rw [refOf_ref]
  show ((s.set n (recL L))[n]?).bind _ = _
  rw [List.getElem?_set_self hn]
  rfl
theorem recOf_S : recOf "" (s.set n (recS L)) (refD n) = some (n, recS L) := by
  unfold recOf
  rw [refOf_ref]
  show ((s.set n (recS L))[n]?).bind _ = _
  rw [List.getElem?_set_self hn]
  rfl
theorem fldPut_L {f : Str} {sl : Slot} {L' : Ln} (h : (⟨"Line", putS f sl (recL L).fs⟩ : Rec) = recL L') : fldPut "Line" f (s.set n (recL L)) (refD n) sl = some (s.set n (recL L')) := by
  unfold fldPut
  rw [recOf_L hn]
  show some ((s.set n (recL L)).set n (⟨"Line", putS f sl (recL L).fs⟩ : Rec)) = _
  rw [h, List.set_set]
theorem dPut_S {f : Str} {d : D} {L' : Ln} (h : (⟨"", putS f (.val d) (recS L).fs⟩ : Rec) = recS L') : dPut f (s.set n (recS L)) (refD n) d = some (s.set n (recS L')) := by
  unfold dPut
  have e : ndK (s.set n (recS L)) (refD n) = true := by
    unfold ndK
    rw [recOf_S hn]
    show decide ((recS L).fs.map (·.1)).Nodup = true
    have : ((recS L).fs.map (·.1)) = (["setting", "now", "off", "asker", "dialled", "rung", "out", "in", "queue", "let"] : List Str) := rfl
    rw [this]
    decide +kernel
  rw [if_pos e]
  unfold fldPut
  rw [recOf_S hn]
  show some ((s.set n (recS L)).set n (⟨"", putS f (.val d) (recS L).fs⟩ : Rec)) = _
  rw [h, List.set_set]
theorem ownUp_L {α : Type} {f : Str} {xs ys : List D} {y : α} {L' : Ln} {h : List D → Option (α × List D)} (e1 : (recL L).fs.lookup f = some (.own xs)) (e2 : h xs = some (y, ys)) (e3 : (⟨"Line", putS f (.own ys) (recL L).fs⟩ : Rec) = recL L') :
    ownUp "Line" f (s.set n (recL L)) (refD n) h = some (y, s.set n (recL L')) := by
  unfold ownUp
  rw [recOf_L hn]
  show (match (recL L).fs.lookup f with | some (.own xs) => (h xs).map fun (q : α × List D) => (q.1, (s.set n (recL L)).set n (⟨"Line", putS f (.own q.2) (recL L).fs⟩ : Rec)) | _ => none) = _
  rw [e1]
  show (h xs).map _ = _
  rw [e2]
  show some (y, (s.set n (recL L)).set n (⟨"Line", putS f (.own ys) (recL L).fs⟩ : Rec)) = _
  rw [e3, List.set_set]

theorem rL_setting : fldD "Line" "setting" (s.set n (recL L)) (refD n) = some (L.S.d) := by unfold fldD; rw [recOf_L hn]; rfl
theorem rL_tick_now : fldD "Line" "tick_now" (s.set n (recL L)) (refD n) = some (.int L.now) := by unfold fldD; rw [recOf_L hn]; rfl
theorem rL_off : fldL "Line" "off" (s.set n (recL L)) (refD n) = some (.list (natsD L.off)) := by unfold fldL; rw [recOf_L hn]; rfl
theorem rL_asker : fldD "Line" "asker" (s.set n (recL L)) (refD n) = some (optD L.asker) := by unfold fldD; rw [recOf_L hn]; rfl
theorem rL_dialled : fldD "Line" "dialled" (s.set n (recL L)) (refD n) = some (optD L.dialled) := by unfold fldD; rw [recOf_L hn]; rfl
theorem rL_rung : fldD "Line" "rung" (s.set n (recL L)) (refD n) = some (rungD L.rung) := by unfold fldD; rw [recOf_L hn]; rfl
theorem rL_outside : fldD "Line" "outside" (s.set n (recL L)) (refD n) = some (.str L.out.s) := by unfold fldD; rw [recOf_L hn]; rfl
theorem rL_inside : fldL "Line" "inside" (s.set n (recL L)) (refD n) = some (.list (natsD L.ins)) := by unfold fldL; rw [recOf_L hn]; rfl
theorem rL_queue : fldL "Line" "queue" (s.set n (recL L)) (refD n) = some (.list (natsD L.queue)) := by unfold fldL; rw [recOf_L hn]; rfl
theorem rL_let : fldD "Line" "let" (s.set n (recL L)) (refD n) = some (.list (natsD L.lt)) := by unfold fldD; rw [recOf_L hn]; rfl
theorem rS_setting : fldD "" "setting" (s.set n (recS L)) (refD n) = some (L.S.d) := by unfold fldD; rw [recOf_S hn]; rfl
theorem rS_now : fldD "" "now" (s.set n (recS L)) (refD n) = some (.int L.now) := by unfold fldD; rw [recOf_S hn]; rfl
theorem rS_off : fldD "" "off" (s.set n (recS L)) (refD n) = some (.list (natsD L.off)) := by unfold fldD; rw [recOf_S hn]; rfl
theorem rS_asker : fldD "" "asker" (s.set n (recS L)) (refD n) = some (optD L.asker) := by unfold fldD; rw [recOf_S hn]; rfl
theorem rS_dialled : fldD "" "dialled" (s.set n (recS L)) (refD n) = some (optD L.dialled) := by unfold fldD; rw [recOf_S hn]; rfl
theorem rS_rung : fldD "" "rung" (s.set n (recS L)) (refD n) = some (rungD L.rung) := by unfold fldD; rw [recOf_S hn]; rfl
theorem rS_out : fldD "" "out" (s.set n (recS L)) (refD n) = some (.str L.out.s) := by unfold fldD; rw [recOf_S hn]; rfl
theorem rS_in : fldD "" "in" (s.set n (recS L)) (refD n) = some (.list (natsD L.ins)) := by unfold fldD; rw [recOf_S hn]; rfl
theorem rS_queue : fldD "" "queue" (s.set n (recS L)) (refD n) = some (.list (natsD L.queue)) := by unfold fldD; rw [recOf_S hn]; rfl
theorem rS_let : fldD "" "let" (s.set n (recS L)) (refD n) = some (.list (natsD L.lt)) := by unfold fldD; rw [recOf_S hn]; rfl
theorem pL_tick_now_1 {i : Int} : fldPut "Line" "tick_now" (s.set n (recL L)) (refD n) (.val (.int i)) = some (s.set n (recL { L with now := i })) := fldPut_L hn rfl
theorem pL_asker_1 : fldPut "Line" "asker" (s.set n (recL L)) (refD n) (.val (.none)) = some (s.set n (recL { L with asker := none })) := fldPut_L hn rfl
theorem pL_asker_2 {h : Nat} : fldPut "Line" "asker" (s.set n (recL L)) (refD n) (.val (.int (h : Int))) = some (s.set n (recL { L with asker := some h })) := fldPut_L hn rfl
theorem pL_asker_3 {h : Option Nat} : fldPut "Line" "asker" (s.set n (recL L)) (refD n) (.val (optD h)) = some (s.set n (recL { L with asker := h })) := fldPut_L hn rfl
theorem pL_dialled_1 : fldPut "Line" "dialled" (s.set n (recL L)) (refD n) (.val (.none)) = some (s.set n (recL { L with dialled := none })) := fldPut_L hn rfl
theorem pL_dialled_2 {h : Nat} : fldPut "Line" "dialled" (s.set n (recL L)) (refD n) (.val (.int (h : Int))) = some (s.set n (recL { L with dialled := some h })) := fldPut_L hn rfl
theorem pL_dialled_3 {h : Option Nat} : fldPut "Line" "dialled" (s.set n (recL L)) (refD n) (.val (optD h)) = some (s.set n (recL { L with dialled := h })) := fldPut_L hn rfl
theorem pL_rung_1 : fldPut "Line" "rung" (s.set n (recL L)) (refD n) (.val (.none)) = some (s.set n (recL { L with rung := none })) := fldPut_L hn rfl
theorem pL_rung_2 {h : Nat} {t : Int} : fldPut "Line" "rung" (s.set n (recL L)) (refD n) (.val (.tuple [.int (h : Int), .none, .int t])) = some (s.set n (recL { L with rung := some (h, none, t) })) := fldPut_L hn rfl
theorem pL_rung_3 {h b : Nat} {t : Int} : fldPut "Line" "rung" (s.set n (recL L)) (refD n) (.val (.tuple [.int (h : Int), .int (b : Int), .int t])) = some (s.set n (recL { L with rung := some (h, some b, t) })) := fldPut_L hn rfl
theorem pL_rung_4 {r : Option (Nat × Option Nat × Int)} : fldPut "Line" "rung" (s.set n (recL L)) (refD n) (.val (rungD r)) = some (s.set n (recL { L with rung := r })) := fldPut_L hn rfl
theorem pL_outside_1 : fldPut "Line" "outside" (s.set n (recL L)) (refD n) (.val (.str "")) = some (s.set n (recL { L with out := .no })) := fldPut_L hn rfl
theorem pL_outside_2 : fldPut "Line" "outside" (s.set n (recL L)) (refD n) (.val (.str "rings")) = some (s.set n (recL { L with out := .rings })) := fldPut_L hn rfl
theorem pL_outside_3 : fldPut "Line" "outside" (s.set n (recL L)) (refD n) (.val (.str "talks")) = some (s.set n (recL { L with out := .talks })) := fldPut_L hn rfl
theorem pL_outside_4 : fldPut "Line" "outside" (s.set n (recL L)) (refD n) (.val (.str "held")) = some (s.set n (recL { L with out := .held })) := fldPut_L hn rfl
theorem pL_outside_5 {x : Oc} : fldPut "Line" "outside" (s.set n (recL L)) (refD n) (.val (.str x.s)) = some (s.set n (recL { L with out := x })) := fldPut_L hn rfl
theorem pL_let_1 {h : Nat} : fldPut "Line" "let" (s.set n (recL L)) (refD n) (.val (.list [.int (h : Int)])) = some (s.set n (recL { L with lt := [h] })) := fldPut_L hn rfl
theorem pL_let_2 {h b : Nat} : fldPut "Line" "let" (s.set n (recL L)) (refD n) (.val (.list [.int (h : Int), .int (b : Int)])) = some (s.set n (recL { L with lt := [h, b] })) := fldPut_L hn rfl
theorem pS_now_1 {i : Int} : dPut "now" (s.set n (recS L)) (refD n) (.int i) = some (s.set n (recS { L with now := i })) := dPut_S hn rfl
theorem pS_asker_1 : dPut "asker" (s.set n (recS L)) (refD n) (.none) = some (s.set n (recS { L with asker := none })) := dPut_S hn rfl
theorem pS_asker_2 {h : Nat} : dPut "asker" (s.set n (recS L)) (refD n) (.int (h : Int)) = some (s.set n (recS { L with asker := some h })) := dPut_S hn rfl
theorem pS_asker_3 {h : Option Nat} : dPut "asker" (s.set n (recS L)) (refD n) (optD h) = some (s.set n (recS { L with asker := h })) := dPut_S hn rfl
theorem pS_dialled_1 : dPut "dialled" (s.set n (recS L)) (refD n) (.none) = some (s.set n (recS { L with dialled := none })) := dPut_S hn rfl
theorem pS_dialled_2 {h : Nat} : dPut "dialled" (s.set n (recS L)) (refD n) (.int (h : Int)) = some (s.set n (recS { L with dialled := some h })) := dPut_S hn rfl
theorem pS_dialled_3 {h : Option Nat} : dPut "dialled" (s.set n (recS L)) (refD n) (optD h) = some (s.set n (recS { L with dialled := h })) := dPut_S hn rfl
theorem pS_rung_1 : dPut "rung" (s.set n (recS L)) (refD n) (.none) = some (s.set n (recS { L with rung := none })) := dPut_S hn rfl
theorem pS_rung_2 {h : Nat} {t : Int} : dPut "rung" (s.set n (recS L)) (refD n) (.tuple [.int (h : Int), .none, .int t]) = some (s.set n (recS { L with rung := some (h, none, t) })) := dPut_S hn rfl
theorem pS_rung_3 {h b : Nat} {t : Int} : dPut "rung" (s.set n (recS L)) (refD n) (.tuple [.int (h : Int), .int (b : Int), .int t]) = some (s.set n (recS { L with rung := some (h, some b, t) })) := dPut_S hn rfl
theorem pS_rung_4 {r : Option (Nat × Option Nat × Int)} : dPut "rung" (s.set n (recS L)) (refD n) (rungD r) = some (s.set n (recS { L with rung := r })) := dPut_S hn rfl
theorem pS_out_1 : dPut "out" (s.set n (recS L)) (refD n) (.str "") = some (s.set n (recS { L with out := .no })) := dPut_S hn rfl
theorem pS_out_2 : dPut "out" (s.set n (recS L)) (refD n) (.str "rings") = some (s.set n (recS { L with out := .rings })) := dPut_S hn rfl
theorem pS_out_3 : dPut "out" (s.set n (recS L)) (refD n) (.str "talks") = some (s.set n (recS { L with out := .talks })) := dPut_S hn rfl
theorem pS_out_4 : dPut "out" (s.set n (recS L)) (refD n) (.str "held") = some (s.set n (recS { L with out := .held })) := dPut_S hn rfl
theorem pS_out_5 {x : Oc} : dPut "out" (s.set n (recS L)) (refD n) (.str x.s) = some (s.set n (recS { L with out := x })) := dPut_S hn rfl
theorem pS_let_1 {h : Nat} : dPut "let" (s.set n (recS L)) (refD n) (.list [.int (h : Int)]) = some (s.set n (recS { L with lt := [h] })) := dPut_S hn rfl
theorem pS_let_2 {h b : Nat} : dPut "let" (s.set n (recS L)) (refD n) (.list [.int (h : Int), .int (b : Int)]) = some (s.set n (recS { L with lt := [h, b] })) := dPut_S hn rfl
theorem pL_inside_1 {h : Nat} : fldPut "Line" "inside" (s.set n (recL L)) (refD n) (.own [.int (h : Int)]) = some (s.set n (recL { L with ins := [h] })) := fldPut_L hn rfl
theorem pL_inside_2 {a h : Nat} : fldPut "Line" "inside" (s.set n (recL L)) (refD n) (.own [.int (a : Int), .int (h : Int)]) = some (s.set n (recL { L with ins := [a, h] })) := fldPut_L hn rfl
theorem pS_in_1 {h : Nat} : dPut "in" (s.set n (recS L)) (refD n) (.list [.int (h : Int)]) = some (s.set n (recS { L with ins := [h] })) := dPut_S hn rfl
theorem pS_in_2 {a h : Nat} : dPut "in" (s.set n (recS L)) (refD n) (.list [.int (a : Int), .int (h : Int)]) = some (s.set n (recS { L with ins := [a, h] })) := dPut_S hn rfl
theorem pS_off_1 {xs : List Nat} : dPut "off" (s.set n (recS L)) (refD n) (.list (natsD xs)) = some (s.set n (recS { L with off := xs })) := dPut_S hn rfl
theorem pS_in_3 {xs : List Nat} : dPut "in" (s.set n (recS L)) (refD n) (.list (natsD xs)) = some (s.set n (recS { L with ins := xs })) := dPut_S hn rfl
theorem pS_queue_1 {xs : List Nat} : dPut "queue" (s.set n (recS L)) (refD n) (.list (natsD xs)) = some (s.set n (recS { L with queue := xs })) := dPut_S hn rfl
theorem pS_queue_2 {h : Nat} : dPut "queue" (s.set n (recS L)) (refD n) (.list [.int (h : Int)]) = some (s.set n (recS { L with queue := [h] })) := dPut_S hn rfl
theorem mL_moment : isRec "Line" "moment" (s.set n (recL L)) (refD n) = true := by unfold isRec; rw [recOf_L hn]; rfl
theorem mL_lifted : isRec "Line" "lifted" (s.set n (recL L)) (refD n) = true := by unfold isRec; rw [recOf_L hn]; rfl
theorem mL_talking : isRec "Line" "talking" (s.set n (recL L)) (refD n) = true := by unfold isRec; rw [recOf_L hn]; rfl
theorem mL_caller : isRec "Line" "caller" (s.set n (recL L)) (refD n) = true := by unfold isRec; rw [recOf_L hn]; rfl
theorem mL_waiting : isRec "Line" "waiting" (s.set n (recL L)) (refD n) = true := by unfold isRec; rw [recOf_L hn]; rfl
theorem mL_is_let : isRec "Line" "is_let" (s.set n (recL L)) (refD n) = true := by unfold isRec; rw [recOf_L hn]; rfl
theorem mL_is_idle : isRec "Line" "is_idle" (s.set n (recL L)) (refD n) = true := by unfold isRec; rw [recOf_L hn]; rfl
theorem mL_settle : isRec "Line" "settle" (s.set n (recL L)) (refD n) = true := by unfold isRec; rw [recOf_L hn]; rfl
theorem mL_ring_for : isRec "Line" "ring_for" (s.set n (recL L)) (refD n) = true := by unfold isRec; rw [recOf_L hn]; rfl
theorem mL_lift : isRec "Line" "lift" (s.set n (recL L)) (refD n) = true := by unfold isRec; rw [recOf_L hn]; rfl
theorem mL_answer : isRec "Line" "answer" (s.set n (recL L)) (refD n) = true := by unfold isRec; rw [recOf_L hn]; rfl
theorem mL_look_tone : isRec "Line" "look_tone" (s.set n (recL L)) (refD n) = true := by unfold isRec; rw [recOf_L hn]; rfl
theorem mL_dial : isRec "Line" "dial" (s.set n (recL L)) (refD n) = true := by unfold isRec; rw [recOf_L hn]; rfl
theorem mL_call_out : isRec "Line" "call_out" (s.set n (recL L)) (refD n) = true := by unfold isRec; rw [recOf_L hn]; rfl
theorem mL_hang : isRec "Line" "hang" (s.set n (recL L)) (refD n) = true := by unfold isRec; rw [recOf_L hn]; rfl
theorem mL_call_in : isRec "Line" "call_in" (s.set n (recL L)) (refD n) = true := by unfold isRec; rw [recOf_L hn]; rfl
theorem mL_end : isRec "Line" "end" (s.set n (recL L)) (refD n) = true := by unfold isRec; rw [recOf_L hn]; rfl
theorem mL_hold : isRec "Line" "hold" (s.set n (recL L)) (refD n) = true := by unfold isRec; rw [recOf_L hn]; rfl
theorem mL_take : isRec "Line" "take" (s.set n (recL L)) (refD n) = true := by unfold isRec; rw [recOf_L hn]; rfl
theorem mL_turn : isRec "Line" "turn" (s.set n (recL L)) (refD n) = true := by unfold isRec; rw [recOf_L hn]; rfl
theorem mL_tick : isRec "Line" "tick" (s.set n (recL L)) (refD n) = true := by unfold isRec; rw [recOf_L hn]; rfl
theorem mL_rings : isRec "Line" "rings" (s.set n (recL L)) (refD n) = true := by unfold isRec; rw [recOf_L hn]; rfl
theorem mL_heard : isRec "Line" "heard" (s.set n (recL L)) (refD n) = true := by unfold isRec; rw [recOf_L hn]; rfl
end
end M

/-! P21: what a line does. -/
namespace M
open PySem L2
/-! ### small things -/
def boolSel {α : Type} (d : D) (x y z : α) : α := match d with
  | .bool true => x
  | .bool false => y
  | _ => z
@[simp] theorem boolSel_b {α : Type} {b : Bool} {x y z : α} : boolSel (.bool b) x y z = if b = true then x else y := by cases b <;> rfl
theorem xAnd_s {f g : XE} {ρ : Env} {s : Sto} : xAnd f g ρ s = (f ρ s).bind fun d s1 => boolSel d (g ρ s1) (.ok (.bool false) s1) .bad := by
  unfold xAnd boolSel
  rfl
theorem xOr_s {f g : XE} {ρ : Env} {s : Sto} : xOr f g ρ s = (f ρ s).bind fun d s1 => boolSel d (.ok (.bool true) s1) (g ρ s1) .bad := by
  unfold xOr boolSel
  congr 1
  funext d s1
  cases d with
  | bool b => cases b <;> rfl
  | _ => rfl
@[simp] theorem xFld_e {c f : Str} {e : XE} {ρ : Env} {s : Sto} : xFld c f e ρ s = ((e ρ s).bind fun d s1 => lift (fldD c f s1 d) s1) := rfl
@[simp] theorem xFldL_e {c f : Str} {e : XE} {ρ : Env} {s : Sto} : xFldL c f e ρ s = ((e ρ s).bind fun d s1 => lift (fldL c f s1 d) s1) := rfl
@[simp] theorem xMeth_e {c mth : Str} {n : Nat} {m : Fn} {mo : XE} {g : XA} {ρ : Env} {s : Sto} : xMeth c mth n m mo g ρ s = ((mo ρ s).bind fun d s1 => if isRec c mth s1 d = true then (g ρ s1).bind fun ds s2 => if ds.length + 1 = n then m (d :: ds) s2 else .bad else .bad) := rfl
@[simp] theorem xMake_e {c : Str} {n : Nat} {m : Fn} {g : XA} {ρ : Env} {s : Sto} : xMake c n m g ρ s = ((g ρ s).bind fun ds s1 => if ds.length + 1 = n then (m (refD s1.length :: ds) (s1 ++ [⟨c, []⟩])).bind fun d s2 => noneOk d (refD s1.length) s2 else .bad) := rfl
@[simp] theorem noneOk_e {r : D} {s : Sto} : noneOk .none r s = .ok r s := rfl
@[simp] theorem sFld_e {c fl : Str} {mo mv : XE} {ρ : Env} {s : Sto} : sFld c fl mo mv ρ s = stX mv (fun v => stX mo fun d ρ s => nextS ρ (fldPut c fl s d (.val v))) ρ s := rfl
@[simp] theorem sFldN_e {c fl : Str} {mo mv : XE} {ρ : Env} {s : Sto} : sFldN c fl mo mv ρ s = stX mv (fun v => stX mo fun d ρ s => nextS ρ ((lstSl v).bind fun sl => fldPut c fl s d sl)) ρ s := rfl
@[simp] theorem lstSl_e {xs : List D} : lstSl (.list xs) = some (.own xs) := rfl
@[simp] theorem nextS_e {ρ : Env} {s : Sto} : nextS ρ (some s) = .next ρ s := rfl
@[simp] theorem sPut_e {fl : Str} {mo mv : XE} {ρ : Env} {s : Sto} : sPut fl mo mv ρ s = stX mv (fun v => stX mo fun d ρ s => nextS ρ (dPut fl s d v)) ρ s := rfl
@[simp] theorem sAugD_e {fl : Str} {mo mv : XE} {ρ : Env} {s : Sto} : sAugD fl mo mv ρ s = stX mo (fun d ρ s => match fldD "" fl s d with
  | some (.int i) => stX mv (augI (fun s y => dPut fl s d y) i) ρ s
  | _ => .bad) ρ s := rfl
@[simp] theorem sAugF_e {c fl : Str} {mo mv : XE} {ρ : Env} {s : Sto} : sAugF c fl mo mv ρ s = stX mo (fun d ρ s => match fldD c fl s d with
  | some (.int i) => stX mv (augI (fun s y => fldPut c fl s d (.val y)) i) ρ s
  | _ => .bad) ρ s := rfl
@[simp] theorem augI_e {put : Sto → D → Option Sto} {i j : Int} {ρ : Env} {s : Sto} : augI put i (.int j) ρ s = nextS ρ (put s (.int (i + j))) := rfl
@[simp] theorem sToH_e {t : XH} {f : XE} {ρ : Env} {s : Sto} : sToH t f ρ s = stX f (fun d ρ s => nextP (t d ρ s)) ρ s := rfl
@[simp] theorem nextP_e {p : Env × Sto} : nextP (some p) = .next p.1 p.2 := rfl
@[simp] theorem hN_e {i : Nat} {d : D} {ρ : Env} {s : Sto} : hN i d ρ s = some (ρ.set i (.val d), s) := rfl
@[simp] theorem hSub_e {fl : Str} {i : Nat} {d : D} {ρ : Env} {s : Sto} : hSub fl i d ρ s = (valAt ρ i).bind fun o => (dPut fl s o d).map fun s' => (ρ, s') := rfl
@[simp] theorem hsN_e {ρ : Env} {s : Sto} : hsN [] ρ s = some (ρ, s) := rfl
@[simp] theorem hsC_e {t : XH} {u : XHs} {d : D} {ds : List D} {ρ : Env} {s : Sto} : hsC t u (d :: ds) ρ s = (t d ρ s).bind fun p => u ds p.1 p.2 := rfl
@[simp] theorem hT_e {n : Nat} {u : XHs} {ds : List D} {ρ : Env} {s : Sto} : hT n u (.tuple ds) ρ s = if ds.length = n then u ds ρ s else none := rfl
@[simp] theorem valAt_e {ρ : Env} {i : Nat} : valAt ρ i = (match ρ[i]? with | some (.val d) => some d | _ => none) := rfl
@[simp] theorem sFApp_e {c fl : Str} {i j : Nat} {ρ : Env} {s : Sto} : sFApp c fl i j ρ s = nextU ρ ((valAt ρ i).bind fun d => (valAt ρ j).bind fun x => ownUp c fl s d (app1 x)) := rfl
@[simp] theorem sFRem_e {c fl : Str} {i j : Nat} {ρ : Env} {s : Sto} : sFRem c fl i j ρ s = nextU ρ ((valAt ρ i).bind fun d => (valAt ρ j).bind fun x => match x with
  | .int k => ownUp c fl s d (remI k)
  | _ => none) := rfl
@[simp] theorem nextU_e {ρ : Env} {p : Unit × Sto} : nextU ρ (some p) = .next ρ p.2 := rfl
@[simp] theorem xFPop_e {c fl : Str} {i : Nat} {h : List D → Option (D × List D)} {ρ : Env} {s : Sto} : xFPop c fl i h ρ s = okP ((valAt ρ i).bind fun d => ownUp c fl s d h) := rfl
@[simp] theorem okP_e {p : D × Sto} : okP (some p) = .ok p.1 p.2 := rfl
@[simp] theorem sPar_e {i j : Nat} {g : XA} {ρ : Env} {s : Sto} : sPar i j g ρ s = stX g (fun ds ρ s => match ds with
  | [d1, d2] => .next ((ρ.set i (.val d1)).set j (.val d2)) s
  | _ => .bad) ρ s := rfl
/-! ### data -/
@[simp] theorem isNb_opt {h : Option Nat} : isNb (optD h) = h.isNone := by cases h <;> rfl
@[simp] theorem isNb_rung {r : Option (Nat × Option Nat × Int)} : isNb (rungD r) = r.isNone := by cases r <;> rfl
@[simp] theorem isNb_i {i : Int} : isNb (.int i) = false := rfl
@[simp] theorem isNb_n : isNb .none = true := rfl
@[simp] theorem isNb_t {ds : List D} : isNb (.tuple ds) = false := rfl
@[simp] theorem isNb_s {x : Str} : isNb (.str x) = false := rfl
@[simp] theorem isNb_l {ds : List D} : isNb (.list ds) = false := rfl
@[simp] theorem isND_e {d : D} : isND d = .bool (isNb d) := rfl
@[simp] theorem notND_e {d : D} : notND d = .bool (!isNb d) := rfl
@[simp] theorem natsD_nil : natsD [] = [] := rfl
@[simp] theorem natsD_cons {x : Nat} {r : List Nat} : natsD (x :: r) = .int (x : Int) :: natsD r := rfl
@[simp] theorem natsD_app {a b : List Nat} : natsD (a ++ b) = natsD a ++ natsD b := List.map_append
@[simp] theorem natsD_len {a : List Nat} : (natsD a).length = a.length := List.length_map _
@[simp] theorem natsD_emp {a : List Nat} : (natsD a).isEmpty = a.isEmpty := by cases a <;> rfl
theorem okS (o : Oc) : PyData.strOk o.s = true := by cases o <;> decide +kernel
theorem oc_inj {a b : Oc} (h : a.s = b.s) : a = b := by
  cases a <;> cases b <;> first | rfl | (exfalso; revert h; decide +kernel)
theorem eq_oc (a b : Oc) : eqD (.str a.s) (.str b.s) = some (.bool (decide (a = b))) := by
  rw [eqD_s (okS a) (okS b)]
  congr 2
  rw [decide_eq_decide]
  exact ⟨oc_inj, fun e => by rw [e]⟩
theorem ne_oc (a b : Oc) : neD (.str a.s) (.str b.s) = some (.bool (!decide (a = b))) := by
  rw [neD_s (okS a) (okS b)]
  congr 3
  rw [decide_eq_decide]
  exact ⟨oc_inj, fun e => by rw [e]⟩
@[simp] theorem eq_oc_no (a : Oc) : eqD (.str a.s) (.str "") = some (.bool (decide (a = .no))) := eq_oc a .no
@[simp] theorem eq_oc_rings (a : Oc) : eqD (.str a.s) (.str "rings") = some (.bool (decide (a = .rings))) := eq_oc a .rings
@[simp] theorem eq_oc_talks (a : Oc) : eqD (.str a.s) (.str "talks") = some (.bool (decide (a = .talks))) := eq_oc a .talks
@[simp] theorem ne_oc_no (a : Oc) : neD (.str a.s) (.str "") = some (.bool (!decide (a = .no))) := ne_oc a .no
@[simp] theorem ne_oc_talks (a : Oc) : neD (.str a.s) (.str "talks") = some (.bool (!decide (a = .talks))) := ne_oc a .talks
@[simp] theorem ne_oc_held (a : Oc) : neD (.str a.s) (.str "held") = some (.bool (!decide (a = .held))) := ne_oc a .held
theorem eqv_opt (a : Option Nat) (h : Int) : PyData.eqv (optD a) (.int h) = decide (a.map (fun x : Nat => (x : Int)) = some h) := by
  cases a with
  | none => simp [optD, PyData.eqv]
  | some x => simp [optD, PyData.eqv]; rfl
theorem shaped_int (i : Int) : SeqAt.shaped (.int i) = true := (HasTy.int i).shaped (by decide)
theorem shaped_opt (a : Option Nat) : SeqAt.shaped (optD a) = true := by
  cases a with
  | none => exact HasTy.non.shaped (by decide)
  | some x => exact shaped_int _
/-! ### numbers -/
@[simp] theorem eq_opt (a : Option Nat) (h : Nat) : eqD (optD a) (.int (h : Int)) = some (.bool (decide (a = some h))) := by
  unfold eqD
  rw [shaped_opt, shaped_int, eqv_opt]
  have : decide (a.map (fun x : Nat => (x : Int)) = some (h : Int)) = decide (a = some h) := by
    rw [decide_eq_decide]
    cases a with
    | none => simp
    | some x => simp; omega
  rw [this]; rfl
@[simp] theorem ne_opt (a : Option Nat) (h : Nat) : neD (optD a) (.int (h : Int)) = some (.bool (!decide (a = some h))) := by
  have := eq_opt a h
  unfold eqD at this
  unfold neD
  rw [shaped_opt, shaped_int] at this ⊢
  simp only [Bool.and_self, if_true, Option.some.injEq, PyData.bool.injEq] at this ⊢
  rw [this]
theorem eqv_opt' (a : Option Nat) (h : Int) : PyData.eqv (.int h) (optD a) = decide (a.map (fun x : Nat => (x : Int)) = some h) := by
  cases a with
  | none => simp [optD, PyData.eqv]
  | some x => simp [optD, PyData.eqv]; rw [Bool.eq_iff_iff]; simp; exact ⟨fun e => e.symm, fun e => e.symm⟩
@[simp] theorem eq_opt' (a : Option Nat) (h : Nat) : eqD (.int (h : Int)) (optD a) = some (.bool (decide (a = some h))) := by
  unfold eqD
  rw [shaped_opt, shaped_int, eqv_opt']
  have : decide (a.map (fun x : Nat => (x : Int)) = some (h : Int)) = decide (a = some h) := by
    rw [decide_eq_decide]
    cases a with
    | none => simp
    | some x => simp; omega
  rw [this]; rfl
theorem hasL_nats (xs : List Nat) : HasL .int (natsD xs) := HasL.map (fun b : Nat => .int (b : Int)) xs
theorem mem_nats {h : Nat} {xs : List Nat} : (PyData.int (h : Int) ∈ natsD xs) ↔ h ∈ xs := by
  unfold natsD
  rw [List.mem_map]
  constructor
  · rintro ⟨a, ha, e⟩
    injection e with e
    have : a = h := by omega
    rw [← this]; exact ha
  · exact fun e => ⟨h, e, rfl⟩
@[simp] theorem in_nats (h : Nat) (xs : List Nat) : inD (.int (h : Int)) (.list (natsD xs)) = some (.bool (decide (h ∈ xs))) := by
  rw [inD_l (.int _) (hasL_nats xs) (by decide)]
  congr 2
  rw [decide_eq_decide]; exact mem_nats
@[simp] theorem ni_nats (h : Nat) (xs : List Nat) : niD (.int (h : Int)) (.list (natsD xs)) = some (.bool (!decide (h ∈ xs))) := by
  rw [niD_l (.int _) (hasL_nats xs) (by decide)]
  congr 3
  rw [decide_eq_decide]; exact mem_nats
@[simp] theorem eq_nats_nil (xs : List Nat) : eqD (.list (natsD xs)) (.list []) = some (.bool xs.isEmpty) :=
  eqD_ty (ty_nats xs) (.list .nil) (by decide) (by cases xs <;> simp [natsD])
@[simp] theorem ne_nats_nil (xs : List Nat) : neD (.list (natsD xs)) (.list []) = some (.bool (!xs.isEmpty)) :=
  neD_ty (ty_nats xs) (.list .nil) (by decide) (by cases xs <;> simp [natsD])
theorem ints_nats (xs : List Nat) : intsOf (natsD xs) = some (xs.map fun n : Nat => (n : Int)) := by
  have : natsD xs = (xs.map fun n : Nat => (n : Int)).map .int := by unfold natsD; rw [List.map_map]; rfl
  rw [this, intsOf_map]
def minN : List Nat → Nat
  | [] => 0
  | n :: r => r.foldl min n
theorem minL_nats : ∀ xs : List Nat, minL (xs.map fun n : Nat => (n : Int)) = (minN xs : Int) := by
  intro xs
  cases xs with
  | nil => rfl
  | cons n r =>
    show (r.map fun n : Nat => (n : Int)).foldl min (n : Int) = ((r.foldl min n : Nat) : Int)
    induction r generalizing n with
    | nil => rfl
    | cons m r ih =>
      rw [List.map_cons, List.foldl_cons, List.foldl_cons, ← ih]
      congr 1
      omega
theorem min_nats {xs : List Nat} (h : xs ≠ []) : minD (.list (natsD xs)) = some (.int (minN xs : Int)) := by
  show ((intsOf (natsD xs)).bind fun ns => if 0 < ns.length then some (PyData.int (minL ns)) else none) = _
  rw [ints_nats]
  show (if 0 < (xs.map fun n : Nat => (n : Int)).length then some (PyData.int (minL (xs.map fun n : Nat => (n : Int)))) else none) = _
  rw [if_pos (by rw [List.length_map]; exact List.length_pos_iff.mpr h), minL_nats]
theorem minN_mem : ∀ {xs : List Nat}, xs ≠ [] → minN xs ∈ xs := by
  intro xs h
  cases xs with
  | nil => exact absurd rfl h
  | cons n r =>
    show r.foldl min n ∈ n :: r
    clear h
    induction r generalizing n with
    | nil => simp
    | cons m r ih =>
      rw [List.foldl_cons]
      have := ih (min n m)
      rcases List.mem_cons.mp this with e | e
      · rw [e]
        rcases Nat.le_total n m with q | q
        · rw [Nat.min_eq_left q]; simp
        · rw [Nat.min_eq_right q]; simp
      · simp [e]
def sortN (xs : List Nat) : List Nat := xs.mergeSort fun a b => decide (a ≤ b)
theorem sort_nats (xs : List Nat) : sortedD (.list (natsD xs)) = some (.list (natsD (sortN xs))) := by
  show (match intsOf (natsD xs) with | some ns => some (PyData.list (List.map PyData.int (ns.mergeSort leI))) | none => Option.map (fun (ps : List (Int × Int)) => PyData.list (List.map pairD (ps.mergeSort leP))) (pairsOf (natsD xs))) = _
  rw [ints_nats]
  show some (PyData.list (((xs.map fun n : Nat => (n : Int)).mergeSort leI).map .int)) = _
  have e : ((xs.map fun n : Nat => (n : Int)).mergeSort leI) = (sortN xs).map fun n : Nat => (n : Int) := by
    unfold sortN
    refine List.Perm.eq_of_pairwise (le := fun a b : Int => a ≤ b) (fun a b _ _ h1 h2 => Int.le_antisymm h1 h2) ?_ ?_ ?_
    · have := List.pairwise_mergeSort (le := leI) (fun a b c h1 h2 => by simp only [leI, decide_eq_true_eq] at *; omega) (fun a b => by simp only [leI, Bool.or_eq_true, decide_eq_true_eq]; omega) (xs.map fun n : Nat => (n : Int))
      exact this.imp fun h => of_decide_eq_true h
    · rw [List.pairwise_map]
      have := List.pairwise_mergeSort (le := fun a b : Nat => decide (a ≤ b)) (fun a b c h1 h2 => by simp only [decide_eq_true_eq] at *; omega) (fun a b => by simp only [Bool.or_eq_true, decide_eq_true_eq]; omega) xs
      exact this.imp fun h => by have := of_decide_eq_true h; omega
    · exact (List.mergeSort_perm _ _).trans ((List.mergeSort_perm xs _).map _).symm
  rw [e, List.map_map]
  rfl
theorem sortN_perm (xs : List Nat) : (sortN xs).Perm xs := List.mergeSort_perm _ _
theorem sortN_srt (xs : List Nat) : (sortN xs).Pairwise (· ≤ ·) := by
  have := List.pairwise_mergeSort (le := fun a b : Nat => decide (a ≤ b)) (fun a b c h1 h2 => by simp only [decide_eq_true_eq] at *; omega) (fun a b => by simp only [Bool.or_eq_true, decide_eq_true_eq]; omega) xs
  exact this.imp fun h => of_decide_eq_true h
@[simp] theorem sortN_len (xs : List Nat) : (sortN xs).length = xs.length := (sortN_perm xs).length_eq
theorem sortN_mem {x : Nat} {xs : List Nat} : x ∈ sortN xs ↔ x ∈ xs := (sortN_perm xs).mem_iff
@[simp] theorem lst_nats {xs : List Nat} : lstD (.list (natsD xs)) = some (.list (natsD xs)) := rfl
theorem ne_i (i j : Nat) : neD (.int (i : Int)) (.int (j : Int)) = some (.bool (!decide (i = j))) := by
  rw [neD_i]
  congr 3
  rw [decide_eq_decide]; omega

/-! ### what a line does -/
namespace Ln
def idle (L : Ln) : Bool := L.rung.isNone && (decide (L.out = .no) && (L.ins.isEmpty && L.asker.isNone))
def ringFor (L : Ln) (h : Nat) : Ln := { L with rung := some (h, none, L.now), out := .rings, lt := [h] }
def settle (L : Ln) : Ln := if L.idle = true then (if L.off.isEmpty = true then (match L.queue with
  | [] => L
  | q :: r => ({ L with queue := r }).ringFor q) else { L with asker := some (minN L.off), lt := [minN L.off] }) else L
def isLet (L : Ln) (h : Nat) : Bool := !L.S.priv || decide (h ∈ L.lt)
def answer (L : Ln) (h : Nat) : Ln := match L.rung with
  | none => L
  | some (c, b, _) => if b = some h then { L with rung := none } else if h = c ∨ L.S.priv = false then { L with rung := none, ins := [h], out := if L.out = .rings then .talks else L.out } else L
end Ln
section
variable {s : Sto} {n : Nat} {L : Ln} (hn : n < s.length)
include hn
theorem m_Line_is_idle_e : m_Line_is_idle [refD n] (s.set n (recL L)) = .ok (.bool L.idle) (s.set n (recL L)) := by
  unfold Ln.idle
  cases h1 : L.rung <;> cases h2 : L.out <;> cases h3 : L.ins <;> cases h4 : L.asker <;>
    simp [m_Line_is_idle, b_Line_is_idle, hn, rL_rung, rL_outside, rL_inside, rL_asker, h1, h2, h3, h4, rungD, optD, isNb, -eq_oc_no, eq_oc_no]
theorem m_Line_ring_for_e {h : Nat} : m_Line_ring_for [refD n, .int (h : Int)] (s.set n (recL L)) = .ok .none (s.set n (recL (L.ringFor h))) := by
  simp [m_Line_ring_for, b_Line_ring_for, hn, le_size, rL_tick_now, pL_rung_2, pL_outside_2, pL_let_1, Ln.ringFor]
theorem m_Line_settle_e : m_Line_settle [refD n] (s.set n (recL L)) = .ok .none (s.set n (recL L.settle)) := by
  unfold Ln.settle
  have hi := m_Line_is_idle_e (s := s) (n := n) (L := L) hn
  by_cases h1 : L.idle = true
  · rw [if_pos h1]
    by_cases h2 : L.off = []
    · cases h3 : L.queue with
      | nil => simp [m_Line_settle, b_Line_settle, hn, hi, h1, rL_off, rL_queue, h2, h3, mL_is_idle]
      | cons q r =>
        have e1 : ownUp "Line" "queue" (s.set n (recL L)) (refD n) popF = some (.int (q : Int), s.set n (recL { L with queue := r })) :=
          ownUp_L hn (xs := natsD L.queue) (ys := natsD r) rfl (by rw [h3]; rfl) rfl
        have e2 := m_Line_ring_for_e (s := s) (n := n) (L := { L with queue := r }) hn (h := q)
        simp [m_Line_settle, b_Line_settle, hn, hi, h1, rL_off, rL_queue, h2, h3, mL_is_idle, mL_ring_for, e1, m_Line_ring_for_e hn, Ln.ringFor]
    · have h2' : L.off.isEmpty = false := by cases h : L.off <;> simp_all
      rw [h2']
      simp [m_Line_settle, b_Line_settle, hn, hi, h1, rL_off, h2, min_nats h2, mL_is_idle, pL_asker_2, rL_asker, optD, pL_let_1, le_size]
  · rw [if_neg h1]
    simp [m_Line_settle, b_Line_settle, hn, hi, h1, mL_is_idle]
theorem m_Line_is_let_e {h : Nat} : m_Line_is_let [refD n, .int (h : Int)] (s.set n (recL L)) = .ok (.bool (L.isLet h)) (s.set n (recL L)) := by
  unfold Ln.isLet
  cases h1 : L.S.priv <;> simp [m_Line_is_let, b_Line_is_let, hn, rL_setting, rL_let, Stg.d, h1]
theorem m_Line_answer_e {h : Nat} (hr : L.rung ≠ none) : m_Line_answer [refD n, .int (h : Int)] (s.set n (recL L)) = .ok .none (s.set n (recL (L.answer h))) := by
  unfold Ln.answer
  cases h1 : L.rung with
  | none => exact absurd h1 hr
  | some q =>
    obtain ⟨c, b, t⟩ := q
    by_cases h2 : b = some h
    · simp [m_Line_answer, b_Line_answer, hn, rL_rung, h1, rungD, h2, pL_rung_1]
    · by_cases h3 : h = c
      · subst h3
        cases h4 : L.out <;> simp [m_Line_answer, b_Line_answer, hn, rL_rung, h1, rungD, h2, pL_rung_1, le_size, pL_inside_1, rL_outside, h4, pL_outside_3]
      · have h3' : ¬ ((h : Int) = (c : Int)) := by omega
        cases h5 : L.S.priv with
        | true => simp [m_Line_answer, b_Line_answer, hn, rL_rung, h1, rungD, h2, h3, h3', rL_setting, Stg.d, h5]
        | false => cases h4 : L.out <;> simp [m_Line_answer, b_Line_answer, hn, rL_rung, h1, rungD, h2, h3, h3', rL_setting, Stg.d, h5, pL_rung_1, le_size, pL_inside_1, rL_outside, h4, pL_outside_3]
end
end M

/-! P22: what a line does, by houses that are handed in. -/
namespace M
open PySem L2
/-! ### what is handed in as a house -/
inductive Ag where
  | i (k : Int) | non | bl (b : Bool) | st (x : Str)
def Ag.d : Ag → D
  | .i k => .int k
  | .non => .none
  | .bl b => .bool b
  | .st x => .str x
def Ag.hs (a : Ag) (n : Nat) : Option Nat := match a with
  | .i k => if 0 ≤ k ∧ k < n then some k.toNat else none
  | _ => none
theorem Ag.hs_to {a : Ag} {n h : Nat} (e : a.hs n = some h) : a = .i (h : Int) ∧ h < n := by
  cases a with
  | i k =>
    simp only [Ag.hs] at e
    split at e
    · rename_i c
      cases e
      exact ⟨by congr 1; omega, by omega⟩
    · cases e
  | _ => cases e
@[simp] theorem Ag.d_i {k : Int} : (Ag.i k).d = .int k := rfl
theorem within_ag {a : Ag} {n : Nat} {s : Sto} : m_is_within [a.d, .int 0, .int ((n : Int) - 1)] s = .ok (.bool (a.hs n).isSome) s := by
  cases a with
  | i k =>
    show m_is_within [.int k, .int 0, .int ((n : Int) - 1)] s = _
    rw [m_is_within_e]
    congr 2
    unfold Ag.hs
    by_cases h1 : 0 ≤ k
    · by_cases h2 : k < n
      · have h3 : k ≤ (n : Int) - 1 := by omega
        simp [h1, h2, h3]
      · have h3 : ¬ k ≤ (n : Int) - 1 := by omega
        simp [h1, h2, h3]
    · simp [h1]
  | non => simp [Ag.d, Ag.hs, m_is_within, b_is_within]
  | bl b => simp [Ag.d, Ag.hs, m_is_within, b_is_within]
  | st x => simp [Ag.d, Ag.hs, m_is_within, b_is_within]
theorem law_in_ag {a : Ag} {n : Nat} {s : Sto} : m__law_in [a.d, .int 0, .int ((n : Int) - 1)] s = .ok (.bool (a.hs n).isSome) s := within_ag
theorem m_look_house_ag {S : Stg} {a : Ag} {s : Sto} : m_look_house [S.d, a.d] s = if (a.hs S.codes.length).isSome = true then .ok .none s else .exc "NoHouse" s := by
  have h := within_ag (a := a) (n := S.codes.length) (s := s)
  cases e : (a.hs S.codes.length).isSome with
  | true => rw [e] at h; simp [m_look_house, b_look_house, h]
  | false => rw [e] at h; simp [m_look_house, b_look_house, h]
theorem m_look_house_ok {S : Stg} {h : Nat} {s : Sto} (hh : h < S.codes.length) : m_look_house [S.d, .int (h : Int)] s = .ok .none s := m_look_house_e hh
/-! ### ringing -/
def codeAt (S : Stg) (h : Nat) : Str := S.codes.getD h Str.empty
theorem codeAt_get {S : Stg} {h : Nat} (hh : h < S.codes.length) : ixD (codesD S.codes) (.int (h : Int)) = some (.str (codeAt S h)) := by
  rw [ix_code hh]
  unfold codeAt
  simp [List.getD_eq_getElem?_getD, hh]
theorem codeAt_30 {S : Stg} (hS : S.Ok) {h : Nat} (hh : h < S.codes.length) : codeAt S h ∈ codes30 := by
  refine hS.c30 _ ?_
  unfold codeAt
  simp [List.getD_eq_getElem?_getD, hh]
namespace Ln
def row (L : Ln) (c : Nat) (b : Option Nat) : List Bool := beatsOf (codeAt L.S c) ++ (match b with
  | none => []
  | some b => beatsOf (codeAt L.S b))
def rings (L : Ln) : Bool := match L.rung with
  | none => false
  | some (c, b, t) => (L.row c b).getD ((L.now - t) % ((L.row c b).length : Int)).toNat false
/-- houses of its setting -/
def RungOk (L : Ln) : Prop := ∀ c b t, L.rung = some (c, b, t) → c < L.S.codes.length ∧ ∀ x, b = some x → x < L.S.codes.length
def heardD (L : Ln) (h : Nat) : D := if h ∈ L.off then (if L.asker = some h then (if L.dialled.isNone = true then .tuple [.str "tone"] else .tuple [.str "busy"]) else if h ∈ L.ins then .tuple [.str "talk", .tuple (natsD ((sortN L.ins).filter fun x => !decide (x = h))), .bool (decide (L.out = .talks))] else .tuple [.str "shut"])
  else if L.rings = true then .tuple [.str "ring"] else .tuple []
end Ln
theorem row_at {bs : List Bool} (h : 0 < bs.length) (hl : bs.length < 1000000) (k : Int) : ixD (.list (boolsD bs)) (.int (k % (bs.length : Int))) = some (.bool (bs.getD (k % (bs.length : Int)).toNat false)) := by
  have h0 := Int.emod_nonneg k (by omega : (bs.length : Int) ≠ 0)
  have h1 := Int.emod_lt_of_pos k (by omega : (0 : Int) < (bs.length : Int))
  generalize hz : k % (bs.length : Int) = z at h0 h1
  obtain ⟨m, rfl⟩ : ∃ m : Nat, z = (m : Int) := ⟨z.toNat, by omega⟩
  have hm : m < bs.length := by omega
  rw [ixD_l, atI_nat (by rw [boolsD_len]; exact hm)]
  simp [boolsD, List.getD_eq_getElem?_getD, hm]
section
variable {s : Sto} {n : Nat} {L : Ln} (hn : n < s.length)
include hn
theorem m_Line_rings_e (hS : L.S.Ok) (hr : L.RungOk) : m_Line_rings [refD n] (s.set n (recL L)) = .ok (.bool L.rings) (s.set n (recL L)) := by
  unfold Ln.rings
  cases h1 : L.rung with
  | none => simp [m_Line_rings, b_Line_rings, hn, rL_rung, h1, rungD, isNb]
  | some q =>
    obtain ⟨c, b, t⟩ := q
    obtain ⟨hc, hb⟩ := hr c b t h1
    have c30 := codeAt_30 hS hc
    have lc := beats_lt c30
    have pc := beats_pos (codeAt L.S c)
    cases b with
    | none =>
      have hl := row_at pc (by omega) (L.now - t)
      have hp : (0 : Int) < ((beatsOf (codeAt L.S c)).length : Int) := by omega
      simp [m_Line_rings, b_Line_rings, hn, rL_rung, h1, rungD, isNb, rL_setting, codeAt_get hc, m_beats_e c30, optD, rL_tick_now, pc, hl, Ln.row, -ixD_l, -List.getD_eq_getElem?_getD]
    | some b =>
      have hb := hb b rfl
      have b30 := codeAt_30 hS hb
      have lb := beats_lt b30
      have hl := row_at (bs := beatsOf (codeAt L.S c) ++ beatsOf (codeAt L.S b)) (by rw [List.length_append]; omega) (by rw [List.length_append]; omega) (L.now - t)
      have hp : (0 : Int) < ((beatsOf (codeAt L.S c)).length : Int) + ((beatsOf (codeAt L.S b)).length : Int) := by omega
      have hz : (beatsOf (codeAt L.S c)).length + (beatsOf (codeAt L.S b)).length ≤ sizeLine := le_size (by omega)
      rw [boolsD_app, List.length_append, Int.natCast_add] at hl
      simp [m_Line_rings, b_Line_rings, hn, rL_rung, h1, rungD, isNb, rL_setting, codeAt_get hc, codeAt_get hb, m_beats_e c30, m_beats_e b30, optD, rL_tick_now, hp, hl, Ln.row, hz, -ixD_l, -List.getD_eq_getElem?_getD]
theorem m_Line_talking_e : m_Line_talking [refD n] (s.set n (recL L)) = .ok (.list (natsD (sortN L.ins))) (s.set n (recL L)) := by
  simp [m_Line_talking, b_Line_talking, hn, rL_inside, sort_nats]
theorem m_Line_lifted_e : m_Line_lifted [refD n] (s.set n (recL L)) = .ok (.list (natsD (sortN L.off))) (s.set n (recL L)) := by
  simp [m_Line_lifted, b_Line_lifted, hn, rL_off, sort_nats]
theorem m_Line_caller_e : m_Line_caller [refD n] (s.set n (recL L)) = .ok (.str L.out.s) (s.set n (recL L)) := by
  simp [m_Line_caller, b_Line_caller, hn, rL_outside]
theorem m_Line_waiting_e : m_Line_waiting [refD n] (s.set n (recL L)) = .ok (.list (natsD L.queue)) (s.set n (recL L)) := by
  simp [m_Line_waiting, b_Line_waiting, hn, rL_queue]
theorem m_Line_moment_e : m_Line_moment [refD n] (s.set n (recL L)) = .ok (.int L.now) (s.set n (recL L)) := by
  simp [m_Line_moment, b_Line_moment, hn, rL_tick_now]
omit hn in
theorem others_comp {xs : List Nat} {h : Nat} {v0 z : Slot} (hx : xs.length ≤ 100) : compL (gN 2) (xB (x2 neD (xV 2) (xV 1))) (xV 2) [2] (natsD xs) [] [v0, .val (.int (h : Int)), z] s = .ok (natsD (xs.filter fun x => !decide (x = h))) s := by
  have := compL_map (t := gN 2) (c := xB (x2 neD (xV 2) (xV 1))) (e := xV 2) (vs := [2]) (ρ := [v0, .val (.int (h : Int)), z]) (s := s) (fun x : Nat => PyData.int (x : Int)) (fun x => !decide (x = h)) (fun x : Nat => PyData.int (x : Int)) xs [] (fun x _ => ⟨_, rfl, by simp [wipeD, ne_i, -neD_i], fun _ => by simp [wipeD]⟩) (le_size (by simp; omega))
  exact this
theorem m_Line_heard_e (hS : L.S.Ok) (hr : L.RungOk) (hi : L.ins.length ≤ 100) {h : Nat} (hh : h < L.S.codes.length) : m_Line_heard [refD n, .int (h : Int)] (s.set n (recL L)) = .ok (L.heardD h) (s.set n (recL L)) := by
  unfold Ln.heardD
  have l := fun s => m_look_house_ok (S := L.S) (s := s) hh
  by_cases h1 : h ∈ L.off
  · rw [if_pos h1]
    by_cases h2 : L.asker = some h
    · rw [if_pos h2]
      cases h3 : L.dialled <;> simp [m_Line_heard, b_Line_heard, hn, rL_setting, l, rL_off, h1, rL_asker, h2, rL_dialled, h3, le_size]
    · rw [if_neg h2]
      by_cases h4 : h ∈ L.ins
      · rw [if_pos h4]
        have hc := fun s v0 z => others_comp (s := s) (xs := sortN L.ins) (h := h) (v0 := v0) (z := z) (by rw [sortN_len]; exact hi)
        simp [m_Line_heard, b_Line_heard, hn, rL_setting, l, rL_off, h1, rL_asker, h2, rL_inside, h4, le_size, mL_talking, m_Line_talking_e hn, hc, rL_outside]
      · rw [if_neg h4]
        simp [m_Line_heard, b_Line_heard, hn, rL_setting, l, rL_off, h1, rL_asker, h2, rL_inside, h4, le_size]
  · rw [if_neg h1]
    have r := m_Line_rings_e (s := s) (n := n) (L := L) hn hS hr
    cases h5 : L.rings <;> rw [h5] at r <;> simp [m_Line_heard, b_Line_heard, hn, rL_setting, l, rL_off, h1, le_size, mL_rings, r]
end
end M

/-! P23: deeds on a line, and what holds of it. -/
namespace M
open PySem L2
theorem nodup_len : ∀ (l D : List Nat), l.Nodup → (∀ x ∈ l, x ∈ D) → l.length ≤ D.length
  | [], D, _, _ => Nat.zero_le _
  | x :: r, D, hn, h => by
    obtain ⟨h1, h2⟩ := List.nodup_cons.mp hn
    have hx := h x List.mem_cons_self
    have ih := nodup_len r (D.erase x) h2 fun y hy => by
      refine (List.mem_erase_of_ne (fun z => h1 (by rw [← z]; exact hy))).mpr (h y (List.mem_cons_of_mem _ hy))
    have := List.length_erase_of_mem hx
    have := List.length_pos_of_mem hx
    rw [List.length_cons]; omega
theorem nodup_lt {l : List Nat} {n : Nat} (hn : l.Nodup) (h : ∀ x ∈ l, x < n) : l.length ≤ n := by
  have := nodup_len l (List.range n) hn fun x hx => List.mem_range.mpr (h x hx)
  rwa [List.length_range] at this
def without (xs : List Nat) (h : Nat) : List Nat := xs.filter fun x => !decide (x = h)
theorem mem_without {xs : List Nat} {h x : Nat} : x ∈ without xs h ↔ x ∈ xs ∧ x ≠ h := by
  unfold without
  rw [List.mem_filter]
  simp
theorem without_nodup {xs : List Nat} {h : Nat} (hn : xs.Nodup) : (without xs h).Nodup := hn.filter _
theorem erase_without : ∀ {xs : List Nat} {h : Nat}, xs.Nodup → h ∈ xs → ∃ j, xs.findIdx? (· == h) = some j ∧ xs.eraseIdx j = without xs h
  | [], h, _, hm => by simp at hm
  | x :: r, h, hn, hm => by
    obtain ⟨h1, h2⟩ := List.nodup_cons.mp hn
    by_cases hx : x = h
    · subst hx
      refine ⟨0, by simp [List.findIdx?_cons], ?_⟩
      show r = without (x :: r) x
      unfold without
      rw [List.filter_cons]
      simp
      rw [List.filter_eq_self.mpr]
      intro y hy
      simp
      exact fun z => h1 (by rw [← z]; exact hy)
    · obtain ⟨j, e1, e2⟩ := erase_without (xs := r) (h := h) h2 ((List.mem_cons.mp hm).resolve_left (Ne.symm hx))
      refine ⟨j + 1, ?_, ?_⟩
      · rw [List.findIdx?_cons]
        have : (x == h) = false := by simpa using hx
        rw [this, e1]; rfl
      · show x :: r.eraseIdx j = without (x :: r) h
        rw [e2]
        unfold without
        rw [List.filter_cons]
        simp [hx]
theorem map_er {α β : Type} (f : α → β) : ∀ (l : List α) (j : Nat), (l.map f).eraseIdx j = (l.eraseIdx j).map f
  | [], _ => rfl
  | _ :: _, 0 => rfl
  | x :: r, j + 1 => by
    show f x :: (r.map f).eraseIdx j = f x :: (r.eraseIdx j).map f
    rw [map_er f r j]
theorem rem_nats {xs : List Nat} {h : Nat} (hn : xs.Nodup) (hm : h ∈ xs) : remI (h : Int) (natsD xs) = some ((), natsD (without xs h)) := by
  obtain ⟨j, e1, e2⟩ := erase_without hn hm
  unfold remI
  rw [ints_nats]
  show ((xs.map fun n : Nat => (n : Int)).findIdx? (· == (h : Int))).map (fun j => ((), ((xs.map fun n : Nat => (n : Int)).eraseIdx j).map PyData.int)) = _
  have e3 : (xs.map fun n : Nat => (n : Int)).findIdx? (· == (h : Int)) = some j := by
    rw [List.findIdx?_map, ← e1]
    congr 1
    funext x
    show ((x : Int) == (h : Int)) = (x == h)
    rw [Bool.eq_iff_iff]
    simp
    omega
  rw [e3]
  show some ((), ((xs.map fun n : Nat => (n : Int)).eraseIdx j).map PyData.int) = _
  rw [← e2, map_er, List.map_map]
  rfl
theorem no_of {α : Type} {o : Option α} {a : α} (h : o = none) (e : o = some a) : False := by rw [h] at e; cases e
theorem oc_of {o a b : Oc} (h : o = a) (e : o = b) (n : a ≠ b := by decide) : False := n (h.symm.trans e)
namespace Ln
def many (L : Ln) : Nat := L.S.codes.length
structure OkW (L : Ln) : Prop where
  S : L.S.Ok
  offN : L.off.Nodup
  offB : ∀ h ∈ L.off, h < L.S.codes.length
  insN : L.ins.Nodup
  insO : ∀ h ∈ L.ins, h ∈ L.off
  askO : ∀ a, L.asker = some a → a ∈ L.off
  ask0 : ∀ a, L.asker = some a → L.ins = [] ∧ L.out = .no ∧ L.rung = none
  dia : ∀ a, L.dialled = some a → a < L.S.codes.length ∧ L.asker ≠ none ∧ L.asker ≠ some a
  rng : L.RungOk
  rg : ∀ c b t, L.rung = some (c, b, t) → L.ins = [] ∧ (b = none → L.out = .rings) ∧ (b ≠ none → L.out = .no) ∧ t ≤ L.now
  rg2 : L.out = .rings → L.rung ≠ none
  tk : L.out = .talks → L.ins ≠ []
  queL : L.queue.length ≤ 3
  queB : ∀ h ∈ L.queue, h < L.S.codes.length
structure Ok (L : Ln) : Prop extends L.OkW where
  set : L.idle = true → L.off = [] ∧ L.queue = []
theorem OkW.offL {L : Ln} (h : L.OkW) : L.off.length ≤ 8 := Nat.le_trans (nodup_lt h.offN h.offB) h.S.l8
theorem OkW.insL {L : Ln} (h : L.OkW) : L.ins.length ≤ 8 := Nat.le_trans (nodup_lt h.insN fun x hx => h.offB x (h.insO x hx)) h.S.l8
@[simp] theorem settle_S {L : Ln} : L.settle.S = L.S := by
  unfold settle ringFor
  split
  · split
    · split <;> rfl
    · rfl
  · rfl
theorem idle_iff {L : Ln} : L.idle = true ↔ L.rung = none ∧ L.out = .no ∧ L.ins = [] ∧ L.asker = none := by
  unfold idle
  simp
theorem settle_ok {L : Ln} (h : L.OkW) : L.settle.Ok := by
  unfold settle
  by_cases h1 : L.idle = true
  · obtain ⟨i1, i2, i3, i4⟩ := idle_iff.mp h1
    rw [if_pos h1]
    by_cases h2 : L.off.isEmpty = true
    · rw [if_pos h2]
      have h2' : L.off = [] := by simpa using h2
      cases h3 : L.queue with
      | nil => exact { h with set := fun _ => ⟨h2', h3⟩ }
      | cons q r =>
        have hq := h.queB
        have hl := h.queL
        rw [h3] at hq hl
        refine { S := h.S, offN := h.offN, offB := h.offB, insN := h.insN, insO := h.insO, askO := h.askO, ask0 := fun a e => ?_, dia := h.dia, rng := fun c b t e => ?_, rg := fun c b t e => ?_, rg2 := fun _ e => ?_, tk := fun e => ?_, queL := ?_, queB := fun x hx => hq x (List.mem_cons_of_mem _ hx), set := fun z => ?_ }
        · have e' : L.asker = some a := e
          rw [i4] at e'; cases e'
        · cases (show some (q, none, L.now) = some (c, b, t) from e)
          exact ⟨hq q List.mem_cons_self, fun x e => by cases e⟩
        · cases (show some (q, none, L.now) = some (c, b, t) from e)
          exact ⟨i3, fun _ => rfl, fun z => absurd rfl z, Int.le_refl _⟩
        · cases (show some (q, (none : Option Nat), L.now) = none from e)
        · cases (show Oc.rings = Oc.talks from e)
        · show r.length ≤ 3
          rw [List.length_cons] at hl; omega
        · have z := (idle_iff.mp z).1
          cases (show some (q, (none : Option Nat), L.now) = none from z)
    · rw [if_neg h2]
      have h2' : L.off ≠ [] := fun e => h2 (by rw [e]; rfl)
      refine { S := h.S, offN := h.offN, offB := h.offB, insN := h.insN, insO := h.insO, askO := fun a e => ?_, ask0 := fun a e => ⟨i3, i2, i1⟩, dia := fun a e => ?_, rng := h.rng, rg := h.rg, rg2 := h.rg2, tk := h.tk, queL := h.queL, queB := h.queB, set := fun z => ?_ }
      · cases (show some (minN L.off) = some a from e)
        exact minN_mem h2'
      · exact absurd i4 (h.dia a e).2.1
      · have z := (idle_iff.mp z).2.2.2
        cases (show some (minN L.off) = none from z)
  · rw [if_neg h1]
    exact { h with set := fun z => absurd z h1 }
/-! ### lifting -/
def lift1 (L : Ln) (h : Nat) : Ln := if L.rung.isSome = true then ({ L with off := L.off ++ [h] } : Ln).answer h
  else if L.out ≠ .no ∨ L.ins ≠ [] then (if L.isLet h = true then { L with off := L.off ++ [h], ins := L.ins ++ [h] } else { L with off := L.off ++ [h] })
  else match L.asker with
    | some a => if L.dialled = none ∧ L.S.priv = false then { L with off := L.off ++ [h], ins := [a, h], asker := none } else { L with off := L.off ++ [h] }
    | none => { L with off := L.off ++ [h] }
def lift (L : Ln) (h : Nat) : Ln := (L.lift1 h).settle
theorem offW {L : Ln} {h : Nat} (k : L.OkW) (hh : h < L.S.codes.length) (hn : h ∉ L.off) : ({ L with off := L.off ++ [h] } : Ln).OkW := by
  have nd : (L.off ++ [h]).Nodup := by
    rw [List.nodup_append]
    refine ⟨k.offN, by simp, fun a ha b hb e => hn ?_⟩
    have : b = h := by simpa using hb
    rw [← this, ← e]; exact ha
  exact { S := k.S, offN := nd, offB := fun x hx => by
            rcases List.mem_append.mp hx with e | e
            · exact k.offB x e
            · have : x = h := by simpa using e
              rw [this]; exact hh,
          insN := k.insN, insO := fun x hx => List.mem_append_left _ (k.insO x hx), askO := fun a e => List.mem_append_left _ (k.askO a e), ask0 := k.ask0, dia := k.dia, rng := k.rng, rg := k.rg, rg2 := k.rg2, tk := k.tk, queL := k.queL, queB := k.queB }
theorem mem_off1 {L : Ln} {h : Nat} : h ∈ ({ L with off := L.off ++ [h] } : Ln).off := List.mem_append_right _ (List.mem_singleton.mpr rfl)
theorem lift1_ok {L : Ln} {h : Nat} (k : L.OkW) (hh : h < L.S.codes.length) (hn : h ∉ L.off) : (L.lift1 h).OkW := by
  have k1 := offW k hh hn
  unfold lift1
  rcases Option.eq_none_or_eq_some L.rung with hr | ⟨q, hr⟩
  rotate_left
  · obtain ⟨c, b, t⟩ := q
    obtain ⟨r1, r2, r3, r4⟩ := k.rg c b t hr
    have na : L.asker = none := by
      cases e : L.asker with
      | none => rfl
      | some a => have := (k.ask0 a e).2.2; rw [hr] at this; cases this
    rw [if_pos (by rw [hr]; rfl)]
    unfold answer
    rw [show ({ L with off := L.off ++ [h] } : Ln).rung = some (c, b, t) from hr]
    simp only
    by_cases hb : b = some h
    · rw [if_pos hb]
      have ho := r3 (by rw [hb]; exact fun z => by cases z)
      exact { S := k1.S, offN := k1.offN, offB := k1.offB, insN := k1.insN, insO := k1.insO, askO := k1.askO, ask0 := fun a e => (no_of na e).elim, dia := k1.dia, rng := fun c b t e => (by cases (show none = some (c, b, t) from e)), rg := fun c b t e => (by cases (show none = some (c, b, t) from e)), rg2 := fun e => (oc_of ho e).elim, tk := k1.tk, queL := k1.queL, queB := k1.queB }
    · rw [if_neg hb]
      by_cases hc : h = c ∨ L.S.priv = false
      · rw [if_pos hc]
        refine { S := k1.S, offN := k1.offN, offB := k1.offB, insN := (by simp), insO := fun x hx => ?_, askO := k1.askO, ask0 := fun a e => (no_of na e).elim, dia := k1.dia, rng := fun c b t e => (by cases (show none = some (c, b, t) from e)), rg := fun c b t e => (by cases (show none = some (c, b, t) from e)), rg2 := fun e => ?_, tk := fun _ e => (by cases (show [h] = [] from e)), queL := k1.queL, queB := k1.queB }
        · have : x = h := by simpa using hx
          rw [this]; exact mem_off1
        · have e' : (if L.out = .rings then Oc.talks else L.out) = .rings := e
          split at e'
          · cases e'
          · rename_i z; exact absurd e' z
      · rw [if_neg hc]; rw [hr] at k1; exact k1
  · rw [if_neg (by rw [hr]; simp)]
    by_cases ho : L.out ≠ .no ∨ L.ins ≠ []
    · rw [if_pos ho]
      have na : L.asker = none := by
        cases e : L.asker with
        | none => rfl
        | some a =>
          have := k.ask0 a e
          rcases ho with z | z
          · exact absurd this.2.1 z
          · exact absurd this.1 z
      by_cases hl : L.isLet h = true
      · rw [if_pos hl]
        refine { S := k1.S, offN := k1.offN, offB := k1.offB, insN := ?_, insO := fun x hx => ?_, askO := k1.askO, ask0 := fun a e => (no_of na e).elim, dia := k1.dia, rng := k1.rng, rg := fun c b t e => (no_of hr e).elim, rg2 := k1.rg2, tk := fun _ e => (by simp at e), queL := k1.queL, queB := k1.queB }
        · show (L.ins ++ [h]).Nodup
          rw [List.nodup_append]
          refine ⟨k.insN, by simp, fun a ha b hb e => hn ?_⟩
          have : b = h := by simpa using hb
          rw [← this, ← e]; exact k.insO a ha
        · rcases List.mem_append.mp hx with e | e
          · exact List.mem_append_left _ (k.insO x e)
          · exact List.mem_append_right _ e
      · rw [if_neg hl]; exact k1
    · rw [if_neg ho]
      cases ha : L.asker with
      | none => rw [ha] at k1; exact k1
      | some a =>
        simp only
        split
        · rename_i hd
          obtain ⟨a1, a2, a3⟩ := k.ask0 a ha
          refine { S := k1.S, offN := k1.offN, offB := k1.offB, insN := ?_, insO := fun x hx => ?_, askO := fun a e => (by cases (show none = some a from e)), ask0 := fun a e => (by cases (show none = some a from e)), dia := fun x e => (no_of hd.1 e).elim, rng := k1.rng, rg := fun c b t e => (no_of hr e).elim, rg2 := k1.rg2, tk := fun _ e => (by cases (show [a, h] = [] from e)), queL := k1.queL, queB := k1.queB }
          · have : a ≠ h := fun e => hn (by rw [← e]; exact k.askO a ha)
            simp [this]
          · rcases List.mem_cons.mp hx with e | e
            · rw [e]; exact List.mem_append_left _ (k.askO a ha)
            · exact List.mem_append_right _ e
        · rw [ha] at k1; exact k1
theorem lift_ok {L : Ln} {h : Nat} (k : L.Ok) (hh : h < L.S.codes.length) (hn : h ∉ L.off) : (L.lift h).Ok := settle_ok (lift1_ok k.toOkW hh hn)
@[simp] theorem lift1_S {L : Ln} {h : Nat} : (L.lift1 h).S = L.S := by
  unfold lift1 answer
  repeat' split
  all_goals rfl
@[simp] theorem lift_S {L : Ln} {h : Nat} : (L.lift h).S = L.S := by unfold lift; simp
/-! ### hanging up -/
def hang1 (L : Ln) (h : Nat) : Ln := if L.asker = some h then (match L.dialled with
    | some o => if o ∈ without L.off h then { L with off := without L.off h, asker := none, dialled := none } else { L with off := without L.off h, asker := none, dialled := none, rung := some (o, some h, L.now), lt := [o, h] }
    | none => { L with off := without L.off h, asker := none, dialled := none })
  else if h ∈ L.ins then { L with off := without L.off h, ins := without L.ins h, out := if without L.ins h = [] ∧ L.out = .talks then .no else L.out }
  else { L with off := without L.off h }
def hang (L : Ln) (h : Nat) : Ln := (L.hang1 h).settle
theorem hang1_ok {L : Ln} {h : Nat} (k : L.OkW) (hh : h < L.S.codes.length) : (L.hang1 h).OkW := by
  have nd := without_nodup (h := h) k.offN
  have ob : ∀ x ∈ without L.off h, x < L.S.codes.length := fun x hx => k.offB x (mem_without.mp hx).1
  unfold hang1
  by_cases h1 : L.asker = some h
  · rw [if_pos h1]
    obtain ⟨a1, a2, a3⟩ := k.ask0 h h1
    have base : ({ L with off := without L.off h, asker := none, dialled := none } : Ln).OkW :=
      { S := k.S, offN := nd, offB := ob, insN := k.insN, insO := fun x hx => absurd (show x ∈ L.ins from hx) (by rw [a1]; simp), askO := fun a e => (by cases (show none = some a from e)), ask0 := fun a e => (by cases (show none = some a from e)), dia := fun a e => (by cases (show none = some a from e)), rng := k.rng, rg := k.rg, rg2 := k.rg2, tk := k.tk, queL := k.queL, queB := k.queB }
    cases hd : L.dialled with
    | none => exact base
    | some o =>
      simp only
      split
      · exact base
      · refine { S := k.S, offN := nd, offB := ob, insN := k.insN, insO := base.insO, askO := base.askO, ask0 := fun a e => (by cases (show none = some a from e)), dia := base.dia, rng := fun c b t e => ?_, rg := fun c b t e => ?_, rg2 := fun e => ?_, tk := k.tk, queL := k.queL, queB := k.queB }
        · cases (show some (o, some h, L.now) = some (c, b, t) from e)
          exact ⟨(k.dia _ hd).1, fun x e => by cases e; exact hh⟩
        · cases (show some (o, some h, L.now) = some (c, b, t) from e)
          exact ⟨a1, (fun z => by cases z), fun _ => a2, Int.le_refl _⟩
        · have e' : L.out = .rings := e
          rw [a2] at e'; cases e'
  · rw [if_neg h1]
    have ask : ∀ a, L.asker = some a → a ∈ without L.off h := fun a e => mem_without.mpr ⟨k.askO a e, fun z => h1 (by rw [e, z])⟩
    by_cases h2 : h ∈ L.ins
    · rw [if_pos h2]
      have na : ∀ a, L.asker ≠ some a := fun a e => by have := (k.ask0 a e).1; rw [this] at h2; cases h2
      have nr : ∀ c b t, L.rung ≠ some (c, b, t) := fun c b t e => by have := (k.rg c b t e).1; rw [this] at h2; cases h2
      refine { S := k.S, offN := nd, offB := ob, insN := without_nodup k.insN, insO := fun x hx => mem_without.mpr ⟨k.insO x (mem_without.mp hx).1, (mem_without.mp hx).2⟩, askO := ask, ask0 := fun a e => absurd e (na a), dia := k.dia, rng := k.rng, rg := fun c b t e => absurd e (nr c b t), rg2 := fun e => ?_, tk := fun e => ?_, queL := k.queL, queB := k.queB }
      · have e' : (if without L.ins h = [] ∧ L.out = .talks then Oc.no else L.out) = .rings := e
        split at e'
        · cases e'
        · exact k.rg2 e'
      · have e' : (if without L.ins h = [] ∧ L.out = .talks then Oc.no else L.out) = .talks := e
        split at e'
        · cases e'
        · rename_i z
          exact fun z2 => z ⟨z2, e'⟩
    · rw [if_neg h2]
      exact { S := k.S, offN := nd, offB := ob, insN := k.insN, insO := fun x hx => mem_without.mpr ⟨k.insO x hx, fun z => h2 (by rw [← z]; exact hx)⟩, askO := ask, ask0 := k.ask0, dia := k.dia, rng := k.rng, rg := k.rg, rg2 := k.rg2, tk := k.tk, queL := k.queL, queB := k.queB }
theorem hang_ok {L : Ln} {h : Nat} (k : L.Ok) (hh : h < L.S.codes.length) : (L.hang h).Ok := settle_ok (hang1_ok k.toOkW hh)
@[simp] theorem hang1_S {L : Ln} {h : Nat} : (L.hang1 h).S = L.S := by
  unfold hang1
  repeat' split
  all_goals rfl
@[simp] theorem hang_S {L : Ln} {h : Nat} : (L.hang h).S = L.S := by unfold hang; simp
/-! ### the rest -/
def dial (L : Ln) (o : Nat) : Ln := { L with dialled := some o }
def callOut (L : Ln) (h : Nat) : Ln := { L with asker := none, ins := [h], out := .talks }
def wait (L : Ln) (h : Nat) : Ln := { L with queue := L.queue ++ [h] }
def ends1 (L : Ln) : Ln := { L with rung := if L.out = .rings then none else L.rung, out := .no }
def ends (L : Ln) : Ln := L.ends1.settle
def turn (L : Ln) (o : Oc) : Ln := { L with out := o }
def tick (L : Ln) : Ln := match L.rung with
  | none => { L with now := L.now + 1 }
  | some (_, _, t) => if L.S.pat ≤ L.now + 1 - t then ({ L with now := L.now + 1, rung := none, out := .no } : Ln).settle else { L with now := L.now + 1 }
theorem not_idle {L : Ln} (h : L.rung ≠ none ∨ L.out ≠ .no ∨ L.ins ≠ [] ∨ L.asker ≠ none) : L.idle = true → False := fun z => by
  obtain ⟨i1, i2, i3, i4⟩ := idle_iff.mp z
  rcases h with h | h | h | h
  · exact h i1
  · exact h i2
  · exact h i3
  · exact h i4
theorem dial_ok {L : Ln} {h o : Nat} (k : L.Ok) (ha : L.asker = some h) (ho : o < L.S.codes.length) (hn : o ≠ h) : (L.dial o).Ok :=
  { S := k.S, offN := k.offN, offB := k.offB, insN := k.insN, insO := k.insO, askO := k.askO, ask0 := k.ask0, dia := fun a e => (by
      cases (show some o = some a from e)
      refine ⟨ho, ?_, ?_⟩
      · show L.asker ≠ none
        rw [ha]; exact fun z => by cases z
      · show L.asker ≠ some o
        rw [ha]; exact fun z => by cases z; exact hn rfl), rng := k.rng, rg := k.rg, rg2 := k.rg2, tk := k.tk, queL := k.queL, queB := k.queB, set := k.set }
theorem callOut_ok {L : Ln} {h : Nat} (k : L.Ok) (ha : L.asker = some h) (hd : L.dialled = none) : (L.callOut h).Ok := by
  obtain ⟨a1, a2, a3⟩ := k.ask0 h ha
  exact { S := k.S, offN := k.offN, offB := k.offB, insN := (by show [h].Nodup; simp), insO := fun x hx => (by
            have : x = h := by simpa [callOut] using hx
            rw [this]; exact k.askO h ha), askO := fun a e => (by cases (show none = some a from e)), ask0 := fun a e => (by cases (show none = some a from e)), dia := fun a e => (no_of hd e).elim, rng := k.rng, rg := fun c b t e => (no_of a3 e).elim, rg2 := fun e => (by cases (show Oc.talks = Oc.rings from e)), tk := fun _ e => (by cases (show [h] = [] from e)), queL := k.queL, queB := k.queB, set := fun z => (not_idle (.inr (.inl fun e => by cases (show Oc.talks = Oc.no from e))) z).elim }
theorem ring_ok {L : Ln} {h : Nat} (k : L.Ok) (hi : L.idle = true) (hh : h < L.S.codes.length) : (L.ringFor h).Ok := by
  obtain ⟨i1, i2, i3, i4⟩ := idle_iff.mp hi
  exact { S := k.S, offN := k.offN, offB := k.offB, insN := k.insN, insO := k.insO, askO := k.askO, ask0 := fun a e => (no_of i4 e).elim, dia := k.dia, rng := fun c b t e => (by
            cases (show some (h, none, L.now) = some (c, b, t) from e)
            exact ⟨hh, fun x e => by cases e⟩), rg := fun c b t e => (by
            cases (show some (h, none, L.now) = some (c, b, t) from e)
            exact ⟨i3, fun _ => rfl, fun z => absurd rfl z, Int.le_refl _⟩), rg2 := fun _ e => (by cases (show some (h, (none : Option Nat), L.now) = none from e)), tk := fun e => (by cases (show Oc.rings = Oc.talks from e)), queL := k.queL, queB := k.queB, set := fun z => (not_idle (.inl fun e => by cases (show some (h, (none : Option Nat), L.now) = none from e)) z).elim }
theorem wait_ok {L : Ln} {h : Nat} (k : L.Ok) (hi : L.idle = false) (hl : L.queue.length ≠ 3) (hh : h < L.S.codes.length) : (L.wait h).Ok :=
  { S := k.S, offN := k.offN, offB := k.offB, insN := k.insN, insO := k.insO, askO := k.askO, ask0 := k.ask0, dia := k.dia, rng := k.rng, rg := k.rg, rg2 := k.rg2, tk := k.tk, queL := (by
      have := k.queL
      show (L.queue ++ [h]).length ≤ 3
      rw [List.length_append]; simp; omega), queB := fun x hx => (by
      rcases List.mem_append.mp hx with e | e
      · exact k.queB x e
      · have : x = h := by simpa using e
        rw [this]; exact hh), set := fun z => (by
      have z' : L.idle = true := z
      rw [hi] at z'; cases z') }
theorem ends_ok {L : Ln} (k : L.Ok) (ho : L.out ≠ .no) : L.ends.Ok := by
  have na : L.asker = none := by
    cases e : L.asker with
    | none => rfl
    | some a => exact absurd (k.ask0 a e).2.1 ho
  have nr : (if L.out = .rings then none else L.rung) = none := by
    split
    · rfl
    · rename_i z
      cases e : L.rung with
      | none => rfl
      | some q =>
        obtain ⟨c, b, t⟩ := q
        obtain ⟨_, r2, r3, _⟩ := k.rg c b t e
        cases hb : b with
        | none => exact absurd (r2 hb) z
        | some x => exact absurd (r3 (by rw [hb]; exact fun z => by cases z)) ho
  refine settle_ok ?_
  unfold ends1
  rw [nr]
  exact { S := k.S, offN := k.offN, offB := k.offB, insN := k.insN, insO := k.insO, askO := k.askO, ask0 := fun a e => (no_of na e).elim, dia := k.dia, rng := fun c b t e => (by cases (show none = some (c, b, t) from e)), rg := fun c b t e => (by cases (show none = some (c, b, t) from e)), rg2 := fun e => (by cases (show Oc.no = Oc.rings from e)), tk := fun e => (by cases (show Oc.no = Oc.talks from e)), queL := k.queL, queB := k.queB }
theorem turn_ok {L : Ln} {o : Oc} (k : L.Ok) (h1 : L.ins ≠ []) (h2 : o ≠ .rings) : (L.turn o).Ok :=
  { S := k.S, offN := k.offN, offB := k.offB, insN := k.insN, insO := k.insO, askO := k.askO, ask0 := fun a e => absurd (k.ask0 a e).1 h1, dia := k.dia, rng := k.rng, rg := fun c b t e => absurd (k.rg c b t e).1 h1, rg2 := fun e => absurd e h2, tk := fun _ => h1, queL := k.queL, queB := k.queB, set := fun z => (not_idle (L := L.turn o) (.inr (.inr (.inl h1))) z).elim }
theorem tick_ok {L : Ln} (k : L.Ok) : L.tick.Ok := by
  rcases Option.eq_none_or_eq_some L.rung with hr | ⟨q, hr⟩
  · have e : L.tick = { L with now := L.now + 1 } := by unfold tick; rw [hr]
    rw [e]
    exact { S := k.S, offN := k.offN, offB := k.offB, insN := k.insN, insO := k.insO, askO := k.askO, ask0 := k.ask0, dia := k.dia, rng := k.rng, rg := fun c b t e => (no_of hr e).elim, rg2 := k.rg2, tk := k.tk, queL := k.queL, queB := k.queB, set := k.set }
  · obtain ⟨c, b, t⟩ := q
    have na : L.asker = none := by
      cases e : L.asker with
      | none => rfl
      | some a => have := (k.ask0 a e).2.2; rw [hr] at this; cases this
    by_cases hp : L.S.pat ≤ L.now + 1 - t
    · have e : L.tick = ({ L with now := L.now + 1, rung := none, out := .no } : Ln).settle := by unfold tick; rw [hr]; simp only; rw [if_pos hp]
      rw [e]
      refine settle_ok ?_
      exact { S := k.S, offN := k.offN, offB := k.offB, insN := k.insN, insO := k.insO, askO := k.askO, ask0 := fun a e => (no_of na e).elim, dia := k.dia, rng := fun c b t e => (by cases (show none = some (c, b, t) from e)), rg := fun c b t e => (by cases (show none = some (c, b, t) from e)), rg2 := fun e => (by cases (show Oc.no = Oc.rings from e)), tk := fun e => (by cases (show Oc.no = Oc.talks from e)), queL := k.queL, queB := k.queB }
    · have e : L.tick = { L with now := L.now + 1 } := by unfold tick; rw [hr]; simp only; rw [if_neg hp]
      rw [e]
      exact { S := k.S, offN := k.offN, offB := k.offB, insN := k.insN, insO := k.insO, askO := k.askO, ask0 := k.ask0, dia := k.dia, rng := k.rng, rg := fun c b t e => (by
                obtain ⟨r1, r2, r3, r4⟩ := k.rg c b t e
                exact ⟨r1, r2, r3, by show t ≤ L.now + 1; omega⟩), rg2 := k.rg2, tk := k.tk, queL := k.queL, queB := k.queB, set := k.set }
@[simp] theorem dial_S {L : Ln} {o : Nat} : (L.dial o).S = L.S := rfl
@[simp] theorem callOut_S {L : Ln} {o : Nat} : (L.callOut o).S = L.S := rfl
@[simp] theorem wait_S {L : Ln} {o : Nat} : (L.wait o).S = L.S := rfl
@[simp] theorem turn_S {L : Ln} {o : Oc} : (L.turn o).S = L.S := rfl
@[simp] theorem ringFor_S {L : Ln} {o : Nat} : (L.ringFor o).S = L.S := rfl
@[simp] theorem ends_S {L : Ln} : L.ends.S = L.S := by unfold ends; simp; rfl
@[simp] theorem tick_S {L : Ln} : L.tick.S = L.S := by
  unfold tick
  split
  · rfl
  · split
    · simp
    · rfl
end Ln
end M

/-! P24: the methods of a line. -/
namespace M
open PySem L2
theorem seq_next {b1 b2 : XS} {ρ ρ1 : Env} {s s1 : Sto} {r : Res} (h1 : b1 ρ s = .next ρ1 s1) (h2 : b2 ρ1 s1 = r) : sSeq b1 b2 ρ s = r := by
  unfold sSeq
  rw [h1]; exact h2
theorem run_ret {b : XS} {n : Nat} {ds : List D} {s s' : Sto} {d : D} (h : b (startD n ds) s = .ret d s') : runB b n ds s = .ok d s' := by
  unfold runB
  rw [h]
theorem run_next {b : XS} {n : Nat} {ds : List D} {s s' : Sto} {ρ : Env} (h : b (startD n ds) s = .next ρ s') : runB b n ds s = .ok .none s' := by
  unfold runB
  rw [h]
theorem run_exc {b : XS} {n : Nat} {ds : List D} {s s' : Sto} {ρ : Env} {c : Str} (h : b (startD n ds) s = .exc c ρ s') : runB b n ds s = .exc c s' := by
  unfold runB
  rw [h]
theorem if_t {t : XT} {b1 b2 : XS} {ρ : Env} {s s1 : Sto} (h : t ρ s = .ok true s1) : sIf t b1 b2 ρ s = b1 ρ s1 := by rw [sIf_e, h]; rfl
theorem if_f {t : XT} {b1 b2 : XS} {ρ : Env} {s s1 : Sto} (h : t ρ s = .ok false s1) : sIf t b1 b2 ρ s = b2 ρ s1 := by rw [sIf_e, h]; rfl
section
variable {s : Sto} {n : Nat} {L : Ln} (hn : n < s.length)
include hn
theorem app_off (k : L.OkW) {h : Nat} : ownUp "Line" "off" (s.set n (recL L)) (refD n) (app1 (.int (h : Int))) = some ((), s.set n (recL { L with off := L.off ++ [h] })) := by
  refine ownUp_L hn (xs := natsD L.off) (ys := natsD (L.off ++ [h])) rfl ?_ rfl
  unfold app1
  rw [if_pos (by rw [natsD_len]; exact lt_size (by have := k.offL; omega))]
  simp
theorem app_ins (k : L.OkW) {h : Nat} : ownUp "Line" "inside" (s.set n (recL L)) (refD n) (app1 (.int (h : Int))) = some ((), s.set n (recL { L with ins := L.ins ++ [h] })) := by
  refine ownUp_L hn (xs := natsD L.ins) (ys := natsD (L.ins ++ [h])) rfl ?_ rfl
  unfold app1
  rw [if_pos (by rw [natsD_len]; exact lt_size (by have := k.insL; omega))]
  simp
theorem app_queue (k : L.OkW) {h : Nat} : ownUp "Line" "queue" (s.set n (recL L)) (refD n) (app1 (.int (h : Int))) = some ((), s.set n (recL { L with queue := L.queue ++ [h] })) := by
  refine ownUp_L hn (xs := natsD L.queue) (ys := natsD (L.queue ++ [h])) rfl ?_ rfl
  unfold app1
  rw [if_pos (by rw [natsD_len]; exact lt_size (by have := k.queL; omega))]
  simp
theorem rem_off (k : L.OkW) {h : Nat} (hm : h ∈ L.off) : ownUp "Line" "off" (s.set n (recL L)) (refD n) (remI (h : Int)) = some ((), s.set n (recL { L with off := without L.off h })) :=
  ownUp_L hn (xs := natsD L.off) (ys := natsD (without L.off h)) rfl (rem_nats k.offN hm) rfl
theorem rem_ins (k : L.OkW) {h : Nat} (hm : h ∈ L.ins) : ownUp "Line" "inside" (s.set n (recL L)) (refD n) (remI (h : Int)) = some ((), s.set n (recL { L with ins := without L.ins h })) :=
  ownUp_L hn (xs := natsD L.ins) (ys := natsD (without L.ins h)) rfl (rem_nats k.insN hm) rfl
/-! ### lift -/
theorem m_Line_lift_no {a : Ag} (ha : a.hs L.S.codes.length = none) : m_Line_lift [refD n, a.d] (s.set n (recL L)) = .exc "NoHouse" (s.set n (recL L)) := by
  simp [m_Line_lift, b_Line_lift, hn, rL_setting, m_look_house_ag, ha]
theorem m_Line_lift_off {h : Nat} (hh : h < L.S.codes.length) (hf : h ∈ L.off) : m_Line_lift [refD n, .int (h : Int)] (s.set n (recL L)) = .exc "IsOff" (s.set n (recL L)) := by
  simp [m_Line_lift, b_Line_lift, hn, rL_setting, m_look_house_ok hh, rL_off, hf]
theorem m_Line_lift_e (k : L.Ok) {h : Nat} (hh : h < L.S.codes.length) (hf : h ∉ L.off) : m_Line_lift [refD n, .int (h : Int)] (s.set n (recL L)) = .ok ((L.lift h).heardD h) (s.set n (recL (L.lift h))) := by
  have k2 := Ln.lift_ok k hh hf
  have hd := m_Line_heard_e (s := s) (n := n) (L := L.lift h) hn k2.S k2.rng (by have := k2.insL; omega) (h := h) (by simp; exact hh)
  have hs := m_Line_settle_e (s := s) (n := n) (L := L.lift1 h) hn
  rw [show (L.lift1 h).settle = L.lift h from rfl] at hs
  have k1 := Ln.offW k.toOkW hh hf
  unfold m_Line_lift b_Line_lift
  refine run_ret (seq_next (ρ1 := [.val (refD n), .val (.int (h : Int))]) (s1 := s.set n (recL L)) ?_ (seq_next (ρ1 := [.val (refD n), .val (.int (h : Int))]) (s1 := s.set n (recL L)) ?_ (seq_next (ρ1 := [.val (refD n), .val (.int (h : Int))]) (s1 := s.set n (recL { L with off := L.off ++ [h] })) ?_
    (seq_next (ρ1 := [.val (refD n), .val (.int (h : Int))]) (s1 := s.set n (recL (L.lift1 h))) ?_ (seq_next (ρ1 := [.val (refD n), .val (.int (h : Int))]) (s1 := s.set n (recL (L.lift h))) ?_ ?_)))))
  · simp [hn, rL_setting, m_look_house_ok hh]
  · simp [hn, rL_off, hf]
  · simp [hn, app_off hn k.toOkW]
  · rcases Option.eq_none_or_eq_some L.rung with hr | ⟨q, hr⟩
    · have hr1 : L.rung.isNone = true := by rw [hr]; rfl
      have hr' : L.rung.isSome = false := by rw [hr]; rfl
      by_cases ho : L.out = .no ∧ L.ins = []
      · obtain ⟨ho, hi⟩ := ho
        have ho1 := eq_true ho
        have hi1 : L.ins.isEmpty = true := by rw [hi]; rfl
        have e0 : ¬ (L.out ≠ .no ∨ L.ins ≠ []) := fun z => z.elim (fun z => z ho) (fun z => z hi)
        rcases Option.eq_none_or_eq_some L.asker with ha | ⟨a, ha⟩
        · have ha1 : L.asker.isNone = true := by rw [ha]; rfl
          have e1 : L.lift1 h = { L with off := L.off ++ [h] } := by
            unfold Ln.lift1
            rw [if_neg (by rw [hr']; decide), if_neg e0, ha]
          rw [e1]
          simp [hn, rL_rung, hr1, rL_outside, ho1, rL_inside, hi1, rL_asker, ha1]
        · have ha1 : L.asker.isNone = false := by rw [ha]; rfl
          have ha2 : optD L.asker = .int (a : Int) := by rw [ha]; rfl
          by_cases hd : L.dialled = none ∧ L.S.priv = false
          · have hd1 : L.dialled.isNone = true := by rw [hd.1]; rfl
            have e1 : L.lift1 h = { L with off := L.off ++ [h], ins := [a, h], asker := none } := by
              unfold Ln.lift1
              rw [if_neg (by rw [hr']; decide), if_neg e0, ha]
              simp only
              rw [if_pos hd]
            rw [e1]
            simp [hn, rL_rung, hr1, rL_outside, ho1, rL_inside, hi1, rL_asker, ha1, ha2, rL_dialled, hd1, rL_setting, Stg.d, hd.2, le_size, pL_inside_2, pL_asker_1]
          · have e1 : L.lift1 h = { L with off := L.off ++ [h] } := by
              unfold Ln.lift1
              rw [if_neg (by rw [hr']; decide), if_neg e0]
              split
              · rw [if_neg hd]
              · rfl
            rw [e1]
            cases h1 : L.dialled.isNone with
            | false => simp [hn, rL_rung, hr1, rL_outside, ho1, rL_inside, hi1, rL_asker, ha1, rL_dialled, h1]
            | true =>
              have hp : L.S.priv = true := by
                cases z : L.S.priv with
                | true => rfl
                | false => exact absurd ⟨by simpa using h1, z⟩ hd
              simp [hn, rL_rung, hr1, rL_outside, ho1, rL_inside, hi1, rL_asker, ha1, rL_dialled, h1, rL_setting, Stg.d, hp]
      · have ho' : L.out ≠ .no ∨ L.ins ≠ [] := by
          by_cases z : L.out = .no
          · exact .inr fun z2 => ho ⟨z, z2⟩
          · exact .inl z
        have hl := m_Line_is_let_e (s := s) (n := n) (L := { L with off := L.off ++ [h] }) hn (h := h)
        have hl2 : ({ L with off := L.off ++ [h] } : Ln).isLet h = L.isLet h := rfl
        rw [hl2] at hl
        have e1 : L.lift1 h = if L.isLet h = true then { L with off := L.off ++ [h], ins := L.ins ++ [h] } else { L with off := L.off ++ [h] } := by
          unfold Ln.lift1
          rw [if_neg (by rw [hr']; decide), if_pos ho']
        rw [e1]
        have ai := app_ins hn k1 (h := h)
        simp only at ai
        by_cases z : L.out = .no
        · have z2 : L.ins.isEmpty = false := by
            cases q : L.ins with
            | nil => exact absurd ⟨z, q⟩ ho
            | cons _ _ => rfl
          have z1 := eq_true z
          cases hq : L.isLet h <;> rw [hq] at hl <;> simp [hn, rL_rung, hr1, rL_outside, z1, rL_inside, z2, mL_is_let, hl, ai]
        · have z1 := eq_false z
          cases hq : L.isLet h <;> rw [hq] at hl <;> simp [hn, rL_rung, hr1, rL_outside, z1, mL_is_let, hl, ai]
    · have hr' : L.rung.isSome = true := by rw [hr]; rfl
      have hr1 : L.rung.isNone = false := by rw [hr]; rfl
      have ha := m_Line_answer_e (s := s) (n := n) (L := { L with off := L.off ++ [h] }) hn (h := h) (by show L.rung ≠ none; rw [hr]; exact fun z => by cases z)
      have e1 : L.lift1 h = ({ L with off := L.off ++ [h] } : Ln).answer h := by unfold Ln.lift1; rw [if_pos hr']
      rw [e1]
      simp [hn, rL_rung, hr1, mL_answer, ha]
  · simp [mL_settle, hn, hs]
  · simp [mL_heard, hn, hd]
/-! ### hang -/
theorem m_Line_hang_no {a : Ag} (ha : a.hs L.S.codes.length = none) : m_Line_hang [refD n, a.d] (s.set n (recL L)) = .exc "NoHouse" (s.set n (recL L)) := by
  simp [m_Line_hang, b_Line_hang, hn, rL_setting, m_look_house_ag, ha]
theorem m_Line_hang_on {h : Nat} (hh : h < L.S.codes.length) (hf : h ∉ L.off) : m_Line_hang [refD n, .int (h : Int)] (s.set n (recL L)) = .exc "IsOn" (s.set n (recL L)) := by
  simp [m_Line_hang, b_Line_hang, hn, rL_setting, m_look_house_ok hh, rL_off, hf]
omit hn in
theorem isEmpty_iff {xs : List Nat} : xs.isEmpty = decide (xs = []) := by cases xs <;> rfl
theorem m_Line_hang_e (k : L.Ok) {h : Nat} (hh : h < L.S.codes.length) (hf : h ∈ L.off) : m_Line_hang [refD n, .int (h : Int)] (s.set n (recL L)) = .ok .none (s.set n (recL (L.hang h))) := by
  have hs := m_Line_settle_e (s := s) (n := n) (L := L.hang1 h) hn
  rw [show (L.hang1 h).settle = L.hang h from rfl] at hs
  have nd := without_nodup (h := h) k.offN
  unfold m_Line_hang b_Line_hang
  refine run_next (ρ := [.val (refD n), .val (.int (h : Int))]) (seq_next (ρ1 := [.val (refD n), .val (.int (h : Int))]) (s1 := s.set n (recL L)) ?_ (seq_next (ρ1 := [.val (refD n), .val (.int (h : Int))]) (s1 := s.set n (recL L)) ?_ (seq_next (ρ1 := [.val (refD n), .val (.int (h : Int))]) (s1 := s.set n (recL { L with off := without L.off h })) ?_
    (seq_next (ρ1 := [.val (refD n), .val (.int (h : Int))]) (s1 := s.set n (recL (L.hang1 h))) ?_ ?_))))
  · simp [hn, rL_setting, m_look_house_ok hh]
  · simp [hn, rL_off, hf]
  · simp [hn, rem_off hn k.toOkW hf]
  · by_cases h1 : L.asker = some h
    · have h1' := eq_true h1
      rcases Option.eq_none_or_eq_some L.dialled with hd | ⟨o, hd⟩
      · have hd1 : L.dialled.isNone = true := by rw [hd]; rfl
        have e1 : L.hang1 h = { L with off := without L.off h, asker := none, dialled := none } := by
          unfold Ln.hang1
          rw [if_pos h1, hd]
        rw [e1]
        simp [hn, rL_asker, h1', rL_dialled, hd1, pL_asker_1, pL_dialled_1]
      · have hd1 : L.dialled.isNone = false := by rw [hd]; rfl
        have hd2 : optD L.dialled = .int (o : Int) := by rw [hd]; rfl
        by_cases ho : o ∈ without L.off h
        · have e1 : L.hang1 h = { L with off := without L.off h, asker := none, dialled := none } := by
            unfold Ln.hang1
            rw [if_pos h1, hd]
            simp only
            rw [if_pos ho]
          rw [e1]
          simp [hn, rL_asker, h1', rL_dialled, hd1, hd2, rL_off, ho, pL_asker_1, pL_dialled_1]
        · have e1 : L.hang1 h = { L with off := without L.off h, asker := none, dialled := none, rung := some (o, some h, L.now), lt := [o, h] } := by
            unfold Ln.hang1
            rw [if_pos h1, hd]
            simp only
            rw [if_neg ho]
          rw [e1]
          simp [hn, rL_asker, h1', rL_dialled, hd1, hd2, rL_off, ho, pL_asker_1, pL_dialled_1, le_size, rL_tick_now, pL_rung_3, pL_let_2]
    · have h1' := eq_false h1
      by_cases h2 : h ∈ L.ins
      · have ri := rem_ins (s := s) (n := n) (L := { L with off := without L.off h }) hn
        have e1 : L.hang1 h = { L with off := without L.off h, ins := without L.ins h, out := if without L.ins h = [] ∧ L.out = .talks then .no else L.out } := by
          unfold Ln.hang1
          rw [if_neg h1, if_pos h2]
        rw [e1]
        have r2 : ownUp "Line" "inside" (s.set n (recL { L with off := without L.off h })) (refD n) (remI (h : Int)) = some ((), s.set n (recL { L with off := without L.off h, ins := without L.ins h })) :=
          ownUp_L hn (xs := natsD L.ins) (ys := natsD (without L.ins h)) rfl (rem_nats k.insN h2) rfl
        by_cases h3 : without L.ins h = []
        · have h3' := eq_true h3
          by_cases h4 : L.out = .talks
          · have h4' := eq_true h4
            simp [hn, rL_asker, h1', rL_inside, h2, r2, isEmpty_iff, h3', rL_outside, h4', pL_outside_1]
          · have h4' := eq_false h4
            simp [hn, rL_asker, h1', rL_inside, h2, r2, isEmpty_iff, h3', rL_outside, h4']
        · have h3' := eq_false h3
          simp [hn, rL_asker, h1', rL_inside, h2, r2, isEmpty_iff, h3']
      · have e1 : L.hang1 h = { L with off := without L.off h } := by
          unfold Ln.hang1
          rw [if_neg h1, if_neg h2]
        rw [e1]
        simp [hn, rL_asker, h1', rL_inside, h2]
  · simp [mL_settle, hn, hs]
/-! ### the rest -/
theorem m_Line_look_tone_no {a : Ag} (ha : a.hs L.S.codes.length = none) : m_Line_look_tone [refD n, a.d] (s.set n (recL L)) = .exc "NoHouse" (s.set n (recL L)) := by
  simp [m_Line_look_tone, b_Line_look_tone, hn, rL_setting, m_look_house_ag, ha]
theorem m_Line_look_tone_to {h : Nat} (hh : h < L.S.codes.length) (ht : ¬ (L.asker = some h ∧ L.dialled = none)) : m_Line_look_tone [refD n, .int (h : Int)] (s.set n (recL L)) = .exc "NoTone" (s.set n (recL L)) := by
  by_cases h1 : L.asker = some h
  · have h2 : L.dialled.isNone = false := by
      cases z : L.dialled with
      | none => exact absurd ⟨h1, z⟩ ht
      | some _ => rfl
    simp [m_Line_look_tone, b_Line_look_tone, hn, rL_setting, m_look_house_ok hh, rL_asker, eq_true h1, rL_dialled, h2]
  · simp [m_Line_look_tone, b_Line_look_tone, hn, rL_setting, m_look_house_ok hh, rL_asker, eq_false h1]
theorem m_Line_look_tone_e {h : Nat} (hh : h < L.S.codes.length) (h1 : L.asker = some h) (h2 : L.dialled = none) : m_Line_look_tone [refD n, .int (h : Int)] (s.set n (recL L)) = .ok .none (s.set n (recL L)) := by
  have h2' : L.dialled.isNone = true := by rw [h2]; rfl
  simp [m_Line_look_tone, b_Line_look_tone, hn, rL_setting, m_look_house_ok hh, rL_asker, eq_true h1, rL_dialled, h2']
theorem m_Line_dial_no {a b : Ag} (ha : a.hs L.S.codes.length = none) : m_Line_dial [refD n, a.d, b.d] (s.set n (recL L)) = .exc "NoHouse" (s.set n (recL L)) := by
  simp [m_Line_dial, b_Line_dial, hn, mL_look_tone, m_Line_look_tone_no hn ha]
theorem m_Line_dial_to {h : Nat} {b : Ag} (hh : h < L.S.codes.length) (ht : ¬ (L.asker = some h ∧ L.dialled = none)) : m_Line_dial [refD n, .int (h : Int), b.d] (s.set n (recL L)) = .exc "NoTone" (s.set n (recL L)) := by
  simp [m_Line_dial, b_Line_dial, hn, mL_look_tone, m_Line_look_tone_to hn hh ht]
theorem m_Line_dial_nb {h : Nat} {b : Ag} (hh : h < L.S.codes.length) (h1 : L.asker = some h) (h2 : L.dialled = none) (hb : b.hs L.S.codes.length = none) : m_Line_dial [refD n, .int (h : Int), b.d] (s.set n (recL L)) = .exc "NoHouse" (s.set n (recL L)) := by
  simp [m_Line_dial, b_Line_dial, hn, mL_look_tone, m_Line_look_tone_e hn hh h1 h2, rL_setting, m_look_house_ag, hb]
theorem m_Line_dial_self {h : Nat} (hh : h < L.S.codes.length) (h1 : L.asker = some h) (h2 : L.dialled = none) : m_Line_dial [refD n, .int (h : Int), .int (h : Int)] (s.set n (recL L)) = .exc "NoHouse" (s.set n (recL L)) := by
  simp [m_Line_dial, b_Line_dial, hn, mL_look_tone, m_Line_look_tone_e hn hh h1 h2, rL_setting, m_look_house_ok hh]
theorem m_Line_dial_e {h o : Nat} (hh : h < L.S.codes.length) (h1 : L.asker = some h) (h2 : L.dialled = none) (ho : o < L.S.codes.length) (hne : o ≠ h) : m_Line_dial [refD n, .int (h : Int), .int (o : Int)] (s.set n (recL L)) = .ok .none (s.set n (recL (L.dial o))) := by
  have hne' : ¬ ((o : Int) = (h : Int)) := by omega
  simp [m_Line_dial, b_Line_dial, hn, mL_look_tone, m_Line_look_tone_e hn hh h1 h2, rL_setting, m_look_house_ok ho, hne', hne, pL_dialled_2, Ln.dial]
theorem m_Line_call_out_no {a : Ag} (ha : a.hs L.S.codes.length = none) : m_Line_call_out [refD n, a.d] (s.set n (recL L)) = .exc "NoHouse" (s.set n (recL L)) := by
  simp [m_Line_call_out, b_Line_call_out, hn, mL_look_tone, m_Line_look_tone_no hn ha]
theorem m_Line_call_out_to {h : Nat} (hh : h < L.S.codes.length) (ht : ¬ (L.asker = some h ∧ L.dialled = none)) : m_Line_call_out [refD n, .int (h : Int)] (s.set n (recL L)) = .exc "NoTone" (s.set n (recL L)) := by
  simp [m_Line_call_out, b_Line_call_out, hn, mL_look_tone, m_Line_look_tone_to hn hh ht]
theorem m_Line_call_out_e {h : Nat} (hh : h < L.S.codes.length) (h1 : L.asker = some h) (h2 : L.dialled = none) : m_Line_call_out [refD n, .int (h : Int)] (s.set n (recL L)) = .ok .none (s.set n (recL (L.callOut h))) := by
  simp [m_Line_call_out, b_Line_call_out, hn, mL_look_tone, m_Line_look_tone_e hn hh h1 h2, pL_asker_1, le_size, pL_inside_1, pL_outside_3, Ln.callOut]
theorem m_Line_call_in_no {a : Ag} (ha : a.hs L.S.codes.length = none) : m_Line_call_in [refD n, a.d] (s.set n (recL L)) = .exc "NoHouse" (s.set n (recL L)) := by
  simp [m_Line_call_in, b_Line_call_in, hn, rL_setting, m_look_house_ag, ha]
theorem m_Line_call_in_r {h : Nat} (hh : h < L.S.codes.length) (hi : L.idle = true) : m_Line_call_in [refD n, .int (h : Int)] (s.set n (recL L)) = .ok (.str "rings") (s.set n (recL (L.ringFor h))) := by
  simp [m_Line_call_in, b_Line_call_in, hn, rL_setting, m_look_house_ok hh, mL_is_idle, m_Line_is_idle_e hn, hi, mL_ring_for, m_Line_ring_for_e hn]
theorem m_Line_call_in_b {h : Nat} (hh : h < L.S.codes.length) (hi : L.idle = false) (hq : L.queue.length = 3) : m_Line_call_in [refD n, .int (h : Int)] (s.set n (recL L)) = .ok (.str "busy") (s.set n (recL L)) := by
  simp [m_Line_call_in, b_Line_call_in, hn, rL_setting, m_look_house_ok hh, mL_is_idle, m_Line_is_idle_e hn, hi, rL_queue, hq]
theorem m_Line_call_in_w (k : L.Ok) {h : Nat} (hh : h < L.S.codes.length) (hi : L.idle = false) (hq : L.queue.length ≠ 3) : m_Line_call_in [refD n, .int (h : Int)] (s.set n (recL L)) = .ok (.str "waits") (s.set n (recL (L.wait h))) := by
  have hq' : ¬ ((L.queue.length : Int) = 3) := by omega
  simp [m_Line_call_in, b_Line_call_in, hn, rL_setting, m_look_house_ok hh, mL_is_idle, m_Line_is_idle_e hn, hi, rL_queue, hq', app_queue hn k.toOkW, Ln.wait]
theorem m_Line_end_no (h : L.out = .no) : m_Line_end [refD n] (s.set n (recL L)) = .exc "NoCall" (s.set n (recL L)) := by
  simp [m_Line_end, b_Line_end, hn, rL_outside, eq_true h]
theorem m_Line_end_e (h : L.out ≠ .no) : m_Line_end [refD n] (s.set n (recL L)) = .ok .none (s.set n (recL L.ends)) := by
  have hs := m_Line_settle_e (s := s) (n := n) (L := L.ends1) hn
  rw [show (L.ends1).settle = L.ends from rfl] at hs
  by_cases h2 : L.out = .rings
  · have e : L.ends1 = { L with rung := none, out := .no } := by unfold Ln.ends1; rw [if_pos h2]
    rw [e] at hs
    simp [m_Line_end, b_Line_end, hn, rL_outside, eq_false h, eq_true h2, pL_rung_1, pL_outside_1, mL_settle, hs]
  · have e : L.ends1 = { L with out := .no } := by unfold Ln.ends1; rw [if_neg h2]
    rw [e] at hs
    simp [m_Line_end, b_Line_end, hn, rL_outside, eq_false h, eq_false h2, pL_rung_1, pL_outside_1, mL_settle, hs]
theorem m_Line_hold_no {a : Ag} (ha : a.hs L.S.codes.length = none) : m_Line_hold [refD n, a.d] (s.set n (recL L)) = .exc "NoHouse" (s.set n (recL L)) := by
  simp [m_Line_hold, b_Line_hold, hn, mL_turn, m_Line_turn, b_Line_turn, rL_setting, m_look_house_ag, ha]
theorem m_Line_hold_to {h : Nat} (hh : h < L.S.codes.length) (ht : ¬ (h ∈ L.ins ∧ L.out = .talks)) : m_Line_hold [refD n, .int (h : Int)] (s.set n (recL L)) = .exc "NoTalk" (s.set n (recL L)) := by
  by_cases h1 : h ∈ L.ins
  · have h2 : L.out ≠ .talks := fun z => ht ⟨h1, z⟩
    simp [m_Line_hold, b_Line_hold, hn, mL_turn, m_Line_turn, b_Line_turn, rL_setting, m_look_house_ok hh, rL_inside, h1, rL_outside, eq_false h2]
  · simp [m_Line_hold, b_Line_hold, hn, mL_turn, m_Line_turn, b_Line_turn, rL_setting, m_look_house_ok hh, rL_inside, h1]
theorem m_Line_hold_e {h : Nat} (hh : h < L.S.codes.length) (h1 : h ∈ L.ins) (h2 : L.out = .talks) : m_Line_hold [refD n, .int (h : Int)] (s.set n (recL L)) = .ok .none (s.set n (recL (L.turn .held))) := by
  simp [m_Line_hold, b_Line_hold, hn, mL_turn, m_Line_turn, b_Line_turn, rL_setting, m_look_house_ok hh, rL_inside, h1, rL_outside, eq_true h2, pL_outside_4, Ln.turn]
theorem m_Line_take_no {a : Ag} (ha : a.hs L.S.codes.length = none) : m_Line_take [refD n, a.d] (s.set n (recL L)) = .exc "NoHouse" (s.set n (recL L)) := by
  simp [m_Line_take, b_Line_take, hn, mL_turn, m_Line_turn, b_Line_turn, rL_setting, m_look_house_ag, ha]
theorem m_Line_take_to {h : Nat} (hh : h < L.S.codes.length) (ht : ¬ (h ∈ L.ins ∧ L.out = .held)) : m_Line_take [refD n, .int (h : Int)] (s.set n (recL L)) = .exc "NoTalk" (s.set n (recL L)) := by
  by_cases h1 : h ∈ L.ins
  · have h2 : L.out ≠ .held := fun z => ht ⟨h1, z⟩
    simp [m_Line_take, b_Line_take, hn, mL_turn, m_Line_turn, b_Line_turn, rL_setting, m_look_house_ok hh, rL_inside, h1, rL_outside, eq_false h2]
  · simp [m_Line_take, b_Line_take, hn, mL_turn, m_Line_turn, b_Line_turn, rL_setting, m_look_house_ok hh, rL_inside, h1]
theorem m_Line_take_e {h : Nat} (hh : h < L.S.codes.length) (h1 : h ∈ L.ins) (h2 : L.out = .held) : m_Line_take [refD n, .int (h : Int)] (s.set n (recL L)) = .ok .none (s.set n (recL (L.turn .talks))) := by
  simp [m_Line_take, b_Line_take, hn, mL_turn, m_Line_turn, b_Line_turn, rL_setting, m_look_house_ok hh, rL_inside, h1, rL_outside, eq_true h2, pL_outside_3, Ln.turn]
theorem m_Line_tick_e : m_Line_tick [refD n] (s.set n (recL L)) = .ok .none (s.set n (recL L.tick)) := by
  rcases Option.eq_none_or_eq_some L.rung with hr | ⟨q, hr⟩
  · have e : L.tick = { L with now := L.now + 1 } := by unfold Ln.tick; rw [hr]
    have hr1 : L.rung.isNone = true := by rw [hr]; rfl
    rw [e]
    simp [m_Line_tick, b_Line_tick, hn, rL_tick_now, pL_tick_now_1, rL_rung, hr1]
  · obtain ⟨c, b, t⟩ := q
    have hr1 : L.rung.isNone = false := by rw [hr]; rfl
    have hr2 : rungD L.rung = .tuple [.int (c : Int), optD b, .int t] := by rw [hr]; rfl
    by_cases hp : L.S.pat ≤ L.now + 1 - t
    · have e : L.tick = ({ L with now := L.now + 1, rung := none, out := .no } : Ln).settle := by unfold Ln.tick; rw [hr]; simp only; rw [if_pos hp]
      rw [e]
      have hs := m_Line_settle_e (s := s) (n := n) (L := { L with now := L.now + 1, rung := none, out := .no }) hn
      simp [m_Line_tick, b_Line_tick, hn, rL_tick_now, pL_tick_now_1, rL_rung, hr2, rL_setting, Stg.d, hp, pL_rung_1, pL_outside_1, mL_settle, hs]
    · have e : L.tick = { L with now := L.now + 1 } := by unfold Ln.tick; rw [hr]; simp only; rw [if_neg hp]
      rw [e]
      simp [m_Line_tick, b_Line_tick, hn, rL_tick_now, pL_tick_now_1, rL_rung, hr2, rL_setting, Stg.d, hp]
end
end M

/-! P25: the laws' own line, a dict. -/
namespace M
open PySem L2
section
variable {s : Sto} {n : Nat} {L : Ln} (hn : n < s.length)
include hn
theorem m__law_is_idle_e : m__law_is_idle [refD n] (s.set n (recS L)) = .ok (.bool L.idle) (s.set n (recS L)) := by
  unfold Ln.idle
  cases h1 : L.rung.isNone <;> cases h2 : decide (L.out = .no) <;> cases h3 : L.ins.isEmpty <;> cases h4 : L.asker.isNone <;>
    simp [-List.isEmpty_iff, -Option.isNone_iff_eq_none, -decide_eq_true_eq, -decide_eq_false_iff_not, m__law_is_idle, b__law_is_idle, hn, rS_rung, rS_out, rS_in, rS_asker, h1, h2, h3, h4, le_size]
omit hn in
theorem cut1 (xs : List D) (x : D) : cutD (x :: xs) (some 1) none = xs := by
  have h0 : HT.sIx (x :: xs).length 0 (some 1) = 1 := by
    have := HT.sIx_nat (x :: xs).length 0 1
    rw [List.length_cons] at this ⊢
    rw [show (some (1 : Int)) = some (((1 : Nat)) : Int) from rfl, this]
    omega
  unfold cutD
  rw [h0]
  show (xs.take (xs.length + 1 - 1)) = _
  rw [Nat.add_sub_cancel, List.take_length]
theorem m__law_settle_e : m__law_settle [refD n] (s.set n (recS L)) = .ok .none (s.set n (recS L.settle)) := by
  unfold Ln.settle
  have hi := m__law_is_idle_e (s := s) (n := n) (L := L) hn
  by_cases h1 : L.idle = true
  · rw [if_pos h1]
    rw [h1] at hi
    by_cases h2 : L.off = []
    · have h2' : L.off.isEmpty = true := by rw [h2]; rfl
      rw [if_pos h2']
      rcases hq : L.queue with _ | ⟨q, r⟩
      · have h3' : L.queue.isEmpty = true := by rw [hq]; rfl
        have h4 : natsD L.queue = [] := by rw [hq]; rfl
        have e : L = { L with queue := [] } := by rw [← hq]
        simp [m__law_settle, b__law_settle, hn, hi, rS_off, -List.isEmpty_iff, h2', rS_queue, h3', le_size]
      · have h3' : L.queue.isEmpty = false := by rw [hq]; rfl
        have h4 : natsD L.queue = .int (q : Int) :: natsD r := by rw [hq]; rfl
        have h6 : neD (.list (.int (q : Int) :: natsD r)) (.list []) = some (.bool true) := ne_nats_nil (q :: r)
        simp [m__law_settle, b__law_settle, hn, hi, rS_off, -List.isEmpty_iff, h2', rS_queue, h3', le_size, h4, h6, cut1, pS_queue_1, pS_let_1, rS_now, pS_rung_2, pS_out_2, Ln.ringFor]
    · have h2' : L.off.isEmpty = false := by cases h : L.off <;> simp_all
      rw [if_neg (by rw [h2']; decide)]
      simp [m__law_settle, b__law_settle, hn, hi, rS_off, -List.isEmpty_iff, h2', min_nats h2, pS_asker_2, rS_asker, optD, pS_let_1, le_size]
  · rw [if_neg h1]
    have h1' : L.idle = false := by simpa using h1
    rw [h1'] at hi
    simp [m__law_settle, b__law_settle, hn, hi]
theorem m__law_rings_e (hS : L.S.Ok) (hr : L.RungOk) : m__law_rings [refD n] (s.set n (recS L)) = .ok (.bool L.rings) (s.set n (recS L)) := by
  unfold Ln.rings
  rcases h1 : L.rung with _ | ⟨c, b, t⟩
  · have hr1 : L.rung.isNone = true := by rw [h1]; rfl
    simp [m__law_rings, b__law_rings, hn, rS_rung, hr1]
  · have hr1 : L.rung.isNone = false := by rw [h1]; rfl
    have hr2 : rungD L.rung = .tuple [.int (c : Int), optD b, .int t] := by rw [h1]; rfl
    obtain ⟨hc, hb⟩ := hr c b t h1
    have c30 := codeAt_30 hS hc
    have lc := beats_lt c30
    have pc := beats_pos (codeAt L.S c)
    cases b with
    | none =>
      have hl := row_at pc (by omega) (L.now - t)
      simp [m__law_rings, b__law_rings, hn, rS_rung, hr2, rS_setting, codeAt_get hc, m__law_beats_e c30, optD, rS_now, pc, hl, Ln.row, -ixD_l, -List.getD_eq_getElem?_getD]
    | some b =>
      have hb := hb b rfl
      have b30 := codeAt_30 hS hb
      have lb := beats_lt b30
      have hl := row_at (bs := beatsOf (codeAt L.S c) ++ beatsOf (codeAt L.S b)) (by rw [List.length_append]; omega) (by rw [List.length_append]; omega) (L.now - t)
      have hp : (0 : Int) < ((beatsOf (codeAt L.S c)).length : Int) + ((beatsOf (codeAt L.S b)).length : Int) := by omega
      have hz : (beatsOf (codeAt L.S c)).length + (beatsOf (codeAt L.S b)).length ≤ sizeLine := le_size (by omega)
      rw [boolsD_app, List.length_append, Int.natCast_add] at hl
      simp [m__law_rings, b__law_rings, hn, rS_rung, hr2, rS_setting, codeAt_get hc, codeAt_get hb, m__law_beats_e c30, m__law_beats_e b30, optD, rS_now, hp, hl, Ln.row, hz, -ixD_l, -List.getD_eq_getElem?_getD]
end
end M

/-! P26: deeds, one by one. -/
namespace M
open PySem L2
inductive Wo where
  | tick | end_ | lift | hang | dial | out | call | hold | take
  deriving DecidableEq
def Wo.s : Wo → Str
  | .tick => "tick"
  | .end_ => "end"
  | .lift => "lift"
  | .hang => "hang"
  | .dial => "dial"
  | .out => "out"
  | .call => "call"
  | .hold => "hold"
  | .take => "take"
theorem okW (o : Wo) : PyData.strOk o.s = true := by cases o <;> decide +kernel
theorem wo_inj {a b : Wo} (h : a.s = b.s) : a = b := by
  cases a <;> cases b <;> first | rfl | (exfalso; revert h; decide +kernel)
theorem eq_wo (a b : Wo) : eqD (.str a.s) (.str b.s) = some (.bool (decide (a = b))) := by
  rw [eqD_s (okW a) (okW b)]
  congr 2
  rw [decide_eq_decide]
  exact ⟨wo_inj, fun e => by rw [e]⟩
@[simp] theorem eq_wo_tick (a : Wo) : eqD (.str a.s) (.str "tick") = some (.bool (decide (a = .tick))) := eq_wo a .tick
@[simp] theorem eq_wo_end (a : Wo) : eqD (.str a.s) (.str "end") = some (.bool (decide (a = .end_))) := eq_wo a .end_
@[simp] theorem eq_wo_lift (a : Wo) : eqD (.str a.s) (.str "lift") = some (.bool (decide (a = .lift))) := eq_wo a .lift
@[simp] theorem eq_wo_hang (a : Wo) : eqD (.str a.s) (.str "hang") = some (.bool (decide (a = .hang))) := eq_wo a .hang
@[simp] theorem eq_wo_dial (a : Wo) : eqD (.str a.s) (.str "dial") = some (.bool (decide (a = .dial))) := eq_wo a .dial
@[simp] theorem eq_wo_out (a : Wo) : eqD (.str a.s) (.str "out") = some (.bool (decide (a = .out))) := eq_wo a .out
@[simp] theorem eq_wo_call (a : Wo) : eqD (.str a.s) (.str "call") = some (.bool (decide (a = .call))) := eq_wo a .call
@[simp] theorem eq_wo_hold (a : Wo) : eqD (.str a.s) (.str "hold") = some (.bool (decide (a = .hold))) := eq_wo a .hold
theorem inB_tt {t : Ty} {d : D} {ds : List D} (hd : HasTy t d) (hs : HasL t ds) (hz : t.dep ≤ 60) (hn : SeqAt.shaped (.tuple ds) = true) : inB d (.tuple ds) = some (decide (d ∈ ds)) := by
  have e1 := hd.shaped (by omega)
  have e3 : (ds.any fun z => PyData.eqv z d) = decide (d ∈ ds) := by
    clear hn
    induction ds with
    | nil => simp
    | cons z r ih =>
      cases hs with
      | cons h1 h2 =>
        rw [List.any_cons, ih h2]
        apply Bool.eq_iff_iff.mpr
        simp only [Bool.or_eq_true, decide_eq_true_eq, List.mem_cons]
        rw [h1.eqv hd]
        exact ⟨fun q => q.imp Eq.symm id, fun q => q.imp Eq.symm id⟩
  unfold inB
  split
  · rename_i h; cases h
  · rename_i h; cases h
  · rename_i h; cases h; rw [e1, hn, e3]; rfl
  · rename_i q1 q2 q3; exact (q2 _ rfl).elim
theorem in_wo2 (w a b : Wo) : inD (.str w.s) (.tuple [.str a.s, .str b.s]) = some (.bool (decide (w = a) || decide (w = b))) := by
  unfold inD
  rw [inB_tt (.str _ (okW w)) (.cons (.str _ (okW a)) (.cons (.str _ (okW b)) .nil)) (by decide) (HasTy.shaped (.tup (.cons (.str _ (okW a)) (.cons (.str _ (okW b)) .nil))) (by decide))]
  show some (PyData.bool _) = _
  congr 2
  rw [Bool.eq_iff_iff]
  simp
  exact ⟨fun e => e.imp wo_inj wo_inj, fun e => e.imp (fun e => by rw [e]) (fun e => by rw [e])⟩
@[simp] theorem in_tick_end (w : Wo) : inD (.str w.s) (.tuple [.str "tick", .str "end"]) = some (.bool (decide (w = .tick) || decide (w = .end_))) := in_wo2 w .tick .end_
@[simp] theorem in_lift_hang (w : Wo) : inD (.str w.s) (.tuple [.str "lift", .str "hang"]) = some (.bool (decide (w = .lift) || decide (w = .hang))) := in_wo2 w .lift .hang
@[simp] theorem in_dial_out (w : Wo) : inD (.str w.s) (.tuple [.str "dial", .str "out"]) = some (.bool (decide (w = .dial) || decide (w = .out))) := in_wo2 w .dial .out
@[simp] theorem in_hold_take (w : Wo) : inD (.str w.s) (.tuple [.str "hold", .str "take"]) = some (.bool (decide (w = .hold) || decide (w = .take))) := in_wo2 w .hold .take
inductive Rf where
  | house | off | on | tone | talk | call
  deriving DecidableEq
def Rf.c : Rf → Str
  | .house => "NoHouse"
  | .off => "IsOff"
  | .on => "IsOn"
  | .tone => "NoTone"
  | .talk => "NoTalk"
  | .call => "NoCall"
def Rf.w : Rf → Str
  | .house => "house"
  | .off => "off"
  | .on => "on"
  | .tone => "tone"
  | .talk => "talk"
  | .call => "call"
inductive Tl where
  | ok (d : D)
  | no (r : Rf)
/-- what a law's own tells of it -/
def Tl.w : Tl → D
  | .ok d => d
  | .no r => .str r.w
def Tl.o (t : Tl) (s : Sto) : Out D := match t with
  | .ok d => .ok d s
  | .no r => .exc r.c s
inductive Dd where
  | tick | ends
  | lift (a : Ag) | hang (a : Ag) | call (a : Ag) | hold (a : Ag) | take (a : Ag) | out (a : Ag)
  | dial (a b : Ag)
def Dd.d : Dd → D
  | .tick => .tuple [.str Wo.tick.s]
  | .ends => .tuple [.str Wo.end_.s]
  | .lift a => .tuple [.str Wo.lift.s, a.d]
  | .hang a => .tuple [.str Wo.hang.s, a.d]
  | .call a => .tuple [.str Wo.call.s, a.d]
  | .hold a => .tuple [.str Wo.hold.s, a.d]
  | .take a => .tuple [.str Wo.take.s, a.d]
  | .out a => .tuple [.str Wo.out.s, a.d]
  | .dial a b => .tuple [.str Wo.dial.s, a.d, b.d]
namespace Ln
def byH (L : Ln) (a : Ag) (f : Nat → Tl × Ln) : Tl × Ln := match a.hs L.S.codes.length with
  | none => (.no .house, L)
  | some h => f h
def step (L : Ln) : Dd → Tl × Ln
  | .tick => (.ok .none, L.tick)
  | .ends => if L.out = .no then (.no .call, L) else (.ok .none, L.ends)
  | .lift a => L.byH a fun h => if h ∈ L.off then (.no .off, L) else (.ok ((L.lift h).heardD h), L.lift h)
  | .hang a => L.byH a fun h => if h ∈ L.off then (.ok .none, L.hang h) else (.no .on, L)
  | .call a => L.byH a fun h => if L.idle = true then (.ok (.str "rings"), L.ringFor h) else if L.queue.length = 3 then (.ok (.str "busy"), L) else (.ok (.str "waits"), L.wait h)
  | .hold a => L.byH a fun h => if h ∈ L.ins ∧ L.out = .talks then (.ok .none, L.turn .held) else (.no .talk, L)
  | .take a => L.byH a fun h => if h ∈ L.ins ∧ L.out = .held then (.ok .none, L.turn .talks) else (.no .talk, L)
  | .out a => L.byH a fun h => if L.asker = some h ∧ L.dialled = none then (.ok .none, L.callOut h) else (.no .tone, L)
  | .dial a b => L.byH a fun h => if L.asker = some h ∧ L.dialled = none then L.byH b fun o => if o = h then (.no .house, L) else (.ok .none, L.dial o) else (.no .tone, L)
theorem byH_ok {L : Ln} {a : Ag} {f : Nat → Tl × Ln} (k : L.Ok) (h : ∀ h, h < L.S.codes.length → (f h).2.Ok) : (L.byH a f).2.Ok := by
  unfold byH
  split
  · exact k
  · rename_i h1 e
    exact h _ (Ag.hs_to e).2
theorem byH_S {L : Ln} {a : Ag} {f : Nat → Tl × Ln} (h : ∀ h, (f h).2.S = L.S) : (L.byH a f).2.S = L.S := by
  unfold byH
  split
  · rfl
  · exact h _
theorem step_ok {L : Ln} (k : L.Ok) (x : Dd) : (L.step x).2.Ok := by
  cases x with
  | tick => exact tick_ok k
  | ends =>
    show (if L.out = .no then (Tl.no Rf.call, L) else (Tl.ok .none, L.ends)).2.Ok
    split
    · exact k
    · rename_i h; exact ends_ok k h
  | lift a =>
    refine byH_ok k fun h hh => ?_
    split
    · exact k
    · rename_i hf; exact lift_ok k hh hf
  | hang a =>
    refine byH_ok k fun h hh => ?_
    split
    · exact hang_ok k hh
    · exact k
  | call a =>
    refine byH_ok k fun h hh => ?_
    split
    · rename_i hi; exact ring_ok k hi hh
    · rename_i hi
      split
      · exact k
      · rename_i hq; exact wait_ok k (by simpa using hi) hq hh
  | hold a =>
    refine byH_ok k fun h hh => ?_
    split
    · rename_i hi; exact turn_ok k (fun z => by rw [z] at hi; cases hi.1) (by decide)
    · exact k
  | take a =>
    refine byH_ok k fun h hh => ?_
    split
    · rename_i hi; exact turn_ok k (fun z => by rw [z] at hi; cases hi.1) (by decide)
    · exact k
  | out a =>
    refine byH_ok k fun h hh => ?_
    split
    · rename_i hi; exact callOut_ok k hi.1 hi.2
    · exact k
  | dial a b =>
    refine byH_ok k fun h hh => ?_
    split
    · rename_i hi
      refine byH_ok k fun o ho => ?_
      split
      · exact k
      · rename_i hne; exact dial_ok k hi.1 ho hne
    · exact k
theorem step_S {L : Ln} (x : Dd) : (L.step x).2.S = L.S := by
  cases x with
  | tick => exact tick_S
  | ends =>
    show (if L.out = .no then (Tl.no Rf.call, L) else (Tl.ok .none, L.ends)).2.S = L.S
    split
    · rfl
    · exact ends_S
  | lift a =>
    refine byH_S fun h => ?_
    split
    · rfl
    · exact lift_S
  | hang a =>
    refine byH_S fun h => ?_
    split
    · exact hang_S
    · rfl
  | call a =>
    refine byH_S fun h => ?_
    split
    · rfl
    · split <;> rfl
  | hold a =>
    refine byH_S fun h => ?_
    split <;> rfl
  | take a =>
    refine byH_S fun h => ?_
    split <;> rfl
  | out a =>
    refine byH_S fun h => ?_
    split <;> rfl
  | dial a b =>
    refine byH_S fun h => ?_
    split
    · refine byH_S fun o => ?_
      split <;> rfl
    · rfl
end Ln
/-! ### the line -/
section
variable {s : Sto} {n : Nat} {L : Ln} (hn : n < s.length)
include hn
theorem m__law_asked_e (k : L.Ok) (x : Dd) : m__law_asked [refD n, x.d] (s.set n (recL L)) = (L.step x).1.o (s.set n (recL (L.step x).2)) := by
  cases x with
  | tick => simp [m__law_asked, b__law_asked, Dd.d, cut1, hn, mL_tick, m_Line_tick_e hn, Ln.step, Tl.o, le_size]
  | ends =>
    by_cases h : L.out = .no
    · simp [m__law_asked, b__law_asked, Dd.d, cut1, hn, mL_end, m_Line_end_no hn h, Ln.step, eq_true h, Tl.o, Rf.c, le_size]
    · simp [m__law_asked, b__law_asked, Dd.d, cut1, hn, mL_end, m_Line_end_e hn h, Ln.step, eq_false h, Tl.o, le_size]
  | lift a =>
    rcases Option.eq_none_or_eq_some (a.hs L.S.codes.length) with e | ⟨h, e⟩
    · simp [m__law_asked, b__law_asked, Dd.d, cut1, hn, mL_lift, m_Line_lift_no hn e, Ln.step, Ln.byH, e, Tl.o, Rf.c, le_size]
    · obtain ⟨rfl, hh⟩ := Ag.hs_to e
      by_cases hf : h ∈ L.off
      · simp [m__law_asked, b__law_asked, Dd.d, cut1, hn, mL_lift, m_Line_lift_off hn hh hf, Ln.step, Ln.byH, e, hf, Tl.o, Rf.c, le_size]
      · simp [m__law_asked, b__law_asked, Dd.d, cut1, hn, mL_lift, m_Line_lift_e hn k hh hf, Ln.step, Ln.byH, e, hf, Tl.o, Rf.c, le_size]
  | hang a =>
    rcases Option.eq_none_or_eq_some (a.hs L.S.codes.length) with e | ⟨h, e⟩
    · simp [m__law_asked, b__law_asked, Dd.d, cut1, hn, mL_hang, m_Line_hang_no hn e, Ln.step, Ln.byH, e, Tl.o, Rf.c, le_size]
    · obtain ⟨rfl, hh⟩ := Ag.hs_to e
      by_cases hf : h ∈ L.off
      · simp [m__law_asked, b__law_asked, Dd.d, cut1, hn, mL_hang, m_Line_hang_e hn k hh hf, Ln.step, Ln.byH, e, hf, Tl.o, Rf.c, le_size]
      · simp [m__law_asked, b__law_asked, Dd.d, cut1, hn, mL_hang, m_Line_hang_on hn hh hf, Ln.step, Ln.byH, e, hf, Tl.o, Rf.c, le_size]
  | call a =>
    rcases Option.eq_none_or_eq_some (a.hs L.S.codes.length) with e | ⟨h, e⟩
    · simp [m__law_asked, b__law_asked, Dd.d, cut1, hn, mL_call_in, m_Line_call_in_no hn e, Ln.step, Ln.byH, e, Tl.o, Rf.c, le_size]
    · obtain ⟨rfl, hh⟩ := Ag.hs_to e
      cases hi : L.idle with
      | true => simp [m__law_asked, b__law_asked, Dd.d, cut1, hn, mL_call_in, m_Line_call_in_r hn hh hi, Ln.step, Ln.byH, e, hi, Tl.o, Rf.c, le_size]
      | false =>
        by_cases hq : L.queue.length = 3
        · simp [m__law_asked, b__law_asked, Dd.d, cut1, hn, mL_call_in, m_Line_call_in_b hn hh hi hq, Ln.step, Ln.byH, e, hi, hq, Tl.o, Rf.c, le_size]
        · simp [m__law_asked, b__law_asked, Dd.d, cut1, hn, mL_call_in, m_Line_call_in_w hn k hh hi hq, Ln.step, Ln.byH, e, hi, hq, Tl.o, Rf.c, le_size]
  | hold a =>
    rcases Option.eq_none_or_eq_some (a.hs L.S.codes.length) with e | ⟨h, e⟩
    · simp [m__law_asked, b__law_asked, Dd.d, cut1, hn, mL_hold, m_Line_hold_no hn e, Ln.step, Ln.byH, e, Tl.o, Rf.c, le_size]
    · obtain ⟨rfl, hh⟩ := Ag.hs_to e
      by_cases ht : h ∈ L.ins ∧ L.out = .talks
      · simp [m__law_asked, b__law_asked, Dd.d, cut1, hn, mL_hold, m_Line_hold_e hn hh ht.1 ht.2, Ln.step, Ln.byH, e, ht.1, eq_true ht.2, Tl.o, Rf.c, le_size]
      · have ht' : (h ∈ L.ins ∧ L.out = .talks) = False := eq_false ht
        simp [m__law_asked, b__law_asked, Dd.d, cut1, hn, mL_hold, m_Line_hold_to hn hh ht, Ln.step, Ln.byH, e, ht', Tl.o, Rf.c, le_size]
  | take a =>
    rcases Option.eq_none_or_eq_some (a.hs L.S.codes.length) with e | ⟨h, e⟩
    · simp [m__law_asked, b__law_asked, Dd.d, cut1, hn, mL_take, m_Line_take_no hn e, Ln.step, Ln.byH, e, Tl.o, Rf.c, le_size]
    · obtain ⟨rfl, hh⟩ := Ag.hs_to e
      by_cases ht : h ∈ L.ins ∧ L.out = .held
      · simp [m__law_asked, b__law_asked, Dd.d, cut1, hn, mL_take, m_Line_take_e hn hh ht.1 ht.2, Ln.step, Ln.byH, e, ht.1, eq_true ht.2, Tl.o, Rf.c, le_size]
      · have ht' : (h ∈ L.ins ∧ L.out = .held) = False := eq_false ht
        simp [m__law_asked, b__law_asked, Dd.d, cut1, hn, mL_take, m_Line_take_to hn hh ht, Ln.step, Ln.byH, e, ht', Tl.o, Rf.c, le_size]
  | out a =>
    rcases Option.eq_none_or_eq_some (a.hs L.S.codes.length) with e | ⟨h, e⟩
    · simp [m__law_asked, b__law_asked, Dd.d, cut1, hn, mL_call_out, m_Line_call_out_no hn e, Ln.step, Ln.byH, e, Tl.o, Rf.c, le_size]
    · obtain ⟨rfl, hh⟩ := Ag.hs_to e
      by_cases ht : L.asker = some h ∧ L.dialled = none
      · have ht' : (L.asker = some h ∧ L.dialled = none) = True := eq_true ht
        simp [m__law_asked, b__law_asked, Dd.d, cut1, hn, mL_call_out, m_Line_call_out_e hn hh ht.1 ht.2, Ln.step, Ln.byH, e, ht', Tl.o, Rf.c, le_size]
      · have ht' : (L.asker = some h ∧ L.dialled = none) = False := eq_false ht
        simp [m__law_asked, b__law_asked, Dd.d, cut1, hn, mL_call_out, m_Line_call_out_to hn hh ht, Ln.step, Ln.byH, e, ht', Tl.o, Rf.c, le_size]
  | dial a b =>
    rcases Option.eq_none_or_eq_some (a.hs L.S.codes.length) with e | ⟨h, e⟩
    · simp [m__law_asked, b__law_asked, Dd.d, cut1, hn, mL_dial, m_Line_dial_no hn e, Ln.step, Ln.byH, e, Tl.o, Rf.c, le_size]
    · obtain ⟨rfl, hh⟩ := Ag.hs_to e
      by_cases ht : L.asker = some h ∧ L.dialled = none
      · have ht' : (L.asker = some h ∧ L.dialled = none) = True := eq_true ht
        rcases Option.eq_none_or_eq_some (b.hs L.S.codes.length) with e2 | ⟨o, e2⟩
        · simp [m__law_asked, b__law_asked, Dd.d, cut1, hn, mL_dial, m_Line_dial_nb hn hh ht.1 ht.2 e2, Ln.step, Ln.byH, e, e2, ht', Tl.o, Rf.c, le_size]
        · obtain ⟨rfl, ho⟩ := Ag.hs_to e2
          by_cases hne : o = h
          · subst hne
            simp [m__law_asked, b__law_asked, Dd.d, cut1, hn, mL_dial, m_Line_dial_self hn hh ht.1 ht.2, Ln.step, Ln.byH, e, ht', Tl.o, Rf.c, le_size]
          · simp [m__law_asked, b__law_asked, Dd.d, cut1, hn, mL_dial, m_Line_dial_e hn hh ht.1 ht.2 ho hne, Ln.step, Ln.byH, e, e2, ht', hne, Tl.o, Rf.c, le_size]
      · have ht' : (L.asker = some h ∧ L.dialled = none) = False := eq_false ht
        simp [m__law_asked, b__law_asked, Dd.d, cut1, hn, mL_dial, m_Line_dial_to hn hh ht, Ln.step, Ln.byH, e, ht', Tl.o, Rf.c, le_size]
end
end M

/-! P27: the same told by the laws' own line. -/
namespace M
open PySem L2
theorem exm_rf (a b : Rf) : exmT a.c b.c = some (decide (a = b)) := by cases a <;> cases b <;> decide +kernel
theorem others_comp3 {s : Sto} {xs : List Nat} {h : Nat} {v0 v2 z : Slot} (hx : xs.length ≤ 100) : compL (gN 3) (xB (x2 neD (xV 3) (xV 1))) (xV 3) [3] (natsD xs) [] [v0, .val (.int (h : Int)), v2, z] s = .ok (natsD (xs.filter fun x => !decide (x = h))) s := by
  have := compL_map (t := gN 3) (c := xB (x2 neD (xV 3) (xV 1))) (e := xV 3) (vs := [3]) (ρ := [v0, .val (.int (h : Int)), v2, z]) (s := s) (fun x : Nat => PyData.int (x : Int)) (fun x => !decide (x = h)) (fun x : Nat => PyData.int (x : Int)) xs [] (fun x _ => ⟨_, rfl, by simp [wipeD, ne_i, -neD_i], fun _ => by simp [wipeD]⟩) (le_size (by simp; omega))
  exact this
theorem others_comp2 {s : Sto} {xs : List Nat} {h : Nat} {v0 v3 z : Slot} (hx : xs.length ≤ 100) : compL (gN 2) (xB (x2 neD (xV 2) (xV 1))) (xV 2) [2] (natsD xs) [] [v0, .val (.int (h : Int)), z, v3] s = .ok (natsD (without xs h)) s := by
  have := compL_map (t := gN 2) (c := xB (x2 neD (xV 2) (xV 1))) (e := xV 2) (vs := [2]) (ρ := [v0, .val (.int (h : Int)), z, v3]) (s := s) (fun x : Nat => PyData.int (x : Int)) (fun x => !decide (x = h)) (fun x : Nat => PyData.int (x : Int)) xs [] (fun x _ => ⟨_, rfl, by simp [wipeD, ne_i, -neD_i], fun _ => by simp [wipeD]⟩) (le_size (by simp; omega))
  exact this
section
variable {s : Sto} {n : Nat} {L : Ln} (hn : n < s.length)
include hn
theorem m__law_do_e (k : L.Ok) (x : Dd) : m__law_do [refD n, x.d] (s.set n (recL L)) = .ok (L.step x).1.w (s.set n (recL (L.step x).2)) := by
  have h := m__law_asked_e hn k x
  cases ht : (L.step x).1 with
  | ok d =>
    rw [ht] at h
    simp only [Tl.o] at h
    simp [m__law_do, b__law_do, sTry, h, Tl.w]
  | no r =>
    rw [ht] at h
    simp only [Tl.o] at h
    have e := fun b => exm_rf r b
    have e1 := e .house
    have e2 := e .off
    have e3 := e .on
    have e4 := e .tone
    have e5 := e .talk
    have e6 := e .call
    simp only [Rf.c] at e1 e2 e3 e4 e5 e6
    cases r <;> simp only [Rf.c] at h e1 e2 e3 e4 e5 e6 <;> simp [m__law_do, b__law_do, sTry, h, Tl.w, Rf.w, pickH, e1, e2, e3, e4, e5, e6, noX]
/-! ### the law's own -/
theorem m__law_heard_e (hS : L.S.Ok) (hr : L.RungOk) (hi : L.ins.length ≤ 100) {h : Nat} : m__law_heard [refD n, .int (h : Int)] (s.set n (recS L)) = .ok (L.heardD h) (s.set n (recS L)) := by
  unfold Ln.heardD
  by_cases h1 : h ∈ L.off
  · rw [if_pos h1]
    by_cases h2 : L.asker = some h
    · rw [if_pos h2]
      cases h3 : L.dialled.isNone <;> simp [m__law_heard, b__law_heard, hn, rS_off, h1, rS_asker, eq_true h2, rS_dialled, -Option.isNone_iff_eq_none, h3, le_size]
    · rw [if_neg h2]
      by_cases h4 : h ∈ L.ins
      · rw [if_pos h4]
        have hc := fun s v0 v2 z => others_comp3 (s := s) (xs := sortN L.ins) (h := h) (v0 := v0) (v2 := v2) (z := z) (by rw [sortN_len]; exact hi)
        simp [m__law_heard, b__law_heard, hn, rS_off, h1, rS_asker, eq_false h2, rS_in, h4, le_size, sort_nats, hc, rS_out]
      · rw [if_neg h4]
        simp [m__law_heard, b__law_heard, hn, rS_off, h1, rS_asker, eq_false h2, rS_in, h4, le_size]
  · rw [if_neg h1]
    have r := m__law_rings_e (s := s) (n := n) (L := L) hn hS hr
    cases h5 : L.rings <;> rw [h5] at r <;> simp [m__law_heard, b__law_heard, hn, rS_off, h1, le_size, r]
theorem m__law_lift_e (k : L.Ok) {h : Nat} (hh : h < L.S.codes.length) (hf : h ∉ L.off) : m__law_lift [refD n, .int (h : Int)] (s.set n (recS L)) = .ok ((L.lift h).heardD h) (s.set n (recS (L.lift h))) := by
  have k2 := Ln.lift_ok k hh hf
  have hd := m__law_heard_e (s := s) (n := n) (L := L.lift h) hn k2.S k2.rng (by have := k2.insL; omega) (h := h)
  have hs := m__law_settle_e (s := s) (n := n) (L := L.lift1 h) hn
  rw [show (L.lift1 h).settle = L.lift h from rfl] at hs
  have hz : L.off.length + 1 ≤ sizeLine := le_size (by have := k.offL; omega)
  have hz2 : L.ins.length + 1 ≤ sizeLine := le_size (by have := k.insL; omega)
  have hz3 : L.ins.length ≤ sizeLine := le_size (by have := k.insL; omega)
  have c1 : PyData.list (natsD L.off ++ [.int (h : Int)]) = .list (natsD (L.off ++ [h])) := by simp
  have c2 : PyData.list (natsD L.ins ++ [.int (h : Int)]) = .list (natsD (L.ins ++ [h])) := by simp
  unfold m__law_lift b__law_lift
  suffices e : ∃ ρ', ρ'[0]? = some (.val (refD n)) ∧ ρ'[1]? = some (.val (.int (h : Int))) ∧ (sIf (xB (x1t notND (xFld "" "rung" (xV 0)))) (sSeq (sTo (gT 3 (gsC (gN 3) (gsC (gN 4) (gsC (gN 5) gsN)))) (xFld "" "rung" (xV 0)))
    (sIf (xB (x2 eqD (xV 1) (xV 4))) (sPut "rung" (xV 0) (xC .none)) (sIf (tOr2 (xB (x2 eqD (xV 1) (xV 3))) (tNot1 (tTru (x2 ixD (xFld "" "setting" (xV 0)) (xC (.int 1)))))) (sSeq (sToH (hT 2 (hsC (hSub "rung" 0) (hsC (hSub "in" 0) hsN))) (xTup (aC (xC .none) (aC (xLst (aC (xV 1) aN)) aN))))
    (sPut "out" (xV 0) (xIf (xB (x2 eqD (xFld "" "out" (xV 0)) (xC (.str "rings")))) (xC (.str "talks")) (xFld "" "out" (xV 0))))) sNil))) (sIf (tOr2 (xB (x2 neD (xFld "" "out" (xV 0)) (xC (.str "")))) (xB (x2 neD (xFld "" "in" (xV 0)) (xLst aN)))) (sPut "in" (xV 0) (x2 addD (xFld "" "in" (xV 0)) (x2 mulD (xLst (aC (xV 1) aN)) (x1 intOfD (xV 2))))) (sIf (tAnd2 (xB (x1t notND (xFld "" "asker" (xV 0)))) (tAnd2 (xB (x1t isND (xFld "" "dialled" (xV 0)))) (tNot1 (tTru (x2 ixD (xFld "" "setting" (xV 0)) (xC (.int 1))))))) (sToH (hT 2 (hsC (hSub "in" 0) (hsC (hSub "asker" 0) hsN))) (xTup (aC (xLst (aC (xFld "" "asker" (xV 0)) (aC (xV 1) aN))) (aC (xC .none) aN)))) sNil)))
      [.val (refD n), .val (.int (h : Int)), .val (.bool (L.isLet h)), .no, .no, .no] (s.set n (recS { L with off := L.off ++ [h] })) = .next ρ' (s.set n (recS (L.lift1 h))) by
    obtain ⟨ρ', r0, r1, e⟩ := e
    refine run_ret (seq_next (ρ1 := [.val (refD n), .val (.int (h : Int)), .val (.bool (L.isLet h)), .no, .no, .no]) (s1 := s.set n (recS L)) ?_ (seq_next (ρ1 := [.val (refD n), .val (.int (h : Int)), .val (.bool (L.isLet h)), .no, .no, .no]) (s1 := s.set n (recS { L with off := L.off ++ [h] })) ?_ (seq_next e (seq_next (ρ1 := ρ') (s1 := s.set n (recS (L.lift h))) ?_ ?_))))
    · unfold Ln.isLet
      cases h1 : L.S.priv <;> simp [hn, rS_setting, rS_let, Stg.d, h1]
    · simp [hn, rS_off, le_size, hz]
      rw [c1, pS_off_1 hn]
      rfl
    · simp [hn, r0, hs]
    · simp [hn, r0, r1, hd]
  rcases Option.eq_none_or_eq_some L.rung with hr | ⟨⟨c, b, t⟩, hr⟩
  · refine ⟨[.val (refD n), .val (.int (h : Int)), .val (.bool (L.isLet h)), .no, .no, .no], rfl, rfl, ?_⟩
    have hr1 : L.rung.isNone = true := by rw [hr]; rfl
    have hr' : L.rung.isSome = false := by rw [hr]; rfl
    by_cases ho : L.out = .no ∧ L.ins = []
    · obtain ⟨ho, hi⟩ := ho
      have ho1 := eq_true ho
      have hi1 : L.ins.isEmpty = true := by rw [hi]; rfl
      have e0 : ¬ (L.out ≠ .no ∨ L.ins ≠ []) := fun z => z.elim (fun z => z ho) (fun z => z hi)
      rcases Option.eq_none_or_eq_some L.asker with ha | ⟨a, ha⟩
      · have ha1 : L.asker.isNone = true := by rw [ha]; rfl
        have e1 : L.lift1 h = { L with off := L.off ++ [h] } := by
          unfold Ln.lift1
          rw [if_neg (by rw [hr']; decide), if_neg e0, ha]
        rw [e1]
        simp [hn, rS_rung, -Option.isNone_iff_eq_none, -List.isEmpty_iff, hr1, rS_out, ho1, rS_in, hi1, rS_asker, ha1, le_size]
      · have ha1 : L.asker.isNone = false := by rw [ha]; rfl
        have ha2 : optD L.asker = .int (a : Int) := by rw [ha]; rfl
        by_cases hd : L.dialled = none ∧ L.S.priv = false
        · have hd1 : L.dialled.isNone = true := by rw [hd.1]; rfl
          have e1 : L.lift1 h = { L with off := L.off ++ [h], ins := [a, h], asker := none } := by
            unfold Ln.lift1
            rw [if_neg (by rw [hr']; decide), if_neg e0, ha]
            simp only
            rw [if_pos hd]
          rw [e1]
          simp [hn, rS_rung, -Option.isNone_iff_eq_none, -List.isEmpty_iff, hr1, rS_out, ho1, rS_in, hi1, rS_asker, ha1, ha2, rS_dialled, hd1, rS_setting, Stg.d, hd.2, le_size, pS_in_2, pS_asker_1]
        · have e1 : L.lift1 h = { L with off := L.off ++ [h] } := by
            unfold Ln.lift1
            rw [if_neg (by rw [hr']; decide), if_neg e0]
            split
            · rw [if_neg hd]
            · rfl
          rw [e1]
          cases h1 : L.dialled.isNone with
          | false => simp [hn, rS_rung, -Option.isNone_iff_eq_none, -List.isEmpty_iff, hr1, rS_out, ho1, rS_in, hi1, rS_asker, ha1, rS_dialled, h1, le_size]
          | true =>
            have hp : L.S.priv = true := by
              cases z : L.S.priv with
              | true => rfl
              | false => exact absurd ⟨by simpa using h1, z⟩ hd
            simp [hn, rS_rung, -Option.isNone_iff_eq_none, -List.isEmpty_iff, hr1, rS_out, ho1, rS_in, hi1, rS_asker, ha1, rS_dialled, h1, rS_setting, Stg.d, hp, le_size]
    · have ho' : L.out ≠ .no ∨ L.ins ≠ [] := by
        by_cases z : L.out = .no
        · exact .inr fun z2 => ho ⟨z, z2⟩
        · exact .inl z
      have e1 : L.lift1 h = if L.isLet h = true then { L with off := L.off ++ [h], ins := L.ins ++ [h] } else { L with off := L.off ++ [h] } := by
        unfold Ln.lift1
        rw [if_neg (by rw [hr']; decide), if_pos ho']
      rw [e1]
      have m1 : mulD (.list [.int (h : Int)]) (.int 1) = some (.list [.int (h : Int)]) := by rw [mulD_l, repOk_of (by omega) (by omega) (by show 1 * 1 ≤ 4096; decide)]; rfl
      have m0 : mulD (.list [.int (h : Int)]) (.int 0) = some (.list []) := by rw [mulD_l, repOk_of (by omega) (by omega) (by show 1 * 0 ≤ 4096; decide)]; rfl
      have i1 : intOfD (.bool true) = some (.int 1) := rfl
      have i0 : intOfD (.bool false) = some (.int 0) := rfl
      have p1 := pS_in_3 (s := s) (n := n) (L := { L with off := L.off ++ [h] }) hn (xs := L.ins ++ [h])
      rw [natsD_app, natsD_cons, natsD_nil] at p1
      have p0 := pS_in_3 (s := s) (n := n) (L := { L with off := L.off ++ [h] }) hn (xs := L.ins)
      by_cases z : L.out = .no
      · have z2 : L.ins.isEmpty = false := by
          cases q : L.ins with
          | nil => exact absurd ⟨z, q⟩ ho
          | cons _ _ => rfl
        have z1 := eq_true z
        cases hq : L.isLet h <;> simp [-mulD_l, hn, rS_rung, -Option.isNone_iff_eq_none, -List.isEmpty_iff, hr1, rS_out, z1, rS_in, z2, le_size, hz2, hz3, m1, m0, i1, i0, p1, p0]
      · have z1 := eq_false z
        cases hq : L.isLet h <;> simp [-mulD_l, hn, rS_rung, -Option.isNone_iff_eq_none, -List.isEmpty_iff, hr1, rS_out, z1, rS_in, le_size, hz2, hz3, m1, m0, i1, i0, p1, p0]
  · refine ⟨[.val (refD n), .val (.int (h : Int)), .val (.bool (L.isLet h)), .val (.int (c : Int)), .val (optD b), .val (.int t)], rfl, rfl, ?_⟩
    have hr' : L.rung.isSome = true := by rw [hr]; rfl
    have hr2 : rungD L.rung = .tuple [.int (c : Int), optD b, .int t] := by rw [hr]; rfl
    have e1 : L.lift1 h = ({ L with off := L.off ++ [h] } : Ln).answer h := by unfold Ln.lift1; rw [if_pos hr']
    have e2 : ({ L with off := L.off ++ [h] } : Ln).answer h = if b = some h then { L with off := L.off ++ [h], rung := none } else if h = c ∨ L.S.priv = false then { L with off := L.off ++ [h], rung := none, ins := [h], out := if L.out = .rings then .talks else L.out } else { L with off := L.off ++ [h] } := by
      simp only [Ln.answer, hr]
    rw [e1, e2]
    by_cases hb : b = some h
    · rw [if_pos hb]
      have hb' := eq_true hb
      simp [hn, rS_rung, hr2, hb', pS_rung_1]
    · rw [if_neg hb]
      have hb' := eq_false hb
      by_cases hc : h = c ∨ L.S.priv = false
      · rw [if_pos hc]
        have fin : ∀ (ρ : Env), (sSeq (sToH (hT 2 (hsC (hSub "rung" 0) (hsC (hSub "in" 0) hsN))) (xTup (aC (xC .none) (aC (xLst (aC (xV 1) aN)) aN))))
            (sPut "out" (xV 0) (xIf (xB (x2 eqD (xFld "" "out" (xV 0)) (xC (.str "rings")))) (xC (.str "talks")) (xFld "" "out" (xV 0))))) (.val (refD n) :: .val (.int (h : Int)) :: ρ) (s.set n (recS { L with off := L.off ++ [h] })) = .next (.val (refD n) :: .val (.int (h : Int)) :: ρ) (s.set n (recS { L with off := L.off ++ [h], rung := none, ins := [h], out := if L.out = .rings then .talks else L.out })) := by
          intro ρ
          by_cases h4 : L.out = .rings
          · have h4' := eq_true h4
            simp [hn, pS_rung_1, le_size, pS_in_1, rS_out, h4', pS_out_3]
          · have h4' := eq_false h4
            simp [hn, pS_rung_1, le_size, pS_in_1, rS_out, h4', pS_out_5]
        rw [if_t (s1 := s.set n (recS { L with off := L.off ++ [h] })) (by simp [hn, rS_rung, hr2])]
        refine seq_next (ρ1 := [.val (refD n), .val (.int (h : Int)), .val (.bool (L.isLet h)), .val (.int (c : Int)), .val (optD b), .val (.int t)]) (s1 := s.set n (recS { L with off := L.off ++ [h] })) (by simp [hn, rS_rung, hr2]) ?_
        rw [if_f (s1 := s.set n (recS { L with off := L.off ++ [h] })) (by simp [hb'])]
        rw [if_t (s1 := s.set n (recS { L with off := L.off ++ [h] })) ?_]
        · exact fin _
        · by_cases h3 : h = c
          · simp [h3]
          · have h3' : ¬ ((h : Int) = (c : Int)) := by omega
            have hp := hc.resolve_left h3
            simp [hn, h3, h3', rS_setting, Stg.d, hp]
      · rw [if_neg hc]
        have h3 : ¬ h = c := fun z => hc (.inl z)
        have h3' : ¬ ((h : Int) = (c : Int)) := by omega
        have hp : L.S.priv = true := by
          cases z : L.S.priv with
          | true => rfl
          | false => exact absurd (.inr z) hc
        simp [hn, rS_rung, hr2, hb', h3, h3', rS_setting, Stg.d, hp]
end
end M

/-! P28: the laws' own line, the rest. -/
namespace M
open PySem L2
theorem lit_h1 : litD [("hold", .str "talks"), ("take", .str "held")] (.str Wo.hold.s) = some (.str "talks") := by rfl
theorem lit_t1 : litD [("hold", .str "talks"), ("take", .str "held")] (.str Wo.take.s) = some (.str "held") := by rfl
theorem lit_h2 : litD [("hold", .str "held"), ("take", .str "talks")] (.str Wo.hold.s) = some (.str "held") := by rfl
theorem lit_t2 : litD [("hold", .str "held"), ("take", .str "talks")] (.str Wo.take.s) = some (.str "talks") := by rfl
section
variable {s : Sto} {n : Nat} {L : Ln} (hn : n < s.length)
include hn
theorem m__law_hang_e (k : L.Ok) {h : Nat} (hh : h < L.S.codes.length) (hf : h ∈ L.off) : m__law_hang [refD n, .int (h : Int)] (s.set n (recS L)) = .ok .none (s.set n (recS (L.hang h))) := by
  have hs := m__law_settle_e (s := s) (n := n) (L := L.hang1 h) hn
  rw [show (L.hang1 h).settle = L.hang h from rfl] at hs
  have c1 := fun s v0 v3 z => others_comp2 (s := s) (xs := L.off) (h := h) (v0 := v0) (v3 := v3) (z := z) (by have := k.offL; omega)
  have c2 := fun s v0 v3 z => others_comp2 (s := s) (xs := L.ins) (h := h) (v0 := v0) (v3 := v3) (z := z) (by have := k.insL; omega)
  unfold m__law_hang b__law_hang
  suffices e : ∃ ρ', ρ'[0]? = some (.val (refD n)) ∧ (sIf (xB (x2 eqD (xFld "" "asker" (xV 0)) (xV 1))) (sSeq (sToH (hT 3 (hsC (hN 3) (hsC (hSub "asker" 0) (hsC (hSub "dialled" 0) hsN)))) (xTup (aC (xFld "" "dialled" (xV 0)) (aC (xC .none) (aC (xC .none) aN)))))
    (sIf (tAnd2 (xB (x1t notND (xV 3))) (xB (x2 niD (xV 3) (xFld "" "off" (xV 0))))) (sToH (hT 2 (hsC (hSub "rung" 0) (hsC (hSub "let" 0) hsN))) (xTup (aC (xTup (aC (xV 3) (aC (xV 1) (aC (xFld "" "now" (xV 0)) aN)))) (aC (xLst (aC (xV 3) (aC (xV 1) aN))) aN)))) sNil)) (sIf (xB (x2 inD (xV 1) (xFld "" "in" (xV 0)))) (sSeq (sPut "in" (xV 0) (xComp (iAny (xFld "" "in" (xV 0))) (gN 2) (xB (x2 neD (xV 2) (xV 1))) (xV 2) [2]))
    (sIf (tAnd2 (xB (x2 eqD (xFld "" "in" (xV 0)) (xLst aN))) (xB (x2 eqD (xFld "" "out" (xV 0)) (xC (.str "talks"))))) (sPut "out" (xV 0) (xC (.str ""))) sNil)) sNil))
      [.val (refD n), .val (.int (h : Int)), .no, .no] (s.set n (recS { L with off := without L.off h })) = .next ρ' (s.set n (recS (L.hang1 h))) by
    obtain ⟨ρ', r0, e⟩ := e
    refine run_ret (seq_next (ρ1 := [.val (refD n), .val (.int (h : Int)), .no, .no]) (s1 := s.set n (recS { L with off := without L.off h })) ?_ (seq_next e (seq_next (ρ1 := ρ') (s1 := s.set n (recS (L.hang h))) ?_ ?_)))
    · simp [hn, rS_off, c1, pS_off_1]
    · simp [hn, r0, hs]
    · simp
  by_cases h1 : L.asker = some h
  · have h1' := eq_true h1
    refine ⟨[.val (refD n), .val (.int (h : Int)), .no, .val (optD L.dialled)], rfl, ?_⟩
    rw [if_t (s1 := s.set n (recS { L with off := without L.off h })) (by simp [hn, rS_asker, h1'])]
    refine seq_next (ρ1 := [.val (refD n), .val (.int (h : Int)), .no, .val (optD L.dialled)]) (s1 := s.set n (recS { L with off := without L.off h, asker := none, dialled := none })) (by simp [hn, rS_dialled, pS_asker_1, pS_dialled_1, le_size]) ?_
    rcases Option.eq_none_or_eq_some L.dialled with hd | ⟨o, hd⟩
    · have e1 : L.hang1 h = { L with off := without L.off h, asker := none, dialled := none } := by
        unfold Ln.hang1
        rw [if_pos h1, hd]
      rw [e1, if_f (s1 := s.set n (recS { L with off := without L.off h, asker := none, dialled := none })) (by simp [hd])]
      rfl
    · have hd2 : optD L.dialled = .int (o : Int) := by rw [hd]; rfl
      by_cases ho : o ∈ without L.off h
      · have e1 : L.hang1 h = { L with off := without L.off h, asker := none, dialled := none } := by
          unfold Ln.hang1
          rw [if_pos h1, hd]
          simp only
          rw [if_pos ho]
        rw [e1, if_f (s1 := s.set n (recS { L with off := without L.off h, asker := none, dialled := none })) (by simp [hn, hd2, rS_off, ho])]
        rfl
      · have e1 : L.hang1 h = { L with off := without L.off h, asker := none, dialled := none, rung := some (o, some h, L.now), lt := [o, h] } := by
          unfold Ln.hang1
          rw [if_pos h1, hd]
          simp only
          rw [if_neg ho]
        rw [e1, if_t (s1 := s.set n (recS { L with off := without L.off h, asker := none, dialled := none })) (by simp [hn, hd2, rS_off, ho])]
        simp [hn, hd2, rS_now, le_size, pS_rung_3, pS_let_2]
  · have h1' := eq_false h1
    refine ⟨[.val (refD n), .val (.int (h : Int)), .no, .no], rfl, ?_⟩
    rw [if_f (s1 := s.set n (recS { L with off := without L.off h })) (by simp [hn, rS_asker, h1'])]
    by_cases h2 : h ∈ L.ins
    · have e1 : L.hang1 h = { L with off := without L.off h, ins := without L.ins h, out := if without L.ins h = [] ∧ L.out = .talks then .no else L.out } := by
        unfold Ln.hang1
        rw [if_neg h1, if_pos h2]
      rw [e1, if_t (s1 := s.set n (recS { L with off := without L.off h })) (by simp [hn, rS_in, h2])]
      refine seq_next (ρ1 := [.val (refD n), .val (.int (h : Int)), .no, .no]) (s1 := s.set n (recS { L with off := without L.off h, ins := without L.ins h })) (by simp [hn, rS_in, c2, pS_in_3]) ?_
      by_cases h3 : without L.ins h = [] ∧ L.out = .talks
      · have h31 : (without L.ins h).isEmpty = true := by rw [h3.1]; rfl
        have h32 := eq_true h3.2
        have h33 := eq_true h3
        rw [if_t (s1 := s.set n (recS { L with off := without L.off h, ins := without L.ins h })) (by simp [hn, rS_in, -List.isEmpty_iff, h31, rS_out, h32, le_size])]
        rw [if_pos h3]
        simp [hn, pS_out_1]
      · rw [if_neg h3]
        have e3 : (tAnd2 (xB (x2 eqD (xFld "" "in" (xV 0)) (xLst aN))) (xB (x2 eqD (xFld "" "out" (xV 0)) (xC (.str "talks"))))) [.val (refD n), .val (.int (h : Int)), .no, .no] (s.set n (recS { L with off := without L.off h, ins := without L.ins h })) = .ok false (s.set n (recS { L with off := without L.off h, ins := without L.ins h })) := by
          by_cases h4 : without L.ins h = []
          · have h32 := eq_false (fun z => h3 ⟨h4, z⟩ : ¬ L.out = .talks)
            have h31 : (without L.ins h).isEmpty = true := by rw [h4]; rfl
            simp [hn, rS_in, -List.isEmpty_iff, h31, rS_out, h32, le_size]
          · have h31 : (without L.ins h).isEmpty = false := by
              cases q : without L.ins h with
              | nil => exact absurd q h4
              | cons _ _ => rfl
            simp [hn, rS_in, -List.isEmpty_iff, h31, le_size]
        rw [if_f e3]
        rfl
    · have e1 : L.hang1 h = { L with off := without L.off h } := by
        unfold Ln.hang1
        rw [if_neg h1, if_neg h2]
      rw [e1, if_f (s1 := s.set n (recS { L with off := without L.off h })) (by simp [hn, rS_in, h2])]
      rfl
theorem m__law_tick_e : m__law_tick [refD n] (s.set n (recS L)) = .ok .none (s.set n (recS L.tick)) := by
  rcases Option.eq_none_or_eq_some L.rung with hr | ⟨q, hr⟩
  · have e : L.tick = { L with now := L.now + 1 } := by unfold Ln.tick; rw [hr]
    have hr1 : L.rung.isNone = true := by rw [hr]; rfl
    rw [e]
    simp [m__law_tick, b__law_tick, hn, rS_now, pS_now_1, rS_rung, -Option.isNone_iff_eq_none, hr1]
  · obtain ⟨c, b, t⟩ := q
    have hr2 : rungD L.rung = .tuple [.int (c : Int), optD b, .int t] := by rw [hr]; rfl
    by_cases hp : L.S.pat ≤ L.now + 1 - t
    · have e : L.tick = ({ L with now := L.now + 1, rung := none, out := .no } : Ln).settle := by unfold Ln.tick; rw [hr]; simp only; rw [if_pos hp]
      rw [e]
      have hs := m__law_settle_e (s := s) (n := n) (L := { L with now := L.now + 1, rung := none, out := .no }) hn
      simp [m__law_tick, b__law_tick, hn, rS_now, pS_now_1, rS_rung, hr2, rS_setting, Stg.d, hp, pS_rung_1, pS_out_1, hs, le_size]
    · have e : L.tick = { L with now := L.now + 1 } := by unfold Ln.tick; rw [hr]; simp only; rw [if_neg hp]
      rw [e]
      simp [m__law_tick, b__law_tick, hn, rS_now, pS_now_1, rS_rung, hr2, rS_setting, Stg.d, hp]
/-! ### deeds -/
omit hn in
theorem ai_in {L : Ln} {s : Sto} {a : Ag} : m__law_in [a.d, .int 0, .int ((L.S.codes.length : Int) - 1)] s = .ok (.bool (a.hs L.S.codes.length).isSome) s := law_in_ag
theorem inside_ht (w : Wo) (hw : w = .hold ∨ w = .take) {h : Nat} {z : D} : m__law_told_inside [refD n, .str w.s, .int (h : Int), z] (s.set n (recS L)) = (if h ∈ L.ins ∧ L.out = (if w = .hold then .talks else .held) then .ok .none (s.set n (recS { L with out := if w = .hold then .held else .talks })) else .ok (.str "talk") (s.set n (recS L))) := by
  rcases hw with rfl | rfl
  · by_cases h1 : h ∈ L.ins
    · by_cases h2 : L.out = .talks
      · have h2' := eq_true h2
        simp [m__law_told_inside, b__law_told_inside, hn, rS_in, h1, rS_out, h2', lit_h1, lit_h2, pS_out_4, le_size]
      · have h2' := eq_false h2
        simp [m__law_told_inside, b__law_told_inside, hn, rS_in, h1, rS_out, h2', lit_h1, lit_h2, le_size]
    · simp [m__law_told_inside, b__law_told_inside, hn, rS_in, h1, lit_h1, lit_h2, le_size]
  · by_cases h1 : h ∈ L.ins
    · by_cases h2 : L.out = .held
      · have h2' := eq_true h2
        simp [m__law_told_inside, b__law_told_inside, hn, rS_in, h1, rS_out, h2', lit_t1, lit_t2, pS_out_3, le_size]
      · have h2' := eq_false h2
        simp [m__law_told_inside, b__law_told_inside, hn, rS_in, h1, rS_out, h2', lit_t1, lit_t2, le_size]
    · simp [m__law_told_inside, b__law_told_inside, hn, rS_in, h1, lit_t1, lit_t2, le_size]
theorem inside_to (w : Wo) (hw : w = .out ∨ w = .dial) {h : Nat} {z : D} (ht : ¬ (L.asker = some h ∧ L.dialled = none)) : m__law_told_inside [refD n, .str w.s, .int (h : Int), z] (s.set n (recS L)) = .ok (.str "tone") (s.set n (recS L)) := by
  by_cases h1 : L.asker = some h
  · have h2 : L.dialled.isNone = false := by
      cases z : L.dialled with
      | none => exact absurd ⟨h1, z⟩ ht
      | some _ => rfl
    have h1' := eq_true h1
    rcases hw with rfl | rfl <;> simp [m__law_told_inside, b__law_told_inside, hn, rS_asker, h1', rS_dialled, -Option.isNone_iff_eq_none, h2, le_size]
  · have h1' := eq_false h1
    rcases hw with rfl | rfl <;> simp [m__law_told_inside, b__law_told_inside, hn, rS_asker, h1', le_size]
theorem inside_out {h : Nat} {z : D} (h1 : L.asker = some h) (h2 : L.dialled = none) : m__law_told_inside [refD n, .str Wo.out.s, .int (h : Int), z] (s.set n (recS L)) = .ok .none (s.set n (recS (L.callOut h))) := by
  have h1' := eq_true h1
  have h2' : L.dialled.isNone = true := by rw [h2]; rfl
  simp [m__law_told_inside, b__law_told_inside, hn, rS_asker, h1', rS_dialled, -Option.isNone_iff_eq_none, h2', le_size, pS_asker_1, pS_in_1, pS_out_3, Ln.callOut]
theorem inside_dial_no {h : Nat} {b : Ag} (h1 : L.asker = some h) (h2 : L.dialled = none) (hb : b.hs L.S.codes.length = none) : m__law_told_inside [refD n, .str Wo.dial.s, .int (h : Int), .tuple [.int (h : Int), b.d]] (s.set n (recS L)) = .ok (.str "house") (s.set n (recS L)) := by
  have h1' := eq_true h1
  have h2' : L.dialled.isNone = true := by rw [h2]; rfl
  simp [m__law_told_inside, b__law_told_inside, hn, rS_asker, h1', rS_dialled, -Option.isNone_iff_eq_none, h2', le_size, rS_setting, ai_in (L := L), hb]
theorem inside_dial_e {h o : Nat} (h1 : L.asker = some h) (h2 : L.dialled = none) (ho : o < L.S.codes.length) : m__law_told_inside [refD n, .str Wo.dial.s, .int (h : Int), .tuple [.int (h : Int), .int (o : Int)]] (s.set n (recS L)) = if o = h then .ok (.str "house") (s.set n (recS L)) else .ok .none (s.set n (recS (L.dial o))) := by
  have h1' := eq_true h1
  have h2' : L.dialled.isNone = true := by rw [h2]; rfl
  have hb : (Ag.i (o : Int)).hs L.S.codes.length = some o := by simp [Ag.hs]; omega
  have hi : ∀ s, m__law_in [.int (o : Int), .int 0, .int ((L.S.codes.length : Int) - 1)] s = .ok (.bool true) s := fun s => by
    have := ai_in (L := L) (s := s) (a := .i (o : Int))
    rw [hb] at this
    exact this
  by_cases hne : o = h
  · subst hne
    simp [m__law_told_inside, b__law_told_inside, hn, rS_asker, h1', rS_dialled, -Option.isNone_iff_eq_none, h2', le_size, rS_setting, hi]
  · have hne' : ¬ ((o : Int) = (h : Int)) := by omega
    simp [m__law_told_inside, b__law_told_inside, hn, rS_asker, h1', rS_dialled, -Option.isNone_iff_eq_none, h2', le_size, rS_setting, hi, hne, hne', pS_dialled_2, Ln.dial]
omit hn in
theorem within_hs {L : Ln} {h : Nat} (hh : h < L.S.codes.length) (s : Sto) : m__law_in [.int (h : Int), .int 0, .int ((L.S.codes.length : Int) - 1)] s = .ok (.bool true) s := by
  have hb : (Ag.i (h : Int)).hs L.S.codes.length = some h := by simp [Ag.hs]; omega
  have := ai_in (L := L) (s := s) (a := .i (h : Int))
  rw [hb] at this
  exact this
theorem m__law_told_e (k : L.Ok) (x : Dd) : m__law_told [refD n, x.d] (s.set n (recS L)) = .ok (L.step x).1.w (s.set n (recS (L.step x).2)) := by
  have io1 : intOfD (.bool true) = some (.int 1) := rfl
  have io0 : intOfD (.bool false) = some (.int 0) := rfl
  have eb : ∀ a b : Bool, eqD (.bool a) (.bool b) = some (.bool (decide (a = b))) := fun a b => eqD_b
  cases x with
  | tick => simp [m__law_told, b__law_told, Dd.d, cut1, m__law_tick_e hn, Ln.step, Tl.w, le_size]
  | ends =>
    by_cases h : L.out = .no
    · have h' := eq_true h
      simp [m__law_told, b__law_told, Dd.d, cut1, hn, rS_out, h', Ln.step, Tl.w, Rf.w, le_size]
    · have h' := eq_false h
      have hs := m__law_settle_e (s := s) (n := n) (L := L.ends1) hn
      rw [show (L.ends1).settle = L.ends from rfl] at hs
      by_cases h2 : L.out = .rings
      · have h2' := eq_true h2
        have e : L.ends1 = { L with rung := none, out := .no } := by unfold Ln.ends1; rw [if_pos h2]
        rw [e] at hs
        simp [m__law_told, b__law_told, Dd.d, cut1, hn, rS_out, h', h2', pS_rung_1, pS_out_1, hs, Ln.step, Tl.w, le_size]
      · have h2' := eq_false h2
        have e : L.ends1 = { L with out := .no } := by unfold Ln.ends1; rw [if_neg h2]
        rw [e] at hs
        simp [m__law_told, b__law_told, Dd.d, cut1, hn, rS_out, h', h2', rS_rung, pS_rung_4, pS_out_1, hs, Ln.step, Tl.w, le_size]
  | lift a =>
    rcases Option.eq_none_or_eq_some (a.hs L.S.codes.length) with e | ⟨h, e⟩
    · simp [m__law_told, b__law_told, Dd.d, cut1, hn, rS_setting, ai_in (L := L), e, Ln.step, Ln.byH, Tl.w, Rf.w, le_size]
    · obtain ⟨rfl, hh⟩ := Ag.hs_to e
      by_cases hf : h ∈ L.off
      · simp [m__law_told, b__law_told, Dd.d, cut1, hn, rS_setting, within_hs hh, rS_off, hf, io1, Ln.step, Ln.byH, e, Tl.w, Rf.w, le_size]
      · simp [m__law_told, b__law_told, Dd.d, cut1, hn, rS_setting, within_hs hh, rS_off, hf, m__law_lift_e hn k hh hf, Ln.step, Ln.byH, e, Tl.w, le_size]
  | hang a =>
    rcases Option.eq_none_or_eq_some (a.hs L.S.codes.length) with e | ⟨h, e⟩
    · simp [m__law_told, b__law_told, Dd.d, cut1, hn, rS_setting, ai_in (L := L), e, Ln.step, Ln.byH, Tl.w, Rf.w, le_size]
    · obtain ⟨rfl, hh⟩ := Ag.hs_to e
      by_cases hf : h ∈ L.off
      · simp [m__law_told, b__law_told, Dd.d, cut1, hn, rS_setting, within_hs hh, rS_off, hf, m__law_hang_e hn k hh hf, Ln.step, Ln.byH, e, Tl.w, le_size]
      · simp [m__law_told, b__law_told, Dd.d, cut1, hn, rS_setting, within_hs hh, rS_off, hf, io0, Ln.step, Ln.byH, e, Tl.w, Rf.w, le_size]
  | call a =>
    rcases Option.eq_none_or_eq_some (a.hs L.S.codes.length) with e | ⟨h, e⟩
    · simp [m__law_told, b__law_told, Dd.d, cut1, hn, rS_setting, ai_in (L := L), e, Ln.step, Ln.byH, Tl.w, Rf.w, le_size]
    · obtain ⟨rfl, hh⟩ := Ag.hs_to e
      cases hi : L.idle with
      | true =>
        obtain ⟨s1, s2⟩ := k.set hi
        have hs := m__law_settle_e (s := s) (n := n) (L := { L with queue := [h] }) hn
        have e2 : ({ L with queue := [h] } : Ln).settle = L.ringFor h := by
          unfold Ln.settle
          rw [if_pos (show ({ L with queue := [h] } : Ln).idle = true from hi), if_pos (by show L.off.isEmpty = true; rw [s1]; rfl)]
          show ({ L with queue := [] } : Ln).ringFor h = L.ringFor h
          rw [← s2]
        rw [e2] at hs
        simp [m__law_told, b__law_told, Dd.d, cut1, hn, rS_setting, within_hs hh, m__law_is_idle_e hn, hi, pS_queue_2, hs, Ln.step, Ln.byH, e, Tl.w, le_size]
      | false =>
        by_cases hq : L.queue.length = 3
        · simp [m__law_told, b__law_told, Dd.d, cut1, hn, rS_setting, within_hs hh, m__law_is_idle_e hn, hi, rS_queue, hq, Ln.step, Ln.byH, e, Tl.w, le_size]
        · have hq' : ¬ ((L.queue.length : Int) = 3) := by omega
          have hz : L.queue.length + 1 ≤ sizeLine := le_size (by have := k.queL; omega)
          have p1 := pS_queue_1 (s := s) (n := n) (L := L) hn (xs := L.queue ++ [h])
          rw [natsD_app, natsD_cons, natsD_nil] at p1
          simp [m__law_told, b__law_told, Dd.d, cut1, hn, rS_setting, within_hs hh, m__law_is_idle_e hn, hi, rS_queue, hq, hq', hz, p1, Ln.step, Ln.byH, e, Tl.w, le_size, Ln.wait]
  | hold a =>
    rcases Option.eq_none_or_eq_some (a.hs L.S.codes.length) with e | ⟨h, e⟩
    · simp [m__law_told, b__law_told, Dd.d, cut1, hn, rS_setting, ai_in (L := L), e, Ln.step, Ln.byH, Tl.w, Rf.w, le_size]
    · obtain ⟨rfl, hh⟩ := Ag.hs_to e
      have hi := fun z => inside_ht (s := s) (n := n) (L := L) hn .hold (.inl rfl) (h := h) (z := z)
      simp only [if_true] at hi
      by_cases ht : h ∈ L.ins ∧ L.out = .talks
      · have ht' : (h ∈ L.ins ∧ L.out = .talks) = True := eq_true ht
        simp [m__law_told, b__law_told, Dd.d, cut1, hn, rS_setting, within_hs hh, hi, ht', Ln.step, Ln.byH, e, Tl.w, le_size, Ln.turn]
      · have ht' : (h ∈ L.ins ∧ L.out = .talks) = False := eq_false ht
        simp [m__law_told, b__law_told, Dd.d, cut1, hn, rS_setting, within_hs hh, hi, ht', Ln.step, Ln.byH, e, Tl.w, Rf.w, le_size]
  | take a =>
    rcases Option.eq_none_or_eq_some (a.hs L.S.codes.length) with e | ⟨h, e⟩
    · simp [m__law_told, b__law_told, Dd.d, cut1, hn, rS_setting, ai_in (L := L), e, Ln.step, Ln.byH, Tl.w, Rf.w, le_size]
    · obtain ⟨rfl, hh⟩ := Ag.hs_to e
      have hi := fun z => inside_ht (s := s) (n := n) (L := L) hn .take (.inr rfl) (h := h) (z := z)
      rw [if_neg (by decide : ¬ (Wo.take = Wo.hold)), if_neg (by decide : ¬ (Wo.take = Wo.hold))] at hi
      by_cases ht : h ∈ L.ins ∧ L.out = .held
      · have ht' : (h ∈ L.ins ∧ L.out = .held) = True := eq_true ht
        simp [m__law_told, b__law_told, Dd.d, cut1, hn, rS_setting, within_hs hh, hi, ht', Ln.step, Ln.byH, e, Tl.w, le_size, Ln.turn]
      · have ht' : (h ∈ L.ins ∧ L.out = .held) = False := eq_false ht
        simp [m__law_told, b__law_told, Dd.d, cut1, hn, rS_setting, within_hs hh, hi, ht', Ln.step, Ln.byH, e, Tl.w, Rf.w, le_size]
  | out a =>
    rcases Option.eq_none_or_eq_some (a.hs L.S.codes.length) with e | ⟨h, e⟩
    · simp [m__law_told, b__law_told, Dd.d, cut1, hn, rS_setting, ai_in (L := L), e, Ln.step, Ln.byH, Tl.w, Rf.w, le_size]
    · obtain ⟨rfl, hh⟩ := Ag.hs_to e
      by_cases ht : L.asker = some h ∧ L.dialled = none
      · have ht' : (L.asker = some h ∧ L.dialled = none) = True := eq_true ht
        simp [m__law_told, b__law_told, Dd.d, cut1, hn, rS_setting, within_hs hh, inside_out hn ht.1 ht.2, Ln.step, Ln.byH, e, ht', Tl.w, le_size]
      · have ht' : (L.asker = some h ∧ L.dialled = none) = False := eq_false ht
        simp [m__law_told, b__law_told, Dd.d, cut1, hn, rS_setting, within_hs hh, inside_to hn .out (.inl rfl) ht, Ln.step, Ln.byH, e, ht', Tl.w, Rf.w, le_size]
  | dial a b =>
    rcases Option.eq_none_or_eq_some (a.hs L.S.codes.length) with e | ⟨h, e⟩
    · simp [m__law_told, b__law_told, Dd.d, cut1, hn, rS_setting, ai_in (L := L), e, Ln.step, Ln.byH, Tl.w, Rf.w, le_size]
    · obtain ⟨rfl, hh⟩ := Ag.hs_to e
      by_cases ht : L.asker = some h ∧ L.dialled = none
      · have ht' : (L.asker = some h ∧ L.dialled = none) = True := eq_true ht
        rcases Option.eq_none_or_eq_some (b.hs L.S.codes.length) with e2 | ⟨o, e2⟩
        · simp [m__law_told, b__law_told, Dd.d, cut1, hn, rS_setting, within_hs hh, inside_dial_no hn ht.1 ht.2 e2, Ln.step, Ln.byH, e, e2, ht', Tl.w, Rf.w, le_size]
        · obtain ⟨rfl, ho⟩ := Ag.hs_to e2
          have hi := inside_dial_e (s := s) (n := n) (L := L) hn ht.1 ht.2 ho
          by_cases hne : o = h
          · rw [if_pos hne] at hi
            simp [m__law_told, b__law_told, Dd.d, cut1, hn, rS_setting, within_hs hh, hi, Ln.step, Ln.byH, e, e2, ht', hne, Tl.w, Rf.w, le_size]
            subst hne
            simp [hi]
          · rw [if_neg hne] at hi
            simp [m__law_told, b__law_told, Dd.d, cut1, hn, rS_setting, within_hs hh, hi, Ln.step, Ln.byH, e, e2, ht', hne, Tl.w, le_size]
      · have ht' : (L.asker = some h ∧ L.dialled = none) = False := eq_false ht
        simp [m__law_told, b__law_told, Dd.d, cut1, hn, rS_setting, within_hs hh, inside_to hn .dial (.inr rfl) ht, Ln.step, Ln.byH, e, ht', Tl.w, Rf.w, le_size]
end
end M

/-! P29: a line's beginning; deeds that are drawn. -/
namespace M
open PySem L2
def ln0 (S : Stg) : Ln := ⟨S, 0, [], none, none, none, .no, [], [], []⟩
theorem ln0_ok {S : Stg} (h : S.Ok) : (ln0 S).Ok :=
  { S := h, offN := List.nodup_nil, offB := fun x hx => (by cases hx), insN := List.nodup_nil, insO := fun x hx => (by cases hx), askO := fun a e => (by cases e), ask0 := fun a e => (by cases e), dia := fun a e => (by cases e), rng := fun c b t e => (by cases e), rg := fun c b t e => (by cases e), rg2 := fun e => (by cases e), tk := fun e => (by cases e), queL := Nat.zero_le _, queB := fun x hx => (by cases hx), set := fun _ => ⟨rfl, rfl⟩ }
theorem recOf_app {c : Str} {s : Sto} {r : Rec} (h : r.c = c) : recOf c (s ++ [r]) (refD s.length) = some (s.length, r) := by
  unfold recOf
  rw [refOf_ref]
  show ((s ++ [r])[s.length]?).bind _ = _
  rw [List.getElem?_append_right (Nat.le_refl _)]
  simp [h]
theorem set_app {s : Sto} {r r' : Rec} : (s ++ [r]).set s.length r' = s ++ [r'] := by
  rw [List.set_append]
  simp
theorem fldPut_app {c f : Str} {s : Sto} {r r' : Rec} {sl : Slot} (h : r.c = c) (hl : r.fs.length < 900) (e : (⟨r.c, putS f sl r.fs⟩ : Rec) = r') : fldPut c f (s ++ [r]) (refD s.length) sl = some (s ++ [r']) := by
  unfold fldPut
  rw [recOf_app h]
  show (if r.fs.length < 900 then some ((s ++ [r]).set s.length (⟨r.c, putS f sl r.fs⟩ : Rec)) else none) = _
  rw [if_pos hl, e, set_app]
theorem dPut_app {f : Str} {s : Sto} {r r' : Rec} {d : D} (h : r.c = "") (hl : r.fs.length < 900) (hk : decide ((r.fs.map (·.1)).Nodup) = true) (e : (⟨r.c, putS f (.val d) r.fs⟩ : Rec) = r') : dPut f (s ++ [r]) (refD s.length) d = some (s ++ [r']) := by
  unfold dPut
  have e1 : ndK (s ++ [r]) (refD s.length) = true := by
    unfold ndK
    rw [recOf_app h]
    exact hk
  rw [if_pos e1, fldPut_app h hl e]
def recS7 (S : Stg) : Rec := ⟨"", [("setting", .val S.d), ("now", .val (.int 0)), ("off", .val (.list [])), ("asker", .val .none), ("dialled", .val .none), ("rung", .val .none), ("out", .val (.str ""))]⟩
theorem m__law_start_e {S : Stg} {s : Sto} : m__law_start [S.d] s = .ok (refD s.length) (s ++ [recS (ln0 S)]) := by
  have e1 : dPut "in" (s ++ [recS7 S]) (refD s.length) (.list []) = some (s ++ [⟨"", putS "in" (.val (.list [])) (recS7 S).fs⟩]) := dPut_app rfl (by show 7 < 900; decide) (by rw [show (List.map (·.1) (_ : List (Str × Slot))) = (["setting", "now", "off", "asker", "dialled", "rung", "out"] : List Str) from rfl]; decide +kernel) rfl
  have e2 : dPut "queue" (s ++ [⟨"", putS "in" (.val (.list [])) (recS7 S).fs⟩]) (refD s.length) (.list []) = some (s ++ [⟨"", putS "queue" (.val (.list [])) (putS "in" (.val (.list [])) (recS7 S).fs)⟩]) := dPut_app rfl (by show 8 < 900; decide) (by rw [show (List.map (·.1) (_ : List (Str × Slot))) = (["setting", "now", "off", "asker", "dialled", "rung", "out", "in"] : List Str) from rfl]; decide +kernel) rfl
  have e3 : dPut "let" (s ++ [⟨"", putS "queue" (.val (.list [])) (putS "in" (.val (.list [])) (recS7 S).fs)⟩]) (refD s.length) (.list []) = some (s ++ [recS (ln0 S)]) := dPut_app rfl (by show 9 < 900; decide) (by rw [show (List.map (·.1) (_ : List (Str × Slot))) = (["setting", "now", "off", "asker", "dialled", "rung", "out", "in", "queue"] : List Str) from rfl]; decide +kernel) rfl
  have e0 : xRec ["setting", "now", "off", "asker", "dialled", "rung", "out"] (aC (xV 0) (aC (xC (.int 0)) (aC (xLst aN) (aC (xC .none) (aC (xC .none) (aC (xC .none) (aC (xC (.str "")) aN))))))) [.val S.d, .no] s = .ok (refD s.length) (s ++ [recS7 S]) := by
    simp [xRec, le_size]
    rfl
  unfold m__law_start b__law_start
  refine run_ret (seq_next (ρ1 := [.val S.d, .val (refD s.length)]) (s1 := s ++ [recS7 S]) ?_ (seq_next (ρ1 := [.val S.d, .val (refD s.length)]) (s1 := s ++ [recS (ln0 S)]) ?_ ?_))
  · rw [show startD 2 [S.d] = [.val S.d, .no] from rfl, sSet_e, stX_e, e0]
    rfl
  · simp [le_size, e1, e2, e3]
  · simp
theorem make_line {S : Stg} (h : S.Ok) {s : Sto} : m_Line___init__ [refD s.length, S.d] (s ++ [⟨"Line", []⟩]) = .ok .none (s ++ [recL (ln0 S)]) := by
  have e0 : fldPut "Line" "setting" (s ++ [⟨"Line", []⟩]) (refD s.length) (.val S.d) = some (s ++ [⟨"Line", [("setting", .val S.d)]⟩]) := fldPut_app rfl (by show 0 < 900; decide) rfl
  have e1 : fldPut "Line" "tick_now" (s ++ [⟨"Line", [("setting", .val S.d)]⟩]) (refD s.length) (.val (.int 0)) = some (s ++ [⟨"Line", [("setting", .val S.d), ("tick_now", .val (.int 0))]⟩]) := fldPut_app rfl (by show 1 < 900; decide) rfl
  have e2 : fldPut "Line" "off" (s ++ [⟨"Line", [("setting", .val S.d), ("tick_now", .val (.int 0))]⟩]) (refD s.length) (.own []) = some (s ++ [⟨"Line", [("setting", .val S.d), ("tick_now", .val (.int 0)), ("off", .own [])]⟩]) := fldPut_app rfl (by show 2 < 900; decide) rfl
  have e3 : fldPut "Line" "asker" (s ++ [⟨"Line", [("setting", .val S.d), ("tick_now", .val (.int 0)), ("off", .own [])]⟩]) (refD s.length) (.val .none) = some (s ++ [⟨"Line", [("setting", .val S.d), ("tick_now", .val (.int 0)), ("off", .own []), ("asker", .val .none)]⟩]) := fldPut_app rfl (by show 3 < 900; decide) rfl
  have e4 : fldPut "Line" "dialled" (s ++ [⟨"Line", [("setting", .val S.d), ("tick_now", .val (.int 0)), ("off", .own []), ("asker", .val .none)]⟩]) (refD s.length) (.val .none) = some (s ++ [⟨"Line", [("setting", .val S.d), ("tick_now", .val (.int 0)), ("off", .own []), ("asker", .val .none), ("dialled", .val .none)]⟩]) := fldPut_app rfl (by show 4 < 900; decide) rfl
  have e5 : fldPut "Line" "rung" (s ++ [⟨"Line", [("setting", .val S.d), ("tick_now", .val (.int 0)), ("off", .own []), ("asker", .val .none), ("dialled", .val .none)]⟩]) (refD s.length) (.val .none) = some (s ++ [⟨"Line", [("setting", .val S.d), ("tick_now", .val (.int 0)), ("off", .own []), ("asker", .val .none), ("dialled", .val .none), ("rung", .val .none)]⟩]) := fldPut_app rfl (by show 5 < 900; decide) rfl
  have e6 : fldPut "Line" "outside" (s ++ [⟨"Line", [("setting", .val S.d), ("tick_now", .val (.int 0)), ("off", .own []), ("asker", .val .none), ("dialled", .val .none), ("rung", .val .none)]⟩]) (refD s.length) (.val (.str "")) = some (s ++ [⟨"Line", [("setting", .val S.d), ("tick_now", .val (.int 0)), ("off", .own []), ("asker", .val .none), ("dialled", .val .none), ("rung", .val .none), ("outside", .val (.str ""))]⟩]) := fldPut_app rfl (by show 6 < 900; decide) rfl
  have e7 : fldPut "Line" "inside" (s ++ [⟨"Line", [("setting", .val S.d), ("tick_now", .val (.int 0)), ("off", .own []), ("asker", .val .none), ("dialled", .val .none), ("rung", .val .none), ("outside", .val (.str ""))]⟩]) (refD s.length) (.own []) = some (s ++ [⟨"Line", [("setting", .val S.d), ("tick_now", .val (.int 0)), ("off", .own []), ("asker", .val .none), ("dialled", .val .none), ("rung", .val .none), ("outside", .val (.str "")), ("inside", .own [])]⟩]) := fldPut_app rfl (by show 7 < 900; decide) rfl
  have e8 : fldPut "Line" "queue" (s ++ [⟨"Line", [("setting", .val S.d), ("tick_now", .val (.int 0)), ("off", .own []), ("asker", .val .none), ("dialled", .val .none), ("rung", .val .none), ("outside", .val (.str "")), ("inside", .own [])]⟩]) (refD s.length) (.own []) = some (s ++ [⟨"Line", [("setting", .val S.d), ("tick_now", .val (.int 0)), ("off", .own []), ("asker", .val .none), ("dialled", .val .none), ("rung", .val .none), ("outside", .val (.str "")), ("inside", .own []), ("queue", .own [])]⟩]) := fldPut_app rfl (by show 8 < 900; decide) rfl
  have e9 : fldPut "Line" "let" (s ++ [⟨"Line", [("setting", .val S.d), ("tick_now", .val (.int 0)), ("off", .own []), ("asker", .val .none), ("dialled", .val .none), ("rung", .val .none), ("outside", .val (.str "")), ("inside", .own []), ("queue", .own [])]⟩]) (refD s.length) (.val (.list [])) = some (s ++ [⟨"Line", [("setting", .val S.d), ("tick_now", .val (.int 0)), ("off", .own []), ("asker", .val .none), ("dialled", .val .none), ("rung", .val .none), ("outside", .val (.str "")), ("inside", .own []), ("queue", .own []), ("let", .val (.list []))]⟩]) := fldPut_app rfl (by show 9 < 900; decide) rfl
  have l := fun s => m_look_e (S := S) h (s := s)
  have e9' : (⟨"Line", [("setting", .val S.d), ("tick_now", .val (.int 0)), ("off", .own []), ("asker", .val .none), ("dialled", .val .none), ("rung", .val .none), ("outside", .val (.str "")), ("inside", .own []), ("queue", .own []), ("let", .val (.list []))]⟩ : Rec) = recL (ln0 S) := rfl
  simp [m_Line___init__, b_Line___init__, l, e0, e1, e2, e3, e4, e5, e6, e7, e8, e9, le_size]
  exact e9'
end M

/-! P30: deeds that are drawn. -/
namespace M
open PySem L2
theorem seq_ret {b1 b2 : XS} {ρ : Env} {s s1 : Sto} {d : D} (h : b1 ρ s = .ret d s1) : sSeq b1 b2 ρ s = .ret d s1 := by
  unfold sSeq
  rw [h]
theorem pick_nat {a : Int} {m : Nat} (hm : 0 < m) : ∃ k : Nat, pickOf a m = (k : Int) ∧ k < m := by
  unfold pickOf
  have h1 := Int.emod_nonneg (a / 97) (by omega : (m : Int) ≠ 0)
  have h2 := Int.emod_lt_of_pos (a / 97) (by omega : (0 : Int) < (m : Int))
  exact ⟨(a / 97 % m).toNat, by omega, by omega⟩
/-- odd ones -/
def oddL (m aa o : Nat) : List Dd := [.lift (.i m), .hang (.i (-1)), .dial (.i aa) (.i aa), .dial (.i aa) .non, .call (.bl true), .out (.st "0"), .hold .non, .take (.i m), .lift (.i o), .hang (.i o), .dial (.i m) (.i 0), .call (.i m)]
theorem mod_nat (a : Int) (m : Nat) (hm : 0 < m) : ∃ k : Nat, a % (m : Int) = (k : Int) ∧ k < m := by
  have h1 := Int.emod_nonneg a (by omega : (m : Int) ≠ 0)
  have h2 := Int.emod_lt_of_pos a (by omega : (0 : Int) < (m : Int))
  exact ⟨(a % m).toNat, by omega, by omega⟩
section
variable {s : Sto} {n : Nat} {L : Ln} (hn : n < s.length)
include hn
theorem m__law_deed_e (k : L.Ok) (a : Int) : ∃ x : Dd, m__law_deed [refD n, .int a] (s.set n (recS L)) = .ok x.d (s.set n (recS L)) := by
  have h2 := k.S.l2
  obtain ⟨h, eh, hh⟩ := pick_nat (a := seedOf a 1) (m := L.S.codes.length) (by omega)
  obtain ⟨o, eo, ho⟩ := pick_nat (a := seedOf a 2) (m := L.S.codes.length) (by omega)
  obtain ⟨p, ep, hp⟩ := pick_nat (a := a) (m := 26) (by omega)
  have hm : (0 : Int) < (L.S.codes.length : Int) := by omega
  have sd := fun (k : Int) s => m__law_seed_e (a := a) (k := k) (s := s)
  have pk1 := fun s => m__law_pick_e (a := seedOf a 1) (m := (L.S.codes.length : Int)) hm (s := s)
  have pk2 := fun s => m__law_pick_e (a := seedOf a 2) (m := (L.S.codes.length : Int)) hm (s := s)
  have pk3 := fun s => m__law_pick_e (a := a) (m := 26) (by omega) (s := s)
  have ep' : pickOf a 26 = (p : Int) := ep
  rw [eh] at pk1
  rw [eo] at pk2
  rw [ep'] at pk3
  unfold m__law_deed b__law_deed
  suffices e : ∃ x : Dd, (sSeq b__law_deed_4 (sSeq b__law_deed_5 (sSeq b__law_deed_6 (sSeq b__law_deed_7 (sSeq b__law_deed_8 (sSeq b__law_deed_9 (sSeq b__law_deed_10 (sSeq b__law_deed_11 (sSeq b__law_deed_12 (sSeq b__law_deed_13 b__law_deed_14))))))))))
      [.val (refD n), .val (.int a), .val (.int (L.S.codes.length : Int)), .val (.int (h : Int)), .val (.int (o : Int)), .val (.int (p : Int)), .no, .no, .no] (s.set n (recS L)) = .ret x.d (s.set n (recS L)) by
    obtain ⟨x, e⟩ := e
    refine ⟨x, run_ret (seq_next (ρ1 := [.val (refD n), .val (.int a), .val (.int (L.S.codes.length : Int)), .no, .no, .no, .no, .no, .no]) (s1 := s.set n (recS L)) ?_ (seq_next (ρ1 := [.val (refD n), .val (.int a), .val (.int (L.S.codes.length : Int)), .val (.int (h : Int)), .val (.int (o : Int)), .no, .no, .no, .no]) (s1 := s.set n (recS L)) ?_ (seq_next (ρ1 := [.val (refD n), .val (.int a), .val (.int (L.S.codes.length : Int)), .val (.int (h : Int)), .val (.int (o : Int)), .val (.int (p : Int)), .no, .no, .no]) (s1 := s.set n (recS L)) ?_ e)))⟩
    · simp [b__law_deed_1, hn, rS_setting]
    · simp [b__law_deed_2, sd, pk1, pk2]
    · simp [b__law_deed_3, pk3]
  by_cases p7 : p < 7
  · have p7' : ((p : Int) < 7) := by omega
    exact ⟨.tick, seq_ret (by simp [b__law_deed_4, p7', le_size, Dd.d]; rfl)⟩
  have p7' : ¬ ((p : Int) < 7) := by omega
  suffices e : ∃ x : Dd, (sSeq b__law_deed_5 (sSeq b__law_deed_6 (sSeq b__law_deed_7 (sSeq b__law_deed_8 (sSeq b__law_deed_9 (sSeq b__law_deed_10 (sSeq b__law_deed_11 (sSeq b__law_deed_12 (sSeq b__law_deed_13 b__law_deed_14)))))))))
      [.val (refD n), .val (.int a), .val (.int (L.S.codes.length : Int)), .val (.int (h : Int)), .val (.int (o : Int)), .val (.int (p : Int)), .no, .no, .no] (s.set n (recS L)) = .ret x.d (s.set n (recS L)) by
    obtain ⟨x, e⟩ := e
    exact ⟨x, seq_next (by simp [b__law_deed_4, p7']) e⟩
  by_cases p16 : p < 16
  · have p16' : ((p : Int) < 16) := by omega
    by_cases hf : h ∈ L.off
    · exact ⟨.hang (.i h), seq_ret (by simp [b__law_deed_5, p16', hn, rS_off, hf, le_size, Dd.d]; rfl)⟩
    · exact ⟨.lift (.i h), seq_ret (by simp [b__law_deed_5, p16', hn, rS_off, hf, le_size, Dd.d]; rfl)⟩
  have p16' : ¬ ((p : Int) < 16) := by omega
  suffices e : ∃ x : Dd, (sSeq b__law_deed_6 (sSeq b__law_deed_7 (sSeq b__law_deed_8 (sSeq b__law_deed_9 (sSeq b__law_deed_10 (sSeq b__law_deed_11 (sSeq b__law_deed_12 (sSeq b__law_deed_13 b__law_deed_14))))))))
      [.val (refD n), .val (.int a), .val (.int (L.S.codes.length : Int)), .val (.int (h : Int)), .val (.int (o : Int)), .val (.int (p : Int)), .no, .no, .no] (s.set n (recS L)) = .ret x.d (s.set n (recS L)) by
    obtain ⟨x, e⟩ := e
    exact ⟨x, seq_next (by simp [b__law_deed_5, p16']) e⟩
  obtain ⟨i2, ei2, hi2⟩ := mod_nat (a / 5) 2 (by omega)
  have ei2' : a / 5 % 2 = (i2 : Int) := ei2
  obtain ⟨i12, ei12, hi12⟩ := mod_nat (a / 5) 12 (by omega)
  have ei12' : a / 5 % 12 = (i12 : Int) := ei12
  by_cases p16b : p = 16 ∧ L.rung ≠ none
  · obtain ⟨p16b, hr⟩ := p16b
    subst p16b
    obtain ⟨⟨c, b, t⟩, hr⟩ := Option.ne_none_iff_exists'.mp hr
    have hr2 : rungD L.rung = .tuple [.int (c : Int), optD b, .int t] := by rw [hr]; rfl
    rcases (by omega : i2 = 0 ∨ i2 = 1) with e | e
    · subst e
      exact ⟨.lift (.i c), seq_ret (by simp [b__law_deed_6, hn, rS_rung, hr2, ei2', le_size, Dd.d]; rfl)⟩
    · subst e
      cases b with
      | none => exact ⟨.lift (.i h), seq_ret (by simp [b__law_deed_6, hn, rS_rung, hr2, ei2', le_size, Dd.d]; rfl)⟩
      | some b => exact ⟨.lift (.i b), seq_ret (by simp [b__law_deed_6, hn, rS_rung, hr2, ei2', le_size, Dd.d, optD]; rfl)⟩
  have e6 : b__law_deed_6 [.val (refD n), .val (.int a), .val (.int (L.S.codes.length : Int)), .val (.int (h : Int)), .val (.int (o : Int)), .val (.int (p : Int)), .no, .no, .no] (s.set n (recS L)) = .next [.val (refD n), .val (.int a), .val (.int (L.S.codes.length : Int)), .val (.int (h : Int)), .val (.int (o : Int)), .val (.int (p : Int)), .no, .no, .no] (s.set n (recS L)) := by
    by_cases q : p = 16
    · have hr : L.rung.isNone = true := by
        cases z : L.rung with
        | none => rfl
        | some _ => exact absurd ⟨q, by rw [z]; exact fun z => by cases z⟩ p16b
      have q' : ((p : Int) = 16) := by omega
      simp [b__law_deed_6, q, q', hn, rS_rung, -Option.isNone_iff_eq_none, hr]
    · have q' : ¬ ((p : Int) = 16) := by omega
      simp [b__law_deed_6, q, q']
  obtain ⟨aa, e7⟩ : ∃ aa : Nat, b__law_deed_7 [.val (refD n), .val (.int a), .val (.int (L.S.codes.length : Int)), .val (.int (h : Int)), .val (.int (o : Int)), .val (.int (p : Int)), .no, .no, .no] (s.set n (recS L)) = .next [.val (refD n), .val (.int a), .val (.int (L.S.codes.length : Int)), .val (.int (h : Int)), .val (.int (o : Int)), .val (.int (p : Int)), .val (.int (aa : Int)), .no, .no] (s.set n (recS L)) := by
    rcases Option.eq_none_or_eq_some L.asker with ha | ⟨x, ha⟩
    · have ha1 : L.asker.isNone = true := by rw [ha]; rfl
      exact ⟨h, by simp [b__law_deed_7, hn, rS_asker, -Option.isNone_iff_eq_none, ha1]⟩
    · have ha2 : optD L.asker = .int (x : Int) := by rw [ha]; rfl
      by_cases q : a / 7 % 5 = 0
      · exact ⟨h, by simp [b__law_deed_7, hn, rS_asker, ha2, q]⟩
      · exact ⟨x, by simp [b__law_deed_7, hn, rS_asker, ha2, q]⟩
  obtain ⟨ii, e8⟩ : ∃ ii : Nat, b__law_deed_8 [.val (refD n), .val (.int a), .val (.int (L.S.codes.length : Int)), .val (.int (h : Int)), .val (.int (o : Int)), .val (.int (p : Int)), .val (.int (aa : Int)), .no, .no] (s.set n (recS L)) = .next [.val (refD n), .val (.int a), .val (.int (L.S.codes.length : Int)), .val (.int (h : Int)), .val (.int (o : Int)), .val (.int (p : Int)), .val (.int (aa : Int)), .val (.int (ii : Int)), .no] (s.set n (recS L)) := by
    rcases hq : L.ins with _ | ⟨x, r⟩
    · have h1 : L.ins.isEmpty = true := by rw [hq]; rfl
      exact ⟨h, by simp [b__law_deed_8, hn, rS_in, -List.isEmpty_iff, h1, le_size]⟩
    · have h1 : L.ins.isEmpty = false := by rw [hq]; rfl
      have h3 : ixD (.list (natsD L.ins)) (.int 0) = some (.int (x : Int)) := by rw [hq]; simp
      by_cases q : a / 7 % 5 = 0
      · exact ⟨h, by simp [b__law_deed_8, hn, rS_in, -List.isEmpty_iff, h1, le_size, q]⟩
      · exact ⟨x, by simp [b__law_deed_8, hn, rS_in, -List.isEmpty_iff, h1, le_size, q, h3, -ixD_l]⟩
  suffices e : ∃ x : Dd, (sSeq b__law_deed_9 (sSeq b__law_deed_10 (sSeq b__law_deed_11 (sSeq b__law_deed_12 (sSeq b__law_deed_13 b__law_deed_14)))))
      [.val (refD n), .val (.int a), .val (.int (L.S.codes.length : Int)), .val (.int (h : Int)), .val (.int (o : Int)), .val (.int (p : Int)), .val (.int (aa : Int)), .val (.int (ii : Int)), .no] (s.set n (recS L)) = .ret x.d (s.set n (recS L)) by
    obtain ⟨x, e⟩ := e
    exact ⟨x, seq_next e6 (seq_next e7 (seq_next e8 e))⟩
  by_cases p20 : p < 20
  · have p20' : ((p : Int) < 20) := by omega
    by_cases p19 : p < 19
    · have p19' : ((p : Int) < 19) := by omega
      exact ⟨.dial (.i aa) (.i o), seq_ret (by simp [b__law_deed_9, p20', p19', le_size, Dd.d]; rfl)⟩
    · have p19' : ¬ ((p : Int) < 19) := by omega
      exact ⟨.out (.i aa), seq_ret (by simp [b__law_deed_9, p20', p19', le_size, Dd.d]; rfl)⟩
  have p20' : ¬ ((p : Int) < 20) := by omega
  suffices e : ∃ x : Dd, (sSeq b__law_deed_10 (sSeq b__law_deed_11 (sSeq b__law_deed_12 (sSeq b__law_deed_13 b__law_deed_14))))
      [.val (refD n), .val (.int a), .val (.int (L.S.codes.length : Int)), .val (.int (h : Int)), .val (.int (o : Int)), .val (.int (p : Int)), .val (.int (aa : Int)), .val (.int (ii : Int)), .no] (s.set n (recS L)) = .ret x.d (s.set n (recS L)) by
    obtain ⟨x, e⟩ := e
    exact ⟨x, seq_next (by simp [b__law_deed_9, p20']) e⟩
  by_cases p23 : p < 23
  · have p23' : ((p : Int) < 23) := by omega
    by_cases p22 : p < 22
    · have p22' : ((p : Int) < 22) := by omega
      exact ⟨.call (.i h), seq_ret (by simp [b__law_deed_10, p23', p22', le_size, Dd.d]; rfl)⟩
    · have p22' : ¬ ((p : Int) < 22) := by omega
      exact ⟨.ends, seq_ret (by simp [b__law_deed_10, p23', p22', le_size, Dd.d]; rfl)⟩
  have p23' : ¬ ((p : Int) < 23) := by omega
  suffices e : ∃ x : Dd, (sSeq b__law_deed_11 (sSeq b__law_deed_12 (sSeq b__law_deed_13 b__law_deed_14)))
      [.val (refD n), .val (.int a), .val (.int (L.S.codes.length : Int)), .val (.int (h : Int)), .val (.int (o : Int)), .val (.int (p : Int)), .val (.int (aa : Int)), .val (.int (ii : Int)), .no] (s.set n (recS L)) = .ret x.d (s.set n (recS L)) by
    obtain ⟨x, e⟩ := e
    exact ⟨x, seq_next (by simp [b__law_deed_10, p23']) e⟩
  by_cases p25 : p < 25
  · have p25' : ((p : Int) < 25) := by omega
    rcases (by omega : p = 23 ∨ p = 24) with e | e
    · subst e
      exact ⟨.hold (.i ii), seq_ret (by simp [b__law_deed_11, le_size, Dd.d]; rfl)⟩
    · subst e
      exact ⟨.take (.i ii), seq_ret (by simp [b__law_deed_11, le_size, Dd.d]; rfl)⟩
  have p25' : ¬ ((p : Int) < 25) := by omega
  refine ⟨(oddL L.S.codes.length aa o).getD i12 .tick, seq_next (by simp [b__law_deed_11, p25']; exact ⟨rfl, rfl⟩) (seq_next (by simp [b__law_deed_12, le_size]; exact ⟨rfl, rfl⟩) (seq_next (by simp [b__law_deed_13, le_size]; exact ⟨rfl, rfl⟩) ?_))⟩
  have hl : (i12 : Int) < 12 := by omega
  have key : ∀ l : List Dd, ∀ i, i < l.length → atI (l.map Dd.d) ((i : Nat) : Int) = some (l.getD i .tick).d := fun l i hi => by
    rw [atI_nat (by simpa using hi)]
    simp [List.getD_eq_getElem?_getD, hi]
  have k12 := key (oddL L.S.codes.length aa o) i12 (by show i12 < 12; exact hi12)
  generalize (oddL L.S.codes.length aa o).getD i12 .tick = X at k12 ⊢
  simp only [oddL, List.map_cons, List.map_nil, Dd.d, Ag.d, Wo.s] at k12
  simp [b__law_deed_14, ei12', k12]
  rfl
end
end M

/-! P31: loops; what is told is laid; a store that begins with a line. P01 holds the same lemmas: never both in one text. -/
namespace M
open PySem L2
theorem forL_rel {α : Type} (g : α → D) {t : XG} {b : XS} (I : Nat → Env → Sto → Prop) : ∀ (xs : List α) (k : Nat) (ρ : Env) (s : Sto), I k ρ s → (∀ i x ρ s, xs[i]? = some x → I (k + i) ρ s → ∃ ρ1 ρ2 s2, t (g x) ρ = some ρ1 ∧ (b ρ1 s = .next ρ2 s2 ∨ b ρ1 s = .cont ρ2 s2) ∧ I (k + i + 1) ρ2 s2) →
    ∃ ρ' s', forL t b (xs.map g) ρ s = .next ρ' s' ∧ I (k + xs.length) ρ' s'
  | [], k, ρ, s, h, _ => ⟨ρ, s, rfl, h⟩
  | x :: xs, k, ρ, s, h, st => by
    obtain ⟨ρ1, ρ2, s2, e1, e2, e3⟩ := st 0 x ρ s rfl h
    have e3' : I (k + 1) ρ2 s2 := e3
    obtain ⟨ρ', s', f1, f2⟩ := forL_rel g I xs (k + 1) ρ2 s2 e3' fun i y ρ s hy hi => by
      have := st (i + 1) y ρ s (by simpa using hy) (by rw [show k + (i + 1) = k + 1 + i by omega]; exact hi)
      rw [show k + (i + 1) = k + 1 + i by omega] at this
      exact this
    refine ⟨ρ', s', ?_, ?_⟩
    · rw [List.map_cons]
      unfold forL
      rw [e1]
      show (match b ρ1 s with | .next ρ2 s2 => forL t b (xs.map g) ρ2 s2 | .cont ρ2 s2 => forL t b (xs.map g) ρ2 s2 | .brk ρ2 s2 => .next ρ2 s2 | r => r) = _
      rcases e2 with e2 | e2 <;> rw [e2] <;> exact f1
    · rw [List.length_cons, show k + (xs.length + 1) = k + 1 + xs.length by omega]
      exact f2
/-- a loop over 0, 1, .., n - 1 -/
theorem forL_rngR {t : XG} {b : XS} (I : Nat → Env → Sto → Prop) (n : Nat) (ρ : Env) (s : Sto) (h0 : I 0 ρ s) (st : ∀ i ρ s, i < n → I i ρ s → ∃ ρ1 ρ2 s2, t (.int (i : Int)) ρ = some ρ1 ∧ (b ρ1 s = .next ρ2 s2 ∨ b ρ1 s = .cont ρ2 s2) ∧ I (i + 1) ρ2 s2) :
    ∃ ρ' s', forL t b (rngD 0 n) ρ s = .next ρ' s' ∧ I n ρ' s' := by
  obtain ⟨ρ', s', e1, e2⟩ := forL_rel (t := t) (b := b) (fun i : Nat => PyData.int (0 + (i : Int))) I (List.range n) 0 ρ s h0 fun i x ρ s hx hi => by
    obtain ⟨hl, hx⟩ := List.getElem?_eq_some_iff.mp hx
    rw [List.getElem_range] at hx
    subst hx
    rw [List.length_range] at hl
    rw [Nat.zero_add] at hi ⊢
    have := st i ρ s hl hi
    rw [Int.zero_add]
    exact this
  refine ⟨ρ', s', e1, ?_⟩
  rw [List.length_range, Nat.zero_add] at e2
  exact e2
theorem neD_self {d : D} (h : SeqAt.shaped d = true) : neD d d = some (.bool false) := by
  unfold neD
  rw [h]
  have := SeqAt.eqv_refl d (lay_of h)
  simp [this]
theorem eqD_self {d : D} (h : SeqAt.shaped d = true) : eqD d d = some (.bool true) := by
  unfold eqD
  rw [h]
  have := SeqAt.eqv_refl d (lay_of h)
  simp [this]
theorem ty_natsT (xs : List Nat) : ∃ ts, HasTy (.tup ts) (.tuple (natsD xs)) ∧ depL ts = 0 := by
  induction xs with
  | nil => exact ⟨[], .tup .nil, rfl⟩
  | cons x r ih =>
    obtain ⟨ts, h, e⟩ := ih
    cases h with
    | tup h => exact ⟨.int :: ts, .tup (.cons (.int _) h), by show max 0 (depL ts) = 0; rw [e]; rfl⟩
theorem shaped_str {x : Str} (h : PyData.strOk x = true) : SeqAt.shaped (.str x) = true := (HasTy.str x h).shaped (by decide)
theorem shaped_heard {L : Ln} {h : Nat} : SeqAt.shaped (L.heardD h) = true := by
  unfold Ln.heardD
  split
  · split
    · split
      · exact HasTy.shaped (.tup (.cons (.str "tone" (by decide +kernel)) .nil)) (by decide)
      · exact HasTy.shaped (.tup (.cons (.str "busy" (by decide +kernel)) .nil)) (by decide)
    · split
      · obtain ⟨ts, h, e⟩ := ty_natsT ((sortN L.ins).filter fun x => !decide (x = h))
        refine HasTy.shaped (t := .tup [.str, .tup ts, .bool]) (.tup (.cons (.str "talk" (by decide +kernel)) (.cons h (.cons (.bool _) .nil)))) ?_
        show depL [.str, .tup ts, .bool] + 1 ≤ 64
        simp only [depL, Ty.dep, e]
        decide
      · exact HasTy.shaped (.tup (.cons (.str "shut" (by decide +kernel)) .nil)) (by decide)
  · split
    · exact HasTy.shaped (.tup (.cons (.str "ring" (by decide +kernel)) .nil)) (by decide)
    · exact HasTy.shaped (.tup .nil) (by decide)
theorem shaped_rf (r : Rf) : SeqAt.shaped (.str r.w) = true := shaped_str (by cases r <;> decide +kernel)
theorem shaped_non : SeqAt.shaped .none = true := HasTy.non.shaped (by decide)
theorem byH_w {L : Ln} {a : Ag} {f : Nat → Tl × Ln} (h : ∀ h, SeqAt.shaped (f h).1.w = true) : SeqAt.shaped (L.byH a f).1.w = true := by
  unfold Ln.byH
  split
  · exact shaped_rf _
  · exact h _
theorem shaped_told {L : Ln} {x : Dd} : SeqAt.shaped (L.step x).1.w = true := by
  cases x with
  | tick => exact shaped_non
  | ends =>
    show SeqAt.shaped (if L.out = .no then (Tl.no Rf.call, L) else (Tl.ok .none, L.ends)).1.w = true
    split
    · exact shaped_rf _
    · exact shaped_non
  | lift a =>
    refine byH_w fun h => ?_
    split
    · exact shaped_rf _
    · exact shaped_heard
  | hang a =>
    refine byH_w fun h => ?_
    split
    · exact shaped_non
    · exact shaped_rf _
  | call a =>
    refine byH_w fun h => ?_
    split
    · exact shaped_str (by decide +kernel)
    · split
      · exact shaped_str (by decide +kernel)
      · exact shaped_str (by decide +kernel)
  | hold a =>
    refine byH_w fun h => ?_
    split
    · exact shaped_non
    · exact shaped_rf _
  | take a =>
    refine byH_w fun h => ?_
    split
    · exact shaped_non
    · exact shaped_rf _
  | out a =>
    refine byH_w fun h => ?_
    split
    · exact shaped_non
    · exact shaped_rf _
  | dial a b =>
    refine byH_w fun h => ?_
    split
    · refine byH_w fun h => ?_
      split
      · exact shaped_rf _
      · exact shaped_non
    · exact shaped_rf _
/-! ### a store that begins with a line -/
section
variable {L : Ln} {B : Sto}
theorem do1 (k : L.Ok) (x : Dd) : m__law_do [refD 0, x.d] (recL L :: B) = .ok (L.step x).1.w (recL (L.step x).2 :: B) := m__law_do_e (s := recL L :: B) (n := 0) (by simp) k x
theorem heard1 (k : L.Ok) {h : Nat} (hh : h < L.S.codes.length) : m_Line_heard [refD 0, .int (h : Int)] (recL L :: B) = .ok (L.heardD h) (recL L :: B) := m_Line_heard_e (s := recL L :: B) (n := 0) (by simp) k.S k.rng (by have := k.insL; omega) hh
theorem lifted1 : m_Line_lifted [refD 0] (recL L :: B) = .ok (.list (natsD (sortN L.off))) (recL L :: B) := m_Line_lifted_e (s := recL L :: B) (n := 0) (by simp)
theorem talking1 : m_Line_talking [refD 0] (recL L :: B) = .ok (.list (natsD (sortN L.ins))) (recL L :: B) := m_Line_talking_e (s := recL L :: B) (n := 0) (by simp)
theorem caller1 : m_Line_caller [refD 0] (recL L :: B) = .ok (.str L.out.s) (recL L :: B) := m_Line_caller_e (s := recL L :: B) (n := 0) (by simp)
theorem waiting1 : m_Line_waiting [refD 0] (recL L :: B) = .ok (.list (natsD L.queue)) (recL L :: B) := m_Line_waiting_e (s := recL L :: B) (n := 0) (by simp)
theorem moment1 : m_Line_moment [refD 0] (recL L :: B) = .ok (.int L.now) (recL L :: B) := m_Line_moment_e (s := recL L :: B) (n := 0) (by simp)
theorem lift1_e (k : L.Ok) {h : Nat} (hh : h < L.S.codes.length) (hf : h ∉ L.off) : m_Line_lift [refD 0, .int (h : Int)] (recL L :: B) = .ok ((L.lift h).heardD h) (recL (L.lift h) :: B) := m_Line_lift_e (s := recL L :: B) (n := 0) (by simp) k hh hf
theorem hang1_e (k : L.Ok) {h : Nat} (hh : h < L.S.codes.length) (hf : h ∈ L.off) : m_Line_hang [refD 0, .int (h : Int)] (recL L :: B) = .ok .none (recL (L.hang h) :: B) := m_Line_hang_e (s := recL L :: B) (n := 0) (by simp) k hh hf
theorem call1_r {h : Nat} (hh : h < L.S.codes.length) (hi : L.idle = true) : m_Line_call_in [refD 0, .int (h : Int)] (recL L :: B) = .ok (.str "rings") (recL (L.ringFor h) :: B) := m_Line_call_in_r (s := recL L :: B) (n := 0) (by simp) hh hi
theorem call1_b {h : Nat} (hh : h < L.S.codes.length) (hi : L.idle = false) (hq : L.queue.length = 3) : m_Line_call_in [refD 0, .int (h : Int)] (recL L :: B) = .ok (.str "busy") (recL L :: B) := m_Line_call_in_b (s := recL L :: B) (n := 0) (by simp) hh hi hq
theorem call1_w (k : L.Ok) {h : Nat} (hh : h < L.S.codes.length) (hi : L.idle = false) (hq : L.queue.length ≠ 3) : m_Line_call_in [refD 0, .int (h : Int)] (recL L :: B) = .ok (.str "waits") (recL (L.wait h) :: B) := m_Line_call_in_w (s := recL L :: B) (n := 0) (by simp) k hh hi hq
theorem end1_e (h : L.out ≠ .no) : m_Line_end [refD 0] (recL L :: B) = .ok .none (recL L.ends :: B) := m_Line_end_e (s := recL L :: B) (n := 0) (by simp) h
theorem hold1_e {h : Nat} (hh : h < L.S.codes.length) (h1 : h ∈ L.ins) (h2 : L.out = .talks) : m_Line_hold [refD 0, .int (h : Int)] (recL L :: B) = .ok .none (recL (L.turn .held) :: B) := m_Line_hold_e (s := recL L :: B) (n := 0) (by simp) hh h1 h2
theorem take1_e {h : Nat} (hh : h < L.S.codes.length) (h1 : h ∈ L.ins) (h2 : L.out = .held) : m_Line_take [refD 0, .int (h : Int)] (recL L :: B) = .ok .none (recL (L.turn .talks) :: B) := m_Line_take_e (s := recL L :: B) (n := 0) (by simp) hh h1 h2
theorem dial1_e {h o : Nat} (hh : h < L.S.codes.length) (h1 : L.asker = some h) (h2 : L.dialled = none) (ho : o < L.S.codes.length) (hne : o ≠ h) : m_Line_dial [refD 0, .int (h : Int), .int (o : Int)] (recL L :: B) = .ok .none (recL (L.dial o) :: B) := m_Line_dial_e (s := recL L :: B) (n := 0) (by simp) hh h1 h2 ho hne
theorem tick1_e : m_Line_tick [refD 0] (recL L :: B) = .ok .none (recL L.tick :: B) := m_Line_tick_e (s := recL L :: B) (n := 0) (by simp)
theorem i1_heard : isRec "Line" "heard" (recL L :: B) (refD 0) = true := mL_heard (s := recL L :: B) (n := 0) (by simp)
theorem i1_lifted : isRec "Line" "lifted" (recL L :: B) (refD 0) = true := mL_lifted (s := recL L :: B) (n := 0) (by simp)
theorem i1_talking : isRec "Line" "talking" (recL L :: B) (refD 0) = true := mL_talking (s := recL L :: B) (n := 0) (by simp)
theorem i1_caller : isRec "Line" "caller" (recL L :: B) (refD 0) = true := mL_caller (s := recL L :: B) (n := 0) (by simp)
theorem i1_waiting : isRec "Line" "waiting" (recL L :: B) (refD 0) = true := mL_waiting (s := recL L :: B) (n := 0) (by simp)
theorem i1_moment : isRec "Line" "moment" (recL L :: B) (refD 0) = true := mL_moment (s := recL L :: B) (n := 0) (by simp)
theorem i1_lift : isRec "Line" "lift" (recL L :: B) (refD 0) = true := mL_lift (s := recL L :: B) (n := 0) (by simp)
theorem i1_hang : isRec "Line" "hang" (recL L :: B) (refD 0) = true := mL_hang (s := recL L :: B) (n := 0) (by simp)
theorem i1_call_in : isRec "Line" "call_in" (recL L :: B) (refD 0) = true := mL_call_in (s := recL L :: B) (n := 0) (by simp)
theorem i1_end : isRec "Line" "end" (recL L :: B) (refD 0) = true := mL_end (s := recL L :: B) (n := 0) (by simp)
theorem i1_hold : isRec "Line" "hold" (recL L :: B) (refD 0) = true := mL_hold (s := recL L :: B) (n := 0) (by simp)
theorem i1_take : isRec "Line" "take" (recL L :: B) (refD 0) = true := mL_take (s := recL L :: B) (n := 0) (by simp)
theorem i1_dial : isRec "Line" "dial" (recL L :: B) (refD 0) = true := mL_dial (s := recL L :: B) (n := 0) (by simp)
theorem i1_call_out : isRec "Line" "call_out" (recL L :: B) (refD 0) = true := mL_call_out (s := recL L :: B) (n := 0) (by simp)
theorem i1_tick : isRec "Line" "tick" (recL L :: B) (refD 0) = true := mL_tick (s := recL L :: B) (n := 0) (by simp)
end
theorem shaped_nats (xs : List Nat) : SeqAt.shaped (.list (natsD xs)) = true := (ty_nats xs).shaped (by decide)
theorem mix_nat (a : Int) (m : Nat) (hm : 0 < m) : ∃ k : Nat, mixOf a 9949 m = (k : Int) ∧ k < m := by
  unfold mixOf
  exact mod_nat _ m hm
/-! ### more loops -/
theorem compL_rel {α : Type} (g : α → D) {t : XG} {e : XE} {vs : List Nat} {ρ : Env} (I : Nat → List D → Sto → Prop) : ∀ (xs : List α) (k : Nat) (acc : List D) (s : Sto), I k acc s → acc.length + xs.length ≤ sizeLine →
    (∀ i x acc s, xs[i]? = some x → I (k + i) acc s → ∃ ρ1 d s', t (g x) (wipeD ρ vs) = some ρ1 ∧ e ρ1 s = .ok d s' ∧ I (k + i + 1) (acc ++ [d]) s') →
    ∃ acc' s', compL t tAll e vs (xs.map g) acc ρ s = .ok acc' s' ∧ I (k + xs.length) acc' s'
  | [], k, acc, s, h, _, _ => ⟨acc, s, rfl, h⟩
  | x :: xs, k, acc, s, h, hz, st => by
    obtain ⟨ρ1, d, s', e1, e2, e3⟩ := st 0 x acc s rfl h
    rw [List.length_cons] at hz
    obtain ⟨acc', s'', f1, f2⟩ := compL_rel g I xs (k + 1) (acc ++ [d]) s' e3 (by simp; omega) fun i y acc s hy hi => by
      have := st (i + 1) y acc s (by simpa using hy) (by rw [show k + (i + 1) = k + 1 + i by omega]; exact hi)
      rw [show k + (i + 1) = k + 1 + i by omega] at this
      exact this
    refine ⟨acc', s'', ?_, ?_⟩
    · rw [List.map_cons]
      unfold compL
      rw [e1]
      simp only [tAll_e, nx_ok, bind_ok, if_true, e2]
      rw [if_pos (by omega)]
      exact f1
    · rw [List.length_cons, show k + (xs.length + 1) = k + 1 + xs.length by omega]
      exact f2
theorem whileN_run (st : Nat → Env × Sto) {t : XT} {b : XS} : ∀ (k n i : Nat), k < n → (∀ j, i ≤ j → j < i + k → t (st j).1 (st j).2 = .ok true (st j).2 ∧ b (st j).1 (st j).2 = .next (st (j + 1)).1 (st (j + 1)).2) → t (st (i + k)).1 (st (i + k)).2 = .ok false (st (i + k)).2 → whileN t b n (st i).1 (st i).2 = .next (st (i + k)).1 (st (i + k)).2
  | 0, n, i, hk, _, h => by
    obtain ⟨n, rfl⟩ : ∃ m, n = m + 1 := ⟨n - 1, by omega⟩
    have h' : t (st i).1 (st i).2 = .ok false (st i).2 := h
    show whileN t b (n + 1) (st i).1 (st i).2 = .next (st i).1 (st i).2
    unfold whileN
    rw [h']
  | k + 1, n, i, hk, hs, h => by
    obtain ⟨n, rfl⟩ : ∃ m, n = m + 1 := ⟨n - 1, by omega⟩
    obtain ⟨h1, h2⟩ := hs i (Nat.le_refl _) (by omega)
    have ih := whileN_run st (t := t) (b := b) k n (i + 1) (by omega) (fun j h1 h2 => hs j (by omega) (by omega)) (by rw [show i + 1 + k = i + (k + 1) by omega]; exact h)
    unfold whileN
    rw [h1]
    simp only
    rw [h2]
    simp only
    rw [ih, show i + 1 + k = i + (k + 1) by omega]
theorem cut_mid {ds : List D} {i j : Nat} : cutD ds (some (i : Int)) (some (j : Int)) = (ds.take j).drop i := by
  unfold cutD
  rw [HT.sIx_nat, HT.sIx_nat, List.drop_take]
  by_cases h : i ≤ ds.length
  · rw [Nat.min_eq_left h]
    by_cases h2 : j ≤ ds.length
    · rw [Nat.min_eq_left h2]
    · rw [Nat.min_eq_right (by omega), List.take_of_length_le (by simp), List.take_of_length_le (by simp; omega)]
  · rw [Nat.min_eq_right (a := i) (by omega), List.drop_of_length_le (Nat.le_refl _), List.drop_of_length_le (by omega : ds.length ≤ i)]
    simp
end M

/-! P32: data that is laid, of mixed kinds; cuts from behind. -/
namespace M
open PySem L2
def Lay (k : Nat) (d : D) : Prop := d.canLay0 = true ∧ d.depth ≤ k
theorem Lay.mono {k j : Nat} {d : D} (h : Lay k d) (hj : k ≤ j) : Lay j d := ⟨h.1, Nat.le_trans h.2 hj⟩
theorem Lay.shaped {k : Nat} {d : D} (h : Lay k d) (hk : k ≤ 64) : SeqAt.shaped d = true := by
  unfold SeqAt.shaped
  rw [h.1, Bool.true_and, decide_eq_true_eq]
  have := h.2
  omega
theorem HasTy.Lay {t : Ty} {d : D} (h : HasTy t d) : M.Lay t.dep d := h.lay
theorem lay_all {k : Nat} : ∀ {ds : List D}, (∀ d ∈ ds, Lay k d) → PyData.canLayAll0 ds = true ∧ PyData.depthAll ds ≤ k
  | [], _ => ⟨by simp [PyData.canLayAll0], by simp [PyData.depthAll]⟩
  | d :: ds, h => by
    obtain ⟨h1, h2⟩ := h d List.mem_cons_self
    obtain ⟨h3, h4⟩ := lay_all (ds := ds) fun x hx => h x (List.mem_cons_of_mem _ hx)
    exact ⟨by simp [PyData.canLayAll0, h1, h3], by simp only [PyData.depthAll]; omega⟩
theorem lay_l {k : Nat} {ds : List D} (h : ∀ d ∈ ds, Lay k d) : Lay (k + 1) (.list ds) := by
  obtain ⟨h1, h2⟩ := lay_all h
  exact ⟨by simpa [PyData.canLay0] using h1, by simp only [PyData.depth]; omega⟩
theorem lay_t {k : Nat} {ds : List D} (h : ∀ d ∈ ds, Lay k d) : Lay (k + 1) (.tuple ds) := by
  obtain ⟨h1, h2⟩ := lay_all h
  exact ⟨by simpa [PyData.canLay0] using h1, by simp only [PyData.depth]; omega⟩
theorem lay_n {k : Nat} : Lay k .none := HasTy.non.Lay.mono (Nat.zero_le _)
theorem lay_b {k : Nat} {b : Bool} : Lay k (.bool b) := (HasTy.bool b).Lay.mono (Nat.zero_le _)
theorem lay_i {k : Nat} {i : Int} : Lay k (.int i) := (HasTy.int i).Lay.mono (Nat.zero_le _)
theorem lay_s {k : Nat} {x : Str} (h : PyData.strOk x = true := by decide +kernel) : Lay k (.str x) := (HasTy.str x h).Lay.mono (Nat.zero_le _)
theorem lay_nil {k : Nat} : ∀ d ∈ ([] : List D), Lay k d := fun d hd => by cases hd
theorem lay_cons {k : Nat} {d : D} {ds : List D} (h : Lay k d) (hs : ∀ d ∈ ds, Lay k d) : ∀ x ∈ d :: ds, Lay k x := fun x hx => (List.mem_cons.mp hx).elim (fun e => by rw [e]; exact h) (hs x)
theorem lay_app {k : Nat} {a b : List D} (h : ∀ d ∈ a, Lay k d) (hs : ∀ d ∈ b, Lay k d) : ∀ x ∈ a ++ b, Lay k x := fun x hx => (List.mem_append.mp hx).elim (h x) (hs x)
theorem lay_rep {k : Nat} {d : D} {n : Nat} (h : Lay k d) : ∀ x ∈ List.replicate n d, Lay k x := fun x hx => by rw [(List.mem_replicate.mp hx).2]; exact h
theorem lay_heard {L : Ln} {h : Nat} : Lay 5 (L.heardD h) := by
  unfold Ln.heardD
  split
  · split
    · split
      · exact (lay_t (k := 0) (lay_cons lay_s lay_nil)).mono (by omega)
      · exact (lay_t (k := 0) (lay_cons lay_s lay_nil)).mono (by omega)
    · split
      · refine (lay_t (k := 4) (lay_cons lay_s (lay_cons ?_ (lay_cons lay_b lay_nil)))).mono (by omega)
        exact (lay_t (k := 0) fun d hd => by
          obtain ⟨x, _, rfl⟩ := List.mem_map.mp hd
          exact lay_i).mono (by omega)
      · exact (lay_t (k := 0) (lay_cons lay_s lay_nil)).mono (by omega)
  · split
    · exact (lay_t (k := 0) (lay_cons lay_s lay_nil)).mono (by omega)
    · exact (lay_t (k := 0) lay_nil).mono (by omega)
theorem cut_back {a b : List D} {k : Nat} (h : b.length = k) (hk : 0 < k) : cutD (a ++ b) (some (-(k : Int))) none = b := by
  unfold cutD
  have e1 : HT.sIx (a ++ b).length 0 (some (-(k : Int))) = a.length := by
    show (if -(k : Int) < 0 then (-(k : Int) + ((a ++ b).length : Int)).toNat else _) = _
    rw [if_pos (by omega), List.length_append]
    omega
  have e2 : HT.sIx (a ++ b).length (a ++ b).length none = (a ++ b).length := rfl
  rw [e1, e2, List.drop_left]
  exact List.take_of_length_le (by simp)
theorem flat_rep {d : D} (n : Nat) : (List.replicate n [d]).flatten = List.replicate n d := by
  induction n with
  | zero => rfl
  | succ n ih => rw [List.replicate_succ, List.flatten_cons, ih]; rfl
end M

/-! P40: settings, and things that are none. -/
namespace M
open PySem L2
theorem strip_30 : ∀ c ∈ codes30, Txt.stripChars c "sl" = "" ∧ c.length ≤ 4 ∧ 1 ≤ c.length := by decide +kernel
theorem strip_ok {c : Str} (h : c ∈ codes30) : stripD c (.str "sl") = some (.str "") := by
  have hl : c.length ≤ sizeLine := le_size (by have := (strip_30 c h).2.1; omega)
  show (if c.length ≤ sizeLine then some (PyData.str (Txt.stripChars c "sl")) else none) = _
  rw [if_pos hl, (strip_30 c h).1]
theorem lenD_s {c : Str} (h : c.length ≤ sizeLine) : lenD (.str c) = some (.int c.length) := by
  first
    | rfl
    | (show (if c.length ≤ sizeLine then some (PyData.int c.length) else none) = _; rw [if_pos h])
@[simp] theorem xM1s_e {g : Str → D → Option D} {f1 f2 : XE} {ρ : Env} {s : Sto} : xM1 g f1 f2 ρ s = ((f1 ρ s).bind fun d s1 => match d with | .str z => (f2 ρ s1).bind fun d2 s2 => lift (g z d2) s2 | _ => .bad) := rfl
theorem emp_eq : neD (.str "") (.str "") = some (.bool false) := by
  rw [neD_s (by decide +kernel) (by decide +kernel)]
  rfl
def bodyC : XS := (sIf (tOr2 (tNot1 (tTru (x1 (isiD .str) (xV 1)))) (tOr2 (tNot1 (xB (x3 leD leD (xC (.int 1)) (x1 lenD (xV 1)) (xC (.int 4))))) (xB (x2 neD (xM1 stripD (xV 1) (xC (.str "sl"))) (xC (.str "")))))) (sRet (xC (.bool false))) sNil)
theorem loop_codes {x : D} {z1 : Slot} {s : Sto} : ∀ (cs : List Str), (∀ c ∈ cs, c ∈ codes30) → ∃ z1', forL (gN 1) bodyC (cs.map .str) [.val x, z1] s = .next [.val x, z1'] s
  | [], _ => ⟨z1, rfl⟩
  | c :: r, h => by
    obtain ⟨z1', ih⟩ := loop_codes (x := x) (z1 := .val (.str c)) (s := s) r fun y hy => h y (List.mem_cons_of_mem _ hy)
    refine ⟨z1', ?_⟩
    rw [List.map_cons]
    unfold forL
    have hc := h c List.mem_cons_self
    obtain ⟨h1, h2, h3⟩ := strip_30 c hc
    have hls := lenD_s (c := c) (le_size (by omega))
    have g1 : (1 : Int) ≤ (c.length : Int) := by omega
    have g2 : (c.length : Int) ≤ 4 := by omega
    have hst := strip_ok hc
    have e : bodyC [.val x, .val (.str c)] s = .next [.val x, .val (.str c)] s := by
      unfold bodyC
      simp [hls, g1, g2, hst, emp_eq]
    show (match bodyC [.val x, .val (.str c)] s with | .next ρ2 s2 => forL (gN 1) bodyC (r.map .str) ρ2 s2 | .cont ρ2 s2 => forL (gN 1) bodyC (r.map .str) ρ2 s2 | .brk ρ2 s2 => .next ρ2 s2 | r => r) = _
    rw [e]
    exact ih
structure CsOk (cs : List Str) : Prop where
  l2 : 2 ≤ cs.length
  l8 : cs.length ≤ 8
  nd : cs.Nodup
  c30 : ∀ c ∈ cs, c ∈ codes30
theorem Stg.Ok.cs {S : Stg} (h : S.Ok) : CsOk S.codes := ⟨h.l2, h.l8, h.nd, h.c30⟩
section
variable {cs : List Str} (h : CsOk cs) {p t : D} {bp bt : Bool} {s : Sto}
include h
theorem law_set_good (hp : isiD .bool p = some (.bool bp)) (ht : m__law_in [t, .int 1, .int 60] s = .ok (.bool bt) s) : m__law_is_setting [.tuple [codesD cs, p, t]] s = .ok (.bool (bp && bt)) s := by
  have h1 : (2 : Int) ≤ (cs.length : Int) := by have := h.l2; omega
  have h2 : (cs.length : Int) ≤ 8 := by have := h.l8; omega
  have hl := lenSet_e h.nd (by have := h.l8; omega)
  obtain ⟨z1, lp⟩ := loop_codes (x := .tuple [codesD cs, p, t]) (z1 := .no) (s := s) cs h.c30
  unfold codesD at lp hl
  unfold m__law_is_setting b__law_is_setting
  rw [show sFor (iAny (x2 ixD (xV 0) (xC (.int 0)))) (gN 1) (sIf (tOr2 (tNot1 (tTru (x1 (isiD .str) (xV 1)))) (tOr2 (tNot1 (xB (x3 leD leD (xC (.int 1)) (x1 lenD (xV 1)) (xC (.int 4))))) (xB (x2 neD (xM1 stripD (xV 1) (xC (.str "sl"))) (xC (.str "")))))) (sRet (xC (.bool false))) sNil) = sFor (iAny (x2 ixD (xV 0) (xC (.int 0)))) (gN 1) bodyC from rfl]
  cases bp
  · simp [codesD, h1, h2, lp, hp]
  · cases bt
    · simp [codesD, h1, h2, lp, hp, ht]
    · simp [codesD, h1, h2, lp, hp, ht, hl]
theorem set_good (hp : isiD .bool p = some (.bool bp)) (ht : m_is_within [t, .int 1, .int 60] s = .ok (.bool bt) s) : m_is_setting [.tuple [codesD cs, p, t]] s = .ok (.bool (bp && bt)) s := by
  have h1 : (2 : Int) ≤ (cs.length : Int) := by have := h.l2; omega
  have h2 : (cs.length : Int) ≤ 8 := by have := h.l8; omega
  have hc : compL (gN 1) (tNot1 (tTru (xCall 1 m_is_code (aC (xV 1) aN)))) (xV 1) [1] (cs.map .str) [] [.val (.tuple [codesD cs, p, t]), .no] s = .ok [] s :=
    compL_none PyData.str cs fun c hc => ⟨_, rfl, by simp [wipeD, m_is_code_e (h.c30 c hc)]⟩
  have hl := lenSet_e h.nd (by have := h.l8; omega)
  unfold codesD at hc hl
  cases bp
  · simp [m_is_setting, b_is_setting, codesD, hc, h1, h2, hl, hp]
  · simp [m_is_setting, b_is_setting, codesD, hc, h1, h2, hl, hp, ht]
end
/-! ### what is put in -/
def odds15 : List D := [.none, .tuple [], .tuple [.str "s"], .tuple [.str "s", .str "s"], .tuple [.str "s", .str ""], .tuple [.str "s", .str "x"], .tuple [.str "sssss", .str "s"], .bool true, .int 0, .int 1, .int 60, .int 61, .list [.str "s", .str "l"], .tuple [.str "l", .str "s"], .int (-1)]
/-- a good setting, or none for both -/
def Okay (x : D) : Prop := (∃ S : Stg, S.Ok ∧ x = S.d) ∨ ∀ s, m__law_is_setting [x] s = .ok (.bool false) s ∧ m_is_setting [x] s = .ok (.bool false) s
theorem oks : m_is_code [.str "s"] = fun s => .ok (.bool true) s := by funext s; exact m_is_code_e (by decide +kernel)
theorem code_emp {s : Sto} : m_is_code [.str ""] s = .ok (.bool false) s := by rfl
theorem code_x {s : Sto} : m_is_code [.str "x"] s = .ok (.bool false) s := by rfl
theorem code_5 {s : Sto} : m_is_code [.str "sssss"] s = .ok (.bool false) s := by rfl
theorem set_ss : lenSetD (.tuple [.str "s", .str "s"]) = some (.int 1) := by
  show (if 3 < scanBound then some (PyData.int (metS ["s", "s"]).length) else none) = _
  rw [if_pos (by unfold scanBound; omega)]
  rfl
theorem stripD_of {z y r : Str} (h1 : z.length ≤ 4096) (h2 : Txt.stripChars z y = r) : stripD z (.str y) = some (.str r) := by
  show (if z.length ≤ sizeLine then some (PyData.str (Txt.stripChars z y)) else none) = _
  rw [if_pos (le_size h1), h2]
theorem strip_s : stripD "s" (.str "sl") = some (.str "") := stripD_of (by decide +kernel) (by decide +kernel)
theorem strip_x : stripD "x" (.str "sl") = some (.str "x") := stripD_of (by decide +kernel) (by decide +kernel)
theorem lenD_of {z : Str} {n : Nat} (h1 : z.length = n) (h2 : n ≤ 4096) : lenD (.str z) = some (.int n) := by
  rw [lenD_s (le_size (by omega)), h1]
theorem len_s1 : lenD (.str "s") = some (.int 1) := lenD_of (by decide +kernel) (by decide)
theorem len_x : lenD (.str "x") = some (.int 1) := lenD_of (by decide +kernel) (by decide)
theorem len_0 : lenD (.str "") = some (.int 0) := lenD_of (by decide +kernel) (by decide)
theorem len_5 : lenD (.str "sssss") = some (.int 5) := lenD_of (by decide +kernel) (by decide)
theorem z0s : 0 < sizeLine := le_size (n := 1) (by decide)
theorem ne_x : neD (.str "x") (.str "") = some (.bool true) := by
  rw [neD_s (by decide +kernel) (by decide +kernel)]
  rfl
section
variable {S : Stg} (h : S.Ok)
include h
theorem odd_0 {x : D} (hx : x ∈ odds15) : Okay (.tuple [x, .bool S.priv, .int S.pat]) := by
  have lt1 : m__law_in [.int S.pat, .int 1, .int 60] = fun s => .ok (.bool true) s := by
    funext s
    show m_is_within [.int S.pat, .int 1, .int 60] s = _
    rw [m_is_within_e]
    have := h.p1
    have := h.p60
    simp [*]
  simp only [odds15, List.mem_cons, List.not_mem_nil, or_false] at hx
  rcases hx with rfl | rfl | rfl | rfl | rfl | rfl | rfl | rfl | rfl | rfl | rfl | rfl | rfl | rfl | rfl
  · exact .inr fun s => ⟨by simp [m__law_is_setting, b__law_is_setting], by simp [m_is_setting, b_is_setting]⟩
  · exact .inr fun s => ⟨by simp [m__law_is_setting, b__law_is_setting], by simp [m_is_setting, b_is_setting]⟩
  · exact .inr fun s => ⟨by simp [m__law_is_setting, b__law_is_setting], by simp [m_is_setting, b_is_setting]⟩
  · exact .inr fun s => ⟨by simp [m__law_is_setting, b__law_is_setting, forL, len_s1, strip_s, emp_eq, lt1, set_ss], by simp [m_is_setting, b_is_setting, compL, wipeD, oks, set_ss]⟩
  · exact .inr fun s => ⟨by simp [m__law_is_setting, b__law_is_setting, forL, len_s1, strip_s, emp_eq, len_0], by simp [m_is_setting, b_is_setting, compL, wipeD, oks, code_emp, z0s]⟩
  · exact .inr fun s => ⟨by simp [m__law_is_setting, b__law_is_setting, forL, len_s1, strip_s, emp_eq, len_x, strip_x, ne_x], by simp [m_is_setting, b_is_setting, compL, wipeD, oks, code_x, z0s]⟩
  · exact .inr fun s => ⟨by simp [m__law_is_setting, b__law_is_setting, forL, len_5], by simp [m_is_setting, b_is_setting, compL, wipeD, oks, code_5, z0s]⟩
  · exact .inr fun s => ⟨by simp [m__law_is_setting, b__law_is_setting], by simp [m_is_setting, b_is_setting]⟩
  · exact .inr fun s => ⟨by simp [m__law_is_setting, b__law_is_setting], by simp [m_is_setting, b_is_setting]⟩
  · exact .inr fun s => ⟨by simp [m__law_is_setting, b__law_is_setting], by simp [m_is_setting, b_is_setting]⟩
  · exact .inr fun s => ⟨by simp [m__law_is_setting, b__law_is_setting], by simp [m_is_setting, b_is_setting]⟩
  · exact .inr fun s => ⟨by simp [m__law_is_setting, b__law_is_setting], by simp [m_is_setting, b_is_setting]⟩
  · exact .inr fun s => ⟨by simp [m__law_is_setting, b__law_is_setting], by simp [m_is_setting, b_is_setting]⟩
  · exact .inl ⟨⟨["l", "s"], S.priv, S.pat⟩, ⟨by show 2 ≤ (["l", "s"] : List Str).length; decide, by show (["l", "s"] : List Str).length ≤ 8; decide, by show (["l", "s"] : List Str).Nodup; decide +kernel, by show ∀ c ∈ (["l", "s"] : List Str), c ∈ codes30; decide +kernel, h.p1, h.p60⟩, rfl⟩
  · exact .inr fun s => ⟨by simp [m__law_is_setting, b__law_is_setting], by simp [m_is_setting, b_is_setting]⟩
theorem odd_1 {x : D} (hx : x ∈ odds15) : Okay (.tuple [codesD S.codes, x, .int S.pat]) := by
  by_cases e : x = .bool true
  · subst e
    exact .inl ⟨⟨S.codes, true, S.pat⟩, ⟨h.l2, h.l8, h.nd, h.c30, h.p1, h.p60⟩, rfl⟩
  · right
    intro s
    have hb : isiD .bool x = some (.bool false) := by
      simp only [odds15, List.mem_cons, List.not_mem_nil, or_false] at hx
      rcases hx with rfl | rfl | rfl | rfl | rfl | rfl | rfl | rfl | rfl | rfl | rfl | rfl | rfl | rfl | rfl <;> first | rfl | exact absurd rfl e
    have w : m_is_within [.int S.pat, .int 1, .int 60] s = .ok (.bool true) s := by
      rw [m_is_within_e]
      have := h.p1
      have := h.p60
      simp [*]
    exact ⟨law_set_good h.cs hb w, set_good h.cs hb w⟩
theorem odd_2 {x : D} (hx : x ∈ odds15) : Okay (.tuple [codesD S.codes, .bool S.priv, x]) := by
  by_cases e : x = .int 1 ∨ x = .int 60
  · rcases e with rfl | rfl
    · exact .inl ⟨⟨S.codes, S.priv, 1⟩, ⟨h.l2, h.l8, h.nd, h.c30, by show (1 : Int) ≤ 1; decide, by show (1 : Int) ≤ 60; decide⟩, rfl⟩
    · exact .inl ⟨⟨S.codes, S.priv, 60⟩, ⟨h.l2, h.l8, h.nd, h.c30, by show (1 : Int) ≤ 60; decide, by show (60 : Int) ≤ 60; decide⟩, rfl⟩
  · right
    intro s
    have w : m_is_within [x, .int 1, .int 60] s = .ok (.bool false) s := by
      simp only [odds15, List.mem_cons, List.not_mem_nil, or_false] at hx
      rcases hx with rfl | rfl | rfl | rfl | rfl | rfl | rfl | rfl | rfl | rfl | rfl | rfl | rfl | rfl | rfl <;> first | exact absurd (Or.inl rfl) e | exact absurd (Or.inr rfl) e | simp [m_is_within, b_is_within]
    have hb : isiD .bool (.bool S.priv) = some (.bool true) := rfl
    exact ⟨by have := law_set_good h.cs hb w; simpa using this, by have := set_good h.cs hb w; simpa using this⟩
end
end M

/-! P41: law k02. -/
namespace M
open PySem L2
/-! ### words of refusals -/
theorem x_ss : exmT "NoSetting" "NoSetting" = some true := by decide +kernel
theorem x_cs : exmT "NoCode" "NoSetting" = some false := by decide +kernel
theorem x_cc : exmT "NoCode" "NoCode" = some true := by decide +kernel
theorem x_hs : exmT "NoHouse" "NoSetting" = some false := by decide +kernel
theorem x_hc : exmT "NoHouse" "NoCode" = some false := by decide +kernel
theorem x_hh : exmT "NoHouse" "NoHouse" = some true := by decide +kernel
theorem x_ns : exmT "NoCount" "NoSetting" = some false := by decide +kernel
theorem x_nc : exmT "NoCount" "NoCode" = some false := by decide +kernel
theorem x_nh : exmT "NoCount" "NoHouse" = some false := by decide +kernel
theorem x_nn : exmT "NoCount" "NoCount" = some true := by decide +kernel
section
variable {w t : D} {s s' : Sto}
theorem word_ok {r : D} (h : m__law_looked [w, t] s = .ok r s') : m__law_word [w, t] s = .ok (.str "") s' := by
  simp [m__law_word, b__law_word, sTry, h]
theorem word_s (h : m__law_looked [w, t] s = .exc "NoSetting" s') : m__law_word [w, t] s = .ok (.str "setting") s' := by
  simp [m__law_word, b__law_word, sTry, h, pickH, x_ss, noX]
theorem word_c (h : m__law_looked [w, t] s = .exc "NoCode" s') : m__law_word [w, t] s = .ok (.str "code") s' := by
  simp [m__law_word, b__law_word, sTry, h, pickH, x_cs, x_cc, noX]
theorem word_h (h : m__law_looked [w, t] s = .exc "NoHouse" s') : m__law_word [w, t] s = .ok (.str "house") s' := by
  simp [m__law_word, b__law_word, sTry, h, pickH, x_hs, x_hc, x_hh, noX]
theorem word_n (h : m__law_looked [w, t] s = .exc "NoCount" s') : m__law_word [w, t] s = .ok (.str "count") s' := by
  simp [m__law_word, b__law_word, sTry, h, pickH, x_ns, x_nc, x_nh, x_nn, noX]
theorem looked_1 {a b : D} : m__law_looked [.int 1, .tuple [a, b]] s = m_meant [a, b] s := by
  simp [m__law_looked, b__law_looked]
  cases m_meant [a, b] s <;> rfl
theorem looked_2 {a b : D} : m__law_looked [.int 2, .tuple [a, b]] s = m_ring [a, b] s := by
  simp [m__law_looked, b__law_looked]
  cases m_ring [a, b] s <;> rfl
theorem looked_3 {a b : D} : m__law_looked [.int 3, .tuple [a, b]] s = m_sure_behind [a, b] s := by
  simp [m__law_looked, b__law_looked]
  cases m_sure_behind [a, b] s <;> rfl
theorem look_none : m_look [.none] s = .exc "NoSetting" s := by simp [m_look, b_look, m_is_setting, b_is_setting]
theorem meant_none {a : D} : m_meant [.none, a] s = .exc "NoSetting" s := by simp [m_meant, b_meant, look_none]
theorem sure_none {a : D} : m_sure_behind [.none, a] s = .exc "NoSetting" s := by simp [m_sure_behind, b_sure_behind, look_none]
theorem ring_emp {a : D} : m_ring [.str "", a] s = .exc "NoCode" s := by simp [m_ring, b_ring, code_emp]
def manys : List D := [.int (-1), .int 401, .none, .bool true]
theorem ring_s {a : D} (ha : a ∈ manys) : m_ring [.str "s", a] s = .exc "NoCount" s := by
  have w : m_is_within [a, .int 0, .int 400] s = .ok (.bool false) s := by
    simp only [manys, List.mem_cons, List.not_mem_nil, or_false] at ha
    rcases ha with rfl | rfl | rfl | rfl <;> simp [m_is_within, b_is_within]
  simp [m_ring, b_ring, oks, w]
theorem sure_bad {S : Stg} (h : S.Ok) {a : D} (ha : a ∈ manys) : m_sure_behind [S.d, a] s = .exc "NoHouse" s := by
  have h8 := h.l8
  have w : m_look_house [S.d, a] s = .exc "NoHouse" s := by
    have w : m_is_within [a, .int 0, .int ((S.codes.length : Int) - 1)] s = .ok (.bool false) s := by
      simp only [manys, List.mem_cons, List.not_mem_nil, or_false] at ha
      rcases ha with rfl | rfl | rfl | rfl
      · rw [m_is_within_e]; simp
      · rw [m_is_within_e]
        congr 2
        have : ¬ ((401 : Int) ≤ (S.codes.length : Int) - 1) := by omega
        simp [this]
      · simp [m_is_within, b_is_within]
      · simp [m_is_within, b_is_within]
    simp [m_look_house, b_look_house, w]
  simp [m_sure_behind, b_sure_behind, m_look_e h, w]
def bads : List D := [.none, .tuple [.bool true], .list [.int 1], .list (List.replicate 401 (.bool true)), .str "", .list [.none], .int 7]
theorem meant_bad {S : Stg} (h : S.Ok) {a : D} (ha : a ∈ bads) : m_meant [S.d, a] s = .exc "NoCode" s := by
  have z0 := z0s
  simp only [bads, List.mem_cons, List.not_mem_nil, or_false] at ha
  rcases ha with rfl | rfl | rfl | rfl | rfl | rfl | rfl
  · simp [m_meant, b_meant, m_look_e h]
  · simp [m_meant, b_meant, m_look_e h]
  · simp [m_meant, b_meant, m_look_e h, compL, wipeD, z0]
  · simp [m_meant, b_meant, m_look_e h, -List.replicate_succ, -List.reduceReplicate]
  · simp [m_meant, b_meant, m_look_e h]
  · simp [m_meant, b_meant, m_look_e h, compL, wipeD, z0]
  · simp [m_meant, b_meant, m_look_e h]
end
/-- a thing handed in as a setting -/
theorem word_0 {x : D} (h : Okay x) {s : Sto} : ∃ g s', m__law_is_setting [x] = (fun s => .ok (.bool g) s) ∧ m_is_setting [x] = (fun s => .ok (.bool g) s) ∧ m__law_word [.int 0, x] s = .ok (.str (if g = true then "" else "setting")) s' := by
  rcases h with ⟨S, hS, rfl⟩ | h
  · refine ⟨true, s ++ [recL (ln0 S)], ?_, ?_, ?_⟩
    · funext s
      have hb : isiD .bool (.bool S.priv) = some (.bool true) := rfl
      have w : m_is_within [.int S.pat, .int 1, .int 60] s = .ok (.bool true) s := by
        rw [m_is_within_e]
        have := hS.p1
        have := hS.p60
        simp [*]
      exact law_set_good hS.cs hb w
    · funext s; exact m_is_setting_e hS
    · refine word_ok (r := refD s.length) ?_
      have ml := make_line hS (s := s)
      simp [m__law_looked, b__law_looked, ml]
  · refine ⟨false, s ++ [⟨"Line", []⟩], ?_, ?_, ?_⟩
    · funext s; exact (h s).1
    · funext s; exact (h s).2
    · refine word_s ?_
      have hl : m_look [x] (s ++ [⟨"Line", []⟩]) = .exc "NoSetting" (s ++ [⟨"Line", []⟩]) := by simp [m_look, b_look, (h _).2]
      have hi : m_Line___init__ [refD s.length, x] (s ++ [⟨"Line", []⟩]) = .exc "NoSetting" (s ++ [⟨"Line", []⟩]) := by simp [m_Line___init__, b_Line___init__, hl]
      simp [m__law_looked, b__law_looked, hi]
theorem alike_len {cs : List Str} {h i : Nat} (hh : h < cs.length) : decide (((cs.filter fun c => decide (ringOf c i = ringOf (cod cs h) i)).length : Int) = 1) = sureP cs h i := by
  rw [← count_sure hh]
  rw [decide_eq_decide]
  generalize cs.filter (fun c => decide (ringOf c i = ringOf (cod cs h) i)) = l
  constructor
  · intro e
    have e : l.length = 1 := by omega
    match l, e with
    | [x], _ => rfl
  · intro e
    have := congrArg List.length e
    rw [List.length_map] at this
    simp at this
    omega
theorem sure_0 {S : Stg} (hS : S.Ok) {h : Nat} (hh : h < S.codes.length) : sureP S.codes h 0 = false := by
  rw [← alike_len hh]
  have e : (S.codes.filter fun c => decide (ringOf c 0 = ringOf (cod S.codes h) 0)) = S.codes := List.filter_eq_self.mpr fun c _ => by
    have : ringOf c 0 = ringOf (cod S.codes h) 0 := rfl
    simp [this]
  rw [e]
  have := hS.l2
  rw [decide_eq_false_iff_not]
  omega
theorem sure_spec {S : Stg} (hS : S.Ok) {h : Nat} (hh : h < S.codes.length) : sureP S.codes h (sureOf S.codes h) = true ∧ sureOf S.codes h ≤ 40 ∧ 1 ≤ sureOf S.codes h ∧ sureP S.codes h (sureOf S.codes h - 1) = false := by
  obtain ⟨h1, h2, h3⟩ := firstT_spec (p := sureP S.codes h) (k := 40) (by omega) (sure_40 hS hh (Nat.le_refl _))
  have h4 : 1 ≤ sureOf S.codes h := by
    rcases Nat.eq_zero_or_pos (sureOf S.codes h) with z | z
    · have : sureP S.codes h (sureOf S.codes h) = true := h1
      rw [z, sure_0 hS hh] at this
      cases this
    · exact z
  exact ⟨h1, h2, h4, h3 _ (by unfold sureOf at *; omega)⟩
section
variable {d : D} {S : Stg} (hS : S.Ok)
def en2 (d : D) (S : Stg) (z2 z3 z4 z5 : Slot) (z7 z8 z9 z10 z11 z12 z14 z15 z16 z17 z18 : Slot) : Env := [.val d, .val S.d, z2, z3, z4, z5, .val (codesD S.codes), z7, z8, z9, z10, z11, z12, .no, z14, z15, z16, z17, z18]
include hS
theorem w16a {z2 z3 z4 z5 z7 z9 z10 z15 z16 z17 z18 : Slot} {s : Sto} {h i : Nat} (hh : h < S.codes.length) (hi : i ≤ 400) {t : Int} (ht : (if t > 0 then t else 0) = (i : Int)) (hq : sureP S.codes h i = decide (t = (sureOf S.codes h : Int))) : ∃ z15', b_law_k02_16a (en2 d S z2 z3 z4 z5 z7 (.val (.int t)) z9 z10 (.val (.int (h : Int))) (.val (.str (cod S.codes h))) (.val (.int (sureOf S.codes h : Int))) z15 z16 z17 z18) s = .next (en2 d S z2 z3 z4 z5 z7 (.val (.int t)) z9 z10 (.val (.int (h : Int))) (.val (.str (cod S.codes h))) (.val (.int (sureOf S.codes h : Int))) z15' z16 z17 z18) s := by
  have h8 := hS.l8
  have rh := m__law_ring_e' (hS.c30 _ (cod_mem hh)) hi (s := s)
  have hc : compL (gN 13) (xB (x2 eqD (xCall 2 m__law_ring (aC (xV 13) (aC (b2D (fun i j => if j > i then j else i) (aC (xC (.int 0)) (aC (xV 8) aN))) aN))) (xCall 2 m__law_ring (aC (xV 12) (aC (b2D (fun i j => if j > i then j else i) (aC (xC (.int 0)) (aC (xV 8) aN))) aN))))) (xV 13) [13] (S.codes.map .str) [] (en2 d S z2 z3 z4 z5 z7 (.val (.int t)) z9 z10 (.val (.int (h : Int))) (.val (.str (cod S.codes h))) (.val (.int (sureOf S.codes h : Int))) z15 z16 z17 z18) s = .ok ((S.codes.filter fun c => decide (ringOf c i = ringOf (cod S.codes h) i)).map .str) s := by
    have := compL_map (t := gN 13) (c := xB (x2 eqD (xCall 2 m__law_ring (aC (xV 13) (aC (b2D (fun i j => if j > i then j else i) (aC (xC (.int 0)) (aC (xV 8) aN))) aN))) (xCall 2 m__law_ring (aC (xV 12) (aC (b2D (fun i j => if j > i then j else i) (aC (xC (.int 0)) (aC (xV 8) aN))) aN))))) (e := xV 13) (vs := [13]) (ρ := en2 d S z2 z3 z4 z5 z7 (.val (.int t)) z9 z10 (.val (.int (h : Int))) (.val (.str (cod S.codes h))) (.val (.int (sureOf S.codes h : Int))) z15 z16 z17 z18) (s := s) PyData.str (fun c => decide (ringOf c i = ringOf (cod S.codes h) i)) PyData.str S.codes [] (fun c hc => ⟨_, rfl, by
      have rc := m__law_ring_e' (hS.c30 c hc) hi (s := s)
      simp only [wipeD, en2, gN_e, xB_e, x2_e, xCall_e, aC_e, aN_e, b2D_e, xC_e, xV_e, List.set_cons_succ, List.set_cons_zero, List.foldl_cons, List.foldl_nil, List.getElem?_cons_succ, List.getElem?_cons_zero, bind_ok, List.length_cons, List.length_nil, Nat.reduceAdd, if_true, ht, rc, rh, eq_bools, lift_some], fun _ => by simp [wipeD, en2]⟩) (le_size (by simp; omega))
    rw [List.nil_append] at this
    exact this
  refine ⟨.val (.list ((S.codes.filter fun c => decide (ringOf c i = ringOf (cod S.codes h) i)).map .str)), ?_⟩
  unfold b_law_k02_16a
  refine seq_next (ρ1 := en2 d S z2 z3 z4 z5 z7 (.val (.int t)) z9 z10 (.val (.int (h : Int))) (.val (.str (cod S.codes h))) (.val (.int (sureOf S.codes h : Int))) (.val (.list ((S.codes.filter fun c => decide (ringOf c i = ringOf (cod S.codes h) i)).map .str))) z16 z17 z18) (s1 := s) ?_ ?_
  · rw [sSet_e, stX_e, xComp_e, iAny_e]
    rw [show (xV 6) (en2 d S z2 z3 z4 z5 z7 (.val (.int t)) z9 z10 (.val (.int (h : Int))) (.val (.str (cod S.codes h))) (.val (.int (sureOf S.codes h : Int))) z15 z16 z17 z18) s = .ok (codesD S.codes) s from rfl]
    simp only [bind_ok, codesD, hc]
    rfl
  · refine (if_f (s1 := s) ?_).trans rfl
    have al := alike_len (cs := S.codes) (i := i) hh
    rw [hq] at al
    simp only [en2, xB_e, x2_e, x1_e, xV_e, xC_e, List.getElem?_cons_succ, List.getElem?_cons_zero, bind_ok, lenD_l, List.length_map, lift_some, eqD_i, al, neD_b]
    simp
theorem w16b {z2 z3 z4 z5 z7 z8 z9 z10 z14 z15 z16 z17 z18 : Slot} {s : Sto} {h : Nat} (hh : h < S.codes.length) : ∃ z8' z14' z15', b_law_k02_16b (en2 d S z2 z3 z4 z5 z7 z8 z9 z10 (.val (.int (h : Int))) (.val (.str (cod S.codes h))) z14 z15 z16 z17 z18) s = .next (en2 d S z2 z3 z4 z5 z7 z8' z9 z10 (.val (.int (h : Int))) (.val (.str (cod S.codes h))) z14' z15' z16 z17 z18) s := by
  obtain ⟨s1, s2, s3, s4⟩ := sure_spec hS hh
  have sb := m_sure_behind_e hS hh (s := s)
  obtain ⟨q1, e1⟩ := w16a (d := d) hS (z2 := z2) (z3 := z3) (z4 := z4) (z5 := z5) (z7 := z7) (z9 := z9) (z10 := z10) (z15 := z15) (z16 := z16) (z17 := z17) (z18 := z18) (s := s) hh (i := sureOf S.codes h - 1) (by omega) (t := (sureOf S.codes h : Int) - 1) (by split <;> omega) (by rw [s4]; symm; rw [decide_eq_false_iff_not]; omega)
  obtain ⟨q2, e2⟩ := w16a (d := d) hS (z2 := z2) (z3 := z3) (z4 := z4) (z5 := z5) (z7 := z7) (z9 := z9) (z10 := z10) (z15 := q1) (z16 := z16) (z17 := z17) (z18 := z18) (s := s) hh (i := sureOf S.codes h) (by omega) (t := (sureOf S.codes h : Int)) (by split <;> omega) (by rw [s1]; simp)
  refine ⟨.val (.int (sureOf S.codes h : Int)), .val (.int (sureOf S.codes h : Int)), q2, ?_⟩
  unfold b_law_k02_16b
  refine seq_next (ρ1 := en2 d S z2 z3 z4 z5 z7 z8 z9 z10 (.val (.int (h : Int))) (.val (.str (cod S.codes h))) (.val (.int (sureOf S.codes h : Int))) z15 z16 z17 z18) (s1 := s) ?_ ?_
  · simp [en2, sb]
  · have it : (iAny (xTup (aC (x2 subD (xV 14) (xC (.int 1))) (aC (xV 14) aN)))) (en2 d S z2 z3 z4 z5 z7 z8 z9 z10 (.val (.int (h : Int))) (.val (.str (cod S.codes h))) (.val (.int (sureOf S.codes h : Int))) z15 z16 z17 z18) s = .ok [.int ((sureOf S.codes h : Int) - 1), .int (sureOf S.codes h : Int)] s := by
      simp [en2, le_size]
    rw [sFor_e, stX_e, it]
    show (match b_law_k02_16a (en2 d S z2 z3 z4 z5 z7 (.val (.int ((sureOf S.codes h : Int) - 1))) z9 z10 (.val (.int (h : Int))) (.val (.str (cod S.codes h))) (.val (.int (sureOf S.codes h : Int))) z15 z16 z17 z18) s with | .next ρ2 s2 => forL (gN 8) b_law_k02_16a [.int (sureOf S.codes h : Int)] ρ2 s2 | .cont ρ2 s2 => forL (gN 8) b_law_k02_16a [.int (sureOf S.codes h : Int)] ρ2 s2 | .brk ρ2 s2 => .next ρ2 s2 | r => r) = _
    rw [e1]
    show (match b_law_k02_16a (en2 d S z2 z3 z4 z5 z7 (.val (.int (sureOf S.codes h : Int))) z9 z10 (.val (.int (h : Int))) (.val (.str (cod S.codes h))) (.val (.int (sureOf S.codes h : Int))) q1 z16 z17 z18) s with | .next ρ2 s2 => forL (gN 8) b_law_k02_16a [] ρ2 s2 | .cont ρ2 s2 => forL (gN 8) b_law_k02_16a [] ρ2 s2 | .brk ρ2 s2 => .next ρ2 s2 | r => r) = _
    rw [e2]
    rfl
theorem w16l {z2 z3 z4 z5 z7 z8 z9 z10 z16 z17 z18 : Slot} {s : Sto} : ∃ z8' z11 z12 z14 z15, b_law_k02_16 (en2 d S z2 z3 z4 z5 z7 z8 z9 z10 .no .no .no .no z16 z17 z18) s = .next (en2 d S z2 z3 z4 z5 z7 z8' z9 z10 z11 z12 z14 z15 z16 z17 z18) s := by
  obtain ⟨ρ, s', e1, ⟨z8', z11, z12, z14, z15, e2⟩, e3⟩ := forL_rel (t := gT 2 (gsC (gN 11) (gsC (gN 12) gsN))) (b := b_law_k02_16b) (fun p : Str × Nat => PyData.tuple [.int (p.2 : Int), .str p.1]) (fun _ ρ s' => (∃ z8' z11 z12 z14 z15, ρ = en2 d S z2 z3 z4 z5 z7 z8' z9 z10 z11 z12 z14 z15 z16 z17 z18) ∧ s' = s) (S.codes.zipIdx 0) 0 (en2 d S z2 z3 z4 z5 z7 z8 z9 z10 .no .no .no .no z16 z17 z18) s ⟨⟨_, _, _, _, _, rfl⟩, rfl⟩ fun i p ρ s' hp hI => by
    obtain ⟨⟨z8', z11, z12, z14, z15, rfl⟩, rfl⟩ := hI
    obtain ⟨c, k⟩ := p
    have hm := List.mem_zipIdx_iff_getElem?.mp (List.mem_of_getElem? hp)
    obtain ⟨hk, hc⟩ := List.getElem?_eq_some_iff.mp hm
    have hk : k < S.codes.length := hk
    have hcc : cod S.codes k = c := by rw [cod_eq hk]; exact hc
    obtain ⟨q8, q14, q15, e⟩ := w16b (d := d) hS (z2 := z2) (z3 := z3) (z4 := z4) (z5 := z5) (z7 := z7) (z8 := z8') (z9 := z9) (z10 := z10) (z14 := z14) (z15 := z15) (z16 := z16) (z17 := z17) (z18 := z18) (s := s') hk
    rw [hcc] at e
    exact ⟨_, _, _, rfl, .inl e, ⟨_, _, _, _, _, rfl⟩, rfl⟩
  refine ⟨z8', z11, z12, z14, z15, ?_⟩
  have it : (iEnA (aC (xV 6) aN)) (en2 d S z2 z3 z4 z5 z7 z8 z9 z10 .no .no .no .no z16 z17 z18) s = .ok (enumD 0 (S.codes.map .str)) s := rfl
  rw [b_law_k02_16, sFor_e, stX_e, it, enumD_map]
  show forL _ _ _ _ s = _
  rw [e1, e2, e3]
end
theorem pick15 {q : Nat} (hq : q < 15) : ∃ x, x ∈ odds15 ∧ atI odds15 (q : Int) = some x := by
  have hl : q < odds15.length := hq
  exact ⟨odds15[q], List.getElem_mem hl, atI_nat hl⟩
theorem list_okay {S : Stg} : Okay (.list [codesD S.codes, .bool S.priv, .int S.pat]) := .inr fun s => ⟨by simp [m__law_is_setting, b__law_is_setting], by simp [m_is_setting, b_is_setting]⟩
theorem two_okay {S : Stg} : Okay (.tuple [codesD S.codes, .bool S.priv]) := .inr fun s => ⟨by simp [m__law_is_setting, b__law_is_setting], by simp [m_is_setting, b_is_setting]⟩
theorem four_okay {S : Stg} : Okay (.tuple [codesD S.codes, .bool S.priv, .int S.pat, .int 1]) := .inr fun s => ⟨by simp [m__law_is_setting, b__law_is_setting], by simp [m_is_setting, b_is_setting]⟩
theorem ring_alike {c : Str} {t : Nat} : (ringOf c t).length = t := ringOf_len c t
theorem says_law_k02 (ns : List Int) (hl : ns.length ≤ 63) : Says m_law_k02 ns := by
  obtain ⟨S, hS, eS⟩ := m__law_setting_e (seedOf (cellOf ns 0) 0)
  have h2 := hS.l2
  have h8 := hS.l8
  generalize hd : scrD (ns.map PyData.int) = d
  have hcell : ∀ (k : Nat) s, m__law_cell [d, .int k] s = .ok (.int (cellOf ns k)) s := fun k s => by rw [← hd]; exact m__law_cell_e
  have c0 : ∀ s, m__law_cell [d, .int 0] s = .ok (.int (cellOf ns 0)) s := fun s => hcell 0 s
  have c1 : ∀ s, m__law_cell [d, .int 1] s = .ok (.int (cellOf ns 1)) s := fun s => hcell 1 s
  have c2 : ∀ s, m__law_cell [d, .int 2] s = .ok (.int (cellOf ns 2)) s := fun s => hcell 2 s
  have c3 : ∀ s, m__law_cell [d, .int 3] s = .ok (.int (cellOf ns 3)) s := fun s => hcell 3 s
  have c4 : ∀ s, m__law_cell [d, .int 4] s = .ok (.int (cellOf ns 4)) s := fun s => hcell 4 s
  have c5 : ∀ s, m__law_cell [d, .int 5] s = .ok (.int (cellOf ns 5)) s := fun s => hcell 5 s
  have c6 : ∀ s, m__law_cell [d, .int 6] s = .ok (.int (cellOf ns 6)) s := fun s => hcell 6 s
  have c7 : ∀ s, m__law_cell [d, .int 7] s = .ok (.int (cellOf ns 7)) s := fun s => hcell 7 s
  have c8 : ∀ s, m__law_cell [d, .int 8] s = .ok (.int (cellOf ns 8)) s := fun s => hcell 8 s
  have c9 : ∀ s, m__law_cell [d, .int 9] s = .ok (.int (cellOf ns 9)) s := fun s => hcell 9 s
  have c10 : ∀ s, m__law_cell [d, .int 10] s = .ok (.int (cellOf ns 10)) s := fun s => hcell 10 s
  obtain ⟨q1, eq1, hq1⟩ := mod_nat (cellOf ns 1) 3 (by omega)
  have eq1 : cellOf ns 1 % 3 = (q1 : Int) := eq1
  obtain ⟨q2, eq2, hq2⟩ := mod_nat (cellOf ns 2) 15 (by omega)
  have eq2 : cellOf ns 2 % 15 = (q2 : Int) := eq2
  obtain ⟨q3, eq3, hq3⟩ := mod_nat (cellOf ns 3) 5 (by omega)
  have eq3 : cellOf ns 3 % 5 = (q3 : Int) := eq3
  obtain ⟨ox, hox, eox⟩ := pick15 hq2
  let E : Slot → Slot → Slot → Slot → Env := fun z2 z3 z4 z5 => [.val d, .val S.d, z2, z3, z4, z5, .no, .no, .no, .no, .no, .no, .no, .no, .no, .no, .no, .no, .no]
  have a1 : b_law_k02_1 [.val d, .no, .no, .no, .no, .no, .no, .no, .no, .no, .no, .no, .no, .no, .no, .no, .no, .no, .no] [] = .next (E .no .no .no .no) [] := by
    simp [b_law_k02_1, c0, m__law_seed_e, eS, E]
  have a23 : ∀ X, sSeq b_law_k02_2 (sSeq b_law_k02_3 X) (E .no .no .no .no) [] = X (E (.val (.list odds15)) .no .no .no) [] := fun X => by
    refine seq_next (ρ1 := E (.val (.list [.none, .tuple [], .tuple [.str "s"], .tuple [.str "s", .str "s"], .tuple [.str "s", .str ""], .tuple [.str "s", .str "x"], .tuple [.str "sssss", .str "s"], .bool true, .int 0, .int 1, .int 60, .int 61, .list [.str "s", .str "l"]])) .no .no .no) (s1 := []) ?_ (seq_next (ρ1 := E (.val (.list odds15)) .no .no .no) (s1 := []) ?_ rfl)
    · simp [b_law_k02_2, E, le_size]
    · have hz : 13 + 2 ≤ sizeLine := le_size (by decide)
      simp [b_law_k02_3, E, le_size, odds15]
  have a4 : b_law_k02_4 (E (.val (.list odds15)) .no .no .no) [] = .next (E (.val (.list odds15)) (.val (.int (q1 : Int))) .no .no) [] := by
    simp [b_law_k02_4, E, c1, eq1]
  have w2 : (x2 ixD (xV 2) (x2 modD (xCall 2 m__law_cell (aC (xV 0) (aC (xC (.int 2)) aN))) (xC (.int 15)))) (E (.val (.list odds15)) (.val (.int (q1 : Int))) .no .no) [] = .ok ox [] := by
    have m2 : modD (.int (cellOf ns 2)) (.int 15) = some (.int (q2 : Int)) := by rw [modD_e, if_pos (by decide), eq2]
    simp only [E, x2_e, xV_e, List.getElem?_cons_succ, List.getElem?_cons_zero, bind_ok, xCall_e, aC_e, xC_e, aN_e, List.length_cons, List.length_nil, Nat.reduceAdd, if_true, c2, m2, lift_some, ixD_l, eox]
  obtain ⟨x0, hx0, a5⟩ : ∃ x0, Okay x0 ∧ b_law_k02_5 (E (.val (.list odds15)) (.val (.int (q1 : Int))) .no .no) [] = .next (E (.val (.list odds15)) (.val (.int (q1 : Int))) (.val x0) .no) [] := by
    have hz3 : 3 ≤ sizeLine := le_size (by decide)
    have wt : (xTup (aC (x2 ixD (xV 2) (x2 modD (xCall 2 m__law_cell (aC (xV 0) (aC (xC (.int 2)) aN))) (xC (.int 15)))) aN)) (E (.val (.list odds15)) (.val (.int (q1 : Int))) .no .no) [] = .ok (.tuple [ox]) [] := by
      rw [xTup_e, aC_e, w2]
      simp [le_size]
    have hz1 : 1 ≤ sizeLine := le_size (by decide)
    have hz2 : 2 ≤ sizeLine := le_size (by decide)
    have add3 : ∀ (xs ys : List D), xs.length + ys.length ≤ 100 → addD (.tuple xs) (.tuple ys) = some (.tuple (xs ++ ys)) := fun xs ys h => by
      rw [addD_t, if_pos (le_size (by omega))]
    rcases (by omega : q1 = 0 ∨ q1 = 1 ∨ q1 = 2) with rfl | rfl | rfl
    · refine ⟨_, odd_0 hS hox, ?_⟩
      have k1 : cutD [codesD S.codes, .bool S.priv, .int S.pat] none (some 0) = [] := rfl
      have k2 : cutD [codesD S.codes, .bool S.priv, .int S.pat] (some 1) none = [.bool S.priv, .int S.pat] := rfl
      have g1 : (x2 addD (xSl sliD (xV 1) oN (oS (xV 3))) (xTup (aC (x2 ixD (xV 2) (x2 modD (xCall 2 m__law_cell (aC (xV 0) (aC (xC (.int 2)) aN))) (xC (.int 15)))) aN))) (E (.val (.list odds15)) (.val (.int ((0 : Nat) : Int))) .no .no) [] = .ok (.tuple [ox]) [] := by
        rw [x2_e]
        rw [show (xSl sliD (xV 1) oN (oS (xV 3))) (E (.val (.list odds15)) (.val (.int ((0 : Nat) : Int))) .no .no) [] = .ok (.tuple []) [] from by simp [E, Stg.d, k1]]
        simp only [bind_ok, wt, add3 [] [ox] (by simp), lift_some, List.nil_append]
      rw [b_law_k02_5, sSet_e, stX_e, x2_e, g1]
      rw [show (fun a s1 => ((xSl sliD (xV 1) (oS (x2 addD (xV 3) (xC (.int 1)))) oN) (E (.val (.list odds15)) (.val (.int ((0 : Nat) : Int))) .no .no) s1).bind fun b s2 => lift (addD a b) s2) = fun a s1 => lift (addD a (.tuple [.bool S.priv, .int S.pat])) s1 from by funext a s1; simp [E, Stg.d, k2]]
      simp only [bind_ok, add3 [ox] [.bool S.priv, .int S.pat] (by simp), lift_some]
      rfl
    · refine ⟨_, odd_1 hS hox, ?_⟩
      have k1 : cutD [codesD S.codes, .bool S.priv, .int S.pat] none (some 1) = [codesD S.codes] := rfl
      have k2 : cutD [codesD S.codes, .bool S.priv, .int S.pat] (some (1 + 1)) none = [.int S.pat] := rfl
      have g1 : (x2 addD (xSl sliD (xV 1) oN (oS (xV 3))) (xTup (aC (x2 ixD (xV 2) (x2 modD (xCall 2 m__law_cell (aC (xV 0) (aC (xC (.int 2)) aN))) (xC (.int 15)))) aN))) (E (.val (.list odds15)) (.val (.int ((1 : Nat) : Int))) .no .no) [] = .ok (.tuple [codesD S.codes, ox]) [] := by
        rw [x2_e]
        rw [show (xSl sliD (xV 1) oN (oS (xV 3))) (E (.val (.list odds15)) (.val (.int ((1 : Nat) : Int))) .no .no) [] = .ok (.tuple [codesD S.codes]) [] from by simp [E, Stg.d, k1]]
        simp only [bind_ok, wt, add3 [codesD S.codes] [ox] (by simp), lift_some]
        rfl
      rw [b_law_k02_5, sSet_e, stX_e, x2_e, g1]
      rw [show (fun a s1 => ((xSl sliD (xV 1) (oS (x2 addD (xV 3) (xC (.int 1)))) oN) (E (.val (.list odds15)) (.val (.int ((1 : Nat) : Int))) .no .no) s1).bind fun b s2 => lift (addD a b) s2) = fun a s1 => lift (addD a (.tuple [.int S.pat])) s1 from by
        have k3 : cutD [codesD S.codes, .bool S.priv, .int S.pat] (some 2) none = [.int S.pat] := rfl
        funext a s1; simp [E, Stg.d, k3]]
      simp only [bind_ok, add3 [codesD S.codes, ox] [.int S.pat] (by simp), lift_some]
      rfl
    · refine ⟨_, odd_2 hS hox, ?_⟩
      have k1 : cutD [codesD S.codes, .bool S.priv, .int S.pat] none (some 2) = [codesD S.codes, .bool S.priv] := rfl
      have g1 : (x2 addD (xSl sliD (xV 1) oN (oS (xV 3))) (xTup (aC (x2 ixD (xV 2) (x2 modD (xCall 2 m__law_cell (aC (xV 0) (aC (xC (.int 2)) aN))) (xC (.int 15)))) aN))) (E (.val (.list odds15)) (.val (.int ((2 : Nat) : Int))) .no .no) [] = .ok (.tuple [codesD S.codes, .bool S.priv, ox]) [] := by
        rw [x2_e]
        rw [show (xSl sliD (xV 1) oN (oS (xV 3))) (E (.val (.list odds15)) (.val (.int ((2 : Nat) : Int))) .no .no) [] = .ok (.tuple [codesD S.codes, .bool S.priv]) [] from by simp [E, Stg.d, k1]]
        simp only [bind_ok, wt, add3 [codesD S.codes, .bool S.priv] [ox] (by simp), lift_some]
        rfl
      rw [b_law_k02_5, sSet_e, stX_e, x2_e, g1]
      rw [show (fun a s1 => ((xSl sliD (xV 1) (oS (x2 addD (xV 3) (xC (.int 1)))) oN) (E (.val (.list odds15)) (.val (.int ((2 : Nat) : Int))) .no .no) s1).bind fun b s2 => lift (addD a b) s2) = fun a s1 => lift (addD a (.tuple [])) s1 from by
        have k3 : cutD [codesD S.codes, .bool S.priv, .int S.pat] (some 3) none = [] := rfl
        funext a s1; simp [E, Stg.d, k3]]
      simp only [bind_ok, add3 [codesD S.codes, .bool S.priv, ox] [] (by simp), lift_some, List.append_nil]
      rfl
  obtain ⟨x, hx, a6⟩ : ∃ x, Okay x ∧ b_law_k02_6 (E (.val (.list odds15)) (.val (.int (q1 : Int))) (.val x0) .no) [] = .next (E (.val (.list odds15)) (.val (.int (q1 : Int))) (.val x) .no) [] := by
    have m3 : modD (.int (cellOf ns 3)) (.int 5) = some (.int (q3 : Int)) := by rw [modD_e, if_pos (by decide), eq3]
    have k1 : cutD [codesD S.codes, .bool S.priv, .int S.pat] none (some 2) = [codesD S.codes, .bool S.priv] := rfl
    have ls : lstD (.tuple [codesD S.codes, .bool S.priv, .int S.pat]) = some (.list [codesD S.codes, .bool S.priv, .int S.pat]) := rfl
    have g1 : (xLst (aC (xV 4) (aC (xV 4) (aC (x1 lstD (xV 1)) (aC (xSl sliD (xV 1) oN (oS (xC (.int 2)))) (aC (x2 addD (xV 1) (xTup (aC (xC (.int 1)) aN))) aN)))))) (E (.val (.list odds15)) (.val (.int (q1 : Int))) (.val x0) .no) [] = .ok (.list [x0, x0, .list [codesD S.codes, .bool S.priv, .int S.pat], .tuple [codesD S.codes, .bool S.priv], .tuple [codesD S.codes, .bool S.priv, .int S.pat, .int 1]]) [] := by
      simp [E, Stg.d, k1, ls, le_size]
    have g2 : (x2 modD (xCall 2 m__law_cell (aC (xV 0) (aC (xC (.int 3)) aN))) (xC (.int 5))) (E (.val (.list odds15)) (.val (.int (q1 : Int))) (.val x0) .no) [] = .ok (.int (q3 : Int)) [] := by
      simp only [E, x2_e, xV_e, List.getElem?_cons_succ, List.getElem?_cons_zero, bind_ok, xCall_e, aC_e, xC_e, aN_e, List.length_cons, List.length_nil, Nat.reduceAdd, if_true, c3, m3, lift_some]
    have fin : ∀ y, atI [x0, x0, .list [codesD S.codes, .bool S.priv, .int S.pat], .tuple [codesD S.codes, .bool S.priv], .tuple [codesD S.codes, .bool S.priv, .int S.pat, .int 1]] (q3 : Int) = some y → b_law_k02_6 (E (.val (.list odds15)) (.val (.int (q1 : Int))) (.val x0) .no) [] = .next (E (.val (.list odds15)) (.val (.int (q1 : Int))) (.val y) .no) [] := fun y hy => by
      rw [b_law_k02_6, sSet_e, stX_e, x2_e, g1]
      simp only [bind_ok, g2, ixD_l, hy, lift_some]
      rfl
    rcases (by omega : q3 = 0 ∨ q3 = 1 ∨ q3 = 2 ∨ q3 = 3 ∨ q3 = 4) with rfl | rfl | rfl | rfl | rfl
    · exact ⟨_, hx0, fin _ rfl⟩
    · exact ⟨_, hx0, fin _ rfl⟩
    · exact ⟨_, list_okay, fin _ rfl⟩
    · exact ⟨_, two_okay, fin _ rfl⟩
    · exact ⟨_, four_okay, fin _ rfl⟩
  obtain ⟨g, s1, lw1, lw2, lw3⟩ := word_0 hx (s := [])
  have a7 : b_law_k02_7 (E (.val (.list odds15)) (.val (.int (q1 : Int))) (.val x) .no) [] = .next (E (.val (.list odds15)) (.val (.int (q1 : Int))) (.val x) (.val (.bool g))) [] := by
    simp [b_law_k02_7, E, lw1]
  have eg : eqD (.str (if g = true then "" else "setting")) (.str "") = some (.bool g) := by
    cases g
    · rw [if_neg (by simp), eqD_s (by decide +kernel) (by decide +kernel)]
      rfl
    · rw [if_pos rfl, eqD_s (by decide +kernel) (by decide +kernel)]
      rfl
  have ne3 : neD (.list [.bool true, .bool g, .bool g]) (.list [.bool true, .bool g, .bool g]) = some (.bool false) := neD_self ((lay_l (k := 0) (lay_cons lay_b (lay_cons lay_b (lay_cons lay_b lay_nil)))).shaped (by decide))
  have a8 : b_law_k02_8 (E (.val (.list odds15)) (.val (.int (q1 : Int))) (.val x) (.val (.bool g))) [] = .next (E (.val (.list odds15)) (.val (.int (q1 : Int))) (.val x) (.val (.bool g))) s1 := by
    have sS := m_is_setting_e hS (s := [])
    simp [b_law_k02_8, E, sS, lw2, lw3, eg, le_size, ne3]
  obtain ⟨h, eh, hh⟩ := mod_nat (cellOf ns 4) S.codes.length (by omega)
  have hn' : 0 < S.codes.length := by omega
  have a9 : b_law_k02_9 (E (.val (.list odds15)) (.val (.int (q1 : Int))) (.val x) (.val (.bool g))) s1 = .next (en2 d S (.val (.list odds15)) (.val (.int (q1 : Int))) (.val x) (.val (.bool g)) (.val (.int (h : Int))) .no .no .no .no .no .no .no .no .no .no) s1 := by
    simp [b_law_k02_9, E, en2, c4, hn', eh]
  obtain ⟨q5, eq5, hq5⟩ := mod_nat (cellOf ns 5) 30 (by omega)
  have eq5 : cellOf ns 5 % 30 = (q5 : Int) := eq5
  obtain ⟨q5', eq5', hq5'⟩ := mod_nat (cellOf ns 5) 401 (by omega)
  have eq5' : cellOf ns 5 % 401 = (q5' : Int) := eq5'
  obtain ⟨q6, eq6, hq6⟩ := mod_nat (cellOf ns 6) 2 (by omega)
  have eq6 : cellOf ns 6 % 2 = (q6 : Int) := eq6
  obtain ⟨t, ht, a10⟩ : ∃ t : Nat, t ≤ 400 ∧ b_law_k02_10 (en2 d S (.val (.list odds15)) (.val (.int (q1 : Int))) (.val x) (.val (.bool g)) (.val (.int (h : Int))) .no .no .no .no .no .no .no .no .no .no) s1 = .next (en2 d S (.val (.list odds15)) (.val (.int (q1 : Int))) (.val x) (.val (.bool g)) (.val (.int (h : Int))) (.val (.int (t : Int))) .no .no .no .no .no .no .no .no .no) s1 := by
    rcases (by omega : q6 = 0 ∨ q6 = 1) with rfl | rfl
    · have e6 : cellOf ns 6 % 2 = 0 := eq6
      exact ⟨q5, by omega, by simp [b_law_k02_10, en2, c5, c6, eq5, eq5', e6, le_size]⟩
    · have e6 : cellOf ns 6 % 2 = 1 := eq6
      exact ⟨q5', by omega, by simp [b_law_k02_10, en2, c5, c6, eq5, eq5', e6, le_size]⟩
  have c30 := hS.c30 _ (cod_mem hh)
  have rg := fun s => m_ring_e c30 ht (s := s)
  have lrg := fun s => m__law_ring_e' c30 ht (s := s)
  have a11 : b_law_k02_11 (en2 d S (.val (.list odds15)) (.val (.int (q1 : Int))) (.val x) (.val (.bool g)) (.val (.int (h : Int))) (.val (.int (t : Int))) .no .no .no .no .no .no .no .no .no) s1 = .next (en2 d S (.val (.list odds15)) (.val (.int (q1 : Int))) (.val x) (.val (.bool g)) (.val (.int (h : Int))) (.val (.int (t : Int))) (.val (.list (boolsD (ringOf (cod S.codes h) t)))) .no .no .no .no .no .no .no .no) s1 := by
    simp [b_law_k02_11, en2, ix_cod hh, lrg]
  have neb : ∀ r : List Bool, neD (.list (boolsD r)) (.list (boolsD r)) = some (.bool false) := fun r => neD_self ((ty_bools r).shaped (by decide))
  have a12 : b_law_k02_12 (en2 d S (.val (.list odds15)) (.val (.int (q1 : Int))) (.val x) (.val (.bool g)) (.val (.int (h : Int))) (.val (.int (t : Int))) (.val (.list (boolsD (ringOf (cod S.codes h) t)))) .no .no .no .no .no .no .no .no) s1 = .next (en2 d S (.val (.list odds15)) (.val (.int (q1 : Int))) (.val x) (.val (.bool g)) (.val (.int (h : Int))) (.val (.int (t : Int))) (.val (.list (boolsD (ringOf (cod S.codes h) t)))) .no .no .no .no .no .no .no .no) s1 := by
    simp [b_law_k02_12, en2, ix_cod hh, rg, neb]
  obtain ⟨z3, row, hrow, a13⟩ : ∃ z3 row, row.length = t ∧ b_law_k02_13 (en2 d S (.val (.list odds15)) (.val (.int (q1 : Int))) (.val x) (.val (.bool g)) (.val (.int (h : Int))) (.val (.int (t : Int))) (.val (.list (boolsD (ringOf (cod S.codes h) t)))) .no .no .no .no .no .no .no .no) s1 = .next (en2 d S (.val (.list odds15)) z3 (.val x) (.val (.bool g)) (.val (.int (h : Int))) (.val (.int (t : Int))) (.val (.list (boolsD row))) .no .no .no .no .no .no .no .no) s1 := by
    have e3 : (0 : Int) < 3 := by decide
    by_cases ht0 : 0 < t
    · have ht0' : (0 : Int) < (t : Int) := by omega
      by_cases h7 : cellOf ns 7 % 3 = 0
      · obtain ⟨q8, eq8, hq8⟩ := mod_nat (cellOf ns 8) t ht0
        generalize hR : ringOf (cod S.codes h) t = R
        have hRl : R.length = t := by rw [← hR, ringOf_len]
        have ix : ixD (.list (boolsD R)) (.int (q8 : Int)) = some (.bool (R.getD q8 false)) := by
          rw [ixD_l, atI_nat (by rw [boolsD_len]; omega)]
          simp [boolsD, List.getD_eq_getElem?_getD, (by omega : q8 < R.length)]
        have k1 := cut_take (ds := boolsD R) (i := q8)
        have k2 : cutD (boolsD R) (some ((q8 : Int) + 1)) none = (boolsD R).drop (q8 + 1) := by
          unfold cutD
          have e0 : HT.sIx (boolsD R).length 0 (some ((q8 : Int) + 1)) = min (q8 + 1) (boolsD R).length := HT.sIx_nat _ _ (q8 + 1)
          have e2 : HT.sIx (boolsD R).length (boolsD R).length none = (boolsD R).length := rfl
          rw [e0, e2, boolsD_len, Nat.min_eq_left (by omega)]
          exact List.take_of_length_le (by simp)
        have tk : (boolsD R).take q8 ++ [PyData.bool (!R.getD q8 false)] ++ (boolsD R).drop (q8 + 1) = boolsD (R.take q8 ++ [!R.getD q8 false] ++ R.drop (q8 + 1)) := by
          unfold boolsD
          simp [List.map_take, List.map_drop]
        refine ⟨.val (.int (q8 : Int)), R.take q8 ++ [!R.getD q8 false] ++ R.drop (q8 + 1), by simp; omega, ?_⟩
        refine (if_t (s1 := s1) ?_).trans ?_
        · simp [en2, ht0', ht0, c7, h7]
        · refine seq_next (ρ1 := en2 d S (.val (.list odds15)) (.val (.int (q8 : Int))) (.val x) (.val (.bool g)) (.val (.int (h : Int))) (.val (.int (t : Int))) (.val (.list (boolsD R))) .no .no .no .no .no .no .no .no) (s1 := s1) ?_ ?_
          · simp [en2, c8, ht0', ht0, eq8]
          · have g1 : (x2 addD (x2 addD (xSl sliD (xV 9) oN (oS (xV 3))) (xLst (aC (xNotT (x2 ixD (xV 9) (xV 3))) aN))) (xSl sliD (xV 9) (oS (x2 addD (xV 3) (xC (.int 1)))) oN)) (en2 d S (.val (.list odds15)) (.val (.int (q8 : Int))) (.val x) (.val (.bool g)) (.val (.int (h : Int))) (.val (.int (t : Int))) (.val (.list (boolsD R))) .no .no .no .no .no .no .no .no) s1 = .ok (.list (boolsD (R.take q8 ++ [!R.getD q8 false] ++ R.drop (q8 + 1)))) s1 := by
              have z1 : ((boolsD R).take q8).length + 1 ≤ sizeLine := le_size (by simp; omega)
              have z2 : ((boolsD R).take q8 ++ [PyData.bool (!R.getD q8 false)]).length + ((boolsD R).drop (q8 + 1)).length ≤ sizeLine := le_size (by simp; omega)
              simp only [en2, x2_e, xSl_e, xV_e, List.getElem?_cons_succ, List.getElem?_cons_zero, bind_ok, oN_e, oS_e, sliD_l, k1, lift_some, xLst_e, aC_e, xNotT_e, ix, truD_b, aN_e, List.length_cons, List.length_nil, Nat.reduceAdd, le_size (show 1 ≤ 4096 by decide), if_true, addD_l, z1, xC_e, addD_i, k2, z2, tk]
            rw [sSet_e, stX_e, g1]
            rfl
      · refine ⟨_, ringOf (cod S.codes h) t, ringOf_len _ _, (if_f (s1 := s1) ?_).trans rfl⟩
        simp [en2, ht0', ht0, c7, h7]
    · refine ⟨_, ringOf (cod S.codes h) t, ringOf_len _ _, (if_f (s1 := s1) ?_).trans rfl⟩
      have : ¬ ((0 : Int) < (t : Int)) := by omega
      simp [en2, this, ht0]
  have a14 : b_law_k02_14 (en2 d S (.val (.list odds15)) z3 (.val x) (.val (.bool g)) (.val (.int (h : Int))) (.val (.int (t : Int))) (.val (.list (boolsD row))) .no .no .no .no .no .no .no .no) s1 = .next (en2 d S (.val (.list odds15)) z3 (.val x) (.val (.bool g)) (.val (.int (h : Int))) (.val (.int (t : Int))) (.val (.list (boolsD row))) (.val (.list (natsD (meantOf S.codes row)))) .no .no .no .no .no .no .no) s1 := by
    have hc := compL_map (t := gT 2 (gsC (gN 11) (gsC (gN 12) gsN))) (c := xB (x2 eqD (xCall 2 m__law_ring (aC (xV 12) (aC (xV 8) aN))) (xV 9))) (e := xV 11) (vs := [11, 12]) (ρ := en2 d S (.val (.list odds15)) z3 (.val x) (.val (.bool g)) (.val (.int (h : Int))) (.val (.int (t : Int))) (.val (.list (boolsD row))) .no .no .no .no .no .no .no .no) (s := s1) (fun p : Str × Nat => PyData.tuple [.int (p.2 : Int), .str p.1]) (fun p => decide (ringOf p.1 row.length = row)) (fun p => PyData.int (p.2 : Int)) (S.codes.zipIdx 0) [] (fun p hp => ⟨_, rfl, by
      have hm := List.mem_zipIdx_iff_getElem?.mp (show (p.1, p.2) ∈ S.codes.zipIdx 0 from hp)
      have hmem : p.1 ∈ S.codes := List.mem_of_getElem? hm
      have rc := m__law_ring_e' (hS.c30 _ hmem) ht (s := s1)
      simp [wipeD, en2, rc, eq_bools, hrow], fun _ => by simp [wipeD, en2]⟩) (le_size (by rw [List.length_nil, List.length_zipIdx]; omega))
    have it : (iEnA (aC (xV 6) aN)) (en2 d S (.val (.list odds15)) z3 (.val x) (.val (.bool g)) (.val (.int (h : Int))) (.val (.int (t : Int))) (.val (.list (boolsD row))) .no .no .no .no .no .no .no .no) s1 = .ok (enumD 0 (S.codes.map .str)) s1 := rfl
    rw [b_law_k02_14, sSet_e, stX_e, xComp_e, it, enumD_map]
    simp only [bind_ok, hc, List.nil_append]
    have : natsD (meantOf S.codes row) = ((S.codes.zipIdx 0).filter fun p => decide (ringOf p.1 row.length = row)).map fun p => PyData.int (p.2 : Int) := by
      unfold natsD meantOf
      rw [List.map_map]
      rfl
    rw [this]
    rfl
  have r400 := fun s => m_ring_e c30 (t := 400) (Nat.le_refl _) (s := s)
  have m1 := fun s => m_meant_e hS (row := ringOf (cod S.codes h) 400) (by rw [ringOf_len]; exact Nat.le_refl _) (s := s)
  have m1' : meantOf S.codes (ringOf (cod S.codes h) 400) = [h] := of_decide_eq_true (sure_40 hS hh (i := 400) (by omega))
  rw [m1'] at m1
  have m2 := fun s => m_meant_e hS (row := row) (by omega) (s := s)
  have nl : ∀ r : List Nat, neD (.list [.list (natsD [h]), .list (natsD r)]) (.list [.list (natsD [h]), .list (natsD r)]) = some (.bool false) := fun r => neD_self ((lay_l (k := 1) (lay_cons (ty_nats [h]).Lay (lay_cons (ty_nats r).Lay lay_nil))).shaped (by decide))
  have a15 : b_law_k02_15 (en2 d S (.val (.list odds15)) z3 (.val x) (.val (.bool g)) (.val (.int (h : Int))) (.val (.int (t : Int))) (.val (.list (boolsD row))) (.val (.list (natsD (meantOf S.codes row)))) .no .no .no .no .no .no .no) s1 = .next (en2 d S (.val (.list odds15)) z3 (.val x) (.val (.bool g)) (.val (.int (h : Int))) (.val (.int (t : Int))) (.val (.list (boolsD row))) (.val (.list (natsD (meantOf S.codes row)))) .no .no .no .no .no .no .no) s1 := by
    have ls : lstD (.list (boolsD row)) = some (.list (boolsD row)) := rfl
    have hc : compL (gN 13) tAll (xCall 2 m_meant (aC (xV 1) (aC (xV 13) aN))) [13] [.list (boolsD (ringOf (cod S.codes h) 400)), .list (boolsD row)] [] (en2 d S (.val (.list odds15)) z3 (.val x) (.val (.bool g)) (.val (.int (h : Int))) (.val (.int (t : Int))) (.val (.list (boolsD row))) (.val (.list (natsD (meantOf S.codes row)))) .no .no .no .no .no .no .no) s1 = .ok [.list (natsD [h]), .list (natsD (meantOf S.codes row))] s1 := by
      have := compL_mapA (t := gN 13) (e := xCall 2 m_meant (aC (xV 1) (aC (xV 13) aN))) (vs := [13]) (ρ := en2 d S (.val (.list odds15)) z3 (.val x) (.val (.bool g)) (.val (.int (h : Int))) (.val (.int (t : Int))) (.val (.list (boolsD row))) (.val (.list (natsD (meantOf S.codes row)))) .no .no .no .no .no .no .no) (s := s1) (fun r : List Bool => PyData.list (boolsD r)) (fun r => .list (natsD (meantOf S.codes r))) [ringOf (cod S.codes h) 400, row] (fun r hr => by
        simp only [List.mem_cons, List.not_mem_nil, or_false] at hr
        rcases hr with rfl | rfl
        · exact ⟨_, rfl, by simp [wipeD, en2, m1, m1']⟩
        · exact ⟨_, rfl, by simp [wipeD, en2, m2]⟩) (le_size (by simp))
      rw [show [PyData.list (boolsD (ringOf (cod S.codes h) 400)), .list (boolsD row)] = [ringOf (cod S.codes h) 400, row].map (fun r : List Bool => PyData.list (boolsD r)) from rfl, this]
      rw [List.map_cons, m1']
      rfl
    have it : (iAny (xTup (aC (xCall 2 m_ring (aC (x2 ixD (xV 6) (xV 7)) (aC (xC (.int 400)) aN))) (aC (x1 lstD (xV 9)) aN)))) (en2 d S (.val (.list odds15)) z3 (.val x) (.val (.bool g)) (.val (.int (h : Int))) (.val (.int (t : Int))) (.val (.list (boolsD row))) (.val (.list (natsD (meantOf S.codes row)))) .no .no .no .no .no .no .no) s1 = .ok [.list (boolsD (ringOf (cod S.codes h) 400)), .list (boolsD row)] s1 := by
      have r400' : m_ring [.str (cod S.codes h), .int 400] s1 = _ := r400 s1
      simp [en2, ix_cod hh, r400', ls, le_size]
    refine (if_f (s1 := s1) ?_).trans rfl
    rw [xB_e, x2_e, xComp_e, it]
    simp only [bind_ok, hc]
    have it2 : (xLst (aC (xLst (aC (xV 7) aN)) (aC (xV 10) aN))) (en2 d S (.val (.list odds15)) z3 (.val x) (.val (.bool g)) (.val (.int (h : Int))) (.val (.int (t : Int))) (.val (.list (boolsD row))) (.val (.list (natsD (meantOf S.codes row)))) .no .no .no .no .no .no .no) s1 = .ok (.list [.list (natsD [h]), .list (natsD (meantOf S.codes row))]) s1 := by
      simp [en2, le_size]
    simp only [it2, bind_ok, nl, lift_some]
  obtain ⟨z8, z11, z12, z14, z15, a16⟩ := w16l (d := d) hS (z2 := .val (.list odds15)) (z3 := z3) (z4 := .val x) (z5 := .val (.bool g)) (z7 := .val (.int (h : Int))) (z8 := .val (.int (t : Int))) (z9 := .val (.list (boolsD row))) (z10 := .val (.list (natsD (meantOf S.codes row)))) (z16 := .no) (z17 := .no) (z18 := .no) (s := s1)
  obtain ⟨q9, eq9, hq9⟩ := mod_nat (cellOf ns 9) 7 (by omega)
  have eq9 : cellOf ns 9 % 7 = (q9 : Int) := eq9
  obtain ⟨q10, eq10, hq10⟩ := mod_nat (cellOf ns 10) 4 (by omega)
  have eq10 : cellOf ns 10 % 4 = (q10 : Int) := eq10
  obtain ⟨bad, hbad, a17⟩ : ∃ bad ∈ bads, b_law_k02_17 (en2 d S (.val (.list odds15)) z3 (.val x) (.val (.bool g)) (.val (.int (h : Int))) z8 (.val (.list (boolsD row))) (.val (.list (natsD (meantOf S.codes row)))) z11 z12 z14 z15 .no .no .no) s1 = .next (en2 d S (.val (.list odds15)) z3 (.val x) (.val (.bool g)) (.val (.int (h : Int))) z8 (.val (.list (boolsD row))) (.val (.list (natsD (meantOf S.codes row)))) z11 z12 z14 z15 (.val bad) .no .no) s1 := by
    have hlb : q9 < bads.length := hq9
    have at9 : atI bads (q9 : Int) = some bads[q9] := atI_nat hlb
    have rp : repOk 1 401 = true := repOk_of (by omega) (by omega) (by decide)
    have fr : (List.replicate (401 : Int).toNat [PyData.bool true]).flatten = List.replicate 401 (.bool true) := flat_rep 401
    have m9 : modD (.int (cellOf ns 9)) (.int 7) = some (.int (q9 : Int)) := by rw [modD_e, if_pos (by decide), eq9]
    have mu : mulD (.list [.bool true]) (.int 401) = some (.list (List.replicate 401 (.bool true))) := by
      show (if repOk 1 401 = true then some (PyData.list (List.replicate (401 : Int).toNat [PyData.bool true]).flatten) else none) = _
      rw [if_pos rp, fr]
    refine ⟨bads[q9], List.getElem_mem hlb, ?_⟩
    have g1 : (xLst (aC (xC .none) (aC (xTup (aC (xC (.bool true)) aN)) (aC (xLst (aC (xC (.int 1)) aN)) (aC (x2 mulD (xLst (aC (xC (.bool true)) aN)) (xC (.int 401))) (aC (xC (.str "")) (aC (xLst (aC (xC .none) aN)) (aC (xC (.int 7)) aN)))))))) (en2 d S (.val (.list odds15)) z3 (.val x) (.val (.bool g)) (.val (.int (h : Int))) z8 (.val (.list (boolsD row))) (.val (.list (natsD (meantOf S.codes row)))) z11 z12 z14 z15 .no .no .no) s1 = .ok (.list bads) s1 := by
      simp only [xLst_e, aC_e, xC_e, bind_ok, xTup_e, aN_e, List.length_cons, List.length_nil, Nat.reduceAdd, le_size (show 1 ≤ 4096 by decide), le_size (show 7 ≤ 4096 by decide), if_true, x2_e, mu, lift_some]
      rfl
    rw [b_law_k02_17, sSet_e, stX_e, x2_e, g1]
    simp only [en2, x2_e, xV_e, List.getElem?_cons_zero, bind_ok, xCall_e, aC_e, xC_e, aN_e, List.length_cons, List.length_nil, Nat.reduceAdd, if_true, c9, m9, lift_some, ixD_l, at9]
    rfl
  obtain ⟨many, hmany, a18⟩ : ∃ many ∈ manys, b_law_k02_18 (en2 d S (.val (.list odds15)) z3 (.val x) (.val (.bool g)) (.val (.int (h : Int))) z8 (.val (.list (boolsD row))) (.val (.list (natsD (meantOf S.codes row)))) z11 z12 z14 z15 (.val bad) .no .no) s1 = .next (en2 d S (.val (.list odds15)) z3 (.val x) (.val (.bool g)) (.val (.int (h : Int))) z8 (.val (.list (boolsD row))) (.val (.list (natsD (meantOf S.codes row)))) z11 z12 z14 z15 (.val bad) (.val many) .no) s1 := by
    have hlb : q10 < manys.length := hq10
    have at10 : atI manys (q10 : Int) = some manys[q10] := atI_nat hlb
    have m10 : modD (.int (cellOf ns 10)) (.int 4) = some (.int (q10 : Int)) := by rw [modD_e, if_pos (by decide), eq10]
    refine ⟨manys[q10], List.getElem_mem hlb, ?_⟩
    have g1 : (xLst (aC (x1 negD (xC (.int 1))) (aC (xC (.int 401)) (aC (xC .none) (aC (xC (.bool true)) aN))))) (en2 d S (.val (.list odds15)) z3 (.val x) (.val (.bool g)) (.val (.int (h : Int))) z8 (.val (.list (boolsD row))) (.val (.list (natsD (meantOf S.codes row)))) z11 z12 z14 z15 (.val bad) .no .no) s1 = .ok (.list manys) s1 := by
      simp [le_size, manys]
    rw [b_law_k02_18, sSet_e, stX_e, x2_e, g1]
    simp only [en2, x2_e, xV_e, List.getElem?_cons_zero, bind_ok, xCall_e, aC_e, xC_e, aN_e, List.length_cons, List.length_nil, Nat.reduceAdd, if_true, c10, m10, lift_some, ixD_l, at10]
    rfl
  have v1 := word_s (s := s1) (looked_1.trans (meant_none (a := bad)))
  have v2 := word_c (s := s1) (looked_1.trans (meant_bad hS hbad))
  have v3 := word_c (s := s1) (looked_2.trans (ring_emp (a := many)))
  have v4 := word_n (s := s1) (looked_2.trans (ring_s hmany))
  have v5 := word_s (s := s1) (looked_3.trans (sure_none (a := many)))
  have v6 := word_h (s := s1) (looked_3.trans (sure_bad hS hmany))
  have a19 : b_law_k02_19 (en2 d S (.val (.list odds15)) z3 (.val x) (.val (.bool g)) (.val (.int (h : Int))) z8 (.val (.list (boolsD row))) (.val (.list (natsD (meantOf S.codes row)))) z11 z12 z14 z15 (.val bad) (.val many) .no) s1 = .next (en2 d S (.val (.list odds15)) z3 (.val x) (.val (.bool g)) (.val (.int (h : Int))) z8 (.val (.list (boolsD row))) (.val (.list (natsD (meantOf S.codes row)))) z11 z12 z14 z15 (.val bad) (.val many) (.val (.list [.str "setting", .str "code", .str "code"]))) s1 := by
    simp [b_law_k02_19, en2, le_size, v1, v2, v3]
  have a20 : b_law_k02_20 (en2 d S (.val (.list odds15)) z3 (.val x) (.val (.bool g)) (.val (.int (h : Int))) z8 (.val (.list (boolsD row))) (.val (.list (natsD (meantOf S.codes row)))) z11 z12 z14 z15 (.val bad) (.val many) (.val (.list [.str "setting", .str "code", .str "code"]))) s1 = .next (en2 d S (.val (.list odds15)) z3 (.val x) (.val (.bool g)) (.val (.int (h : Int))) z8 (.val (.list (boolsD row))) (.val (.list (natsD (meantOf S.codes row)))) z11 z12 z14 z15 (.val bad) (.val many) (.val (.list [.str "setting", .str "code", .str "code", .str "count", .str "setting", .str "house"]))) s1 := by
    simp [b_law_k02_20, en2, le_size, v4, v5, v6]
  have nx : eqD (.list [.str "setting", .str "code", .str "code", .str "count", .str "setting", .str "house"]) (.list [.str "setting", .str "code", .str "code", .str "count", .str "setting", .str "house"]) = some (.bool true) := eqD_self ((lay_l (k := 0) (lay_cons lay_s (lay_cons lay_s (lay_cons lay_s (lay_cons lay_s (lay_cons lay_s (lay_cons lay_s lay_nil))))))).shaped (by decide))
  refine ⟨s1, ?_⟩
  rw [hd]
  unfold m_law_k02 b_law_k02
  refine run_ret (seq_next a1 ((a23 _).trans (seq_next a4 (seq_next a5 (seq_next a6 (seq_next a7 (seq_next a8 (seq_next a9 (seq_next a10 (seq_next a11 (seq_next a12 (seq_next a13 (seq_next a14 (seq_next a15 (seq_next a16 (seq_next a17 (seq_next a18 (seq_next a19 (seq_next a20 ?_)))))))))))))))))))
  simp [b_law_k02_21, en2, le_size, nx]
end M

namespace M
open PySem L2
open PyProof.Rows (envOfC)
def top (i : Nat) : Stmt := PySem.Challenge.pw_ringhouses_k02_codes.main.body.getD i (.Pass ⟨0, 0, 0, 0⟩)
structure Fc (w : World) (K : PySem.W.Frag) (mg : Str → Option Value) : Prop where
  n_bool : mg "bool" = none
  n_enumerate : mg "enumerate" = none
  n_int : mg "int" = none
  n_isinstance : mg "isinstance" = none
  n_len : mg "len" = none
  n_list : mg "list" = none
  n_max : mg "max" = none
  n_range : mg "range" = none
  n_set : mg "set" = none
  n_str : mg "str" = none
  n_tuple : mg "tuple" = none
  i_LONG : ∃ t, mg "LONG" = some (.int 3 t)
  i_MOST_SIGNS : ∃ t, mg "MOST_SIGNS" = some (.int 4 t)
  i_REST : ∃ t, mg "REST" = some (.int 4 t)
  x_NoCode : ExcIs K mg "NoCode"
  x_NoCount : ExcIs K mg "NoCount"
  x_NoHouse : ExcIs K mg "NoHouse"
  x_NoSetting : ExcIs K mg "NoSetting"
  g_NoCode : mg "NoCode" = some (.ref (He.ga K "NoCode"))
  g_NoCount : mg "NoCount" = some (.ref (He.ga K "NoCount"))
  g_NoDeeds : mg "NoDeeds" = some (.ref (He.ga K "NoDeeds"))
  g_NoHouse : mg "NoHouse" = some (.ref (He.ga K "NoHouse"))
  g_NoSetting : mg "NoSetting" = some (.ref (He.ga K "NoSetting"))
  g_NoText : mg "NoText" = some (.ref (He.ga K "NoText"))
  exm : ∀ c h k, exmT c h = some k → PySem.W.exmOne K (.ref (He.ga K c)) (.ref (He.ga K h)) = some k
  c_Line : Cls K (He.ga K "Line")
  k_Line : Mk K (He.ga K "Line") (He.ma K (He.ga K "Line") "__init__")
  g_Line : mg "Line" = some (.ref (He.ga K "Line"))
  a_Line_asker : NoAttr K (He.ga K "Line") "asker"
  a_Line_dialled : NoAttr K (He.ga K "Line") "dialled"
  a_Line_inside : NoAttr K (He.ga K "Line") "inside"
  a_Line_let : NoAttr K (He.ga K "Line") "let"
  a_Line_off : NoAttr K (He.ga K "Line") "off"
  a_Line_outside : NoAttr K (He.ga K "Line") "outside"
  a_Line_queue : NoAttr K (He.ga K "Line") "queue"
  a_Line_rung : NoAttr K (He.ga K "Line") "rung"
  a_Line_setting : NoAttr K (He.ga K "Line") "setting"
  a_Line_tick_now : NoAttr K (He.ga K "Line") "tick_now"
  d_is_within : ∃ fd, FunD K "is_within" "is_within" (defArgs (top 18)) (defBody (top 18)) (defScope (top 18)) [] [] (He.ga K "is_within") fd
  g_is_within : mg "is_within" = some (.ref (He.ga K "is_within"))
  d_is_code : ∃ fd, FunD K "is_code" "is_code" (defArgs (top 19)) (defBody (top 19)) (defScope (top 19)) [] [] (He.ga K "is_code") fd
  g_is_code : mg "is_code" = some (.ref (He.ga K "is_code"))
  d_beats : ∃ fd, FunD K "beats" "beats" (defArgs (top 23)) (defBody (top 23)) (defScope (top 23)) [] [] (He.ga K "beats") fd
  g_beats : mg "beats" = some (.ref (He.ga K "beats"))
  d__law_cell : ∃ fd, FunD K "_law_cell" "_law_cell" (defArgs (top 47)) (defBody (top 47)) (defScope (top 47)) [] [] (He.ga K "_law_cell") fd
  g__law_cell : mg "_law_cell" = some (.ref (He.ga K "_law_cell"))
  d__law_seed : ∃ fd, FunD K "_law_seed" "_law_seed" (defArgs (top 48)) (defBody (top 48)) (defScope (top 48)) [] [] (He.ga K "_law_seed") fd
  g__law_seed : mg "_law_seed" = some (.ref (He.ga K "_law_seed"))
  d__law_pick : ∃ fd, FunD K "_law_pick" "_law_pick" (defArgs (top 49)) (defBody (top 49)) (defScope (top 49)) [] [] (He.ga K "_law_pick") fd
  g__law_pick : mg "_law_pick" = some (.ref (He.ga K "_law_pick"))
  d__law_in : ∃ fd, FunD K "_law_in" "_law_in" (defArgs (top 50)) (defBody (top 50)) (defScope (top 50)) [] [] (He.ga K "_law_in") fd
  g__law_in : mg "_law_in" = some (.ref (He.ga K "_law_in"))
  d__law_beats : ∃ fd, FunD K "_law_beats" "_law_beats" (defArgs (top 53)) (defBody (top 53)) (defScope (top 53)) [] [] (He.ga K "_law_beats") fd
  g__law_beats : mg "_law_beats" = some (.ref (He.ga K "_law_beats"))
  d_is_setting : ∃ fd, FunD K "is_setting" "is_setting" (defArgs (top 20)) (defBody (top 20)) (defScope (top 20)) [] [] (He.ga K "is_setting") fd
  g_is_setting : mg "is_setting" = some (.ref (He.ga K "is_setting"))
  d_look_house : ∃ fd, FunD K "look_house" "look_house" (defArgs (top 22)) (defBody (top 22)) (defScope (top 22)) [] [] (He.ga K "look_house") fd
  g_look_house : mg "look_house" = some (.ref (He.ga K "look_house"))
  d_ring : ∃ fd, FunD K "ring" "ring" (defArgs (top 24)) (defBody (top 24)) (defScope (top 24)) [] [] (He.ga K "ring") fd
  g_ring : mg "ring" = some (.ref (He.ga K "ring"))
  d__law_code : ∃ fd, FunD K "_law_code" "_law_code" (defArgs (top 51)) (defBody (top 51)) (defScope (top 51)) [] [] (He.ga K "_law_code") fd
  g__law_code : mg "_law_code" = some (.ref (He.ga K "_law_code"))
  d__law_ring : ∃ fd, FunD K "_law_ring" "_law_ring" (defArgs (top 54)) (defBody (top 54)) (defScope (top 54)) [] [] (He.ga K "_law_ring") fd
  g__law_ring : mg "_law_ring" = some (.ref (He.ga K "_law_ring"))
  d__law_is_setting : ∃ fd, FunD K "_law_is_setting" "_law_is_setting" (defArgs (top 55)) (defBody (top 55)) (defScope (top 55)) [] [] (He.ga K "_law_is_setting") fd
  g__law_is_setting : mg "_law_is_setting" = some (.ref (He.ga K "_law_is_setting"))
  d_look : ∃ fd, FunD K "look" "look" (defArgs (top 21)) (defBody (top 21)) (defScope (top 21)) [] [] (He.ga K "look") fd
  g_look : mg "look" = some (.ref (He.ga K "look"))
  d__law_setting : ∃ fd, FunD K "_law_setting" "_law_setting" (defArgs (top 52)) (defBody (top 52)) (defScope (top 52)) [] [] (He.ga K "_law_setting") fd
  g__law_setting : mg "_law_setting" = some (.ref (He.ga K "_law_setting"))
  d_meant : ∃ fd, FunD K "meant" "meant" (defArgs (top 25)) (defBody (top 25)) (defScope (top 25)) [] [] (He.ga K "meant") fd
  g_meant : mg "meant" = some (.ref (He.ga K "meant"))
  d_Line___init__ : ∃ fd, FunD K "__init__" "Line.__init__" (defArgs (inClass (top 31) 0)) (defBody (inClass (top 31) 0)) (defScope (inClass (top 31) 0)) [] [] (He.ma K (He.ga K "Line") "__init__") fd
  d_sure_behind : ∃ fd, FunD K "sure_behind" "sure_behind" (defArgs (top 26)) (defBody (top 26)) (defScope (top 26)) [] [] (He.ga K "sure_behind") fd
  g_sure_behind : mg "sure_behind" = some (.ref (He.ga K "sure_behind"))
  d__law_looked : ∃ fd, FunD K "_law_looked" "_law_looked" (defArgs (top 57)) (defBody (top 57)) (defScope (top 57)) [] [] (He.ga K "_law_looked") fd
  g__law_looked : mg "_law_looked" = some (.ref (He.ga K "_law_looked"))
  d__law_word : ∃ fd, FunD K "_law_word" "_law_word" (defArgs (top 56)) (defBody (top 56)) (defScope (top 56)) [] [] (He.ga K "_law_word") fd
  g__law_word : mg "_law_word" = some (.ref (He.ga K "_law_word"))
  d_law : ∃ fd, FunD K "law" "law" (defArgs (top 58)) (defBody (top 58)) (defScope (top 58)) [] [] (He.ga K "law") fd
  g_law : mg "law" = some (.ref (He.ga K "law"))
section
variable {P : Program} {w : World} {K : PySem.W.Frag} {mg : Str → Option Value} {base : Heap}
theorem sc_is_within : FnScope ["thing", "low", "high"] ["thing", "low", "high"] (defScope (top 18)) := ⟨rfl, rfl, rfl, by decide +kernel, rfl, by decide +kernel, by decide +kernel⟩
theorem F_is_within (N : Fc w K mg) : FnIs P w K mg base 1 "is_within" ["thing", "low", "high"] 3 m_is_within :=
  fn_is N.d_is_within N.g_is_within sc_is_within rfl (fun _ _ _ _ _ _ us hl => match us, hl with | [_, _, _], _ => rfl) (fun cdv A outer s H E hr => 
  (pp_one (p_ret (d_and (d_isi (T' := .int) rfl N.n_isinstance rfl N.n_int bt_int (DU (d_v 0))) (d_and (d_notT (DU (d_isi (T' := .bool) rfl N.n_isinstance rfl N.n_bool bt_bool (DU (d_v 0))))) (d_one (d_chain op_le o_le op_le o_le (DO (d_v 1)) (DO (d_v 0)) (DU (d_v 2)))))))))
theorem sc_is_code : FnScope ["thing", "sign"] ["thing"] (defScope (top 19)) := ⟨rfl, rfl, rfl, by decide +kernel, rfl, by decide +kernel, by decide +kernel⟩
theorem F_is_code (N : Fc w K mg) : FnIs P w K mg base 1 "is_code" ["thing"] 1 m_is_code :=
  fn_is N.d_is_code N.g_is_code sc_is_code rfl (fun _ _ _ _ _ _ us hl => match us, hl with | [_], _ => rfl) (fun cdv A outer s H E hr => 
  (pp_cons (p_if (t_w (w_or (t_not (t_tru (DU (d_isi (T' := .str) rfl N.n_isinstance rfl N.n_str bt_str (DU (d_v 0)))))) (w_or1 (t_not (t_chain op_le o_le op_le o_le (DO d_int) (DO (d_b1 o_len call_len rfl N.n_len bt_len (DU (d_v 0)))) (DU (d_gint rfl N.i_MOST_SIGNS))))))) (pp_one (p_ret d_bl)) pp_nil)
    (pp_one (p_ret (d_notT (NU (n_comp rfl sc_is_code.nd (by exact (i_any (d_v 0))) (blkOk_by (own := [("sign", 1)]) rfl) (fun _ _ _ _ _ => (g_name (i := 1) sc_is_code.nd)) (fun _ _ _ _ _ => (c_one (t_cmp (op_niA (hu65 hr)) o_ni (DO (d_v 1)) (DU d_str) (by first | exact nomark _ | rfl)))) (fun _ _ _ _ _ => (d_v 1)))))))))
theorem sc_beats : FnScope ["code", "found", "sign"] ["code"] (defScope (top 23)) := ⟨rfl, rfl, rfl, by decide +kernel, rfl, by decide +kernel, by decide +kernel⟩
theorem F_beats (N : Fc w K mg) : FnIs P w K mg base 1 "beats" ["code"] 1 m_beats :=
  fn_is N.d_beats N.g_beats sc_beats rfl (fun _ _ _ _ _ _ us hl => match us, hl with | [_], _ => rfl) (fun cdv A outer s H E hr => 
  (pp_cons (p_own (i := 1) sc_beats.nd (n_lst a_nil))
    (pp_cons (p_for (js := [2]) (passes_of rfl) rfl (i_any (d_v 0)) (g_name (i := 2) sc_beats.nd) (pp_one (p_ext (i := 1) (g_op op_addA o_add (DO (g_op op_mulA o_mul (NO (n_lst (a_cons d_bl a_nil))) (DU (d_if (t_cmp (op_eqD hr.units) o_eq (DO (d_v 2)) (DU d_str) (by first | exact nomark _ | rfl)) (d_gint rfl N.i_LONG) d_int)))) (NU (n_lst (a_cons d_bl a_nil)))))))
    (pp_one (p_ret (g_op op_addA o_add (o_v 1) (DU (g_op op_mulA o_mul (NO (n_lst (a_cons d_bl a_nil))) (DU (g_op op_sub o_sub (DO (d_gint rfl N.i_REST)) (DU d_int)))))))))))
theorem sc__law_cell : FnScope ["_law_script", "_law_k"] ["_law_script", "_law_k"] (defScope (top 47)) := ⟨rfl, rfl, rfl, by decide +kernel, rfl, by decide +kernel, by decide +kernel⟩
theorem F__law_cell (N : Fc w K mg) : FnIs P w K mg base 1 "_law_cell" ["_law_script", "_law_k"] 2 m__law_cell :=
  fn_is N.d__law_cell N.g__law_cell sc__law_cell rfl (fun _ _ _ _ _ _ us hl => match us, hl with | [_, _], _ => rfl) (fun cdv A outer s H E hr => 
  (pp_cons (p_if (t_cmp op_lt o_lt (DO (d_v 1)) (DU (d_b1 o_len call_len rfl N.n_len bt_len (DU (d_v 0)))) (by first | exact nomark _ | rfl)) (pp_one (p_ret (d_ix (DO (d_v 0)) (DU (d_v 1))))) pp_nil)
    (pp_one (p_ret d_int))))
theorem sc__law_seed : FnScope ["_law_seed_here", "_law_k"] ["_law_seed_here", "_law_k"] (defScope (top 48)) := ⟨rfl, rfl, rfl, by decide +kernel, rfl, by decide +kernel, by decide +kernel⟩
theorem F__law_seed (N : Fc w K mg) : FnIs P w K mg base 1 "_law_seed" ["_law_seed_here", "_law_k"] 2 m__law_seed :=
  fn_is N.d__law_seed N.g__law_seed sc__law_seed rfl (fun _ _ _ _ _ _ us hl => match us, hl with | [_, _], _ => rfl) (fun cdv A outer s H E hr => 
  (pp_one (p_ret (g_op op_mod o_mod (DO (g_op op_pow o_pow (DO (g_op op_mod o_mod (DO (g_op op_addA o_add (DO (g_op op_addA o_add (DO (g_op op_mulA o_mul (DO (d_v 0)) (DU d_int))) (DU (g_op op_mulA o_mul (DO d_int) (DU (d_v 1)))))) (DU d_int))) (DU d_int))) (DU d_int))) (DU d_int)))))
theorem sc__law_pick : FnScope ["_law_seed_here", "_law_many"] ["_law_seed_here", "_law_many"] (defScope (top 49)) := ⟨rfl, rfl, rfl, by decide +kernel, rfl, by decide +kernel, by decide +kernel⟩
theorem F__law_pick (N : Fc w K mg) : FnIs P w K mg base 1 "_law_pick" ["_law_seed_here", "_law_many"] 2 m__law_pick :=
  fn_is N.d__law_pick N.g__law_pick sc__law_pick rfl (fun _ _ _ _ _ _ us hl => match us, hl with | [_, _], _ => rfl) (fun cdv A outer s H E hr => 
  (pp_one (p_ret (g_op op_mod o_mod (DO (g_op op_fdiv o_fdiv (DO (d_v 0)) (DU d_int))) (DU (d_v 1))))))
theorem sc__law_in : FnScope ["_law_thing", "_law_low", "_law_high"] ["_law_thing", "_law_low", "_law_high"] (defScope (top 50)) := ⟨rfl, rfl, rfl, by decide +kernel, rfl, by decide +kernel, by decide +kernel⟩
theorem F__law_in (N : Fc w K mg) : FnIs P w K mg base 1 "_law_in" ["_law_thing", "_law_low", "_law_high"] 3 m__law_in :=
  fn_is N.d__law_in N.g__law_in sc__law_in rfl (fun _ _ _ _ _ _ us hl => match us, hl with | [_, _, _], _ => rfl) (fun cdv A outer s H E hr => 
  (pp_one (p_ret (d_and (d_isi (T' := .int) rfl N.n_isinstance rfl N.n_int bt_int (DU (d_v 0))) (d_and (d_notT (DU (d_isi (T' := .bool) rfl N.n_isinstance rfl N.n_bool bt_bool (DU (d_v 0))))) (d_one (d_chain op_le o_le op_le o_le (DO (d_v 1)) (DO (d_v 0)) (DU (d_v 2)))))))))
theorem sc__law_beats : FnScope ["_law_code_here", "_law_found", "_law_sign"] ["_law_code_here"] (defScope (top 53)) := ⟨rfl, rfl, rfl, by decide +kernel, rfl, by decide +kernel, by decide +kernel⟩
theorem F__law_beats (N : Fc w K mg) : FnIs P w K mg base 1 "_law_beats" ["_law_code_here"] 1 m__law_beats :=
  fn_is N.d__law_beats N.g__law_beats sc__law_beats rfl (fun _ _ _ _ _ _ us hl => match us, hl with | [_], _ => rfl) (fun cdv A outer s H E hr => 
  (pp_cons (p_set (i := 1) sc__law_beats.nd (ND (n_lst a_nil)))
    (pp_cons (p_for (js := [2]) (passes_of rfl) rfl (i_any (d_v 0)) (g_name (i := 2) sc__law_beats.nd) (pp_one (p_set (i := 1) sc__law_beats.nd (g_op op_addA o_add (DO (g_op op_addA o_add (DO (d_v 1)) (DU (g_op op_mulA o_mul (NO (n_lst (a_cons d_bl a_nil))) (DU (d_lit (kvs := [("s", .int 1), ("l", .int 3)]) hr (pps_cons pe_str pe_int (pps_cons pe_str pe_int pps_nil)) (d_v 2))))))) (NU (n_lst (a_cons d_bl a_nil)))))))
    (pp_one (p_ret (g_op op_addA o_add (DO (d_v 1)) (NU (n_lst (a_cons d_bl (a_cons d_bl (a_cons d_bl a_nil)))))))))))
theorem sc_is_setting : FnScope ["thing", "code"] ["thing"] (defScope (top 20)) := ⟨rfl, rfl, rfl, by decide +kernel, rfl, by decide +kernel, by decide +kernel⟩
theorem F_is_setting (N : Fc w K mg) : FnIs P w K mg base 2 "is_setting" ["thing"] 1 m_is_setting :=
  fn_is N.d_is_setting N.g_is_setting sc_is_setting rfl (fun _ _ _ _ _ _ us hl => match us, hl with | [_], _ => rfl) (fun cdv A outer s H E hr => 
  (pp_cons (p_if (t_w (w_or (t_not (t_tru (DU (d_isi (T' := .tuple) rfl N.n_isinstance rfl N.n_tuple bt_tuple (DU (d_v 0)))))) (w_or (t_cmp (op_neD hr.units) o_ne (DO (d_b1 o_len call_len rfl N.n_len bt_len (DU (d_v 0)))) (DU d_int) (by first | exact nomark _ | rfl)) (w_or1 (t_not (t_tru (DU (d_isi (T' := .tuple) rfl N.n_isinstance rfl N.n_tuple bt_tuple (DU (d_ix (DO (d_v 0)) (DU d_int))))))))))) (pp_one (p_ret d_bl)) pp_nil)
    (pp_cons (p_if (t_w (w_or (t_not (t_chain op_le o_le op_le o_le (DO d_int) (DO (d_b1 o_len call_len rfl N.n_len bt_len (DU (d_ix (DO (d_v 0)) (DU d_int))))) (DU d_int))) (w_or1 (t_tru (NU (n_comp rfl sc_is_setting.nd (by exact (i_any (d_ix (DO (d_v 0)) (DU d_int)))) (blkOk_by (own := [("code", 1)]) rfl) (fun _ _ _ _ _ => (g_name (i := 1) sc_is_setting.nd)) (fun _ _ _ _ _ => (c_one (t_not (t_tru (DU (d_fn (F_is_code N) hr (by decide) takes0 (a_cons (d_v 1) a_nil))))))) (fun _ _ _ _ _ => (d_v 1)))))))) (pp_one (p_ret d_bl)) pp_nil)
    (pp_cons (p_if (t_cmp (op_neD hr.units) o_ne (DO (d_lenSet rfl rfl N.n_len rfl N.n_set (d_ix (DO (d_v 0)) (DU d_int)))) (DU (d_b1 o_len call_len rfl N.n_len bt_len (DU (d_ix (DO (d_v 0)) (DU d_int))))) (by first | exact nomark _ | rfl)) (pp_one (p_ret d_bl)) pp_nil)
    (pp_one (p_ret (d_and (d_isi (T' := .bool) rfl N.n_isinstance rfl N.n_bool bt_bool (DU (d_ix (DO (d_v 0)) (DU d_int)))) (d_one (d_fn (F_is_within N) hr (by decide) (takes_of rfl rfl rfl rfl) (a_cons (d_ix (DO (d_v 0)) (DU d_int)) (a_cons d_int (a_cons d_int a_nil))))))))))))
theorem sc_look_house : FnScope ["setting", "house"] ["setting", "house"] (defScope (top 22)) := ⟨rfl, rfl, rfl, by decide +kernel, rfl, by decide +kernel, by decide +kernel⟩
theorem F_look_house (N : Fc w K mg) : FnIs P w K mg base 2 "look_house" ["setting", "house"] 2 m_look_house :=
  fn_is N.d_look_house N.g_look_house sc_look_house rfl (fun _ _ _ _ _ _ us hl => match us, hl with | [_, _], _ => rfl) (fun cdv A outer s H E hr => 
  (pp_one (p_if (t_not (t_tru (DU (d_fn (F_is_within N) hr (by decide) (takes_of rfl rfl rfl rfl) (a_cons (d_v 1) (a_cons d_int (a_cons (g_op op_sub o_sub (DO (d_b1 o_len call_len rfl N.n_len bt_len (DU (d_ix (DO (d_v 0)) (DU d_int))))) (DU d_int)) a_nil))))))) (pp_one (p_raiseX N.x_NoHouse rfl (takes_of rfl rfl rfl rfl))) pp_nil)))
theorem sc_ring : FnScope ["code", "ticks", "one", "tick"] ["code", "ticks"] (defScope (top 24)) := ⟨rfl, rfl, rfl, by decide +kernel, rfl, by decide +kernel, by decide +kernel⟩
theorem F_ring (N : Fc w K mg) : FnIs P w K mg base 2 "ring" ["code", "ticks"] 2 m_ring :=
  fn_is N.d_ring N.g_ring sc_ring rfl (fun _ _ _ _ _ _ us hl => match us, hl with | [_, _], _ => rfl) (fun cdv A outer s H E hr => 
  (pp_cons (p_if (t_not (t_tru (DU (d_fn (F_is_code N) hr (by decide) (takes_of rfl rfl rfl rfl) (a_cons (d_v 0) a_nil))))) (pp_one (p_raiseX N.x_NoCode rfl (takes_of rfl rfl rfl rfl))) pp_nil)
    (pp_cons (p_if (t_not (t_tru (DU (d_fn (F_is_within N) hr (by decide) (takes_of rfl rfl rfl rfl) (a_cons (d_v 1) (a_cons d_int (a_cons d_int a_nil))))))) (pp_one (p_raiseX N.x_NoCount rfl (takes_of rfl rfl rfl rfl))) pp_nil)
    (pp_cons (p_set (i := 2) sc_ring.nd (d_fn (F_beats N) hr (by decide) (takes_of rfl rfl rfl rfl) (a_cons (d_v 0) a_nil)))
    (pp_one (p_ret (ND (n_comp rfl sc_ring.nd (by exact (i_r1 rfl N.n_range (a_cons (d_v 1) a_nil))) (blkOk_by (own := [("tick", 3)]) rfl) (fun _ _ _ _ _ => (g_name (i := 3) sc_ring.nd)) (fun _ _ _ _ _ => c_nil) (fun _ _ _ _ _ => (d_ix (DO (d_v 2)) (DU (g_op op_mod o_mod (DO (d_v 3)) (DU (d_b1 o_len call_len rfl N.n_len bt_len (DU (d_v 2))))))))))))))))
theorem sc__law_code : FnScope ["_law_seed_here", "_law_k"] ["_law_seed_here"] (defScope (top 51)) := ⟨rfl, rfl, rfl, by decide +kernel, rfl, by decide +kernel, by decide +kernel⟩
theorem F__law_code (N : Fc w K mg) : FnIs P w K mg base 2 "_law_code" ["_law_seed_here"] 1 m__law_code :=
  fn_is N.d__law_code N.g__law_code sc__law_code rfl (fun _ _ _ _ _ _ us hl => match us, hl with | [_], _ => rfl) (fun cdv A outer s H E hr => 
  (pp_one (p_ret (d_join d_str (NU (n_comp rfl sc__law_code.nd (by exact (i_r1 rfl N.n_range (a_cons (g_op op_addA o_add (DO d_int) (DU (g_op op_mod o_mod (DO (g_op op_fdiv o_fdiv (DO (d_v 0)) (DU d_int))) (DU d_int)))) a_nil))) (blkOk_by (own := [("_law_k", 1)]) rfl) (fun _ _ _ _ _ => (g_name (i := 1) sc__law_code.nd)) (fun _ _ _ _ _ => c_nil) (fun _ _ _ _ _ => (d_ix (DO d_str) (DU (d_fn (F__law_pick N) hr (by decide) takes0 (a_cons (d_fn (F__law_seed N) hr (by decide) takes0 (a_cons (d_v 0) (a_cons (d_v 1) a_nil))) (a_cons d_int a_nil))))))))))))
theorem sc__law_ring : FnScope ["_law_code_here", "_law_ticks", "_law_one", "_law_tick"] ["_law_code_here", "_law_ticks"] (defScope (top 54)) := ⟨rfl, rfl, rfl, by decide +kernel, rfl, by decide +kernel, by decide +kernel⟩
theorem F__law_ring (N : Fc w K mg) : FnIs P w K mg base 2 "_law_ring" ["_law_code_here", "_law_ticks"] 2 m__law_ring :=
  fn_is N.d__law_ring N.g__law_ring sc__law_ring rfl (fun _ _ _ _ _ _ us hl => match us, hl with | [_, _], _ => rfl) (fun cdv A outer s H E hr => 
  (pp_cons (p_set (i := 2) sc__law_ring.nd (d_fn (F__law_beats N) hr (by decide) (takes_of rfl rfl rfl rfl) (a_cons (d_v 0) a_nil)))
    (pp_one (p_ret (ND (n_comp rfl sc__law_ring.nd (by exact (i_r1 rfl N.n_range (a_cons (d_v 1) a_nil))) (blkOk_by (own := [("_law_tick", 3)]) rfl) (fun _ _ _ _ _ => (g_name (i := 3) sc__law_ring.nd)) (fun _ _ _ _ _ => c_nil) (fun _ _ _ _ _ => (d_ix (DO (d_v 2)) (DU (g_op op_mod o_mod (DO (d_v 3)) (DU (d_b1 o_len call_len rfl N.n_len bt_len (DU (d_v 2))))))))))))))
theorem sc__law_is_setting : FnScope ["_law_thing", "_law_code_here"] ["_law_thing"] (defScope (top 55)) := ⟨rfl, rfl, rfl, by decide +kernel, rfl, by decide +kernel, by decide +kernel⟩
theorem F__law_is_setting (N : Fc w K mg) : FnIs P w K mg base 2 "_law_is_setting" ["_law_thing"] 1 m__law_is_setting :=
  fn_is N.d__law_is_setting N.g__law_is_setting sc__law_is_setting rfl (fun _ _ _ _ _ _ us hl => match us, hl with | [_], _ => rfl) (fun cdv A outer s H E hr => 
  (pp_cons (p_if (t_w (w_or (t_not (t_tru (DU (d_isi (T' := .tuple) rfl N.n_isinstance rfl N.n_tuple bt_tuple (DU (d_v 0)))))) (w_or (t_cmp (op_neD hr.units) o_ne (DO (d_b1 o_len call_len rfl N.n_len bt_len (DU (d_v 0)))) (DU d_int) (by first | exact nomark _ | rfl)) (w_or1 (t_not (t_tru (DU (d_isi (T' := .tuple) rfl N.n_isinstance rfl N.n_tuple bt_tuple (DU (d_ix (DO (d_v 0)) (DU d_int))))))))))) (pp_one (p_ret d_bl)) pp_nil)
    (pp_cons (p_if (t_not (t_chain op_le o_le op_le o_le (DO d_int) (DO (d_b1 o_len call_len rfl N.n_len bt_len (DU (d_ix (DO (d_v 0)) (DU d_int))))) (DU d_int))) (pp_one (p_ret d_bl)) pp_nil)
    (pp_cons (p_for (js := [1]) (passes_of rfl) rfl (i_any (d_ix (DO (d_v 0)) (DU d_int))) (g_name (i := 1) sc__law_is_setting.nd) (pp_one (p_if (t_w (w_or (t_not (t_tru (DU (d_isi (T' := .str) rfl N.n_isinstance rfl N.n_str bt_str (DU (d_v 1)))))) (w_or (t_not (t_chain op_le o_le op_le o_le (DO d_int) (DO (d_b1 o_len call_len rfl N.n_len bt_len (DU (d_v 1)))) (DU d_int))) (w_or1 (t_cmp (op_neD hr.units) o_ne (DO (d_strip (d_v 1) (DU d_str))) (DU d_str) (by first | exact nomark _ | rfl)))))) (pp_one (p_ret d_bl)) pp_nil)))
    (pp_cons (p_if (t_w (w_or (t_not (t_tru (DU (d_isi (T' := .bool) rfl N.n_isinstance rfl N.n_bool bt_bool (DU (d_ix (DO (d_v 0)) (DU d_int))))))) (w_or1 (t_not (t_tru (DU (d_fn (F__law_in N) hr (by decide) (takes_of rfl rfl rfl rfl) (a_cons (d_ix (DO (d_v 0)) (DU d_int)) (a_cons d_int (a_cons d_int a_nil)))))))))) (pp_one (p_ret d_bl)) pp_nil)
    (pp_one (p_ret (g_cmp (op_eqD hr.units) o_eq (DO (d_lenSet rfl rfl N.n_len rfl N.n_set (d_ix (DO (d_v 0)) (DU d_int)))) (DU (d_b1 o_len call_len rfl N.n_len bt_len (DU (d_ix (DO (d_v 0)) (DU d_int))))) (by first | exact nomark _ | rfl)))))))))
theorem sc_look : FnScope ["setting"] ["setting"] (defScope (top 21)) := ⟨rfl, rfl, rfl, by decide +kernel, rfl, by decide +kernel, by decide +kernel⟩
theorem F_look (N : Fc w K mg) : FnIs P w K mg base 3 "look" ["setting"] 1 m_look :=
  fn_is N.d_look N.g_look sc_look rfl (fun _ _ _ _ _ _ us hl => match us, hl with | [_], _ => rfl) (fun cdv A outer s H E hr => 
  (pp_one (p_if (t_not (t_tru (DU (d_fn (F_is_setting N) hr (by decide) (takes_of rfl rfl rfl rfl) (a_cons (d_v 0) a_nil))))) (pp_one (p_raiseX N.x_NoSetting rfl (takes_of rfl rfl rfl rfl))) pp_nil)))
theorem sc__law_setting : FnScope ["_law_seed_here", "_law_codes", "_law_k", "_law_code_here"] ["_law_seed_here"] (defScope (top 52)) := ⟨rfl, rfl, rfl, by decide +kernel, rfl, by decide +kernel, by decide +kernel⟩
theorem F__law_setting (N : Fc w K mg) : FnIs P w K mg base 3 "_law_setting" ["_law_seed_here"] 1 m__law_setting :=
  fn_is N.d__law_setting N.g__law_setting sc__law_setting rfl (fun _ _ _ _ _ _ us hl => match us, hl with | [_], _ => rfl) (fun cdv A outer s H E hr => 
  (pp_cons (p_own (i := 1) sc__law_setting.nd (n_lst a_nil))
    (pp_cons (p_for (js := [2]) (passes_of rfl) rfl (i_r1 rfl N.n_range (a_cons (g_op op_addA o_add (DO d_int) (DU (g_op op_mod o_mod (DO (g_op op_fdiv o_fdiv (DO (d_v 0)) (DU d_int))) (DU d_int)))) a_nil)) (g_name (i := 2) sc__law_setting.nd) (pp_cons (p_set (i := 3) sc__law_setting.nd (d_fn (F__law_code N) hr (by decide) (takes_of rfl rfl rfl rfl) (a_cons (d_fn (F__law_seed N) hr (by decide) (takes_of rfl rfl rfl rfl) (a_cons (d_v 0) (a_cons (g_op op_addA o_add (DO d_int) (DU (d_v 2))) a_nil))) a_nil)))
    (pp_one (p_if (t_cmp (op_niA (hu65 hr)) o_ni (DO (d_v 3)) (OU (o_v 1)) (by first | exact nomark _ | rfl)) (pp_one (p_app (i := 1) (d_v 3))) pp_nil))))
    (pp_cons (p_if (t_cmp op_lt o_lt (DO (d_b1 o_len call_len rfl N.n_len bt_len (OU (o_v 1)))) (DU d_int) (by first | exact nomark _ | rfl)) (pp_one (p_own (i := 1) sc__law_setting.nd (g_op op_cat o_cat (o_v 1) (DU (d_sl (NO (n_comp rfl sc__law_setting.nd (by exact (i_any (d_tup (a_cons d_str (a_cons d_str a_nil))))) (blkOk_by (own := [("_law_code_here", 3)]) rfl) (fun _ _ _ _ _ => (g_name (i := 3) sc__law_setting.nd)) (fun _ _ _ _ _ => (c_one (t_cmp (op_niA (hu65 hr)) o_ni (DO (d_v 3)) (OU (o_v 1)) (by first | exact nomark _ | rfl)))) (fun _ _ _ _ _ => (d_v 3)))) s_none (s_some d_int)))))) pp_nil)
    (pp_one (p_ret (d_tup (a_cons (d_t1 o_tuple call_tuple_of rfl N.n_tuple bt_tuple (OU (o_v 1))) (a_cons (g_cmp (op_eqD hr.units) o_eq (DO (g_op op_mod o_mod (DO (g_op op_fdiv o_fdiv (DO (d_v 0)) (DU d_int))) (DU d_int))) (DU d_int) (by first | exact nomark _ | rfl)) (a_cons (g_op op_addA o_add (DO d_int) (DU (d_fn (F__law_pick N) hr (by decide) (takes_of rfl rfl rfl rfl) (a_cons (d_fn (F__law_seed N) hr (by decide) (takes_of rfl rfl rfl rfl) (a_cons (d_v 0) (a_cons d_int a_nil))) (a_cons (d_ix (NO (n_lst (a_cons d_int (a_cons d_int a_nil)))) (DU (g_op op_mod o_mod (DO (g_op op_fdiv o_fdiv (DO (d_v 0)) (DU d_int))) (DU d_int)))) a_nil))))) a_nil))))))))))
theorem sc_meant : FnScope ["setting", "row", "one", "house", "code"] ["setting", "row"] (defScope (top 25)) := ⟨rfl, rfl, rfl, by decide +kernel, rfl, by decide +kernel, by decide +kernel⟩
theorem F_meant (N : Fc w K mg) : FnIs P w K mg base 4 "meant" ["setting", "row"] 2 m_meant :=
  fn_is N.d_meant N.g_meant sc_meant rfl (fun _ _ _ _ _ _ us hl => match us, hl with | [_, _], _ => rfl) (fun cdv A outer s H E hr => 
  (pp_cons (p_expr (d_fn (F_look N) hr (by decide) (takes_of rfl rfl rfl rfl) (a_cons (d_v 0) a_nil)))
    (pp_cons (p_if (t_w (w_or (t_not (t_tru (DU (d_isi (T' := .list) rfl N.n_isinstance rfl N.n_list bt_list (DU (d_v 1)))))) (w_or (t_cmp op_gt o_gt (DO (d_b1 o_len call_len rfl N.n_len bt_len (DU (d_v 1)))) (DU d_int) (by first | exact nomark _ | rfl)) (w_or1 (t_tru (NU (n_comp rfl sc_meant.nd (by exact (i_any (d_v 1))) (blkOk_by (own := [("one", 2)]) rfl) (fun _ _ _ _ _ => (g_name (i := 2) sc_meant.nd)) (fun _ _ _ _ _ => (c_one (t_not (t_tru (DU (d_isi (T' := .bool) rfl N.n_isinstance rfl N.n_bool bt_bool (DU (d_v 2)))))))) (fun _ _ _ _ _ => (d_v 2))))))))) (pp_one (p_raiseX N.x_NoCode rfl (takes_of rfl rfl rfl rfl))) pp_nil)
    (pp_one (p_ret (ND (n_comp rfl sc_meant.nd (by exact (i_enA rfl N.n_enumerate (a_cons (d_ix (DO (d_v 0)) (DU d_int)) a_nil))) (blkOk_by (own := [("house", 3), ("code", 4)]) rfl) (fun _ _ _ _ _ => (g_tup rfl (g_cons (g_name (i := 3) sc_meant.nd) (g_cons (g_name (i := 4) sc_meant.nd) g_nil)))) (fun _ _ _ _ _ => (c_one (t_cmp (op_eqD hr.units) o_eq (DO (d_fn (F_ring N) hr (by decide) takes0 (a_cons (d_v 4) (a_cons (d_b1 o_len call_len rfl N.n_len bt_len (DU (d_v 1))) a_nil)))) (DU (d_v 1)) (by first | exact nomark _ | rfl)))) (fun _ _ _ _ _ => (d_v 3)))))))))
theorem sc_Line___init__ : FnScope ["self", "setting"] ["self", "setting"] (defScope (inClass (top 31) 0)) := ⟨rfl, rfl, rfl, by decide +kernel, rfl, by decide +kernel, by decide +kernel⟩
theorem F_Line___init__ (N : Fc w K mg) : MethIs P w K mg base 4 "Line" "__init__" ["self", "setting"] 2 m_Line___init__ :=
  meth_is N.d_Line___init__ sc_Line___init__ rfl (fun _ _ _ _ _ _ us hl => match us, hl with | [_, _], _ => rfl) (fun cdv A outer s H E hr => 
  (pp_cons (p_expr (d_fn (F_look N) hr (by decide) (takes_of rfl rfl rfl rfl) (a_cons (d_v 1) a_nil)))
    (pp_cons (p_fld N.c_Line N.a_Line_setting (d_v 0) (d_v 1))
    (pp_cons (p_fld N.c_Line N.a_Line_tick_now (d_v 0) d_int)
    (pp_cons (p_fldN N.c_Line N.a_Line_off (d_v 0) (n_lst a_nil))
    (pp_cons (p_fld N.c_Line N.a_Line_asker (d_v 0) d_non)
    (pp_cons (p_fld N.c_Line N.a_Line_dialled (d_v 0) d_non)
    (pp_cons (p_fld N.c_Line N.a_Line_rung (d_v 0) d_non)
    (pp_cons (p_fld N.c_Line N.a_Line_outside (d_v 0) d_str)
    (pp_cons (p_fldN N.c_Line N.a_Line_inside (d_v 0) (n_lst a_nil))
    (pp_cons (p_fldN N.c_Line N.a_Line_queue (d_v 0) (n_lst a_nil))
    (pp_one (p_fld N.c_Line N.a_Line_let (d_v 0) (ND (n_lst a_nil)))))))))))))))
theorem sc_sure_behind : FnScope ["setting", "house", "row", "ticks"] ["setting", "house"] (defScope (top 26)) := ⟨rfl, rfl, rfl, by decide +kernel, rfl, by decide +kernel, by decide +kernel⟩
theorem F_sure_behind (N : Fc w K mg) : FnIs P w K mg base 5 "sure_behind" ["setting", "house"] 2 m_sure_behind :=
  fn_is N.d_sure_behind N.g_sure_behind sc_sure_behind rfl (fun _ _ _ _ _ _ us hl => match us, hl with | [_, _], _ => rfl) (fun cdv A outer s H E hr => 
  (pp_cons (p_expr (d_fn (F_look N) hr (by decide) (takes_of rfl rfl rfl rfl) (a_cons (d_v 0) a_nil)))
    (pp_cons (p_expr (d_fn (F_look_house N) hr (by decide) (takes_of rfl rfl rfl rfl) (a_cons (d_v 0) (a_cons (d_v 1) a_nil))))
    (pp_cons (p_set (i := 2) sc_sure_behind.nd (d_fn (F_ring N) hr (by decide) (takes_of rfl rfl rfl rfl) (a_cons (d_ix (DO (d_ix (DO (d_v 0)) (DU d_int))) (DU (d_v 1))) (a_cons d_int a_nil))))
    (pp_cons (p_set (i := 3) sc_sure_behind.nd d_int)
    (pp_cons (p_while (n := 2000) (passes_of rfl) (t_cmp (op_neD hr.units) o_ne (DO (d_fn (F_meant N) hr (by decide) (takes_of rfl rfl rfl rfl) (a_cons (d_v 0) (a_cons (d_sl (DO (d_v 2)) s_none (s_some (d_v 3))) a_nil)))) (NU (n_lst (a_cons (d_v 1) a_nil))) (by first | exact nomark _ | rfl)) (pp_one (p_augAdd (i := 3) sc_sure_behind.nd d_int)))
    (pp_one (p_ret (d_v 3)))))))))
theorem sc__law_looked : FnScope ["_law_way", "_law_thing"] ["_law_way", "_law_thing"] (defScope (top 57)) := ⟨rfl, rfl, rfl, by decide +kernel, rfl, by decide +kernel, by decide +kernel⟩
theorem F__law_looked (N : Fc w K mg) : FnIs P w K mg base 6 "_law_looked" ["_law_way", "_law_thing"] 2 m__law_looked :=
  fn_is N.d__law_looked N.g__law_looked sc__law_looked rfl (fun _ _ _ _ _ _ us hl => match us, hl with | [_, _], _ => rfl) (fun cdv A outer s H E hr => 
  (pp_cons (p_if (t_cmp op_lt o_lt (DO (d_v 0)) (DU d_int) (by first | exact nomark _ | rfl)) (pp_cons (p_if (t_cmp (op_eqD hr.units) o_eq (DO (d_v 0)) (DU d_int) (by first | exact nomark _ | rfl)) (pp_one (p_ret (d_make (by decide) N.k_Line (F_Line___init__ N) hr (by decide) (takes_of rfl rfl rfl rfl) N.g_Line (a_cons (d_v 1) a_nil)))) pp_nil)
    (pp_cons (p_if (t_cmp (op_eqD hr.units) o_eq (DO (d_v 0)) (DU d_int) (by first | exact nomark _ | rfl)) (pp_one (p_ret (d_fn (F_meant N) hr (by decide) (takes_of rfl rfl rfl rfl) (a_cons (d_ix (DO (d_v 1)) (DU d_int)) (a_cons (d_ix (DO (d_v 1)) (DU d_int)) a_nil))))) pp_nil)
    (pp_one (p_ret (d_if (t_cmp (op_eqD hr.units) o_eq (DO (d_v 0)) (DU d_int) (by first | exact nomark _ | rfl)) (d_fn (F_ring N) hr (by decide) (takes_of rfl rfl rfl rfl) (a_cons (d_ix (DO (d_v 1)) (DU d_int)) (a_cons (d_ix (DO (d_v 1)) (DU d_int)) a_nil))) (d_fn (F_sure_behind N) hr (by decide) (takes_of rfl rfl rfl rfl) (a_cons (d_ix (DO (d_v 1)) (DU d_int)) (a_cons (d_ix (DO (d_v 1)) (DU d_int)) a_nil)))))))) pp_nil)
    (pp_cons (p_if (t_cmp op_lt o_lt (DO (d_v 0)) (DU d_int) (by first | exact nomark _ | rfl)) (pp_cons (p_if (t_cmp (op_eqD hr.units) o_eq (DO (d_v 0)) (DU d_int) (by first | exact nomark _ | rfl)) (pp_one (p_ret d_badD)) pp_nil)
    (pp_cons (p_if (t_cmp (op_eqD hr.units) o_eq (DO (d_v 0)) (DU d_int) (by first | exact nomark _ | rfl)) (pp_one (p_ret d_badD)) pp_nil)
    (pp_one (p_ret (d_if (t_cmp (op_eqD hr.units) o_eq (DO (d_v 0)) (DU d_int) (by first | exact nomark _ | rfl)) d_badD d_badD))))) pp_nil)
    (pp_one (p_ret (d_if (t_cmp (op_eqD hr.units) o_eq (DO (d_v 0)) (DU d_int) (by first | exact nomark _ | rfl)) d_badD d_badD))))))
theorem sc__law_word : FnScope ["_law_way", "_law_thing", "_law_caught"] ["_law_way", "_law_thing"] (defScope (top 56)) := ⟨rfl, rfl, rfl, by decide +kernel, rfl, by decide +kernel, by decide +kernel⟩
theorem F__law_word (N : Fc w K mg) : FnIs P w K mg base 7 "_law_word" ["_law_way", "_law_thing"] 2 m__law_word :=
  fn_is N.d__law_word N.g__law_word sc__law_word rfl (fun _ _ _ _ _ _ us hl => match us, hl with | [_, _], _ => rfl) (fun cdv A outer s H E hr => 
  (pp_cons (p_set (i := 2) sc__law_word.nd d_str)
    (pp_cons (p_try exmT N.exm (takes_of rfl rfl rfl rfl) (fun W pn xe tk hp => (pp_one (p_expr (d_fn (F__law_looked N) hr (by decide) tk (a_cons (d_v 0) (a_cons (d_v 1) a_nil)))))) (h_cons N.g_NoSetting (fun _ _ => (pp_one (p_set (i := 2) sc__law_word.nd d_str))) (h_cons N.g_NoCode (fun _ _ => (pp_one (p_set (i := 2) sc__law_word.nd d_str))) (h_cons N.g_NoHouse (fun _ _ => (pp_one (p_set (i := 2) sc__law_word.nd d_str))) (h_cons N.g_NoCount (fun _ _ => (pp_one (p_set (i := 2) sc__law_word.nd d_str))) (h_cons N.g_NoDeeds (fun _ _ => (pp_one (p_set (i := 2) sc__law_word.nd d_str))) (h_cons N.g_NoText (fun _ _ => (pp_one (p_set (i := 2) sc__law_word.nd d_str))) h_nil)))))))
    (pp_one (p_ret (d_v 2))))))
theorem sc_law_k02 : FnScope ["_law_script", "_law_setting_here", "_law_odds", "_law_at", "_law_other", "_law_good", "_law_codes", "_law_house", "_law_ticks", "_law_row", "_law_due", "_law_k", "_law_code_here", "_law_one", "_law_sure", "_law_alike", "_law_bad", "_law_many", "_law_words"] ["_law_script"] (defScope (top 58)) := ⟨rfl, rfl, rfl, by decide +kernel, rfl, by decide +kernel, by decide +kernel⟩
theorem F_law (N : Fc w K mg) : FnIs P w K mg base 8 "law" ["_law_script"] 1 m_law_k02 :=
  fn_is N.d_law N.g_law sc_law_k02 rfl (fun _ _ _ _ _ _ us hl => match us, hl with | [_], _ => rfl) (fun cdv A outer s H E hr => 
  (pp_cons (p_set (i := 1) sc_law_k02.nd (d_fn (F__law_setting N) hr (by decide) (takes_of rfl rfl rfl rfl) (a_cons (d_fn (F__law_seed N) hr (by decide) (takes_of rfl rfl rfl rfl) (a_cons (d_fn (F__law_cell N) hr (by decide) (takes_of rfl rfl rfl rfl) (a_cons (d_v 0) (a_cons d_int a_nil))) (a_cons d_int a_nil))) a_nil)))
    (pp_cons (p_set (i := 2) sc_law_k02.nd (ND (n_lst (a_cons d_non (a_cons (d_tup a_nil) (a_cons (d_tup (a_cons d_str a_nil)) (a_cons (d_tup (a_cons d_str (a_cons d_str a_nil))) (a_cons (d_tup (a_cons d_str (a_cons d_str a_nil))) (a_cons (d_tup (a_cons d_str (a_cons d_str a_nil))) (a_cons (d_tup (a_cons d_str (a_cons d_str a_nil))) (a_cons d_bl (a_cons d_int (a_cons d_int (a_cons d_int (a_cons d_int (a_cons (ND (n_lst (a_cons d_str (a_cons d_str a_nil)))) a_nil))))))))))))))))
    (pp_cons (p_set (i := 2) sc_law_k02.nd (g_op op_addA o_add (DO (d_v 2)) (NU (n_lst (a_cons (d_tup (a_cons d_str (a_cons d_str a_nil))) (a_cons (d_neg d_int) a_nil))))))
    (pp_cons (p_set (i := 3) sc_law_k02.nd (g_op op_mod o_mod (DO (d_fn (F__law_cell N) hr (by decide) (takes_of rfl rfl rfl rfl) (a_cons (d_v 0) (a_cons d_int a_nil)))) (DU d_int)))
    (pp_cons (p_set (i := 4) sc_law_k02.nd (g_op op_addA o_add (DO (g_op op_addA o_add (DO (d_sl (DO (d_v 1)) s_none (s_some (d_v 3)))) (DU (d_tup (a_cons (d_ix (DO (d_v 2)) (DU (g_op op_mod o_mod (DO (d_fn (F__law_cell N) hr (by decide) (takes_of rfl rfl rfl rfl) (a_cons (d_v 0) (a_cons d_int a_nil)))) (DU d_int)))) a_nil))))) (DU (d_sl (DO (d_v 1)) (s_some (g_op op_addA o_add (DO (d_v 3)) (DU d_int))) s_none))))
    (pp_cons (p_set (i := 4) sc_law_k02.nd (d_ix (NO (n_lst (a_cons (d_v 4) (a_cons (d_v 4) (a_cons (ND (d_t1 o_list call_list_of rfl N.n_list bt_list (DU (d_v 1)))) (a_cons (d_sl (DO (d_v 1)) s_none (s_some d_int)) (a_cons (g_op op_addA o_add (DO (d_v 1)) (DU (d_tup (a_cons d_int a_nil)))) a_nil))))))) (DU (g_op op_mod o_mod (DO (d_fn (F__law_cell N) hr (by decide) (takes_of rfl rfl rfl rfl) (a_cons (d_v 0) (a_cons d_int a_nil)))) (DU d_int)))))
    (pp_cons (p_set (i := 5) sc_law_k02.nd (d_fn (F__law_is_setting N) hr (by decide) (takes_of rfl rfl rfl rfl) (a_cons (d_v 4) a_nil)))
    (pp_cons (p_if (t_cmp (op_neD hr.units) o_ne (NO (n_lst (a_cons (d_fn (F_is_setting N) hr (by decide) (takes_of rfl rfl rfl rfl) (a_cons (d_v 1) a_nil)) (a_cons (d_fn (F_is_setting N) hr (by decide) (takes_of rfl rfl rfl rfl) (a_cons (d_v 4) a_nil)) (a_cons (g_cmp (op_eqD hr.units) o_eq (DO (d_fn (F__law_word N) hr (by decide) (takes_of rfl rfl rfl rfl) (a_cons d_int (a_cons (d_v 4) a_nil)))) (DU d_str) (by first | exact nomark _ | rfl)) a_nil))))) (NU (n_lst (a_cons d_bl (a_cons (d_v 5) (a_cons (d_v 5) a_nil))))) (by first | exact nomark _ | rfl)) (pp_one (p_ret d_bl)) pp_nil)
    (pp_cons (p_par (i := 6) (j := 7) rfl sc_law_k02.nd (a_cons (d_ix (DO (d_v 1)) (DU d_int)) (a_cons (g_op op_mod o_mod (DO (d_fn (F__law_cell N) hr (by decide) (takes_of rfl rfl rfl rfl) (a_cons (d_v 0) (a_cons d_int a_nil)))) (DU (d_b1 o_len call_len rfl N.n_len bt_len (DU (d_ix (DO (d_v 1)) (DU d_int)))))) a_nil)))
    (pp_cons (p_set (i := 8) sc_law_k02.nd (d_ix (NO (n_lst (a_cons (g_op op_mod o_mod (DO (d_fn (F__law_cell N) hr (by decide) (takes_of rfl rfl rfl rfl) (a_cons (d_v 0) (a_cons d_int a_nil)))) (DU d_int)) (a_cons (g_op op_mod o_mod (DO (d_fn (F__law_cell N) hr (by decide) (takes_of rfl rfl rfl rfl) (a_cons (d_v 0) (a_cons d_int a_nil)))) (DU d_int)) a_nil)))) (DU (g_op op_mod o_mod (DO (d_fn (F__law_cell N) hr (by decide) (takes_of rfl rfl rfl rfl) (a_cons (d_v 0) (a_cons d_int a_nil)))) (DU d_int)))))
    (pp_cons (p_set (i := 9) sc_law_k02.nd (d_fn (F__law_ring N) hr (by decide) (takes_of rfl rfl rfl rfl) (a_cons (d_ix (DO (d_v 6)) (DU (d_v 7))) (a_cons (d_v 8) a_nil))))
    (pp_cons (p_if (t_cmp (op_neD hr.units) o_ne (DO (d_fn (F_ring N) hr (by decide) (takes_of rfl rfl rfl rfl) (a_cons (d_ix (DO (d_v 6)) (DU (d_v 7))) (a_cons (d_v 8) a_nil)))) (DU (d_v 9)) (by first | exact nomark _ | rfl)) (pp_one (p_ret d_bl)) pp_nil)
    (pp_cons (p_if (t_w (w_and (t_cmp op_gt o_gt (DO (d_v 8)) (DU d_int) (by first | exact nomark _ | rfl)) (w_and1 (t_cmp (op_eqD hr.units) o_eq (DO (g_op op_mod o_mod (DO (d_fn (F__law_cell N) hr (by decide) (takes_of rfl rfl rfl rfl) (a_cons (d_v 0) (a_cons d_int a_nil)))) (DU d_int))) (DU d_int) (by first | exact nomark _ | rfl))))) (pp_cons (p_set (i := 3) sc_law_k02.nd (g_op op_mod o_mod (DO (d_fn (F__law_cell N) hr (by decide) (takes_of rfl rfl rfl rfl) (a_cons (d_v 0) (a_cons d_int a_nil)))) (DU (d_v 8))))
    (pp_one (p_set (i := 9) sc_law_k02.nd (g_op op_addA o_add (DO (g_op op_addA o_add (DO (d_sl (DO (d_v 9)) s_none (s_some (d_v 3)))) (NU (n_lst (a_cons (d_notT (DU (d_ix (DO (d_v 9)) (DU (d_v 3))))) a_nil))))) (DU (d_sl (DO (d_v 9)) (s_some (g_op op_addA o_add (DO (d_v 3)) (DU d_int))) s_none)))))) pp_nil)
    (pp_cons (p_setComp (i := 10) rfl sc_law_k02.nd (by exact (i_enA rfl N.n_enumerate (a_cons (d_v 6) a_nil))) (blkOk_by (own := [("_law_k", 11), ("_law_code_here", 12)]) rfl) (fun _ _ _ _ _ => (g_tup rfl (g_cons (g_name (i := 11) sc_law_k02.nd) (g_cons (g_name (i := 12) sc_law_k02.nd) g_nil)))) (fun _ _ _ _ _ => (c_one (t_cmp (op_eqD hr.units) o_eq (DO (d_fn (F__law_ring N) hr (by decide) takes0 (a_cons (d_v 12) (a_cons (d_v 8) a_nil)))) (DU (d_v 9)) (by first | exact nomark _ | rfl)))) (fun _ _ _ _ _ => (d_v 11)) (sw_true rfl rfl rfl (by decide +kernel)))
    (pp_cons (p_if (t_cmp (op_neD hr.units) o_ne (NO (n_comp rfl sc_law_k02.nd (by exact (i_any (d_tup (a_cons (d_fn (F_ring N) hr (by decide) (takes_of rfl rfl rfl rfl) (a_cons (d_ix (DO (d_v 6)) (DU (d_v 7))) (a_cons d_int a_nil))) (a_cons (ND (d_t1 o_list call_list_of rfl N.n_list bt_list (DU (d_v 9)))) a_nil))))) (blkOk_by (own := [("_law_one", 13)]) rfl) (fun _ _ _ _ _ => (g_name (i := 13) sc_law_k02.nd)) (fun _ _ _ _ _ => c_nil) (fun _ _ _ _ _ => (d_fn (F_meant N) hr (by decide) takes0 (a_cons (d_v 1) (a_cons (d_v 13) a_nil)))))) (NU (n_lst (a_cons (ND (n_lst (a_cons (d_v 7) a_nil))) (a_cons (d_v 10) a_nil)))) (by first | exact nomark _ | rfl)) (pp_one (p_ret d_bl)) pp_nil)
    (pp_cons (p_for (js := [11, 12]) (passes_of rfl) rfl (i_enA rfl N.n_enumerate (a_cons (d_v 6) a_nil)) (g_tup rfl (g_cons (g_name (i := 11) sc_law_k02.nd) (g_cons (g_name (i := 12) sc_law_k02.nd) g_nil))) (pp_cons (p_set (i := 14) sc_law_k02.nd (d_fn (F_sure_behind N) hr (by decide) (takes_of rfl rfl rfl rfl) (a_cons (d_v 1) (a_cons (d_v 11) a_nil))))
    (pp_one (p_for (js := [8]) (passes_of rfl) rfl (i_any (d_tup (a_cons (g_op op_sub o_sub (DO (d_v 14)) (DU d_int)) (a_cons (d_v 14) a_nil)))) (g_name (i := 8) sc_law_k02.nd) (pp_cons (p_setComp (i := 15) rfl sc_law_k02.nd (by exact (i_any (d_v 6))) (blkOk_by (own := [("_law_one", 13)]) rfl) (fun _ _ _ _ _ => (g_name (i := 13) sc_law_k02.nd)) (fun _ _ _ _ _ => (c_one (t_cmp (op_eqD hr.units) o_eq (DO (d_fn (F__law_ring N) hr (by decide) takes0 (a_cons (d_v 13) (a_cons (d_max2 rfl rfl N.n_max (a_cons d_int (a_cons (d_v 8) a_nil))) a_nil)))) (DU (d_fn (F__law_ring N) hr (by decide) takes0 (a_cons (d_v 12) (a_cons (d_max2 rfl rfl N.n_max (a_cons d_int (a_cons (d_v 8) a_nil))) a_nil)))) (by first | exact nomark _ | rfl)))) (fun _ _ _ _ _ => (d_v 13)) (sw_true rfl rfl rfl (by decide +kernel)))
    (pp_one (p_if (t_cmp (op_neD hr.units) o_ne (DO (g_cmp (op_eqD hr.units) o_eq (DO (d_b1 o_len call_len rfl N.n_len bt_len (DU (d_v 15)))) (DU d_int) (by first | exact nomark _ | rfl))) (DU (g_cmp (op_eqD hr.units) o_eq (DO (d_v 8)) (DU (d_v 14)) (by first | exact nomark _ | rfl))) (by first | exact nomark _ | rfl)) (pp_one (p_ret d_bl)) pp_nil)))))))
    (pp_cons (p_set (i := 16) sc_law_k02.nd (d_ix (NO (n_lst (a_cons d_non (a_cons (d_tup (a_cons d_bl a_nil)) (a_cons (ND (n_lst (a_cons d_int a_nil))) (a_cons (g_op op_mulA o_mul (NO (n_lst (a_cons d_bl a_nil))) (DU d_int)) (a_cons d_str (a_cons (ND (n_lst (a_cons d_non a_nil))) (a_cons d_int a_nil))))))))) (DU (g_op op_mod o_mod (DO (d_fn (F__law_cell N) hr (by decide) (takes_of rfl rfl rfl rfl) (a_cons (d_v 0) (a_cons d_int a_nil)))) (DU d_int)))))
    (pp_cons (p_set (i := 17) sc_law_k02.nd (d_ix (NO (n_lst (a_cons (d_neg d_int) (a_cons d_int (a_cons d_non (a_cons d_bl a_nil)))))) (DU (g_op op_mod o_mod (DO (d_fn (F__law_cell N) hr (by decide) (takes_of rfl rfl rfl rfl) (a_cons (d_v 0) (a_cons d_int a_nil)))) (DU d_int)))))
    (pp_cons (p_set (i := 18) sc_law_k02.nd (ND (n_lst (a_cons (d_fn (F__law_word N) hr (by decide) (takes_of rfl rfl rfl rfl) (a_cons d_int (a_cons (d_tup (a_cons d_non (a_cons (d_v 16) a_nil))) a_nil))) (a_cons (d_fn (F__law_word N) hr (by decide) (takes_of rfl rfl rfl rfl) (a_cons d_int (a_cons (d_tup (a_cons (d_v 1) (a_cons (d_v 16) a_nil))) a_nil))) (a_cons (d_fn (F__law_word N) hr (by decide) (takes_of rfl rfl rfl rfl) (a_cons d_int (a_cons (d_tup (a_cons d_str (a_cons (d_v 17) a_nil))) a_nil))) a_nil))))))
    (pp_cons (p_set (i := 18) sc_law_k02.nd (g_op op_addA o_add (DO (d_v 18)) (NU (n_lst (a_cons (d_fn (F__law_word N) hr (by decide) (takes_of rfl rfl rfl rfl) (a_cons d_int (a_cons (d_tup (a_cons d_str (a_cons (d_v 17) a_nil))) a_nil))) (a_cons (d_fn (F__law_word N) hr (by decide) (takes_of rfl rfl rfl rfl) (a_cons d_int (a_cons (d_tup (a_cons d_non (a_cons (d_v 17) a_nil))) a_nil))) (a_cons (d_fn (F__law_word N) hr (by decide) (takes_of rfl rfl rfl rfl) (a_cons d_int (a_cons (d_tup (a_cons (d_v 1) (a_cons (d_v 17) a_nil))) a_nil))) a_nil)))))))
    (pp_one (p_ret (g_cmp (op_eqD hr.units) o_eq (DO (d_v 18)) (NU (n_lst (a_cons d_str (a_cons d_str (a_cons d_str (a_cons d_str (a_cons d_str (a_cons d_str a_nil)))))))) (by first | exact nomark _ | rfl)))))))))))))))))))))))))
end
end M

namespace HD
open PySem PySem.Spec PyProof.Rows L2 PySem.W M
def d0 : He.DefD := ⟨("is_within", none), "is_within", "is_within", defArgs (top 18), defBody (top 18), defScope (top 18), [], []⟩
def d1 : He.DefD := ⟨("is_code", none), "is_code", "is_code", defArgs (top 19), defBody (top 19), defScope (top 19), [], []⟩
def d2 : He.DefD := ⟨("beats", none), "beats", "beats", defArgs (top 23), defBody (top 23), defScope (top 23), [], []⟩
def d3 : He.DefD := ⟨("_law_cell", none), "_law_cell", "_law_cell", defArgs (top 47), defBody (top 47), defScope (top 47), [], []⟩
def d4 : He.DefD := ⟨("_law_seed", none), "_law_seed", "_law_seed", defArgs (top 48), defBody (top 48), defScope (top 48), [], []⟩
def d5 : He.DefD := ⟨("_law_pick", none), "_law_pick", "_law_pick", defArgs (top 49), defBody (top 49), defScope (top 49), [], []⟩
def d6 : He.DefD := ⟨("_law_in", none), "_law_in", "_law_in", defArgs (top 50), defBody (top 50), defScope (top 50), [], []⟩
def d7 : He.DefD := ⟨("_law_beats", none), "_law_beats", "_law_beats", defArgs (top 53), defBody (top 53), defScope (top 53), [], []⟩
def d8 : He.DefD := ⟨("is_setting", none), "is_setting", "is_setting", defArgs (top 20), defBody (top 20), defScope (top 20), [], []⟩
def d9 : He.DefD := ⟨("look_house", none), "look_house", "look_house", defArgs (top 22), defBody (top 22), defScope (top 22), [], []⟩
def d10 : He.DefD := ⟨("ring", none), "ring", "ring", defArgs (top 24), defBody (top 24), defScope (top 24), [], []⟩
def d11 : He.DefD := ⟨("_law_code", none), "_law_code", "_law_code", defArgs (top 51), defBody (top 51), defScope (top 51), [], []⟩
def d12 : He.DefD := ⟨("_law_ring", none), "_law_ring", "_law_ring", defArgs (top 54), defBody (top 54), defScope (top 54), [], []⟩
def d13 : He.DefD := ⟨("_law_is_setting", none), "_law_is_setting", "_law_is_setting", defArgs (top 55), defBody (top 55), defScope (top 55), [], []⟩
def d14 : He.DefD := ⟨("look", none), "look", "look", defArgs (top 21), defBody (top 21), defScope (top 21), [], []⟩
def d15 : He.DefD := ⟨("_law_setting", none), "_law_setting", "_law_setting", defArgs (top 52), defBody (top 52), defScope (top 52), [], []⟩
def d16 : He.DefD := ⟨("meant", none), "meant", "meant", defArgs (top 25), defBody (top 25), defScope (top 25), [], []⟩
def d17 : He.DefD := ⟨("Line", some "__init__"), "__init__", "Line.__init__", defArgs (inClass (top 31) 0), defBody (inClass (top 31) 0), defScope (inClass (top 31) 0), [], []⟩
def d18 : He.DefD := ⟨("sure_behind", none), "sure_behind", "sure_behind", defArgs (top 26), defBody (top 26), defScope (top 26), [], []⟩
def d19 : He.DefD := ⟨("_law_looked", none), "_law_looked", "_law_looked", defArgs (top 57), defBody (top 57), defScope (top 57), [], []⟩
def d20 : He.DefD := ⟨("_law_word", none), "_law_word", "_law_word", defArgs (top 56), defBody (top 56), defScope (top 56), [], []⟩
def d21 : He.DefD := ⟨("law", none), "law", "law", defArgs (top 58), defBody (top 58), defScope (top 58), [], []⟩
def fn_0 : List He.DefD := [d0, d1, d2, d3, d4, d5, d6, d7, d8, d9, d10, d11, d12, d13, d14, d15, d16, d17, d18, d19, d20, d21]
def fn : List He.DefD := fn_0
def fa_0 : List He.Fa := [.glo "is_within", .glo "is_code", .glo "beats", .glo "_law_cell", .glo "_law_seed", .glo "_law_pick", .glo "_law_in", .glo "_law_beats", .glo "is_setting", .glo "look_house", .glo "ring", .glo "_law_code", .glo "_law_ring", .glo "_law_is_setting", .glo "look", .glo "_law_setting", .glo "meant", .glo "sure_behind", .glo "_law_looked", .glo "_law_word", .glo "law", .free "bool", .free "enumerate", .free "int", .free "isinstance", .free "len", .free "list", .free "max", .free "range", .free "set"]
def fa_1 : List He.Fa := [.free "str", .free "tuple", .int "LONG" 3, .int "MOST_SIGNS" 4, .int "REST" 4, .exc "NoCode", .exc "NoCount", .exc "NoHouse", .exc "NoSetting", .glo "NoCode", .glo "NoCount", .glo "NoDeeds", .glo "NoHouse", .glo "NoSetting", .glo "NoText", .exm "LineError" "LineError" true, .exm "LineError" "NoSetting" false, .exm "LineError" "NoCode" false, .exm "LineError" "NoHouse" false, .exm "LineError" "IsOff" false, .exm "LineError" "IsOn" false, .exm "LineError" "NoTone" false, .exm "LineError" "NoTalk" false, .exm "LineError" "NoCall" false, .exm "LineError" "NoCount" false, .exm "LineError" "NoDeeds" false, .exm "LineError" "NoText" false, .exm "NoSetting" "LineError" true, .exm "NoSetting" "NoSetting" true, .exm "NoSetting" "NoCode" false]
def fa_2 : List He.Fa := [.exm "NoSetting" "NoHouse" false, .exm "NoSetting" "IsOff" false, .exm "NoSetting" "IsOn" false, .exm "NoSetting" "NoTone" false, .exm "NoSetting" "NoTalk" false, .exm "NoSetting" "NoCall" false, .exm "NoSetting" "NoCount" false, .exm "NoSetting" "NoDeeds" false, .exm "NoSetting" "NoText" false, .exm "NoCode" "LineError" true, .exm "NoCode" "NoSetting" false, .exm "NoCode" "NoCode" true, .exm "NoCode" "NoHouse" false, .exm "NoCode" "IsOff" false, .exm "NoCode" "IsOn" false, .exm "NoCode" "NoTone" false, .exm "NoCode" "NoTalk" false, .exm "NoCode" "NoCall" false, .exm "NoCode" "NoCount" false, .exm "NoCode" "NoDeeds" false, .exm "NoCode" "NoText" false, .exm "NoHouse" "LineError" true, .exm "NoHouse" "NoSetting" false, .exm "NoHouse" "NoCode" false, .exm "NoHouse" "NoHouse" true, .exm "NoHouse" "IsOff" false, .exm "NoHouse" "IsOn" false, .exm "NoHouse" "NoTone" false, .exm "NoHouse" "NoTalk" false, .exm "NoHouse" "NoCall" false]
def fa_3 : List He.Fa := [.exm "NoHouse" "NoCount" false, .exm "NoHouse" "NoDeeds" false, .exm "NoHouse" "NoText" false, .exm "IsOff" "LineError" true, .exm "IsOff" "NoSetting" false, .exm "IsOff" "NoCode" false, .exm "IsOff" "NoHouse" false, .exm "IsOff" "IsOff" true, .exm "IsOff" "IsOn" false, .exm "IsOff" "NoTone" false, .exm "IsOff" "NoTalk" false, .exm "IsOff" "NoCall" false, .exm "IsOff" "NoCount" false, .exm "IsOff" "NoDeeds" false, .exm "IsOff" "NoText" false, .exm "IsOn" "LineError" true, .exm "IsOn" "NoSetting" false, .exm "IsOn" "NoCode" false, .exm "IsOn" "NoHouse" false, .exm "IsOn" "IsOff" false, .exm "IsOn" "IsOn" true, .exm "IsOn" "NoTone" false, .exm "IsOn" "NoTalk" false, .exm "IsOn" "NoCall" false, .exm "IsOn" "NoCount" false, .exm "IsOn" "NoDeeds" false, .exm "IsOn" "NoText" false, .exm "NoTone" "LineError" true, .exm "NoTone" "NoSetting" false, .exm "NoTone" "NoCode" false]
def fa_4 : List He.Fa := [.exm "NoTone" "NoHouse" false, .exm "NoTone" "IsOff" false, .exm "NoTone" "IsOn" false, .exm "NoTone" "NoTone" true, .exm "NoTone" "NoTalk" false, .exm "NoTone" "NoCall" false, .exm "NoTone" "NoCount" false, .exm "NoTone" "NoDeeds" false, .exm "NoTone" "NoText" false, .exm "NoTalk" "LineError" true, .exm "NoTalk" "NoSetting" false, .exm "NoTalk" "NoCode" false, .exm "NoTalk" "NoHouse" false, .exm "NoTalk" "IsOff" false, .exm "NoTalk" "IsOn" false, .exm "NoTalk" "NoTone" false, .exm "NoTalk" "NoTalk" true, .exm "NoTalk" "NoCall" false, .exm "NoTalk" "NoCount" false, .exm "NoTalk" "NoDeeds" false, .exm "NoTalk" "NoText" false, .exm "NoCall" "LineError" true, .exm "NoCall" "NoSetting" false, .exm "NoCall" "NoCode" false, .exm "NoCall" "NoHouse" false, .exm "NoCall" "IsOff" false, .exm "NoCall" "IsOn" false, .exm "NoCall" "NoTone" false, .exm "NoCall" "NoTalk" false, .exm "NoCall" "NoCall" true]
def fa_5 : List He.Fa := [.exm "NoCall" "NoCount" false, .exm "NoCall" "NoDeeds" false, .exm "NoCall" "NoText" false, .exm "NoCount" "LineError" true, .exm "NoCount" "NoSetting" false, .exm "NoCount" "NoCode" false, .exm "NoCount" "NoHouse" false, .exm "NoCount" "IsOff" false, .exm "NoCount" "IsOn" false, .exm "NoCount" "NoTone" false, .exm "NoCount" "NoTalk" false, .exm "NoCount" "NoCall" false, .exm "NoCount" "NoCount" true, .exm "NoCount" "NoDeeds" false, .exm "NoCount" "NoText" false, .exm "NoDeeds" "LineError" true, .exm "NoDeeds" "NoSetting" false, .exm "NoDeeds" "NoCode" false, .exm "NoDeeds" "NoHouse" false, .exm "NoDeeds" "IsOff" false, .exm "NoDeeds" "IsOn" false, .exm "NoDeeds" "NoTone" false, .exm "NoDeeds" "NoTalk" false, .exm "NoDeeds" "NoCall" false, .exm "NoDeeds" "NoCount" false, .exm "NoDeeds" "NoDeeds" true, .exm "NoDeeds" "NoText" false, .exm "NoText" "LineError" true, .exm "NoText" "NoSetting" false, .exm "NoText" "NoCode" false]
def fa_6 : List He.Fa := [.exm "NoText" "NoHouse" false, .exm "NoText" "IsOff" false, .exm "NoText" "IsOn" false, .exm "NoText" "NoTone" false, .exm "NoText" "NoTalk" false, .exm "NoText" "NoCall" false, .exm "NoText" "NoCount" false, .exm "NoText" "NoDeeds" false, .exm "NoText" "NoText" true, .cls "Line", .mkr "Line", .glo "Line", .noat "Line" "asker", .noat "Line" "dialled", .noat "Line" "inside", .noat "Line" "let", .noat "Line" "off", .noat "Line" "outside", .noat "Line" "queue", .noat "Line" "rung", .noat "Line" "setting", .noat "Line" "tick_now"]
def fa : List He.Fa := fa_0 ++ fa_1 ++ fa_2 ++ fa_3 ++ fa_4 ++ fa_5 ++ fa_6
def tabs : List (Str × List (Str × Int)) := []
def loose_0 : List Str := ["_wall", "LineError", "NoSetting", "NoCode", "NoHouse", "IsOff", "IsOn", "NoTone", "NoTalk", "NoCall", "NoCount", "NoDeeds", "NoText", "REST", "LONG", "MOST_SIGNS", "is_within", "is_code", "is_setting", "look", "look_house", "beats", "ring", "meant", "sure_behind", "all_codes", "codes_for", "MOST_WAITING", "Line", "WORDS"]
def loose_1 : List Str := ["MOST_DEEDS", "is_deed", "are_deeds", "look_deeds", "told_by", "done", "overheard", "spoken", "shown", "number_of", "read", "_law_cell", "_law_seed", "_law_pick", "_law_in", "_law_code", "_law_setting", "_law_beats", "_law_ring", "_law_is_setting", "_law_word", "_law_looked"]
def loose : List Str := loose_0 ++ loose_1
def as__0 : List Addr := [3, 30, 31, 43, 44, 55, 56, 67, 68, 79, 80, 91, 92, 103, 104, 115, 116, 127, 128, 139, 140, 151, 152, 163, 164, 172, 173, 177, 178, 182]
def as__1 : List Addr := [183, 189, 190, 196, 197, 203, 204, 208, 209, 213, 214, 220, 221, 244, 245, 406, 407, 476, 477, 483, 484, 490, 491, 497, 498, 502, 503, 507, 508, 514]
def as__2 : List Addr := [515, 519, 520, 526, 527, 533, 534, 540, 541, 545, 546]
def as_ : List Addr := as__0 ++ as__1 ++ as__2
abbrev R : PySem.W.OpenRow := PySem.W.OpenLaw.row PySem.Challenge.rw_ringhouses_k02_codes
def hk : PySem.W.Hook where
  α := He.AlD
  obs := fun s => He.obsD fa fn (He.frG s.heap.get? as_)
  val := fun _ => He.valD fn
  says := fun _ h => ∃ K : PySem.W.Frag, K.In h ∧ He.SaysD fa fn K
  of := fun _ _ e => ⟨_, He.frG_in, e⟩
  keeps := fun _ _ _ ⟨K, hK, c⟩ k => ⟨K, PySem.W.Frag.In.keeps hK k, c⟩
def ob (s : PySem.W.SharedT) : He.AlD := He.obsD fa fn (He.frG (HandSHeadRun.getT s) as_)
theorem ob_eq (s : PySem.W.SharedT) : ob s = hk.obs s.abs := by
  have e : HandSHeadRun.getT s = s.abs.heap.get? := funext fun a => HandSHeadRun.getT_eq s a
  show He.obsD fa fn (He.frG (HandSHeadRun.getT s) as_) = _
  rw [e]
  all_goals rfl
theorem run (w : World) : HandSHeadRun.RunEq R (PySem.W.view R.prog [58]) hk ob 20000 loose w := by
  refine byRow2 "special-get-raises" (P := fun w => HandSHeadRun.RunEq R (PySem.W.view R.prog [58]) hk ob 20000 loose w) ?_ ?_ w
  · intro w os
    kernel_rfl
  · intro w os
    kernel_rfl
theorem facts {w : World} {K : PySem.W.Frag} {h : Heap} {mg : Str → Option Value} (X : K.In h) (G : h.Ns mainGlobals mg) (c : He.SaysD fa fn K) : Fc w K mg where
  n_bool := He.free_ok X G (c.fact 21 rfl)
  n_enumerate := He.free_ok X G (c.fact 22 rfl)
  n_int := He.free_ok X G (c.fact 23 rfl)
  n_isinstance := He.free_ok X G (c.fact 24 rfl)
  n_len := He.free_ok X G (c.fact 25 rfl)
  n_list := He.free_ok X G (c.fact 26 rfl)
  n_max := He.free_ok X G (c.fact 27 rfl)
  n_range := He.free_ok X G (c.fact 28 rfl)
  n_set := He.free_ok X G (c.fact 29 rfl)
  n_str := He.free_ok X G (c.fact 30 rfl)
  n_tuple := He.free_ok X G (c.fact 31 rfl)
  i_LONG := He.int_ok X G (c.fact 32 rfl)
  i_MOST_SIGNS := He.int_ok X G (c.fact 33 rfl)
  i_REST := He.int_ok X G (c.fact 34 rfl)
  x_NoCode := let z := He.exc_ok (c.fact 35 rfl); ⟨z.1, He.glo_ok X G (c.fact 39 rfl), z.2.1, z.2.2.1, z.2.2.2⟩
  x_NoCount := let z := He.exc_ok (c.fact 36 rfl); ⟨z.1, He.glo_ok X G (c.fact 40 rfl), z.2.1, z.2.2.1, z.2.2.2⟩
  x_NoHouse := let z := He.exc_ok (c.fact 37 rfl); ⟨z.1, He.glo_ok X G (c.fact 42 rfl), z.2.1, z.2.2.1, z.2.2.2⟩
  x_NoSetting := let z := He.exc_ok (c.fact 38 rfl); ⟨z.1, He.glo_ok X G (c.fact 43 rfl), z.2.1, z.2.2.1, z.2.2.2⟩
  g_NoCode := He.glo_ok X G (c.fact 39 rfl)
  g_NoCount := He.glo_ok X G (c.fact 40 rfl)
  g_NoDeeds := He.glo_ok X G (c.fact 41 rfl)
  g_NoHouse := He.glo_ok X G (c.fact 42 rfl)
  g_NoSetting := He.glo_ok X G (c.fact 43 rfl)
  g_NoText := He.glo_ok X G (c.fact 44 rfl)
  exm := exm_of ⟨⟨He.exm_ok (c.fact 45 rfl), He.exm_ok (c.fact 46 rfl), He.exm_ok (c.fact 47 rfl), He.exm_ok (c.fact 48 rfl), He.exm_ok (c.fact 49 rfl), He.exm_ok (c.fact 50 rfl), He.exm_ok (c.fact 51 rfl), He.exm_ok (c.fact 52 rfl), He.exm_ok (c.fact 53 rfl), He.exm_ok (c.fact 54 rfl), He.exm_ok (c.fact 55 rfl), He.exm_ok (c.fact 56 rfl), trivial⟩, ⟨He.exm_ok (c.fact 57 rfl), He.exm_ok (c.fact 58 rfl), He.exm_ok (c.fact 59 rfl), He.exm_ok (c.fact 60 rfl), He.exm_ok (c.fact 61 rfl), He.exm_ok (c.fact 62 rfl), He.exm_ok (c.fact 63 rfl), He.exm_ok (c.fact 64 rfl), He.exm_ok (c.fact 65 rfl), He.exm_ok (c.fact 66 rfl), He.exm_ok (c.fact 67 rfl), He.exm_ok (c.fact 68 rfl), trivial⟩, ⟨He.exm_ok (c.fact 69 rfl), He.exm_ok (c.fact 70 rfl), He.exm_ok (c.fact 71 rfl), He.exm_ok (c.fact 72 rfl), He.exm_ok (c.fact 73 rfl), He.exm_ok (c.fact 74 rfl), He.exm_ok (c.fact 75 rfl), He.exm_ok (c.fact 76 rfl), He.exm_ok (c.fact 77 rfl), He.exm_ok (c.fact 78 rfl), He.exm_ok (c.fact 79 rfl), He.exm_ok (c.fact 80 rfl), trivial⟩, ⟨He.exm_ok (c.fact 81 rfl), He.exm_ok (c.fact 82 rfl), He.exm_ok (c.fact 83 rfl), He.exm_ok (c.fact 84 rfl), He.exm_ok (c.fact 85 rfl), He.exm_ok (c.fact 86 rfl), He.exm_ok (c.fact 87 rfl), He.exm_ok (c.fact 88 rfl), He.exm_ok (c.fact 89 rfl), He.exm_ok (c.fact 90 rfl), He.exm_ok (c.fact 91 rfl), He.exm_ok (c.fact 92 rfl), trivial⟩, ⟨He.exm_ok (c.fact 93 rfl), He.exm_ok (c.fact 94 rfl), He.exm_ok (c.fact 95 rfl), He.exm_ok (c.fact 96 rfl), He.exm_ok (c.fact 97 rfl), He.exm_ok (c.fact 98 rfl), He.exm_ok (c.fact 99 rfl), He.exm_ok (c.fact 100 rfl), He.exm_ok (c.fact 101 rfl), He.exm_ok (c.fact 102 rfl), He.exm_ok (c.fact 103 rfl), He.exm_ok (c.fact 104 rfl), trivial⟩, ⟨He.exm_ok (c.fact 105 rfl), He.exm_ok (c.fact 106 rfl), He.exm_ok (c.fact 107 rfl), He.exm_ok (c.fact 108 rfl), He.exm_ok (c.fact 109 rfl), He.exm_ok (c.fact 110 rfl), He.exm_ok (c.fact 111 rfl), He.exm_ok (c.fact 112 rfl), He.exm_ok (c.fact 113 rfl), He.exm_ok (c.fact 114 rfl), He.exm_ok (c.fact 115 rfl), He.exm_ok (c.fact 116 rfl), trivial⟩, ⟨He.exm_ok (c.fact 117 rfl), He.exm_ok (c.fact 118 rfl), He.exm_ok (c.fact 119 rfl), He.exm_ok (c.fact 120 rfl), He.exm_ok (c.fact 121 rfl), He.exm_ok (c.fact 122 rfl), He.exm_ok (c.fact 123 rfl), He.exm_ok (c.fact 124 rfl), He.exm_ok (c.fact 125 rfl), He.exm_ok (c.fact 126 rfl), He.exm_ok (c.fact 127 rfl), He.exm_ok (c.fact 128 rfl), trivial⟩, ⟨He.exm_ok (c.fact 129 rfl), He.exm_ok (c.fact 130 rfl), He.exm_ok (c.fact 131 rfl), He.exm_ok (c.fact 132 rfl), He.exm_ok (c.fact 133 rfl), He.exm_ok (c.fact 134 rfl), He.exm_ok (c.fact 135 rfl), He.exm_ok (c.fact 136 rfl), He.exm_ok (c.fact 137 rfl), He.exm_ok (c.fact 138 rfl), He.exm_ok (c.fact 139 rfl), He.exm_ok (c.fact 140 rfl), trivial⟩, ⟨He.exm_ok (c.fact 141 rfl), He.exm_ok (c.fact 142 rfl), He.exm_ok (c.fact 143 rfl), He.exm_ok (c.fact 144 rfl), He.exm_ok (c.fact 145 rfl), He.exm_ok (c.fact 146 rfl), He.exm_ok (c.fact 147 rfl), He.exm_ok (c.fact 148 rfl), He.exm_ok (c.fact 149 rfl), He.exm_ok (c.fact 150 rfl), He.exm_ok (c.fact 151 rfl), He.exm_ok (c.fact 152 rfl), trivial⟩, ⟨He.exm_ok (c.fact 153 rfl), He.exm_ok (c.fact 154 rfl), He.exm_ok (c.fact 155 rfl), He.exm_ok (c.fact 156 rfl), He.exm_ok (c.fact 157 rfl), He.exm_ok (c.fact 158 rfl), He.exm_ok (c.fact 159 rfl), He.exm_ok (c.fact 160 rfl), He.exm_ok (c.fact 161 rfl), He.exm_ok (c.fact 162 rfl), He.exm_ok (c.fact 163 rfl), He.exm_ok (c.fact 164 rfl), trivial⟩, ⟨He.exm_ok (c.fact 165 rfl), He.exm_ok (c.fact 166 rfl), He.exm_ok (c.fact 167 rfl), He.exm_ok (c.fact 168 rfl), He.exm_ok (c.fact 169 rfl), He.exm_ok (c.fact 170 rfl), He.exm_ok (c.fact 171 rfl), He.exm_ok (c.fact 172 rfl), He.exm_ok (c.fact 173 rfl), He.exm_ok (c.fact 174 rfl), He.exm_ok (c.fact 175 rfl), He.exm_ok (c.fact 176 rfl), trivial⟩, ⟨He.exm_ok (c.fact 177 rfl), He.exm_ok (c.fact 178 rfl), He.exm_ok (c.fact 179 rfl), He.exm_ok (c.fact 180 rfl), He.exm_ok (c.fact 181 rfl), He.exm_ok (c.fact 182 rfl), He.exm_ok (c.fact 183 rfl), He.exm_ok (c.fact 184 rfl), He.exm_ok (c.fact 185 rfl), He.exm_ok (c.fact 186 rfl), He.exm_ok (c.fact 187 rfl), He.exm_ok (c.fact 188 rfl), trivial⟩, trivial⟩
  c_Line := He.cls_ok (c.fact 189 rfl)
  k_Line := He.mkr_ok (c.fact 190 rfl)
  g_Line := He.glo_ok X G (c.fact 191 rfl)
  a_Line_asker := He.noat_ok (c.fact 192 rfl)
  a_Line_dialled := He.noat_ok (c.fact 193 rfl)
  a_Line_inside := He.noat_ok (c.fact 194 rfl)
  a_Line_let := He.noat_ok (c.fact 195 rfl)
  a_Line_off := He.noat_ok (c.fact 196 rfl)
  a_Line_outside := He.noat_ok (c.fact 197 rfl)
  a_Line_queue := He.noat_ok (c.fact 198 rfl)
  a_Line_rung := He.noat_ok (c.fact 199 rfl)
  a_Line_setting := He.noat_ok (c.fact 200 rfl)
  a_Line_tick_now := He.noat_ok (c.fact 201 rfl)
  d_is_within := c.def_ 0 (d := d0) rfl
  g_is_within := He.glo_ok X G (c.fact 0 rfl)
  d_is_code := c.def_ 1 (d := d1) rfl
  g_is_code := He.glo_ok X G (c.fact 1 rfl)
  d_beats := c.def_ 2 (d := d2) rfl
  g_beats := He.glo_ok X G (c.fact 2 rfl)
  d__law_cell := c.def_ 3 (d := d3) rfl
  g__law_cell := He.glo_ok X G (c.fact 3 rfl)
  d__law_seed := c.def_ 4 (d := d4) rfl
  g__law_seed := He.glo_ok X G (c.fact 4 rfl)
  d__law_pick := c.def_ 5 (d := d5) rfl
  g__law_pick := He.glo_ok X G (c.fact 5 rfl)
  d__law_in := c.def_ 6 (d := d6) rfl
  g__law_in := He.glo_ok X G (c.fact 6 rfl)
  d__law_beats := c.def_ 7 (d := d7) rfl
  g__law_beats := He.glo_ok X G (c.fact 7 rfl)
  d_is_setting := c.def_ 8 (d := d8) rfl
  g_is_setting := He.glo_ok X G (c.fact 8 rfl)
  d_look_house := c.def_ 9 (d := d9) rfl
  g_look_house := He.glo_ok X G (c.fact 9 rfl)
  d_ring := c.def_ 10 (d := d10) rfl
  g_ring := He.glo_ok X G (c.fact 10 rfl)
  d__law_code := c.def_ 11 (d := d11) rfl
  g__law_code := He.glo_ok X G (c.fact 11 rfl)
  d__law_ring := c.def_ 12 (d := d12) rfl
  g__law_ring := He.glo_ok X G (c.fact 12 rfl)
  d__law_is_setting := c.def_ 13 (d := d13) rfl
  g__law_is_setting := He.glo_ok X G (c.fact 13 rfl)
  d_look := c.def_ 14 (d := d14) rfl
  g_look := He.glo_ok X G (c.fact 14 rfl)
  d__law_setting := c.def_ 15 (d := d15) rfl
  g__law_setting := He.glo_ok X G (c.fact 15 rfl)
  d_meant := c.def_ 16 (d := d16) rfl
  g_meant := He.glo_ok X G (c.fact 16 rfl)
  d_Line___init__ := c.def_ 17 (d := d17) rfl
  d_sure_behind := c.def_ 18 (d := d18) rfl
  g_sure_behind := He.glo_ok X G (c.fact 17 rfl)
  d__law_looked := c.def_ 19 (d := d19) rfl
  g__law_looked := He.glo_ok X G (c.fact 18 rfl)
  d__law_word := c.def_ 20 (d := d20) rfl
  g__law_word := He.glo_ok X G (c.fact 19 rfl)
  d_law := c.def_ 21 (d := d21) rfl
  g_law := He.glo_ok X G (c.fact 20 rfl)
end HD
open PySem PySem.W PySem.Calls PyProof.Rows
theorem PySem.Challenge.cw_ringhouses_k02_codes_holds : PySem.Challenge.rw_ringhouses_k02_codes.Holds := by
  w_on; o_law
  refine HandSHeadRun.head_any (r := OpenLaw.row PySem.Challenge.rw_ringhouses_k02_codes) (q := view (OpenLaw.row PySem.Challenge.rw_ringhouses_k02_codes).prog [58]) (H := HD.hk) (ob := HD.ob) (M := 20000) (loose := HD.loose) (d := HandSHeadRun.topDef (OpenLaw.row PySem.Challenge.rw_ringhouses_k02_codes).prog 58) (kwd := []) HD.ob_eq
    (by kernel_rfl) (fun s => by kernel_rfl) HD.run (by kernel_rfl) (by kernel_rfl) (by kernel_rfl) (by rfl) (by first | assumption | decide +kernel) (by decide +kernel) ⟨rfl, rfl, rfl, rfl, rfl, by decide +kernel⟩ ?hw ?hc
  case hw => w_witness2
  case hc =>
    refine M.walk_end (l := PySem.Challenge.rw_ringhouses_k02_codes) (n := 63) (k := 8) (x := "_law_script") rfl (by decide) (by kernel_rfl) ⟨rfl, by decide, by decide⟩ ?F
    intro w mg fa h Y G hmg0
    obtain ⟨K, KX, c⟩ := Y
    have hmg : mg ("law" : PySem.Str) = some (.ref fa) := by
      have e : (HandSHeadRun.topDef (OpenLaw.row PySem.Challenge.rw_ringhouses_k02_codes).prog 58).name = ("law" : PySem.Str) := by kernel_rfl
      rw [← e]
      exact hmg0
    have N : M.Fc w K mg := HD.facts KX G c
    have ef : fa = He.ga K "law" := by
      have e := hmg.symm.trans N.g_law
      cases e
      rfl
    subst ef
    obtain ⟨fd, hb, hF⟩ := M.fnis_all h fun base => M.F_law (P := (PySem.Challenge.rw_ringhouses_k02_codes).prog) (w := w) (base := base) N
    exact ⟨K, fd, M.m_law_k02, KX, fun s v => hb s [v] rfl, fun ns hl => M.says_law_k02 ns hl, fun base _ _ => hF base⟩
