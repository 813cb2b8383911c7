import PyProof.Rows.All
import Wide.All
import OpenK.AllK
import Wide.FinOn
import HandS.ForMost
import HandS.Exc
import HandS.ExcOwn
import HandS.TryOnly
import HandS.CallSlots
import HandS.IsInst
import HandS.WordsExc
import HandS.Deep
import HandS.TupAny
import KE.DataEq
import HandS.TupLe
import HandS.Text
import HandS.Replace
import HandS.Style
import HandS.Flow
import HandS.WordsDict
import HandS.StrMore
import HandS.Zip
import HandS.HeadEnd
import HandS.HeadHook1
import HandS.HeadHook2
import KE.KStateDown
import HandS.Head0
import HandS.Head1
import HandS.Head2
import KE.KxText
import KE.IntTextLaws
import PySem.Challenge.RW_borderkin_k01_names_and_numbers
set_option Elab.async false
set_option linter.all false
set_option maxRecDepth 100000
set_option maxHeartbeats 0
/-! DL, part a: data without addresses, and how it lies in the hand layer's abstract heap. -/
namespace DL
open PySem PySem.Spec PyProof.Rows L2

abbrev St := L2.St
/-- data: what a value is, its tuples opened; ob n is the n-th tracked object, gl x what the module's name x holds, rl a list that is read alone -/
inductive D where
  | non | bl (b : Bool) | int (i : Int) | str (x : Str) | tup (xs : List D) | ob (n : Nat) | ty (n : String) | gl (x : Str) | rl (xs : List D)
instance : Inhabited D := ⟨.non⟩
/-- an exception: its class, its own fields -/
structure Ex where
  cls : D
  fs : Option (List (Str × D))
/-- a tracked object -/
inductive O where
  | lst (xs : List D)
  | dk (kvs : List (Key × D))
  | ins (c : Str) (fs : List (Str × D))
abbrev Sto := List O
abbrev Fr := List (Option D)
/-- what comes of an expression -/
inductive Out (α : Type) where
  | ok (a : α) (S : Sto)
  | ex (e : Ex) (S : Sto)
  | no
@[reducible] def Out.bnd {α β : Type} (x : Out α) (f : α → Sto → Out β) : Out β := match x with
  | .ok a S => f a S
  | .ex e S => .ex e S
  | .no => .no
/-- what comes of a statement -/
inductive Fl where
  | nx | rt (d : D) | bk | ct
inductive OutS where
  | ok (f : Fl) (fr : Fr) (S : Sto)
  | ex (e : Ex) (fr : Fr) (S : Sto)
  | no

/-- the ground -/
structure Gnd where
  K : PySem.W.Frag
  mg : Str → Option Value
/-- where the tracked objects lie -/
structure Wd where
  m : Nat → Addr
  n : Nat
  H : Hp

/-- a list that nobody writes: the script, or a list of the module -/
def SqF (K : PySem.W.Frag) (H : Hp) (a : Addr) (xs : List V) : Prop := (∃ o, H a = some (.frz o (.lst xs))) ∨
  ∃ (o : Obj) (its : Array Value) (n : Nat), K.lookup a = some o ∧ o.cls = .type "list" ∧ o.dict = none ∧ o.data = .seq its n ∧ its.size ≤ sizeLine ∧ Vals xs its.toList
theorem SqF.sql {K : PySem.W.Frag} {H : Hp} {a : Addr} {xs : List V} (h : SqF K H a xs) : SqL K H a xs := by
  rcases h with ⟨o, h⟩ | h
  · exact .inl (.inr ⟨o, h⟩)
  · exact .inr h
mutual
inductive Rep (g : Gnd) (w : Wd) : D → V → Prop
  | non : Rep g w .non .non
  | bl (b : Bool) : Rep g w (.bl b) (.bl b)
  | int (i : Int) : Rep g w (.int i) (.int i)
  | str (x : Str) : Rep g w (.str x) (.str x)
  | ty (n : String) : Rep g w (.ty n) (.ty n)
  | tup {a : Addr} {vs : List V} {ds : List D} : SqT g.K w.H a vs → ds.length ≤ sizeLine → Reps g w ds vs → Rep g w (.tup ds) (.ref a)
  | rl {a : Addr} {vs : List V} {ds : List D} : SqF g.K w.H a vs → ds.length ≤ sizeLine → Reps g w ds vs → Rep g w (.rl ds) (.ref a)
  | ob {n : Nat} : n < w.n → Rep g w (.ob n) (.ref (w.m n))
  | gl {x : Str} {a : Addr} : g.mg x = some (.ref a) → Rep g w (.gl x) (.ref a)
inductive Reps (g : Gnd) (w : Wd) : List D → List V → Prop
  | nil : Reps g w [] []
  | cons {d : D} {ds : List D} {v : V} {vs : List V} : Rep g w d v → Reps g w ds vs → Reps g w (d :: ds) (v :: vs)
end
inductive RepO (g : Gnd) (w : Wd) : O → HO → Prop
  | lst {ds : List D} {vs : List V} : ds.length ≤ sizeLine → Reps g w ds vs → RepO g w (.lst ds) (.lst vs)
  | dk {kvs : List (Key × D)} {kus : List (Key × V)} : kvs.length ≤ sizeLine → kvs.map (·.1) = kus.map (·.1) → Reps g w (kvs.map (·.2)) (kus.map (·.2)) → RepO g w (.dk kvs) (.dK kus)
  | ins {c : Str} {C dx : Addr} {fs : List (Str × D)} {us : List (Str × V)} : g.mg c = some (.ref C) → fs.map (·.1) = us.map (·.1) → Reps g w (fs.map (·.2)) (us.map (·.2)) → RepO g w (.ins c fs) (.ins C dx us)
/-- an exception's class and fields -/
structure RepX (g : Gnd) (w : Wd) (e : Ex) (c : Value) (dx : Option Addr) : Prop where
  cls : ∃ v, Rep g w e.cls v ∧ RelV v c
  fs : match e.fs with
    | none => dx = none
    | some fs => ∃ d us, dx = some d ∧ w.H d = some (.xd us) ∧ (∀ i, i < w.n → w.m i ≠ d) ∧ fs.map (·.1) = us.map (·.1) ∧ Reps g w (fs.map (·.2)) (us.map (·.2))
structure SOk (g : Gnd) (w : Wd) (S : Sto) : Prop where
  len : w.n = S.length
  ob : ∀ (i : Nat) (o : O), S[i]? = some o → ∃ h, w.H (w.m i) = some h ∧ RepO g w o h
  inj : ∀ i j, i < w.n → j < w.n → w.m i = w.m j → i = j
structure FrOk (g : Gnd) (w : Wd) (fr : Fr) (σ : St) : Prop where
  len : fr.length = σ.length
  at_ : ∀ (i : Nat) (d : D), fr[i]? = some (some d) → ∃ v, σ[i]? = some (some v) ∧ Rep g w d v
/-- what data leans on is kept -/
structure Mono (w w' : Wd) : Prop where
  le : w.n ≤ w'.n
  ag : ∀ i, i < w.n → w'.m i = w.m i
  tp : ∀ a xs, w.H a = some (.tup xs) → w'.H a = some (.tup xs)
  fz : ∀ a o u, w.H a = some (.frz o u) → w'.H a = some (.frz o u)
/-- all that is not tracked is kept -/
structure Step (w w' : Wd) : Prop extends Mono w w' where
  kp : ∀ a o, w.H a = some o → (∀ i, i < w.n → w.m i ≠ a) → w'.H a = some o
  fr : ∀ i, w.n ≤ i → i < w'.n → w.H (w'.m i) = none
  al : ∀ i, i < w'.n → ∃ o, w'.H (w'.m i) = some o

section
variable {g : Gnd} {w w' w2 : Wd} {S : Sto}
theorem Mono.refl (w : Wd) : Mono w w := ⟨Nat.le_refl _, fun _ _ => rfl, fun _ _ h => h, fun _ _ _ h => h⟩
theorem Mono.trans (a : Mono w w') (b : Mono w' w2) : Mono w w2 :=
  ⟨Nat.le_trans a.le b.le, fun i h => (b.ag i (Nat.lt_of_lt_of_le h a.le)).trans (a.ag i h), fun c xs h => b.tp c xs (a.tp c xs h), fun c o u h => b.fz c o u (a.fz c o u h)⟩
theorem Mono.sqt (a : Mono w w') {K : PySem.W.Frag} {b : Addr} {vs : List V} (h : SqT K w.H b vs) : SqT K w'.H b vs := by
  rcases h with (h | ⟨o, h⟩) | h
  · exact .inl (.inl (a.tp _ _ h))
  · exact .inl (.inr ⟨o, a.fz _ _ _ h⟩)
  · exact .inr h
theorem Mono.sqf (a : Mono w w') {K : PySem.W.Frag} {b : Addr} {vs : List V} (h : SqF K w.H b vs) : SqF K w'.H b vs := by
  rcases h with ⟨o, h⟩ | h
  · exact .inl ⟨o, a.fz _ _ _ h⟩
  · exact .inr h
mutual
theorem Rep.mono (s : Mono w w') : ∀ (d : D) (v : V), Rep g w d v → Rep g w' d v
  | .non, _, h => by cases h; exact .non
  | .bl _, _, h => by cases h; exact .bl _
  | .int _, _, h => by cases h; exact .int _
  | .str _, _, h => by cases h; exact .str _
  | .ty _, _, h => by cases h; exact .ty _
  | .gl _, _, h => by cases h with | gl e => exact .gl e
  | .ob i, _, h => by
    cases h with
    | ob e =>
      have := s.ag i e
      rw [← this]
      exact .ob (Nat.lt_of_lt_of_le e s.le)
  | .tup ds, _, h => by
    cases h with
    | tup e l r => exact .tup (s.sqt e) l (Reps.mono s ds _ r)
  | .rl ds, _, h => by
    cases h with
    | rl e l r => exact .rl (s.sqf e) l (Reps.mono s ds _ r)
theorem Reps.mono (s : Mono w w') : ∀ (ds : List D) (vs : List V), Reps g w ds vs → Reps g w' ds vs
  | [], _, h => by cases h; exact .nil
  | d :: ds, _, h => by
    cases h with
    | cons a b => exact .cons (Rep.mono s d _ a) (Reps.mono s ds _ b)
end
theorem RepO.mono (s : Mono w w') {o : O} {h : HO} (r : RepO g w o h) : RepO g w' o h := by
  cases r with
  | lst l r => exact .lst l (Reps.mono s _ _ r)
  | dk l e r => exact .dk l e (Reps.mono s _ _ r)
  | ins e e2 r => exact .ins e e2 (Reps.mono s _ _ r)
theorem FrOk.mono (s : Mono w w') {fr : Fr} {σ : St} (f : FrOk g w fr σ) : FrOk g w' fr σ :=
  ⟨f.len, fun i d h => let ⟨v, e, r⟩ := f.at_ i d h; ⟨v, e, Rep.mono s d v r⟩⟩
theorem Reps.length : ∀ {ds : List D} {vs : List V}, Reps g w ds vs → ds.length = vs.length
  | [], _, h => by cases h; rfl
  | d :: ds, _, h => by
    cases h with
    | cons a b => rw [List.length_cons, List.length_cons, Reps.length b]
theorem Reps.get : ∀ {ds : List D} {vs : List V} {i : Nat} {d : D}, Reps g w ds vs → ds[i]? = some d → ∃ v, vs[i]? = some v ∧ Rep g w d v
  | _, _, _, _, .nil, e => by simp at e
  | _, _, 0, _, .cons r _, e => by simp at e; subst e; exact ⟨_, rfl, r⟩
  | _, _, i + 1, _, .cons _ t, e => by
    obtain ⟨v, h1, h2⟩ := Reps.get (i := i) t (by simpa using e)
    exact ⟨v, by simpa using h1, h2⟩
theorem Reps.getV : ∀ {ds : List D} {vs : List V} {i : Nat} {v : V}, Reps g w ds vs → vs[i]? = some v → ∃ d, ds[i]? = some d ∧ Rep g w d v
  | _, _, _, _, .nil, e => by simp at e
  | _, _, 0, _, .cons r _, e => by simp at e; subst e; exact ⟨_, rfl, r⟩
  | _, _, i + 1, _, .cons _ t, e => by
    obtain ⟨v, h1, h2⟩ := Reps.getV (i := i) t (by simpa using e)
    exact ⟨v, by simpa using h1, h2⟩
theorem Reps.append : ∀ {ds es : List D} {vs us : List V}, Reps g w ds vs → Reps g w es us → Reps g w (ds ++ es) (vs ++ us)
  | _, _, _, _, .nil, s => s
  | _, _, _, _, .cons r t, s => .cons r (Reps.append t s)
theorem Reps.set {x : D} {u : V} (r : Rep g w x u) : ∀ {ds : List D} {vs : List V} (i : Nat), Reps g w ds vs → Reps g w (ds.set i x) (vs.set i u)
  | _, _, _, .nil => .nil
  | _, _, 0, .cons _ t => .cons r t
  | _, _, i + 1, .cons q t => .cons q (Reps.set r i t)
theorem Reps.take : ∀ {ds : List D} {vs : List V} (n : Nat), Reps g w ds vs → Reps g w (ds.take n) (vs.take n)
  | _, _, 0, _ => .nil
  | _, _, _ + 1, .nil => .nil
  | _, _, n + 1, .cons r t => .cons r (Reps.take n t)
theorem Reps.drop : ∀ {ds : List D} {vs : List V} (n : Nat), Reps g w ds vs → Reps g w (ds.drop n) (vs.drop n)
  | _, _, 0, r => r
  | _, _, _ + 1, .nil => .nil
  | _, _, n + 1, .cons _ t => Reps.drop n t
theorem Reps.ints : ∀ {ns : List Int} {vs : List V}, Reps g w (ns.map D.int) vs → vs = ns.map V.int
  | [], _, h => by cases h; rfl
  | n :: ns, _, h => by
    cases h with
    | cons a b => cases a; rw [Reps.ints b]; rfl
theorem Reps.of_ints : ∀ (ns : List Int), Reps g w (ns.map D.int) (ns.map V.int)
  | [] => .nil
  | n :: ns => .cons (.int n) (Reps.of_ints ns)
theorem Reps.bls : ∀ {ns : List Bool} {vs : List V}, Reps g w (ns.map D.bl) vs → vs = ns.map V.bl
  | [], _, h => by cases h; rfl
  | n :: ns, _, h => by
    cases h with
    | cons a b => cases a; rw [Reps.bls b]; rfl
theorem Reps.strs : ∀ {ns : List Str} {vs : List V}, Reps g w (ns.map D.str) vs → vs = ns.map V.str
  | [], _, h => by cases h; rfl
  | n :: ns, _, h => by
    cases h with
    | cons a b => cases a; rw [Reps.strs b]; rfl
theorem Reps.of_strs : ∀ (ns : List Str), Reps g w (ns.map D.str) (ns.map V.str)
  | [] => .nil
  | n :: ns => .cons (.str n) (Reps.of_strs ns)

theorem RepO.notTup {o : O} {h : HO} (r : RepO g w o h) : (∀ xs, h ≠ .tup xs) ∧ ∀ a u, h ≠ .frz a u := by
  cases r <;> exact ⟨fun _ z => (by cases z), fun _ _ z => (by cases z)⟩
theorem SOk.al (s : SOk g w S) : ∀ i, i < w.n → ∃ o, w.H (w.m i) = some o := fun i h => by
  have h' : i < S.length := by rw [← s.len]; exact h
  obtain ⟨ho, e, _⟩ := s.ob i S[i] (List.getElem?_eq_getElem h')
  exact ⟨ho, e⟩
theorem SOk.at_ (s : SOk g w S) {i : Nat} (h : i < w.n) : ∃ o ho, S[i]? = some o ∧ w.H (w.m i) = some ho ∧ RepO g w o ho := by
  have h' : i < S.length := by rw [← s.len]; exact h
  obtain ⟨ho, e, r⟩ := s.ob i S[i] (List.getElem?_eq_getElem h')
  exact ⟨_, ho, List.getElem?_eq_getElem h', e, r⟩
/-- tracked objects are no tuples -/
theorem SOk.tupNe (s : SOk g w S) {a : Addr} {xs : List V} (h : w.H a = some (.tup xs)) : ∀ i, i < w.n → w.m i ≠ a := fun i hi e => by
  obtain ⟨o, ho, _, e2, r⟩ := s.at_ hi
  rw [e, h] at e2
  cases e2
  exact r.notTup.1 _ rfl
theorem SOk.frzNe (s : SOk g w S) {a : Addr} {o : Obj} {u : HO} (h : w.H a = some (.frz o u)) : ∀ i, i < w.n → w.m i ≠ a := fun i hi e => by
  obtain ⟨o, ho, _, e2, r⟩ := s.at_ hi
  rw [e, h] at e2
  cases e2
  exact r.notTup.2 _ _ rfl
theorem Step.refl (s : SOk g w S) : Step w w := ⟨Mono.refl w, fun _ _ h _ => h, fun i h1 h2 => absurd h2 (Nat.not_lt.mpr h1), s.al⟩
theorem Step.trans (a : Step w w') (b : Step w' w2) : Step w w2 := by
  refine ⟨a.toMono.trans b.toMono, fun c o h hn => b.kp c o (a.kp c o h hn) fun i hi e => ?_, fun i h1 h2 => ?_, b.al⟩
  · by_cases hi' : i < w.n
    · exact hn i hi' ((a.ag i hi').symm.trans e)
    · have z := a.fr i (Nat.not_lt.mp hi') hi
      rw [e, h] at z
      cases z
  · by_cases hi' : i < w'.n
    · rw [b.ag i hi']
      exact a.fr i h1 hi'
    · have z := b.fr i (Nat.not_lt.mp hi') h2
      cases q : w.H (w2.m i) with
      | none => rfl
      | some o =>
        by_cases hx : ∃ j, j < w.n ∧ w.m j = w2.m i
        · obtain ⟨j, hj, e⟩ := hx
          obtain ⟨o', e'⟩ := a.al j (Nat.lt_of_lt_of_le hj a.le)
          rw [a.ag j hj, e, z] at e'
          cases e'
        · have := a.kp _ o q fun j hj e => hx ⟨j, hj, e⟩
          rw [z] at this
          cases this
/-- what stands untracked stays so -/
theorem Step.untracked (a : Step w w') {p : Addr} {o : HO} (h : w.H p = some o) (hn : ∀ i, i < w.n → w.m i ≠ p) : w'.H p = some o ∧ ∀ i, i < w'.n → w'.m i ≠ p := by
  refine ⟨a.kp p o h hn, fun i hi e => ?_⟩
  by_cases hi' : i < w.n
  · exact hn i hi' ((a.ag i hi').symm.trans e)
  · have z := a.fr i (Nat.not_lt.mp hi') hi
    rw [e, h] at z
    cases z
theorem Step.back (a : Step w w') {p : Addr} (h : w'.H p = none) : w.H p = none := by
  cases q : w.H p with
  | none => rfl
  | some o =>
    by_cases hx : ∃ j, j < w.n ∧ w.m j = p
    · obtain ⟨j, hj, e⟩ := hx
      obtain ⟨o', e'⟩ := a.al j (Nat.lt_of_lt_of_le hj a.le)
      rw [a.ag j hj, e, h] at e'
      cases e'
    · have := a.kp _ o q fun j hj e => hx ⟨j, hj, e⟩
      rw [h] at this
      cases this
theorem SOk.mono {w' : Wd} (s : SOk g w S) (a : Mono w w') (hn : w'.n = w.n) (hk : ∀ i, i < w.n → w'.H (w.m i) = w.H (w.m i)) : SOk g w' S := by
  refine ⟨hn.trans s.len, fun i o e => ?_, fun i j hi hj e => ?_⟩
  · obtain ⟨h, e2, r⟩ := s.ob i o e
    have hi : i < w.n := by rw [s.len]; exact (List.getElem?_eq_some_iff.mp e).1
    exact ⟨h, by rw [a.ag i hi, hk i hi]; exact e2, r.mono a⟩
  · rw [hn] at hi hj
    rw [a.ag i hi, a.ag j hj] at e
    exact s.inj i j hi hj e
/-- a new untracked object is laid -/
def Wd.put (w : Wd) (p : Addr) (o : HO) : Wd := ⟨w.m, w.n, upd w.H p o⟩
theorem Step.put (s : SOk g w S) {p : Addr} (hp : w.H p = none) (o : HO) : Step w (w.put p o) ∧ SOk g (w.put p o) S ∧ ∀ i, i < w.n → w.m i ≠ p := by
  have hne : ∀ i, i < w.n → w.m i ≠ p := fun i hi e => by
    obtain ⟨o', e'⟩ := s.al i hi
    rw [e, hp] at e'
    cases e'
  have hk : ∀ b u, w.H b = some u → (upd w.H p o) b = some u := fun b u e => by
    rw [upd_ne (ne_of_none e hp)]
    exact e
  have mo : Mono w (w.put p o) := ⟨Nat.le_refl _, fun _ _ => rfl, fun a xs e => hk _ _ e, fun a ob u e => hk _ _ e⟩
  refine ⟨⟨mo, fun a u e _ => hk _ _ e, fun i h1 h2 => absurd h2 (Nat.not_lt.mpr h1), fun i hi => ?_⟩, s.mono mo rfl fun i hi => ?_, hne⟩
  · obtain ⟨o', e'⟩ := s.al i hi
    exact ⟨o', hk _ _ e'⟩
  · show upd w.H p o (w.m i) = _
    rw [upd_ne (hne i hi)]
/-- a new tracked object is laid -/
def Wd.new (w : Wd) (p : Addr) (o : HO) : Wd := ⟨fun i => if i = w.n then p else w.m i, w.n + 1, upd w.H p o⟩
theorem Step.new (s : SOk g w S) {p : Addr} (hp : w.H p = none) {o : O} {ho : HO} (r : RepO g w o ho) :
    Step w (w.new p ho) ∧ SOk g (w.new p ho) (S ++ [o]) ∧ Rep g (w.new p ho) (.ob S.length) (.ref p) := by
  have hne : ∀ i, i < w.n → w.m i ≠ p := fun i hi e => by
    obtain ⟨o', e'⟩ := s.al i hi
    rw [e, hp] at e'
    cases e'
  have hk : ∀ b u, w.H b = some u → (upd w.H p ho) b = some u := fun b u e => by
    rw [upd_ne (ne_of_none e hp)]
    exact e
  have hm : ∀ i, i < w.n → (w.new p ho).m i = w.m i := fun i hi => if_neg (Nat.ne_of_lt hi)
  have hmn : (w.new p ho).m w.n = p := if_pos rfl
  have mo : Mono w (w.new p ho) := ⟨Nat.le_succ _, hm, fun a xs e => hk _ _ e, fun a ob u e => hk _ _ e⟩
  have alw : ∀ i, i < w.n + 1 → ∃ o', (w.new p ho).H ((w.new p ho).m i) = some o' := fun i hi => by
    by_cases e : i = w.n
    · subst e
      rw [hmn]
      exact ⟨ho, upd_same⟩
    · have hi' : i < w.n := Nat.lt_of_le_of_ne (Nat.le_of_lt_succ hi) e
      rw [hm i hi']
      obtain ⟨o', e'⟩ := s.al i hi'
      exact ⟨o', hk _ _ e'⟩
  refine ⟨⟨mo, fun a u e _ => hk _ _ e, fun i h1 h2 => ?_, alw⟩, ⟨?_, fun i u e => ?_, fun i j hi hj e => ?_⟩, ?_⟩
  rotate_right
  · have q : Rep g (w.new p ho) (.ob w.n) (.ref ((w.new p ho).m w.n)) := .ob (show w.n < w.n + 1 from Nat.lt_succ_self _)
    rw [hmn, s.len] at q
    exact q
  · have e : i = w.n := Nat.le_antisymm (Nat.le_of_lt_succ h2) h1
    subst e
    rw [hmn]
    exact hp
  · show w.n + 1 = _
    rw [List.length_append, s.len]
    rfl
  · by_cases hi : i < S.length
    · rw [List.getElem?_append_left hi] at e
      obtain ⟨h, e2, r2⟩ := s.ob i u e
      have hi' : i < w.n := by rw [s.len]; exact hi
      exact ⟨h, by rw [hm i hi']; exact hk _ _ e2, r2.mono mo⟩
    · rw [List.getElem?_append_right (Nat.not_lt.mp hi)] at e
      have hz : i - S.length = 0 := by
        have := (List.getElem?_eq_some_iff.mp e).1
        simp at this
        omega
      rw [hz] at e
      cases e
      have hi2 : i = w.n := by rw [s.len]; omega
      subst hi2
      exact ⟨ho, by rw [hmn]; exact upd_same, r.mono mo⟩
  · have hi : i < w.n + 1 := hi
    have hj : j < w.n + 1 := hj
    by_cases e1 : i = w.n
    · by_cases e2 : j = w.n
      · rw [e1, e2]
      · have hj' : j < w.n := Nat.lt_of_le_of_ne (Nat.le_of_lt_succ hj) e2
        rw [e1, hmn, hm j hj'] at e
        exact absurd e.symm (hne j hj')
    · have hi' : i < w.n := Nat.lt_of_le_of_ne (Nat.le_of_lt_succ hi) e1
      by_cases e2 : j = w.n
      · rw [e2, hmn, hm i hi'] at e
        exact absurd e (hne i hi')
      · have hj' : j < w.n := Nat.lt_of_le_of_ne (Nat.le_of_lt_succ hj) e2
        rw [hm i hi', hm j hj'] at e
        exact s.inj i j hi' hj' e
/-- a tracked object is written -/
theorem Step.write (s : SOk g w S) {i : Nat} (hi : i < w.n) {o : O} {ho : HO} (r : RepO g w o ho) : Step w (w.put (w.m i) ho) ∧ SOk g (w.put (w.m i) ho) (S.set i o) := by
  obtain ⟨ho', e0⟩ := s.al i hi
  have hk : ∀ b, b ≠ w.m i → (upd w.H (w.m i) ho) b = w.H b := fun b e => upd_ne e
  have mo : Mono w (w.put (w.m i) ho) := ⟨Nat.le_refl _, fun _ _ => rfl, fun a xs e => by
    show upd w.H (w.m i) ho a = _
    rw [hk a (s.tupNe e i hi).symm]; exact e, fun a ob u e => by
    show upd w.H (w.m i) ho a = _
    rw [hk a (s.frzNe e i hi).symm]; exact e⟩
  refine ⟨⟨mo, fun a u e hn => ?_, fun j h1 h2 => absurd h2 (Nat.not_lt.mpr h1), fun j hj => ?_⟩, ⟨by rw [List.length_set]; exact s.len, fun j u e => ?_, s.inj⟩⟩
  · show upd w.H (w.m i) ho a = _
    rw [hk a (hn i hi).symm]; exact e
  · show ∃ o', upd w.H (w.m i) ho (w.m j) = some o'
    by_cases e : w.m j = w.m i
    · rw [e]; exact ⟨ho, upd_same⟩
    · rw [hk _ e]; exact s.al j hj
  · show ∃ h, upd w.H (w.m i) ho (w.m j) = some h ∧ _
    by_cases hj : j = i
    · subst hj
      have hl : j < S.length := by rw [← s.len]; exact hi
      rw [List.getElem?_set_self hl] at e
      cases e
      exact ⟨ho, upd_same, r.mono mo⟩
    · rw [List.getElem?_set_ne (Ne.symm hj)] at e
      obtain ⟨h, e2, r2⟩ := s.ob j u e
      have hjl : j < w.n := by rw [s.len]; exact (List.getElem?_eq_some_iff.mp e).1
      refine ⟨h, ?_, r2.mono mo⟩
      rw [hk _ fun z => hj (s.inj j i hjl hi z)]
      exact e2

/-! ### readings -/
/-- what is asked of an outcome: R says how a result lies -/
def Post {α β : Type} (g : Gnd) (w : Wd) (R : Wd → α → β → Prop) (out : Out α) (Q : β → Hp → Prop) (E : XK) : Prop := match out with
  | .ok a S => ∀ w' b, Step w w' → SOk g w' S → R w' a b → Q b w'.H
  | .ex e S => ∀ w' c dx, Step w w' → SOk g w' S → RepX g w' e c dx → E c dx w'.H
  | .no => False
theorem Post.step {α β : Type} {R : Wd → α → β → Prop} {out : Out α} {Q : β → Hp → Prop} {E : XK} (a : Step w w') (p : Post g w R out Q E) : Post g w' R out Q E := by
  cases out with
  | ok x S => exact fun w2 b s o r => p w2 b (a.trans s) o r
  | ex e S => exact fun w2 c dx s o r => p w2 c dx (a.trans s) o r
  | no => exact p
def tG {α β : Type} (g : Gnd) (W : WX) (R : Wd → α → β → Prop) (f : Fr → Sto → Out α) : St → Hp → (β → Hp → Prop) → Prop := fun σ H Q =>
  ∃ w S fr, w.H = H ∧ SOk g w S ∧ FrOk g w fr σ ∧ Post g w R (f fr S) Q (fun c d H' => W c d σ H')
abbrev tE (g : Gnd) (W : WX) (f : Fr → Sto → Out D) : TE := tG g W (Rep g) f
abbrev tT (g : Gnd) (W : WX) (f : Fr → Sto → Out Bool) : TT := tG g W (fun _ a b => a = b) f
abbrev tA (g : Gnd) (W : WX) (f : Fr → Sto → Out (List D)) : TA := tG g W (Reps g) f
/-- a list that was just made and that nothing else holds -/
def RepT (g : Gnd) (w : Wd) (xs : List D) (v : V) : Prop := ∃ p vs, v = .ref p ∧ w.H p = some (.lst vs) ∧ (∀ i, i < w.n → w.m i ≠ p) ∧ xs.length ≤ sizeLine ∧ Reps g w xs vs
def PostL (g : Gnd) (w : Wd) (out : Out (List D)) (Q : VK) (E : XK) : Prop := match out with
  | .ok xs S => ∀ w' p, Step w w' → SOk g w' S → w.H p = none → RepT g w' xs (.ref p) → Q (.ref p) w'.H
  | .ex e S => ∀ w' c dx, Step w w' → SOk g w' S → RepX g w' e c dx → E c dx w'.H
  | .no => False
def tL (g : Gnd) (W : WX) (f : Fr → Sto → Out (List D)) : TE := fun σ H Q =>
  ∃ w S fr, w.H = H ∧ SOk g w S ∧ FrOk g w fr σ ∧ PostL g w (f fr S) Q (fun c d H' => W c d σ H')
theorem RepT.step (a : Step w w') {xs : List D} {v : V} (r : RepT g w xs v) : RepT g w' xs v := by
  obtain ⟨p, vs, rfl, e, hn, l, q⟩ := r
  obtain ⟨e', hn'⟩ := a.untracked e hn
  exact ⟨p, vs, rfl, e', hn', l, Reps.mono a.toMono _ _ q⟩
end
theorem PE.weaken {X : Cx} {e : Expr} {t t' : TE} (h : PE X e t) (k : ∀ σ H Q, t' σ H Q → t σ H Q) : PE X e t' := ⟨fun pins s σ H Q I hw => h.run pins s σ H Q I (k σ H Q hw)⟩
theorem PT.weaken {X : Cx} {e : Expr} {t t' : TT} (h : PT X e t) (k : ∀ σ H Q, t' σ H Q → t σ H Q) : PT X e t' := ⟨fun pins s σ H Q I hw => h.run pins s σ H Q I (k σ H Q hw)⟩
theorem PW.weaken {X : Cx} {e : Expr} {t t' : TT} (h : PW X e t) (k : ∀ σ H Q, t' σ H Q → t σ H Q) : PW X e t' := ⟨fun whole pins s σ H Q I hw => h.run whole pins s σ H Q I (k σ H Q hw)⟩
theorem PA.weaken {X : Cx} {es : List Expr} {t t' : TA} (h : PA X es t) (k : ∀ σ H Q, t' σ H Q → t σ H Q) : PA X es t' := ⟨fun pos pins s σ H Q I hw => h.run pos pins s σ H Q I (k σ H Q hw)⟩
theorem PS.weaken {X : Cx} {st : Stmt} {t t' : TS} (h : PS X st t) (k : ∀ D σ H, t' D σ H → t D σ H) : PS X st t' := ⟨fun pins s σ H D I hw => h.run pins s σ H D I (k D σ H hw)⟩
theorem PSs.weaken {X : Cx} {st : List Stmt} {t t' : TS} (h : PSs X st t) (k : ∀ D σ H, t' D σ H → t D σ H) : PSs X st t' := ⟨fun pins s σ H D I hw => h.run pins s σ H D I (k D σ H hw)⟩
theorem PG.weaken {X : Cx} {e : Expr} {t t' : TG} (h : PG X e t) (k : ∀ v σ H Q, t' v σ H Q → t v σ H Q) : PG X e t' := ⟨fun pins s σ H v u Q I r hw => h.run pins s σ H v u Q I r (k v σ H Q hw)⟩
theorem PI.weaken {X : Cx} {tg e : Expr} {t t' : TI} (h : PI X tg e t) (k : ∀ σ H Q, t' σ H Q → t σ H Q) : PI X tg e t' := ⟨fun pins s σ H Q I hw => h.run pins s σ H Q I (k σ H Q hw)⟩
end DL
/-! DL, part b: expressions: names, constants, operators, comparisons, tests. -/
namespace DL
open PySem PySem.Spec PyProof.Rows L2

def Out.ofO {α : Type} : Option (α × Sto) → Out α
  | some (a, S) => .ok a S
  | none => .no
abbrev DenE := Fr → Sto → Out D
abbrev DenT := Fr → Sto → Out Bool
abbrev DenA := Fr → Sto → Out (List D)
abbrev DenS := Fr → Sto → OutS

section
variable {g : Gnd} {W : WX} {σ : St} {H : Hp}
/-- a value of R1 has come, k goes on -/
def K1 {α β γ δ : Type} (g : Gnd) (W : WX) (R1 : Wd → α → β → Prop) (R : Wd → γ → δ → Prop) (σ : St) (k : α → Fr → Sto → Out γ) (Q : δ → Hp → Prop) (x : β) (H1 : Hp) : Prop :=
  ∃ w S fr a, w.H = H1 ∧ SOk g w S ∧ FrOk g w fr σ ∧ R1 w a x ∧ Post g w R (k a fr S) Q (fun c d H' => W c d σ H')
theorem tG_mono {α β : Type} {R : Wd → α → β → Prop} {f : Fr → Sto → Out α} {Q Q' : β → Hp → Prop} (h : tG g W R f σ H Q) (k : ∀ b H', Q b H' → Q' b H') : tG g W R f σ H Q' := by
  obtain ⟨w, S, fr, e, so, fo, p⟩ := h
  refine ⟨w, S, fr, e, so, fo, ?_⟩
  cases q : f fr S with
  | ok a S1 =>
    rw [q] at p
    exact fun w1 b st so1 r => k _ _ (p w1 b st so1 r)
  | ex e S1 =>
    rw [q] at p
    exact p
  | no =>
    rw [q] at p
    exact p
theorem lift1 {α β γ δ : Type} {R1 : Wd → α → β → Prop} {R : Wd → γ → δ → Prop} {f : Fr → Sto → Out α} {k : α → Fr → Sto → Out γ} {Q : δ → Hp → Prop}
    (h : tG g W R (fun fr S => (f fr S).bnd fun a S' => k a fr S') σ H Q) : tG g W R1 f σ H (K1 g W R1 R σ k Q) := by
  obtain ⟨w, S, fr, e, so, fo, p⟩ := h
  refine ⟨w, S, fr, e, so, fo, ?_⟩
  have p : Post g w R ((f fr S).bnd fun a S' => k a fr S') Q (fun c d H' => W c d σ H') := p
  cases q : f fr S with
  | ok a S1 =>
    rw [q] at p
    intro w1 b st so1 r
    exact ⟨w1, S1, fr, a, rfl, so1, fo.mono st.toMono, r, Post.step st p⟩
  | ex e S1 =>
    rw [q] at p
    exact p
  | no =>
    rw [q] at p
    exact p
theorem lift1L {γ δ : Type} {R : Wd → γ → δ → Prop} {f : Fr → Sto → Out (List D)} {k : List D → Fr → Sto → Out γ} {Q : δ → Hp → Prop}
    (h : tG g W R (fun fr S => (f fr S).bnd fun a S' => k a fr S') σ H Q) (Q' : VK) (hq : ∀ v H', K1 g W (RepT g) R σ k Q v H' → Q' v H') : tL g W f σ H Q' := by
  obtain ⟨w, S, fr, e, so, fo, p⟩ := h
  refine ⟨w, S, fr, e, so, fo, ?_⟩
  have p : Post g w R ((f fr S).bnd fun a S' => k a fr S') Q (fun c d H' => W c d σ H') := p
  cases q : f fr S with
  | ok a S1 =>
    rw [q] at p
    intro w1 b st so1 _ r
    exact hq _ _ ⟨w1, S1, fr, a, rfl, so1, fo.mono st.toMono, r, Post.step st p⟩
  | ex e S1 =>
    rw [q] at p
    exact p
  | no =>
    rw [q] at p
    exact p
/-- what was evaluated stays known -/
abbrev Stays {α β : Type} (R1 : Wd → α → β → Prop) : Prop := ∀ w w' a x, Step w w' → R1 w a x → R1 w' a x
def K2 {α β α' β' γ δ : Type} (g : Gnd) (W : WX) (R1 : Wd → α → β → Prop) (R2 : Wd → α' → β' → Prop) (R : Wd → γ → δ → Prop) (σ : St) (k : α → α' → Fr → Sto → Out γ) (Q : δ → Hp → Prop) (x : β) (y : β') (H1 : Hp) : Prop :=
  K1 g W (fun w (p : α × α') (q : β × β') => R1 w p.1 q.1 ∧ R2 w p.2 q.2) R σ (fun p => k p.1 p.2) Q (x, y) H1
theorem next1 {α β α' β' γ δ : Type} {R1 : Wd → α → β → Prop} {R2 : Wd → α' → β' → Prop} {R : Wd → γ → δ → Prop} {f' : Fr → Sto → Out α'} {k : α → α' → Fr → Sto → Out γ} {Q : δ → Hp → Prop} (hm : Stays R1) {x : β}
    (h : K1 g W R1 R σ (fun a fr S => (f' fr S).bnd fun b S' => k a b fr S') Q x H) : tG g W R2 f' σ H fun y H2 => K2 g W R1 R2 R σ k Q x y H2 := by
  obtain ⟨w, S, fr, a, e, so, fo, r1, p⟩ := h
  refine ⟨w, S, fr, e, so, fo, ?_⟩
  cases q : f' fr S with
  | ok b S1 =>
    have p : Post g w R ((f' fr S).bnd fun b S' => k a b fr S') Q (fun c d H' => W c d σ H') := p
    rw [q] at p
    intro w1 y st so1 r
    exact ⟨w1, S1, fr, (a, b), rfl, so1, fo.mono st.toMono, ⟨hm _ _ _ _ st r1, r⟩, Post.step st p⟩
  | ex e S1 =>
    have p : Post g w R ((f' fr S).bnd fun b S' => k a b fr S') Q (fun c d H' => W c d σ H') := p
    rw [q] at p
    exact p
  | no =>
    have p : Post g w R ((f' fr S).bnd fun b S' => k a b fr S') Q (fun c d H' => W c d σ H') := p
    rw [q] at p
    exact p
theorem Stays.and {α β α' β' : Type} {R1 : Wd → α → β → Prop} {R2 : Wd → α' → β' → Prop} (h1 : Stays R1) (h2 : Stays R2) : Stays (fun w (p : α × α') (q : β × β') => R1 w p.1 q.1 ∧ R2 w p.2 q.2) :=
  fun w w' a x st r => ⟨h1 _ _ _ _ st r.1, h2 _ _ _ _ st r.2⟩
theorem lift2 {α β α' β' γ δ : Type} {R1 : Wd → α → β → Prop} {R2 : Wd → α' → β' → Prop} {R : Wd → γ → δ → Prop} {f : Fr → Sto → Out α} {f' : Fr → Sto → Out α'} {k : α → α' → Fr → Sto → Out γ} {Q : δ → Hp → Prop}
    (hm : Stays R1) (h : tG g W R (fun fr S => (f fr S).bnd fun a S' => (f' fr S').bnd fun b S'' => k a b fr S'') σ H Q) :
    tG g W R1 f σ H fun x H1 => tG g W R2 f' σ H1 fun y H2 => K2 g W R1 R2 R σ k Q x y H2 := tG_mono (lift1 h) fun x H1 q => next1 hm q
theorem rmono {w w' : Wd} {a : D} {x : V} (s : Step w w') (r : Rep g w a x) : Rep g w' a x := Rep.mono s.toMono _ _ r
theorem Post.ofO {α β : Type} {w : Wd} {R : Wd → α → β → Prop} {o : Option (α × Sto)} {Q : β → Hp → Prop} {E E' : XK} (p : Post g w R (.ofO o) Q E) : Post g w R (.ofO o) Q E' := by
  cases o with
  | none => exact p
  | some q => exact p
/-- one more reading -/
theorem PE_or {X : Cx} {e : Expr} {t t' : TE} (h : PE X e t) (h' : PE X e t') : PE X e (fun σ H Q => t σ H Q ∨ t' σ H Q) :=
  ⟨fun pins s σ H Q I q => q.elim (h.run pins s σ H Q I) (h'.run pins s σ H Q I)⟩
theorem PS_or {X : Cx} {e : Stmt} {t t' : TS} (h : PS X e t) (h' : PS X e t') : PS X e (fun D σ H => t D σ H ∨ t' D σ H) :=
  ⟨fun pins s σ H D I q => q.elim (h.run pins s σ H D I) (h'.run pins s σ H D I)⟩
theorem PI_or {X : Cx} {tg e : Expr} {t t' : TI} (h : PI X tg e t) (h' : PI X tg e t') : PI X tg e (fun σ H Q => t σ H Q ∨ t' σ H Q) :=
  ⟨fun pins s σ H Q I q => q.elim (h.run pins s σ H Q I) (h'.run pins s σ H Q I)⟩
end

/-! ### names and constants -/
def dVar (i : Nat) : DenE := fun fr S => match fr[i]? with
  | some (some d) => .ok d S
  | _ => .no
def dC (d : D) : DenE := fun _ S => .ok d S
section
variable {X : Cx} {W : WX} {g : Gnd}
theorem de_var {i : Nat} {e : Expr} (h : PE X e (tVar i)) : PE X e (tE g W (dVar i)) := by
  refine PE.weaken h fun σ H Q q => ?_
  obtain ⟨w, S, fr, rfl, so, fo, p⟩ := q
  unfold dVar at p
  split at p
  · rename_i d e
    obtain ⟨v, e1, r⟩ := fo.at_ i d e
    exact ⟨v, e1, p w v (Step.refl so) so r⟩
  · exact p.elim
/-- a value that hangs on nothing -/
theorem de_con {d : D} {v : V} {e : Expr} (hr : ∀ w, Rep g w d v) (h : PE X e (tC v)) : PE X e (tE g W (dC d)) := by
  refine PE.weaken h fun σ H Q q => ?_
  obtain ⟨w, S, fr, rfl, so, fo, p⟩ := q
  exact p w v (Step.refl so) so (hr w)
end

/-! ### two-place operators -/
abbrev F2 := D → D → Sto → Option (D × Sto)
def dOp (f : F2) (a b : DenE) : DenE := fun fr S => (a fr S).bnd fun x S' => (b fr S').bnd fun y S'' => .ofO (f x y S'')
/-- f, by values -/
def r2 (g : Gnd) (f : F2) : R2 := fun x y H Q => ∃ w S a b, w.H = H ∧ SOk g w S ∧ Rep g w a x ∧ Rep g w b y ∧ Post g w (Rep g) (.ofO (f a b S)) Q (fun _ _ _ => False)
section
variable {X : Cx} {W : WX} {g : Gnd} {a b : Expr} {fa fb : DenE} {f : F2} {pos : Pos}
theorem lift_op {σ : St} {H : Hp} {Q : VK} (h : tE g W (dOp f fa fb) σ H Q) : tOp (r2 g f) (tE g W fa) (tE g W fb) σ H Q := by
  refine tG_mono (lift2 (R1 := Rep g) (R2 := Rep g) (R := Rep g) (k := fun x y fr S => .ofO (f x y S)) (fun _ _ _ _ s r => rmono s r) h) fun x H1 h1 => tG_mono h1 fun y H2 h2 => ?_
  obtain ⟨w, S, fr, p, e, so, fo, ⟨rx, ry⟩, q⟩ := h2
  exact ⟨w, S, p.1, p.2, e, so, rx, ry, Post.ofO q⟩
theorem de_op {op : Operator} (ho : OpR X (binaryOp op) (r2 g f)) (ha : PE X a (tE g W fa)) (hb : PE X b (tE g W fb)) : PE X (.BinOp a op b pos) (tE g W (dOp f fa fb)) :=
  PE.weaken (pe_op ho ha hb) fun _ _ _ h => lift_op h
theorem de_cmp {op : CmpOp} (ho : OpR X (compareOp op) (r2 g f)) (ha : PE X a (tE g W fa)) (hb : PE X b (tE g W fb)) (hm : behindInMarks op b = false) : PE X (.Compare a [op] [b] pos) (tE g W (dOp f fa fb)) :=
  PE.weaken (pe_cmpR ho ha hb hm) fun _ _ _ h => lift_op h
end
end DL
/-! DL, part c: the operators by data. -/
namespace DL
open PySem PySem.Spec PyProof.Rows L2

/-! ### + -/
def aAdd : F2 := fun a b S => match a, b with
  | .int i, .int j => some (.int (i + j), S)
  | .int i, .bl k => some (.int (i + b2i k), S)
  | .str x, .str y => if x.length + y.length ≤ sizeLine then some (.str (x ++ y), S) else none
  | .tup xs, .tup ys => if xs.length + ys.length ≤ sizeLine then some (.tup (xs ++ ys), S) else none
  | .ob i, .ob j => match S[i]?, S[j]? with
    | some (.lst xs), some (.lst ys) => if xs.length + ys.length ≤ sizeLine then some (.ob S.length, S ++ [.lst (xs ++ ys)]) else none
    | _, _ => none
  | .rl xs, .ob j => match S[j]? with
    | some (.lst ys) => if xs.length + ys.length ≤ sizeLine then some (.ob S.length, S ++ [.lst (xs ++ ys)]) else none
    | _ => none
  | _, _ => none
section
variable {X : Cx} {g : Gnd}
/-- a list that is read, whatever it is -/
theorem lst_exact {pins : List (Addr × Obj)} {σ : St} {H : Hp} {s : Shared} {a : Addr} {xs : List V} (I : Inv X pins σ H s) (h : SqL X.K H a xs) :
    ∃ (its : List Value) (n : Nat) (dd : Option Addr) (sl : Array (Option Value)), Vals xs its ∧ s.heap.get? a = some ⟨.type "list", dd, .seq its.toArray n, sl⟩ ∧ xs.length ≤ sizeLine := by
  obtain ⟨its, r, ⟨⟨c, d, dt, sl⟩, n, e, h1, h2, h3⟩, z⟩ := I.list h
  simp only at h1 h2 h3
  subst h1 h2 h3
  exact ⟨its, n, _, sl, r, e, z⟩
def rCatL (K : PySem.W.Frag) : R2 := fun x y H Q => ∃ l b xs zs, x = .ref l ∧ y = .ref b ∧ SqL K H l xs ∧ SqL K H b zs ∧ xs.length + zs.length ≤ sizeLine ∧ ∀ p, H p = none → Q (.ref p) (upd H p (.lst (xs ++ zs)))
theorem op_catL : OpR X (binaryOp .Add) (rCatL X.K) := by
  intro pins s σ H x y v u Q I rx ry h
  obtain ⟨l, b, xs, zs, rfl, rfl, hH, hB, hz, q⟩ := h
  obtain rfl : v = .ref l := rx
  obtain rfl : u = .ref b := ry
  obtain ⟨its, n, dd, sl, r, e, z⟩ := lst_exact I hH
  obtain ⟨its2, n2, dd2, sl2, r2, e2, z2⟩ := lst_exact I hB
  have h1 := r.length
  have h2 := r2.length
  have gives := list_addW l b its.toArray its2.toArray n n2 dd dd2 sl sl2 (by rw [List.size_toArray, List.size_toArray]; omega)
  refine concat_meets (T := "list") ⟨_, e, rfl⟩ ⟨_, e2, rfl⟩ noFill_list_add seq_list_add PySem.F.slot_list_add
    PySem.F.entry_list_add (PySem.F.args_list_add_2 _ _) gives ⟨e, e2, ?_⟩
  have ea : its.toArray ++ its2.toArray = (its ++ its2).toArray := by simp
  rw [ea]
  exact ⟨.ref _, _, I.lnew (t' := s.toks) (r.append r2) (by rw [List.length_append]; omega), rfl, q _ I.fresh⟩
theorem SOk.sql {w : Wd} {S : Sto} (so : SOk g w S) {i : Nat} {xs : List D} (e : S[i]? = some (.lst xs)) : ∃ vs, w.H (w.m i) = some (.lst vs) ∧ Reps g w xs vs ∧ xs.length ≤ sizeLine := by
  obtain ⟨h, e2, r⟩ := so.ob i _ e
  cases r with
  | lst l r => exact ⟨_, e2, r, l⟩
theorem opr_add : OpR X (binaryOp .Add) (r2 ⟨X.K, X.mg⟩ aAdd) := by
  intro pins s σ H x y v u Q I rx ry h
  obtain ⟨w, S, a, b, rfl, so, ra, rb, p⟩ := h
  have stp := Step.refl so
  unfold aAdd at p
  split at p
  · cases ra; cases rb
    exact op_add pins s σ _ _ _ v u Q I rx ry ⟨_, _, rfl, rfl, p w _ stp so (.int _)⟩
  · cases ra; cases rb
    exact op_add_ib pins s σ _ _ _ v u Q I rx ry ⟨_, _, rfl, rfl, p w _ stp so (.int _)⟩
  · cases ra; cases rb
    split at p
    · rename_i hl
      exact op_add_str pins s σ _ _ _ v u Q I rx ry ⟨_, _, rfl, rfl, hl, p w _ stp so (.str _)⟩
    · exact p.elim
  · cases ra with
    | tup ta la ra =>
      cases rb with
      | tup tb lb rb =>
        split at p
        · rename_i hl
          have l1 := ra.length
          have l2 := rb.length
          refine op_catA pins s σ _ _ _ v u Q I rx ry ⟨_, _, _, _, rfl, rfl, ta, tb, by omega, fun e => ?_, fun _ e => ?_, fun _ _ q hq => ?_⟩
          · subst e
            cases ra
            exact p w _ stp so (.tup tb lb rb)
          · subst e
            cases rb
            rw [List.append_nil] at p
            exact p w _ stp so (.tup ta la ra)
          · obtain ⟨st, so', _⟩ := Step.put so hq (.tup _)
            exact p _ _ st so' (.tup (SqT.of upd_same) (by rw [List.length_append]; exact hl) (Reps.mono st.toMono _ _ (ra.append rb)))
        · exact p.elim
  · cases ra; cases rb
    split at p
    · rename_i ea eb
      obtain ⟨vs, h1, r1, _⟩ := so.sql ea
      obtain ⟨us, h2, r2, _⟩ := so.sql eb
      split at p
      · rename_i hl
        have l1 := r1.length
        have l2 := r2.length
        refine op_catL pins s σ _ _ _ v u Q I rx ry ⟨_, _, _, _, rfl, rfl, SqL.of h1, SqL.of h2, by omega, fun q hq => ?_⟩
        obtain ⟨st, so', em⟩ := Step.new so hq (.lst (by rw [List.length_append]; exact hl) (r1.append r2))
        exact p _ _ st so' em
      · exact p.elim
    · exact p.elim
  · cases ra with
    | rl ta la ra =>
      cases rb
      split at p
      · rename_i eb
        obtain ⟨us, h2, r2, _⟩ := so.sql eb
        split at p
        · rename_i hl
          have l1 := ra.length
          have l2 := r2.length
          refine op_catL pins s σ _ _ _ v u Q I rx ry ⟨_, _, _, _, rfl, rfl, ta.sql, SqL.of h2, by omega, fun q hq => ?_⟩
          obtain ⟨st, so', em⟩ := Step.new so hq (.lst (by rw [List.length_append]; exact hl) (ra.append r2))
          exact p _ _ st so' em
        · exact p.elim
      · exact p.elim
  · exact p.elim
end

/-! ### ints -/
/-- two ints in, a value out -/
def iOp (f : Int → Int → Option D) : F2 := fun a b S => match a, b with
  | .int i, .int j => (f i j).map fun d => (d, S)
  | _, _ => none
instance (i j : Int) : Decidable (CMul i j) := inferInstanceAs (Decidable (_ ∨ _))
instance (i j : Int) : Decidable (CDivN i j) := inferInstanceAs (Decidable (_ ∧ _))
instance (i j : Int) : Decidable (CPow i j) := inferInstanceAs (Decidable (_ ∧ _))
def aSub : F2 := iOp fun i j => some (.int (i - j))
def aMul : F2 := iOp fun i j => if CMul i j then some (.int (i * j)) else none
def aMod : F2 := iOp fun i j => if j ≠ 0 then some (.int (i.fmod j)) else none
def aFDiv : F2 := iOp fun i j => if CDivN i j then some (.int (i.fdiv j)) else none
def aPow : F2 := iOp fun i j => if CPow i j then some (.int (i ^ j.toNat)) else none
def aShl : F2 := iOp fun i j => if CPow i j then some (.int (i * 2 ^ j.toNat)) else none
section
variable {X : Cx} {g : Gnd}
theorem opr_int {f : Value → Value → Sem Value} {C : Int → Int → Prop} {k : Int → Int → Int} {q : Int → Int → Option D} (ho : OpR X f (rI C fun i j => .int (k i j))) (hq : ∀ i j d, q i j = some d → C i j ∧ d = .int (k i j)) :
    OpR X f (r2 ⟨X.K, X.mg⟩ (iOp q)) := by
  intro pins s σ H x y v u Q I rx ry h
  obtain ⟨w, S, a, b, rfl, so, ra, rb, p⟩ := h
  unfold iOp at p
  split at p
  · rename_i i j
    cases ra; cases rb
    cases e : q i j with
    | none => rw [e] at p; exact p.elim
    | some d =>
      rw [e] at p
      obtain ⟨c, rfl⟩ := hq i j d e
      exact ho pins s σ _ _ _ v u Q I rx ry ⟨i, j, rfl, rfl, c, p w _ (Step.refl so) so (.int _)⟩
  · exact p.elim
theorem opr_sub : OpR X (binaryOp .Sub) (r2 ⟨X.K, X.mg⟩ aSub) := by
  refine opr_int (C := fun _ _ => True) (k := fun i j => i - j) (fun pins s σ H x y v u Q I rx ry h => ?_) fun i j d e => ⟨trivial, (Option.some.inj e).symm⟩
  obtain ⟨i, j, e1, e2, _, q⟩ := h
  exact op_sub pins s σ H x y v u Q I rx ry ⟨i, j, e1, e2, q⟩
theorem opt_if {c : Prop} [Decidable c] {d e : D} (h : (if c then some d else none) = some e) : c ∧ e = d := by
  by_cases q : c
  · rw [if_pos q] at h
    exact ⟨q, (Option.some.inj h).symm⟩
  · rw [if_neg q] at h
    cases h
theorem opr_mul : OpR X (binaryOp .Mult) (r2 ⟨X.K, X.mg⟩ aMul) := opr_int op_mul fun _ _ _ e => opt_if e
theorem opr_mod : OpR X (binaryOp .Mod) (r2 ⟨X.K, X.mg⟩ aMod) := opr_int op_modN fun _ _ _ e => opt_if e
theorem opr_fdiv : OpR X (binaryOp .FloorDiv) (r2 ⟨X.K, X.mg⟩ aFDiv) := opr_int op_fdivN fun _ _ _ e => opt_if e
theorem opr_pow : OpR X (binaryOp .Pow) (r2 ⟨X.K, X.mg⟩ aPow) := opr_int op_pow fun _ _ _ e => opt_if e
theorem opr_shl : OpR X (binaryOp .LShift) (r2 ⟨X.K, X.mg⟩ aShl) := opr_int op_shl fun _ _ _ e => opt_if e
end
end DL
/-! DL, part d: comparisons, truth. -/
namespace DL
open PySem PySem.Spec PyProof.Rows L2

/-! ### order -/
def oOp (p : Int → Int → Bool) (q : List Nat → List Nat → Bool) : F2 := fun a b S => match a, b with
  | .int i, .int j => some (.bl (p i j), S)
  | .str x, .str y => some (.bl (q x.cps.toList y.cps.toList), S)
  | _, _ => none
def aLt : F2 := oOp (fun i j => decide (i < j)) fun x y => decide (x < y)
def aLe : F2 := oOp (fun i j => decide (i ≤ j)) fun x y => !decide (y < x)
def aGt : F2 := oOp (fun i j => decide (j < i)) fun x y => decide (y < x)
def aGe : F2 := oOp (fun i j => decide (j ≤ i)) fun x y => !decide (x < y)
section
variable {X : Cx}
theorem opr_ord {f : Value → Value → Sem Value} {p : Int → Int → Bool} {q : List Nat → List Nat → Bool} (h1 : OpR X f (rI0 fun i j => .bl (p i j)))
    (h2 : OpR X f (fun x y H Q => ∃ i j, x = .str i ∧ y = .str j ∧ Q (.bl (q i.cps.toList j.cps.toList)) H)) : OpR X f (r2 ⟨X.K, X.mg⟩ (oOp p q)) := by
  intro pins s σ H x y v u Q I rx ry h
  obtain ⟨w, S, a, b, rfl, so, ra, rb, k⟩ := h
  unfold oOp at k
  split at k
  · cases ra; cases rb
    exact h1 pins s σ _ _ _ v u Q I rx ry ⟨_, _, rfl, rfl, k w _ (Step.refl so) so (.bl _)⟩
  · cases ra; cases rb
    exact h2 pins s σ _ _ _ v u Q I rx ry ⟨_, _, rfl, rfl, k w _ (Step.refl so) so (.bl _)⟩
  · exact k.elim
theorem opr_lt : OpR X (compareOp .Lt) (r2 ⟨X.K, X.mg⟩ aLt) := opr_ord op_lt op_lt_str
theorem opr_le : OpR X (compareOp .LtE) (r2 ⟨X.K, X.mg⟩ aLe) := opr_ord op_le op_le_str
theorem opr_gt : OpR X (compareOp .Gt) (r2 ⟨X.K, X.mg⟩ aGt) := opr_ord op_gt op_gt_str
theorem opr_ge : OpR X (compareOp .GtE) (r2 ⟨X.K, X.mg⟩ aGe) := opr_ord op_ge op_ge_str
end

/-! ### data as the library's data -/
mutual
def toP (f : Nat → Option PyData) : D → Option PyData
  | .non => some .none
  | .bl b => some (.bool b)
  | .int i => some (.int i)
  | .str x => some (.str x)
  | .tup xs => (toPs f xs).map .tuple
  | .rl xs => (toPs f xs).map .list
  | .ob n => f n
  | .ty _ => none
  | .gl _ => none
def toPs (f : Nat → Option PyData) : List D → Option (List PyData)
  | [] => some []
  | d :: ds => match toP f d, toPs f ds with
    | some p, some ps => some (p :: ps)
    | _, _ => none
end
def obP : Nat → Sto → Nat → Option PyData
  | 0, _, _ => none
  | k + 1, S, n => match S[n]? with
    | some (.lst xs) => (toPs (obP k S) xs).map .list
    | _ => none
/-- what == sees -/
def dP (S : Sto) (d : D) : Option PyData := toP (obP 12 S) d
section
variable {g : Gnd} {w : Wd} {S : Sto}
mutual
theorem toP_ok {f : Nat → Option PyData} (hf : ∀ n p, f n = some p → n < w.n → Dp g.K w.H (.ref (w.m n)) p ∧ p.plain = true) : ∀ (d : D) (v : V) (p : PyData), Rep g w d v → toP f d = some p → Dp g.K w.H v p ∧ p.plain = true
  | .non, _, _, r, e => by cases r; cases e; exact ⟨.non, rfl⟩
  | .bl b, _, _, r, e => by cases r; cases e; exact ⟨.bl b, rfl⟩
  | .int i, _, _, r, e => by cases r; cases e; exact ⟨.int i, rfl⟩
  | .str x, _, _, r, e => by cases r; cases e; exact ⟨.str x, rfl⟩
  | .ob n, _, p, r, e => by
    cases r with
    | ob h => exact hf n p e h
  | .ty _, _, _, _, e => by cases e
  | .gl _, _, _, _, e => by cases e
  | .tup xs, _, _, r, e => by
    cases r with
    | tup t l r =>
      unfold toP at e
      cases q : toPs f xs with
      | none => rw [q] at e; cases e
      | some ps =>
        rw [q] at e
        cases e
        obtain ⟨h1, h2⟩ := toPs_ok hf xs _ ps r q
        exact ⟨.tup t h1, by unfold PyData.plain; exact h2⟩
  | .rl xs, _, _, r, e => by
    cases r with
    | rl t l r =>
      unfold toP at e
      cases q : toPs f xs with
      | none => rw [q] at e; cases e
      | some ps =>
        rw [q] at e
        cases e
        obtain ⟨h1, h2⟩ := toPs_ok hf xs _ ps r q
        exact ⟨.lst t.sql h1, by unfold PyData.plain; exact h2⟩
theorem toPs_ok {f : Nat → Option PyData} (hf : ∀ n p, f n = some p → n < w.n → Dp g.K w.H (.ref (w.m n)) p ∧ p.plain = true) : ∀ (ds : List D) (vs : List V) (ps : List PyData), Reps g w ds vs → toPs f ds = some ps → DpAll g.K w.H vs ps ∧ PyData.plainAll ps = true
  | [], _, _, r, e => by cases r; cases e; exact ⟨.nil, rfl⟩
  | d :: ds, _, _, r, e => by
    cases r with
    | cons r1 r2 =>
      unfold toPs at e
      split at e
      · rename_i p ps e1 e2
        cases e
        obtain ⟨a, b⟩ := toP_ok hf d _ p r1 e1
        obtain ⟨c, dd⟩ := toPs_ok hf ds _ ps r2 e2
        refine ⟨.cons a c, ?_⟩
        unfold PyData.plainAll
        rw [b, dd]
        rfl
      · cases e
end
theorem obP_ok (so : SOk g w S) : ∀ (k n : Nat) (p : PyData), obP k S n = some p → n < w.n → Dp g.K w.H (.ref (w.m n)) p ∧ p.plain = true
  | 0, _, _, e, _ => by cases e
  | k + 1, n, p, e, h => by
    unfold obP at e
    split at e
    · rename_i xs q
      obtain ⟨vs, hv, rv, l⟩ := so.sql q
      cases e2 : toPs (obP k S) xs with
      | none => rw [e2] at e; cases e
      | some ps =>
        rw [e2] at e
        cases e
        obtain ⟨h1, h2⟩ := toPs_ok (fun n p => obP_ok so k n p) xs _ ps rv e2
        exact ⟨.lst (SqL.of hv) h1, by unfold PyData.plain; exact h2⟩
    · cases e
theorem dP_ok (so : SOk g w S) {d : D} {v : V} {p : PyData} (r : Rep g w d v) (e : dP S d = some p) : Dp g.K w.H v p ∧ p.plain = true := toP_ok (fun n p => obP_ok so 12 n p) d v p r e
end
/-- == by data -/
def eqP (neg : Bool) : F2 := fun a b S => match dP S a, dP S b with
  | some p, some q => if min p.depth q.depth ≤ 100 then some (.bl (if neg then !PyData.eqv p q else PyData.eqv p q), S) else none
  | _, _ => none
abbrev aEq : F2 := eqP false
abbrev aNe : F2 := eqP true
section
variable {X : Cx}
theorem opr_eq (hu : X.A.units + 200 < cLine) : OpR X (compareOp .Eq) (r2 ⟨X.K, X.mg⟩ aEq) := by
  intro pins s σ H x y v u Q I rx ry h
  obtain ⟨w, S, a, b, rfl, so, ra, rb, k⟩ := h
  unfold aEq eqP at k
  split at k
  · rename_i p q ep eq
    split at k
    · rename_i hd
      obtain ⟨d1, p1⟩ := dP_ok so ra ep
      obtain ⟨d2, p2⟩ := dP_ok so rb eq
      obtain ⟨as, r1⟩ := Dp.reads I p x v d1 rx
      obtain ⟨bs, r2⟩ := Dp.reads I q y u d2 ry
      exact SeqAt.eq_plain r1 r2 p1 p2 (by omega) ⟨.bl _, _, I, rfl, k w _ (Step.refl so) so (.bl _)⟩
    · exact k.elim
  · exact k.elim
theorem opr_ne (hu : X.A.units + 200 < cLine) : OpR X (compareOp .NotEq) (r2 ⟨X.K, X.mg⟩ aNe) := by
  intro pins s σ H x y v u Q I rx ry h
  obtain ⟨w, S, a, b, rfl, so, ra, rb, k⟩ := h
  unfold aNe eqP at k
  split at k
  · rename_i p q ep eq
    split at k
    · rename_i hd
      obtain ⟨d1, p1⟩ := dP_ok so ra ep
      obtain ⟨d2, p2⟩ := dP_ok so rb eq
      obtain ⟨as, r1⟩ := Dp.reads I p x v d1 rx
      obtain ⟨bs, r2⟩ := Dp.reads I q y u d2 ry
      exact SeqAt.ne_plain r1 r2 p1 p2 (by omega) ⟨.bl _, _, I, rfl, k w _ (Step.refl so) so (.bl _)⟩
    · exact k.elim
  · exact k.elim
end

/-! ### in -/
def keyD : D → Option Key
  | .int i => some (.inl i)
  | .str x => some (.inr x)
  | _ => none
def valD (kvs : List (Key × D)) (k : Key) : Option D := (kvs.find? fun kv => decide (kv.1 = k)).map (·.2)
theorem keyD_ok {g : Gnd} {w : Wd} {d : D} {v : V} {k : Key} (r : Rep g w d v) (e : keyD d = some k) : v = kV k := by
  cases r <;> cases e <;> rfl
theorem valD_ok {g : Gnd} {w : Wd} {k : Key} : ∀ {kvs : List (Key × D)} {kus : List (Key × V)}, kvs.map (·.1) = kus.map (·.1) → Reps g w (kvs.map (·.2)) (kus.map (·.2)) →
    (∀ d, valD kvs k = some d → ∃ v, valV kus k = some v ∧ Rep g w d v) ∧ (valD kvs k = none → valV kus k = none)
  | [], [], _, _ => ⟨fun d e => (by cases e), fun _ => rfl⟩
  | [], _ :: _, e, _ => by cases e
  | _ :: _, [], e, _ => by cases e
  | (a, d) :: kvs, (b, v) :: kus, e, r => by
    simp only [List.map_cons, List.cons.injEq] at e
    obtain ⟨e1, e2⟩ := e
    subst e1
    cases r with
    | cons r1 r2 =>
      obtain ⟨h1, h2⟩ := valD_ok (k := k) e2 r2
      unfold valD valV
      simp only [List.find?_cons]
      by_cases q : a = k
      · simp only [q, decide_true, Option.map_some]
        exact ⟨fun d' e => by cases e; exact ⟨v, rfl, r1⟩, fun e => by cases e⟩
      · simp only [q, decide_false]
        exact ⟨h1, h2⟩
theorem valD_isSome {g : Gnd} {w : Wd} {k : Key} {kvs : List (Key × D)} {kus : List (Key × V)} (e : kvs.map (·.1) = kus.map (·.1)) (r : Reps g w (kvs.map (·.2)) (kus.map (·.2))) : (valV kus k).isSome = (valD kvs k).isSome := by
  obtain ⟨q1, q2⟩ := valD_ok (k := k) e r
  cases z : valD kvs k with
  | none => rw [q2 z]; rfl
  | some d =>
    obtain ⟨v', ev, _⟩ := q1 d z
    rw [ev]
    rfl
theorem SOk.dka {g : Gnd} {w : Wd} {S : Sto} (so : SOk g w S) {i : Nat} {kvs : List (Key × D)} (e : S[i]? = some (.dk kvs)) :
    ∃ kus, w.H (w.m i) = some (.dK kus) ∧ kvs.length ≤ sizeLine ∧ kvs.map (·.1) = kus.map (·.1) ∧ Reps g w (kvs.map (·.2)) (kus.map (·.2)) := by
  obtain ⟨h, e2, r⟩ := so.ob i _ e
  cases r with
  | dk l e r => exact ⟨_, e2, l, e, r⟩
/-- one sign, or a text, within a text -/
def subS (x y : Str) : Bool := match x.cps.toList with
  | [c] => decide (c ∈ y.cps.toList)
  | _ => !(Builtin.Str.occurrences y x 0 y.length 1).isEmpty
def inP (neg : Bool) : F2 := fun a b S => match b with
  | .str y => match a with
    | .str x => some (.bl (if neg then !subS x y else subS x y), S)
    | _ => none
  | _ => match (match b with | .ob n => S[n]? | _ => none) with
    | some (.dk kvs) => match keyD a with
      | some k => some (.bl (if neg then !(valD kvs k).isSome else (valD kvs k).isSome), S)
      | none => none
    | _ => match dP S a, dP S b with
      | some p, some (.list qs) => if PyData.depthAll qs ≤ 100 then some (.bl (if neg then !(qs.any fun z => PyData.eqv z p) else qs.any fun z => PyData.eqv z p), S) else none
      | some p, some (.tuple qs) => if PyData.depthAll qs ≤ 100 then some (.bl (if neg then !(qs.any fun z => PyData.eqv z p) else qs.any fun z => PyData.eqv z p), S) else none
      | _, _ => none
abbrev aIn : F2 := inP false
abbrev aNotIn : F2 := inP true
theorem str_one {x : Str} {c : Nat} (h : x.cps.toList = [c]) : x = ⟨#[c]⟩ := by
  obtain ⟨a⟩ := x
  have : a = #[c] := by
    apply Array.toList_inj.mp
    exact h
  rw [this]
section
variable {X : Cx}
theorem opr_in (hu : X.A.units + 200 < cLine) : OpR X (compareOp .In) (r2 ⟨X.K, X.mg⟩ aIn) := by
  intro pins s σ H x y v u Q I rx ry h
  obtain ⟨w, S, a, b, rfl, so, ra, rb, k⟩ := h
  have stp := Step.refl so
  unfold aIn inP at k
  split at k
  · rename_i y0
    split at k
    · rename_i x0
      cases ra; cases rb
      replace k := k w _ stp so (.bl _)
      simp only [Bool.false_eq_true, if_false] at k
      unfold subS at k
      split at k
      · rename_i c e
        have e := str_one e
        subst e
        exact op_in_sign pins s σ _ _ _ v u Q I rx ry ⟨c, y0, rfl, rfl, k⟩
      · exact op_in_str pins s σ _ _ _ v u Q I rx ry ⟨x0, y0, rfl, rfl, k⟩
    · exact k.elim
  · split at k
    · rename_i kvs e
      split at k
      · rename_i kk ek
        have e1 := keyD_ok ra ek
        subst e1
        cases b with
        | ob n =>
          obtain ⟨kus, eh, l, e2, r2⟩ := so.dka e
          cases rb
          obtain rfl : u = .ref (w.m n) := ry
          refine d_in (by omega) I (DGet.k (k := kk) eh) rx fun s3 I3 => ⟨.bl _, _, I3, rfl, ?_⟩
          have k := k w _ stp so (.bl _)
          simp only [Bool.false_eq_true, if_false] at k
          rw [valD_isSome e2 r2]
          exact k
        | _ => cases e
      · exact k.elim
    · split at k
      · rename_i p qs ep eq
        split at k
        · rename_i hd
          obtain ⟨d1, p1⟩ := dP_ok so ra ep
          obtain ⟨d2, p2⟩ := dP_ok so rb eq
          obtain ⟨as, r1⟩ := Dp.reads I p x v d1 rx
          obtain ⟨bs, r2⟩ := Dp.reads I _ y u d2 ry
          have k := k w _ stp so (.bl _)
          simp only [Bool.false_eq_true, if_false] at k
          exact SeqAt.in_list_data r2 r1 (by unfold PyData.plain at p2; exact p2) p1 (by omega) ⟨.bl _, _, I, rfl, k⟩
        · exact k.elim
      · rename_i p qs ep eq
        split at k
        · rename_i hd
          obtain ⟨d1, p1⟩ := dP_ok so ra ep
          obtain ⟨d2, p2⟩ := dP_ok so rb eq
          obtain ⟨as, r1⟩ := Dp.reads I p x v d1 rx
          obtain ⟨bs, r2⟩ := Dp.reads I _ y u d2 ry
          have k := k w _ stp so (.bl _)
          simp only [Bool.false_eq_true, if_false] at k
          exact SeqAt.in_tuple_data r2 r1 (by unfold PyData.plain at p2; exact p2) p1 (by omega) ⟨.bl _, _, I, rfl, k⟩
        · exact k.elim
      · exact k.elim
theorem opr_notIn (hu : X.A.units + 200 < cLine) : OpR X (compareOp .NotIn) (r2 ⟨X.K, X.mg⟩ aNotIn) := by
  intro pins s σ H x y v u Q I rx ry h
  obtain ⟨w, S, a, b, rfl, so, ra, rb, k⟩ := h
  have stp := Step.refl so
  unfold aNotIn inP at k
  split at k
  · rename_i y0
    split at k
    · rename_i x0
      cases ra; cases rb
      replace k := k w _ stp so (.bl _)
      simp only [if_true] at k
      unfold subS at k
      split at k
      · rename_i c e
        have e := str_one e
        subst e
        exact op_notIn_sign pins s σ _ _ _ v u Q I rx ry ⟨c, y0, rfl, rfl, k⟩
      · exact op_notIn_str pins s σ _ _ _ v u Q I rx ry ⟨x0, y0, rfl, rfl, k⟩
    · exact k.elim
  · split at k
    · rename_i kvs e
      split at k
      · rename_i kk ek
        have e1 := keyD_ok ra ek
        subst e1
        cases b with
        | ob n =>
          obtain ⟨kus, eh, l, e2, r2⟩ := so.dka e
          cases rb
          obtain rfl : u = .ref (w.m n) := ry
          refine d_notIn (by omega) I (DGet.k (k := kk) eh) rx fun s3 I3 => ⟨.bl _, _, I3, rfl, ?_⟩
          have k := k w _ stp so (.bl _)
          simp only [if_true] at k
          rw [valD_isSome e2 r2]
          exact k
        | _ => cases e
      · exact k.elim
    · split at k
      · rename_i p qs ep eq
        split at k
        · rename_i hd
          obtain ⟨d1, p1⟩ := dP_ok so ra ep
          obtain ⟨d2, p2⟩ := dP_ok so rb eq
          obtain ⟨as, r1⟩ := Dp.reads I p x v d1 rx
          obtain ⟨bs, r2⟩ := Dp.reads I _ y u d2 ry
          have k := k w _ stp so (.bl _)
          simp only [if_true] at k
          exact SeqAt.notIn_list_data r2 r1 (by unfold PyData.plain at p2; exact p2) p1 (by omega) ⟨.bl _, _, I, rfl, k⟩
        · exact k.elim
      · rename_i p qs ep eq
        split at k
        · rename_i hd
          obtain ⟨d1, p1⟩ := dP_ok so ra ep
          obtain ⟨d2, p2⟩ := dP_ok so rb eq
          obtain ⟨as, r1⟩ := Dp.reads I p x v d1 rx
          obtain ⟨bs, r2⟩ := Dp.reads I _ y u d2 ry
          have k := k w _ stp so (.bl _)
          simp only [if_true] at k
          exact SeqAt.notIn_tuple_data r2 r1 (by unfold PyData.plain at p2; exact p2) p1 (by omega) ⟨.bl _, _, I, rfl, k⟩
        · exact k.elim
      · exact k.elim
end

/-! ### is None, is True -/
def isNon : D → Bool
  | .non => true
  | _ => false
def isP (neg : Bool) : F2 := fun a b S => match b with
  | .non => some (.bl (if neg then !isNon a else isNon a), S)
  | .bl k => match a with
    | .bl j => some (.bl (if neg then !decide (j = k) else decide (j = k)), S)
    | _ => none
  | _ => none
abbrev aIs : F2 := isP false
abbrev aIsNot : F2 := isP true
theorem isNon_ok {g : Gnd} {w : Wd} {d : D} {v : V} (r : Rep g w d v) : decide (v = .non) = isNon d := by
  cases r <;> simp [isNon]
section
variable {X : Cx}
theorem opr_is : OpR X (compareOp .Is) (r2 ⟨X.K, X.mg⟩ aIs) := by
  intro pins s σ H x y v u Q I rx ry h
  obtain ⟨w, S, a, b, rfl, so, ra, rb, k⟩ := h
  have stp := Step.refl so
  unfold aIs isP at k
  split at k
  · cases rb
    have k := k w _ stp so (.bl _)
    simp only [Bool.false_eq_true, if_false] at k
    exact op_isN pins s σ _ _ _ v u Q I rx ry ⟨rfl, by rw [isNon_ok ra]; exact k⟩
  · split at k
    · cases ra; cases rb
      have k := k w _ stp so (.bl _)
      simp only [Bool.false_eq_true, if_false] at k
      exact op_isBl pins s σ _ _ _ v u Q I rx ry ⟨_, _, rfl, rfl, k⟩
    · exact k.elim
  · exact k.elim
theorem opr_isNot : OpR X (compareOp .IsNot) (r2 ⟨X.K, X.mg⟩ aIsNot) := by
  intro pins s σ H x y v u Q I rx ry h
  obtain ⟨w, S, a, b, rfl, so, ra, rb, k⟩ := h
  have stp := Step.refl so
  unfold aIsNot isP at k
  split at k
  · cases rb
    have k := k w _ stp so (.bl _)
    simp only [if_true] at k
    exact op_notN pins s σ _ _ _ v u Q I rx ry ⟨rfl, by rw [isNon_ok ra]; exact k⟩
  · split at k
    · cases ra; cases rb
      have k := k w _ stp so (.bl _)
      simp only [if_true] at k
      exact op_notBl pins s σ _ _ _ v u Q I rx ry ⟨_, _, rfl, rfl, k⟩
    · exact k.elim
  · exact k.elim
end

/-! ### truth -/
def truD (d : D) (S : Sto) : Option Bool := match d with
  | .non => some false
  | .bl b => some b
  | .int i => some (i != 0)
  | .str x => if x.length ≤ sizeLine then some ((x.length : Int) != 0) else none
  | .tup xs => some (!xs.isEmpty)
  | .rl xs => some (!xs.isEmpty)
  | .ob n => match S[n]? with
    | some (.lst xs) => some (!xs.isEmpty)
    | some (.dk kvs) => some (!kvs.isEmpty)
    | _ => none
  | _ => none
theorem Reps.empty {g : Gnd} {w : Wd} {ds : List D} {vs : List V} (r : Reps g w ds vs) : ds.isEmpty = vs.isEmpty := by
  cases r <;> rfl
theorem truD_ok {g : Gnd} {w : Wd} {S : Sto} (so : SOk g w S) {d : D} {v : V} {b : Bool} (r : Rep g w d v) (e : truD d S = some b) : TruV g.K v w.H b := by
  unfold truD at e
  split at e
  · cases r; cases e; exact rfl
  · cases r; cases e; exact rfl
  · cases r; cases e; exact rfl
  · cases r
    split at e
    · cases e; exact ⟨by assumption, rfl⟩
    · cases e
  · cases r with
    | tup t l r =>
      cases e
      exact .inr (.inl ⟨_, t, by rw [r.empty]⟩)
  · cases r with
    | rl t l r =>
      cases e
      exact .inl ⟨_, t.sql, by rw [r.empty]⟩
  · cases r
    split at e
    · rename_i q
      obtain ⟨vs, hv, rv, l⟩ := so.sql q
      cases e
      exact .inl ⟨_, SqL.of hv, by rw [rv.empty]⟩
    · rename_i kvs q
      obtain ⟨h, eh, rh⟩ := so.ob _ _ q
      cases rh with
      | dk l e2 r2 =>
        cases e
        refine .inr (.inr ⟨_, eh, ?_⟩)
        have := congrArg List.length e2
        rw [List.length_map, List.length_map] at this
        rename_i kus
        cases kvs <;> cases kus <;> first | rfl | (simp at this)
    · cases e
  · cases e
end DL
/-! DL, part e: tests, and or not, displays, subscripts, slices, built-in functions. -/
namespace DL
open PySem PySem.Spec PyProof.Rows L2

/-! ### tests -/
def dTr (f : DenE) : DenT := fun fr S => (f fr S).bnd fun d S' => match truD d S' with
  | some b => .ok b S'
  | none => .no
def dTAnd (t u : DenT) : DenT := fun fr S => (t fr S).bnd fun b S' => match b with
  | true => u fr S'
  | false => .ok false S'
def dTOr (t u : DenT) : DenT := fun fr S => (t fr S).bnd fun b S' => match b with
  | true => .ok true S'
  | false => u fr S'
def dTNot (t : DenT) : DenT := fun fr S => (t fr S).bnd fun b S' => .ok (!b) S'
def dIf {α : Type} (t : DenT) (f h : Fr → Sto → Out α) : Fr → Sto → Out α := fun fr S => (t fr S).bnd fun b S' => match b with
  | true => f fr S'
  | false => h fr S'
def dAndV (f h : DenE) : DenE := fun fr S => (f fr S).bnd fun d S' => match truD d S' with
  | some true => h fr S'
  | some false => .ok d S'
  | none => .no
def dOrV (f h : DenE) : DenE := fun fr S => (f fr S).bnd fun d S' => match truD d S' with
  | some true => .ok d S'
  | some false => h fr S'
  | none => .no
def dNotV (f : DenE) : DenE := fun fr S => (f fr S).bnd fun d S' => match truD d S' with
  | some b => .ok (.bl (!b)) S'
  | none => .no
section
variable {X : Cx} {W : WX} {a b : Expr} {pos : Pos} {fa fb : DenE} {ft fu : DenT} {rest : List Expr}
theorem dt_truth (ha : PE X a (tE ⟨X.K, X.mg⟩ W fa)) (he : ∀ whole, isTrue a X.env whole = (do let v ← whole; standAt a.pos; holding [v] (truthy v))) : PT X a (tT ⟨X.K, X.mg⟩ W (dTr fa)) := by
  refine PT.weaken (pt_truth ha he) fun σ H Q h => tG_mono (lift1 h) fun x H1 q => ?_
  obtain ⟨w, S, fr, d, rfl, so, fo, r, p⟩ := q
  dsimp only at p
  cases e : truD d S with
  | none => rw [e] at p; exact p.elim
  | some k =>
    rw [e] at p
    exact ⟨k, truD_ok so r e, p w k (Step.refl so) so rfl⟩
theorem dt_not (ha : PT X a (tT ⟨X.K, X.mg⟩ W ft)) : PT X (.UnaryOp .Not a pos) (tT ⟨X.K, X.mg⟩ W (dTNot ft)) := by
  refine PT.weaken (pt_not ha) fun σ H Q h => tG_mono (lift1 h) fun x H1 q => ?_
  obtain ⟨w, S, fr, d, rfl, so, fo, rfl, p⟩ := q
  exact p w _ (Step.refl so) so rfl
theorem dw_and (ha : PT X a (tT ⟨X.K, X.mg⟩ W ft)) (hb : PW X (.BoolOp .And (b :: rest) pos) (tT ⟨X.K, X.mg⟩ W fu)) : PW X (.BoolOp .And (a :: b :: rest) pos) (tT ⟨X.K, X.mg⟩ W (dTAnd ft fu)) := by
  refine PW.weaken (pw_and ha hb) fun σ H Q h => tG_mono (lift1 h) fun x H1 q => ?_
  obtain ⟨w, S, fr, d, rfl, so, fo, rfl, p⟩ := q
  cases d with
  | true => exact iteT ⟨w, S, fr, rfl, so, fo, p⟩
  | false => exact iteF (p w _ (Step.refl so) so rfl)
theorem dw_or (ha : PT X a (tT ⟨X.K, X.mg⟩ W ft)) (hb : PW X (.BoolOp .Or (b :: rest) pos) (tT ⟨X.K, X.mg⟩ W fu)) : PW X (.BoolOp .Or (a :: b :: rest) pos) (tT ⟨X.K, X.mg⟩ W (dTOr ft fu)) := by
  refine PW.weaken (pw_or ha hb) fun σ H Q h => tG_mono (lift1 h) fun x H1 q => ?_
  obtain ⟨w, S, fr, d, rfl, so, fo, rfl, p⟩ := q
  cases d with
  | true => exact iteT (p w _ (Step.refl so) so rfl)
  | false => exact iteF ⟨w, S, fr, rfl, so, fo, p⟩
theorem de_if {c : Expr} (hc : PT X c (tT ⟨X.K, X.mg⟩ W ft)) (ha : PE X a (tE ⟨X.K, X.mg⟩ W fa)) (hb : PE X b (tE ⟨X.K, X.mg⟩ W fb)) : PE X (.IfExp c a b pos) (tE ⟨X.K, X.mg⟩ W (dIf ft fa fb)) := by
  refine PE.weaken (pe_ifExp hc ha hb) fun σ H Q h => tG_mono (lift1 h) fun x H1 q => ?_
  obtain ⟨w, S, fr, d, rfl, so, fo, rfl, p⟩ := q
  cases d with
  | true => exact iteT ⟨w, S, fr, rfl, so, fo, p⟩
  | false => exact iteF ⟨w, S, fr, rfl, so, fo, p⟩
theorem de_and (ha : PE X a (tE ⟨X.K, X.mg⟩ W fa)) (hb : PE X (.BoolOp .And (b :: rest) pos) (tE ⟨X.K, X.mg⟩ W fb)) : PE X (.BoolOp .And (a :: b :: rest) pos) (tE ⟨X.K, X.mg⟩ W (dAndV fa fb)) := by
  refine PE.weaken (pe_andT ha hb) fun σ H Q h => tG_mono (lift1 h) fun x H1 q => ?_
  obtain ⟨w, S, fr, d, rfl, so, fo, r, p⟩ := q
  dsimp only at p
  cases e : truD d S with
  | none => rw [e] at p; exact p.elim
  | some k =>
    rw [e] at p
    refine ⟨k, truD_ok so r e, ?_⟩
    cases k with
    | true => exact iteT ⟨w, S, fr, rfl, so, fo, p⟩
    | false => exact iteF (p w _ (Step.refl so) so r)
theorem de_or (ha : PE X a (tE ⟨X.K, X.mg⟩ W fa)) (hb : PE X (.BoolOp .Or (b :: rest) pos) (tE ⟨X.K, X.mg⟩ W fb)) : PE X (.BoolOp .Or (a :: b :: rest) pos) (tE ⟨X.K, X.mg⟩ W (dOrV fa fb)) := by
  refine PE.weaken (pe_orT ha hb) fun σ H Q h => tG_mono (lift1 h) fun x H1 q => ?_
  obtain ⟨w, S, fr, d, rfl, so, fo, r, p⟩ := q
  dsimp only at p
  cases e : truD d S with
  | none => rw [e] at p; exact p.elim
  | some k =>
    rw [e] at p
    refine ⟨k, truD_ok so r e, ?_⟩
    cases k with
    | true => exact iteT (p w _ (Step.refl so) so r)
    | false => exact iteF ⟨w, S, fr, rfl, so, fo, p⟩
theorem de_not (ha : PE X a (tE ⟨X.K, X.mg⟩ W fa)) : PE X (.UnaryOp .Not a pos) (tE ⟨X.K, X.mg⟩ W (dNotV fa)) := by
  refine PE.weaken (pe_notT ha) fun σ H Q h => tG_mono (lift1 h) fun x H1 q => ?_
  obtain ⟨w, S, fr, d, rfl, so, fo, r, p⟩ := q
  dsimp only at p
  cases e : truD d S with
  | none => rw [e] at p; exact p.elim
  | some k =>
    rw [e] at p
    exact ⟨k, truD_ok so r e, p w _ (Step.refl so) so (.bl _)⟩
end

/-! ### a comparison as a test; a < b < c -/
def dCmpT (f : F2) (a b : DenE) : DenT := fun fr S => (a fr S).bnd fun x S' => (b fr S').bnd fun y S'' => match f x y S'' with
  | some (.bl k, S3) => .ok k S3
  | _ => .no
def dChain (f f' : F2) (a b c : DenE) : DenE := fun fr S => (a fr S).bnd fun x S' => (b fr S').bnd fun y S'' => match f x y S'' with
  | some (.bl true, S3) => (c fr S3).bnd fun z S4 => .ofO (f' y z S4)
  | some (.bl false, S3) => .ok (.bl false) S3
  | _ => .no
def dChainT (f f' : F2) (a b c : DenE) : DenT := fun fr S => (dChain f f' a b c fr S).bnd fun d S' => match d with
  | .bl k => .ok k S'
  | _ => .no
section
variable {X : Cx} {W : WX} {a b c : Expr} {pos : Pos} {fa fb fc : DenE} {f f' : F2} {op op' : CmpOp}
theorem tB_of {e : Expr} {t : TE} {fe : DenE} {ft : DenT} (h : PT X e (tTest t)) (hk : ∀ σ H Q, tE ⟨X.K, X.mg⟩ W fe σ H Q → t σ H Q)
    (hf : ∀ fr S, ft fr S = (fe fr S).bnd fun d S' => match d with | .bl k => .ok k S' | _ => .no) : PT X e (tT ⟨X.K, X.mg⟩ W ft) := by
  refine PT.weaken h fun σ H Q q => hk σ H _ ?_
  obtain ⟨w, S, fr, e, so, fo, p⟩ := q
  rw [hf] at p
  refine tG_mono (lift1 (R1 := Rep _) (R := fun _ (a b : Bool) => a = b) (k := fun d fr S' => match d with | .bl k => .ok k S' | _ => .no) ⟨w, S, fr, e, so, fo, p⟩) fun x H1 z => ?_
  obtain ⟨w, S, fr, d, rfl, so, fo, r, p⟩ := z
  dsimp only at p
  cases r with
  | bl k => exact ⟨k, rfl, p w k (Step.refl so) so rfl⟩
  | _ => exact p.elim
theorem dt_cmp (ho : OpR X (compareOp op) (r2 ⟨X.K, X.mg⟩ f)) (ha : PE X a (tE ⟨X.K, X.mg⟩ W fa)) (hb : PE X b (tE ⟨X.K, X.mg⟩ W fb)) (hm : behindInMarks op b = false) : PT X (.Compare a [op] [b] pos) (tT ⟨X.K, X.mg⟩ W (dCmpT f fa fb)) := by
  refine tB_of (fe := dOp f fa fb) (pt_cmpR ho ha hb hm) (fun _ _ _ h => lift_op h) fun fr S => ?_
  unfold dCmpT dOp
  cases fa fr S with
  | no => rfl
  | ex e S' => rfl
  | ok x S' =>
    dsimp only [Out.bnd]
    cases fb fr S' with
    | no => rfl
    | ex e S' => rfl
    | ok y S2 =>
      dsimp only
      cases f x y S2 with
      | none => rfl
      | some q =>
        obtain ⟨d, S3⟩ := q
        cases d <;> rfl
theorem lift_chain {σ : L2.St} {H : Hp} {Q : VK} {g : Gnd} (h : tE g W (dChain f f' fa fb fc) σ H Q) : tChain (r2 g f) (r2 g f') (tE g W fa) (tE g W fb) (tE g W fc) σ H Q := by
  refine tG_mono (lift2 (R1 := Rep g) (R2 := Rep g) (R := Rep g) (k := fun x y fr S => match f x y S with
    | some (.bl true, S3) => (fc fr S3).bnd fun z S4 => .ofO (f' y z S4)
    | some (.bl false, S3) => .ok (.bl false) S3
    | _ => .no) (fun _ _ _ _ s r => rmono s r) h) fun x H1 h1 => tG_mono h1 fun y H2 h2 => ?_
  obtain ⟨w, S, fr, q, e, so, fo, ⟨rx, ry⟩, p⟩ := h2
  obtain ⟨x0, y0⟩ := q
  have p : Post g w (Rep g) (match f x0 y0 S with
    | some (.bl true, S3) => (fc fr S3).bnd fun z S4 => .ofO (f' y0 z S4)
    | some (.bl false, S3) => .ok (.bl false) S3
    | _ => .no) Q (fun c d H' => W c d σ H') := p
  refine ⟨w, S, x0, y0, e, so, rx, ry, ?_⟩
  cases ef : f x0 y0 S with
  | none => rw [ef] at p; exact p.elim
  | some q =>
    obtain ⟨d, S3⟩ := q
    rw [ef] at p
    intro w1 v st so1 r
    cases d with
    | bl k =>
      cases r
      refine ⟨k, rfl, ?_⟩
      cases k with
      | false => exact iteF (p w1 _ st so1 (.bl _))
      | true =>
        refine iteT ?_
        have ry1 := rmono st ry
        refine tG_mono (next1 (R1 := Rep g) (R2 := Rep g) (R := Rep g) (x := y) (f' := fc) (k := fun y0 z fr S4 => .ofO (f' y0 z S4)) (fun _ _ _ _ s r => rmono s r) ⟨w1, S3, fr, y0, rfl, so1, fo.mono st.toMono, ry1, Post.step st p⟩) fun z H4 h4 => ?_
        obtain ⟨w4, S4, fr4, q4, e4, so4, fo4, ⟨r41, r42⟩, p4⟩ := h4
        exact ⟨w4, S4, q4.1, q4.2, e4, so4, r41, r42, Post.ofO p4⟩
    | _ => exact p.elim
theorem de_chain (ho : OpR X (compareOp op) (r2 ⟨X.K, X.mg⟩ f)) (ho' : OpR X (compareOp op') (r2 ⟨X.K, X.mg⟩ f')) (ha : PE X a (tE ⟨X.K, X.mg⟩ W fa)) (hb : PE X b (tE ⟨X.K, X.mg⟩ W fb)) (hc : PE X c (tE ⟨X.K, X.mg⟩ W fc))
    (hm : lastMarks [op, op'] [b, c] = false) : PE X (.Compare a [op, op'] [b, c] pos) (tE ⟨X.K, X.mg⟩ W (dChain f f' fa fb fc)) := PE.weaken (pe_chain ho ho' ha hb hc hm) fun _ _ _ h => lift_chain h
theorem dt_chain (ho : OpR X (compareOp op) (r2 ⟨X.K, X.mg⟩ f)) (ho' : OpR X (compareOp op') (r2 ⟨X.K, X.mg⟩ f')) (ha : PE X a (tE ⟨X.K, X.mg⟩ W fa)) (hb : PE X b (tE ⟨X.K, X.mg⟩ W fb)) (hc : PE X c (tE ⟨X.K, X.mg⟩ W fc))
    (hm : lastMarks [op, op'] [b, c] = false) : PT X (.Compare a [op, op'] [b, c] pos) (tT ⟨X.K, X.mg⟩ W (dChainT f f' fa fb fc)) :=
  tB_of (fe := dChain f f' fa fb fc) (pt_chain ho ho' ha hb hc hm) (fun _ _ _ h => lift_chain h) fun fr S => rfl
end

/-! ### argument lists, displays -/
def dANil : DenA := fun _ S => .ok [] S
def dACons (f : DenE) (h : DenA) : DenA := fun fr S => (f fr S).bnd fun d S' => (h fr S').bnd fun ds S'' => .ok (d :: ds) S''
def dTup (h : DenA) : DenE := fun fr S => (h fr S).bnd fun ds S' => if ds.length ≤ sizeLine then .ok (.tup ds) S' else .no
def dLst (h : DenA) : DenE := fun fr S => (h fr S).bnd fun ds S' => if ds.length ≤ sizeLine then .ok (.ob S'.length) (S' ++ [.lst ds]) else .no
/-- a list that is used at once and by nobody else -/
def dLstT (h : DenA) : DenA := fun fr S => (h fr S).bnd fun ds S' => if ds.length ≤ sizeLine then .ok ds S' else .no
/-- such a list kept -/
def dKeep (h : DenA) : DenE := fun fr S => (h fr S).bnd fun ds S' => .ok (.ob S'.length) (S' ++ [.lst ds])
section
variable {X : Cx} {W : WX} {e : Expr} {es : List Expr} {pos : Pos} {f : DenE} {h : DenA}
theorem da_nil : PA X [] (tA ⟨X.K, X.mg⟩ W dANil) := by
  refine PA.weaken pa_nil fun σ H Q q => ?_
  obtain ⟨w, S, fr, rfl, so, fo, p⟩ := q
  exact p w _ (Step.refl so) so .nil
theorem da_cons (he : PE X e (tE ⟨X.K, X.mg⟩ W f)) (hr : PA X es (tA ⟨X.K, X.mg⟩ W h)) (hs : starEach (e :: es) X.env = (false, eval e X.env) :: starEach es X.env) : PA X (e :: es) (tA ⟨X.K, X.mg⟩ W (dACons f h)) := by
  refine PA.weaken (pa_cons he hr hs) fun σ H Q q => ?_
  refine tG_mono (lift2 (R1 := Rep _) (R2 := Reps _) (k := fun d ds fr S => .ok (d :: ds) S) (fun _ _ _ _ s r => rmono s r) q) fun x H1 h1 => tG_mono h1 fun y H2 h2 => ?_
  obtain ⟨w, S, fr, q, rfl, so, fo, ⟨rx, ry⟩, p⟩ := h2
  exact p w _ (Step.refl so) so (.cons rx ry)
theorem de_tup {k : Nat} (ha : PA X es (tA ⟨X.K, X.mg⟩ W h)) : PE X (.Tuple es k pos) (tE ⟨X.K, X.mg⟩ W (dTup h)) := by
  refine PE.weaken (pe_tup ha) fun σ H Q q => tG_mono (lift1 q) fun x H1 h1 => ?_
  obtain ⟨w, S, fr, d, rfl, so, fo, r, p⟩ := h1
  have l := r.length
  dsimp only at p
  split at p
  · rename_i hl
    refine ⟨by omega, fun a ha => ?_⟩
    obtain ⟨st, so', _⟩ := Step.put so ha (.tup x)
    exact p _ _ st so' (.tup (SqT.of upd_same) hl (Reps.mono st.toMono _ _ r))
  · exact p.elim
theorem de_lst (ha : PA X es (tA ⟨X.K, X.mg⟩ W h)) : PE X (.List es pos) (tE ⟨X.K, X.mg⟩ W (dLst h)) := by
  refine PE.weaken (pe_lst ha) fun σ H Q q => tG_mono (lift1 q) fun x H1 h1 => ?_
  obtain ⟨w, S, fr, d, rfl, so, fo, r, p⟩ := h1
  have l := r.length
  dsimp only at p
  split at p
  · rename_i hl
    refine ⟨by omega, fun a ha => ?_⟩
    obtain ⟨st, so', rr⟩ := Step.new so ha (.lst hl r)
    exact p _ _ st so' rr
  · exact p.elim
theorem dl_lst (ha : PA X es (tA ⟨X.K, X.mg⟩ W h)) : PE X (.List es pos) (tL ⟨X.K, X.mg⟩ W (dLstT h)) := by
  refine PE.weaken (pe_lst ha) fun σ H Q q => ?_
  obtain ⟨w, S, fr, e, so, fo, p⟩ := q
  refine ⟨w, S, fr, e, so, fo, ?_⟩
  have p : PostL _ w ((h fr S).bnd fun ds S' => if ds.length ≤ sizeLine then .ok ds S' else .no) Q (fun c d H' => W c d σ H') := p
  cases q : h fr S with
  | no => rw [q] at p; exact p
  | ex e S1 => rw [q] at p; exact p
  | ok ds S1 =>
    rw [q] at p
    intro w1 vs st so1 r
    have l := r.length
    have p : PostL _ w (if ds.length ≤ sizeLine then .ok ds S1 else .no) Q (fun c d H' => W c d σ H') := p
    split at p
    · rename_i hl
      refine ⟨by omega, fun a ha => ?_⟩
      obtain ⟨st2, so2, hn⟩ := Step.put so1 ha (.lst vs)
      exact p _ a (st.trans st2) so2 (st.back ha) ⟨a, vs, rfl, upd_same, hn, hl, Reps.mono st2.toMono _ _ r⟩
    · exact p.elim
/-- a list that nothing else holds is tracked from here on -/
def Wd.adopt (w : Wd) (p : Addr) : Wd := ⟨fun i => if i = w.n then p else w.m i, w.n + 1, w.H⟩
theorem Step.adoptO {g : Gnd} {w : Wd} {S : Sto} (s : SOk g w S) {p : Addr} {ob : O} {ho : HO} (hp : w.H p = some ho) (hne : ∀ i, i < w.n → w.m i ≠ p) (r : RepO g w ob ho) :
    SOk g (w.adopt p) (S ++ [ob]) ∧ Mono w (w.adopt p) ∧ Rep g (w.adopt p) (.ob S.length) (.ref p) := by
  have hm : ∀ i, i < w.n → (w.adopt p).m i = w.m i := fun i hi => if_neg (Nat.ne_of_lt hi)
  have hmn : (w.adopt p).m w.n = p := if_pos rfl
  have mo : Mono w (w.adopt p) := ⟨Nat.le_succ _, hm, fun a xs e => e, fun a ob u e => e⟩
  refine ⟨⟨?_, fun i u e => ?_, fun i j hi hj e => ?_⟩, mo, ?_⟩
  · show w.n + 1 = _
    rw [List.length_append, s.len]
    rfl
  · by_cases hi : i < S.length
    · rw [List.getElem?_append_left hi] at e
      obtain ⟨h, e2, r2⟩ := s.ob i u e
      have hi' : i < w.n := by rw [s.len]; exact hi
      exact ⟨h, by rw [hm i hi']; exact e2, r2.mono mo⟩
    · rw [List.getElem?_append_right (Nat.not_lt.mp hi)] at e
      have hz : i - S.length = 0 := by
        have := (List.getElem?_eq_some_iff.mp e).1
        simp at this
        omega
      rw [hz] at e
      cases e
      have hi2 : i = w.n := by rw [s.len]; omega
      subst hi2
      exact ⟨_, by rw [hmn]; exact hp, r.mono mo⟩
  · have hi : i < w.n + 1 := hi
    have hj : j < w.n + 1 := hj
    by_cases e1 : i = w.n
    · by_cases e2 : j = w.n
      · rw [e1, e2]
      · have hj' : j < w.n := Nat.lt_of_le_of_ne (Nat.le_of_lt_succ hj) e2
        rw [e1, hmn, hm j hj'] at e
        exact absurd e.symm (hne j hj')
    · have hi' : i < w.n := Nat.lt_of_le_of_ne (Nat.le_of_lt_succ hi) e1
      by_cases e2 : j = w.n
      · rw [e2, hmn, hm i hi'] at e
        exact absurd e (hne i hi')
      · have hj' : j < w.n := Nat.lt_of_le_of_ne (Nat.le_of_lt_succ hj) e2
        rw [hm i hi', hm j hj'] at e
        exact s.inj i j hi' hj' e
  · have q : Rep g (w.adopt p) (.ob w.n) (.ref ((w.adopt p).m w.n)) := .ob (show w.n < w.n + 1 from Nat.lt_succ_self _)
    rw [hmn, s.len] at q
    exact q
theorem Step.adopt {g : Gnd} {w : Wd} {S : Sto} (s : SOk g w S) {p : Addr} {vs : List V} {ds : List D} (hp : w.H p = some (.lst vs)) (hne : ∀ i, i < w.n → w.m i ≠ p) (hl : ds.length ≤ sizeLine) (r : Reps g w ds vs) :
    SOk g (w.adopt p) (S ++ [.lst ds]) ∧ Mono w (w.adopt p) ∧ Rep g (w.adopt p) (.ob S.length) (.ref p) := Step.adoptO s hp hne (.lst hl r)
theorem de_keep (he : PE X e (tL ⟨X.K, X.mg⟩ W h)) : PE X e (tE ⟨X.K, X.mg⟩ W (dKeep h)) := by
  refine PE.weaken he fun σ H Q q => ?_
  obtain ⟨w, S, fr, e, so, fo, p⟩ := q
  refine ⟨w, S, fr, e, so, fo, ?_⟩
  have p : Post _ w (Rep _) ((h fr S).bnd fun ds S' => .ok (.ob S'.length) (S' ++ [.lst ds])) Q (fun c d H' => W c d σ H') := p
  cases q : h fr S with
  | no => rw [q] at p; exact p
  | ex e S1 => rw [q] at p; exact p
  | ok ds S1 =>
    rw [q] at p
    intro w1 a st so1 fresh r
    obtain ⟨a', vs, ea, ha, hn, hl, rv⟩ := r
    cases ea
    obtain ⟨so2, mo, rr⟩ := Step.adopt so1 ha hn hl rv
    refine p (w1.adopt a) _ ⟨st.toMono.trans mo, fun b o hb hx => st.kp b o hb hx, fun i h1 h2 => ?_, fun i hi => so2.al i hi⟩ so2 rr
    have h2 : i < w1.n + 1 := h2
    by_cases e : i = w1.n
    · show w.H (if i = w1.n then a else w1.m i) = none
      rw [if_pos e]
      exact fresh
    · show w.H (if i = w1.n then a else w1.m i) = none
      rw [if_neg e]
      exact st.fr i h1 (by omega)
end
end DL
/-! DL, part f: subscripts, slices, built-in functions and methods by data. -/
namespace DL
open PySem PySem.Spec PyProof.Rows L2

/-! ### subscripts -/
/-- the items of a list or a tuple -/
def seqD (d : D) (S : Sto) : Option (List D) := match d with
  | .tup xs => some xs
  | .rl xs => some xs
  | .ob n => match S[n]? with
    | some (.lst xs) => some xs
    | _ => none
  | _ => none
theorem seqD_ok {g : Gnd} {w : Wd} {S : Sto} (so : SOk g w S) {d : D} {v : V} {xs : List D} (r : Rep g w d v) (e : seqD d S = some xs) :
    ∃ a vs, v = .ref a ∧ (SqL g.K w.H a vs ∨ SqT g.K w.H a vs) ∧ Reps g w xs vs ∧ xs.length ≤ sizeLine := by
  unfold seqD at e
  split at e
  · cases e
    cases r with
    | tup t l r => exact ⟨_, _, rfl, .inr t, r, l⟩
  · cases e
    cases r with
    | rl t l r => exact ⟨_, _, rfl, .inl t.sql, r, l⟩
  · cases r
    split at e
    · rename_i q
      cases e
      obtain ⟨vs, hv, rv, l⟩ := so.sql q
      exact ⟨_, _, rfl, .inl (SqL.of hv), rv, l⟩
    · cases e
  · cases e
theorem seqL_ok {g : Gnd} {w : Wd} {S : Sto} (so : SOk g w S) {d : D} {v : V} {xs : List D} (r : Rep g w d v) (e : seqD d S = some xs) (hn : ∀ ys, d ≠ .tup ys) :
    ∃ a vs, v = .ref a ∧ SqL g.K w.H a vs ∧ Reps g w xs vs ∧ xs.length ≤ sizeLine := by
  unfold seqD at e
  split at e
  · exact (hn _ rfl).elim
  · cases e
    cases r with
    | rl t l r => exact ⟨_, _, rfl, t.sql, r, l⟩
  · cases r
    split at e
    · rename_i q
      cases e
      obtain ⟨vs, hv, rv, l⟩ := so.sql q
      exact ⟨_, _, rfl, SqL.of hv, rv, l⟩
    · cases e
  · cases e
def aIx : F2 := fun a b S => match a with
  | .str z => match b with
    | .int i => if z.length ≤ sizeLine then (atI z.cps.toList i).map fun c => (.str ⟨#[c]⟩, S) else none
    | _ => none
  | _ => match seqD a S with
    | some xs => match b with
      | .int i => (atI xs i).map fun d => (d, S)
      | _ => none
    | none => match a with
      | .ob n => match S[n]? with
        | some (.dk kvs) => match keyD b with
          | some k => (valD kvs k).map fun d => (d, S)
          | none => none
        | _ => none
      | _ => none
theorem Reps.atI {g : Gnd} {w : Wd} {xs : List D} {vs : List V} {i : Int} {d : D} (r : Reps g w xs vs) (e : L2.atI xs i = some d) : ∃ v, L2.atI vs i = some v ∧ Rep g w d v := by
  unfold L2.atI at e ⊢
  rw [← r.length]
  cases q : ixN xs.length i with
  | none => rw [q] at e; cases e
  | some j =>
    rw [q] at e
    exact r.get e
section
variable {X : Cx}
def rIxD : R2 := fun x y H Q => ∃ a v, x = .ref a ∧ DGet H a y (some v) ∧ Q v H
theorem ix_dict (hu : X.A.units + 200 < cLine) : IxR X rIxD := by
  intro value slice pins s σ H x y v u Q I rx ry h hs
  obtain ⟨a, z, rfl, gt, q⟩ := h
  obtain rfl : v = .ref a := rx
  exact tail_any (dict_typeIs I gt) PySem.F.slot_dict_getitem.lookup (d_getItem (by omega) I gt ry fun w' s3 I3 rw' => ⟨z, H, I3, rw', q⟩) hs
theorem ixr (hu : X.A.units + 200 < cLine) : IxR X (r2 ⟨X.K, X.mg⟩ aIx) := by
  intro value slice pins s σ H x y v u Q I rx ry h hs
  obtain ⟨w, S, a, b, rfl, so, ra, rb, k⟩ := h
  have stp := Step.refl so
  unfold aIx at k
  split at k
  · split at k
    · cases ra; cases rb
      split at k
      · rename_i hz
        cases e : atI _ _ with
        | none => rw [e] at k; exact k.elim
        | some c =>
          rw [e] at k
          exact ix_str value slice pins s σ _ _ _ v u Q I rx ry ⟨_, _, c, rfl, rfl, hz, e, k w _ stp so (.str _)⟩ hs
      · exact k.elim
    · exact k.elim
  · split at k
    · rename_i xs e
      obtain ⟨p, vs, rfl, hq, rv, l⟩ := seqD_ok so ra e
      split at k
      · cases rb
        cases e2 : atI xs _ with
        | none => rw [e2] at k; exact k.elim
        | some d =>
          rw [e2] at k
          obtain ⟨z, ez, rz⟩ := rv.atI e2
          rcases hq with hq | hq
          · exact ix_list value slice pins s σ _ _ _ v u Q I rx ry ⟨_, _, _, z, rfl, rfl, hq, ez, k w _ stp so rz⟩ hs
          · exact ix_tup value slice pins s σ _ _ _ v u Q I rx ry ⟨_, _, _, z, rfl, rfl, hq, ez, k w _ stp so rz⟩ hs
      · exact k.elim
    · split at k
      · split at k
        · rename_i n kvs e
          split at k
          · rename_i kk ek
            have e1 := keyD_ok rb ek
            subst e1
            cases e2 : valD kvs kk with
            | none => rw [e2] at k; exact k.elim
            | some d =>
              rw [e2] at k
              cases ra
              obtain ⟨kus, eh, l, e3, r2⟩ := so.dka e
              obtain ⟨z, ez, rz⟩ := (valD_ok (k := kk) e3 r2).1 d e2
              exact ix_dict hu value slice pins s σ _ _ _ v u Q I rx ry ⟨_, z, rfl, by rw [← ez]; exact DGet.k eh, k w _ stp so rz⟩ hs
          · exact k.elim
        · exact k.elim
      · exact k.elim
variable {W : WX} {a b : Expr} {pos : Pos} {fa fb : DenE} {f : F2}
theorem de_ix (hu : X.A.units + 200 < cLine) (ha : PE X a (tE ⟨X.K, X.mg⟩ W fa)) (hb : PE X b (tE ⟨X.K, X.mg⟩ W fb)) (hs : PlainIx b) : PE X (.Subscript a b pos) (tE ⟨X.K, X.mg⟩ W (dOp aIx fa fb)) :=
  PE.weaken (pe_ix (ixr hu) ha hb hs) fun _ _ _ h => lift_op h
end

/-! ### slices -/
def cutD {α : Type} (xs : List α) (lo hi : Option Int) : List α := (xs.drop (HT.sIx xs.length 0 lo)).take (HT.sIx xs.length xs.length hi - HT.sIx xs.length 0 lo)
def aSl (d : D) (lo hi : Option Int) (S : Sto) : Option (D × Sto) := match d with
  | .str z => if z.length ≤ sizeLine then some (.str (cutS z lo hi), S) else none
  | .tup xs => some (.tup (cutD xs lo hi), S)
  | .ob n => match S[n]? with
    | some (.lst xs) => some (.ob S.length, S ++ [.lst (cutD xs lo hi)])
    | _ => none
  | .rl xs => some (.ob S.length, S ++ [.lst (cutD xs lo hi)])
  | _ => none
def dPart (o : Option DenE) : Fr → Sto → Out (Option Int) := match o with
  | none => fun _ S => .ok none S
  | some f => fun fr S => (f fr S).bnd fun d S' => match d with
    | .int i => .ok (some i) S'
    | _ => .no
def dSl (f : DenE) (lo hi : Option DenE) : DenE := fun fr S => (f fr S).bnd fun d S' => (dPart lo fr S').bnd fun l S2 => (dPart hi fr S2).bnd fun h S3 => .ofO (aSl d l h S3)
section
variable {X : Cx}
def rSl (g : Gnd) : V → Option Int → Option Int → Hp → VK → Prop := fun x lo hi H Q => ∃ w S d, w.H = H ∧ SOk g w S ∧ Rep g w d x ∧ Post g w (Rep g) (.ofO (aSl d lo hi S)) Q (fun _ _ _ => False)
theorem cutD_le {α : Type} (xs : List α) (lo hi : Option Int) : (cutD xs lo hi).length ≤ xs.length := by
  unfold cutD
  rw [List.length_take, List.length_drop]
  omega
theorem Reps.cut {g : Gnd} {w : Wd} {xs : List D} {vs : List V} (r : Reps g w xs vs) (lo hi : Option Int) : Reps g w (cutD xs lo hi) (cutV vs lo hi) := by
  unfold cutD cutV
  rw [← r.length]
  exact (r.drop _).take _
theorem slr : SlR X (rSl ⟨X.K, X.mg⟩) := by
  intro pins s σ H x v vl vu lo hi sl Q I rx hs pl pu h
  obtain ⟨w, S, d, rfl, so, r, k⟩ := h
  have stp := Step.refl so
  unfold aSl at k
  split at k
  · cases r
    split at k
    · rename_i hz
      exact sl_str pins s σ _ _ v vl vu lo hi sl Q I rx hs pl pu ⟨_, rfl, hz, k w _ stp so (.str _)⟩
    · exact k.elim
  · cases r with
    | tup t l r =>
      have hc := cutD_le ‹List D› lo hi
      refine sl_tupA pins s σ _ _ v vl vu lo hi sl Q I rx hs pl pu ⟨_, _, rfl, t, fun e => ?_, fun _ p hp => ?_⟩
      · refine k w _ stp so (.tup t (by omega) ?_)
        have q := r.cut lo hi
        have e2 : cutV ‹List V› lo hi = ‹List V› := by
          unfold cutV
          rw [e.1, e.2, List.drop_zero, Nat.sub_zero, List.take_length]
        rw [e2] at q
        exact q
      · obtain ⟨st, so', _⟩ := Step.put so hp (.tup (cutV _ lo hi))
        exact k _ _ st so' (.tup (SqT.of upd_same) (by omega) (Reps.mono st.toMono _ _ (r.cut lo hi)))
  · cases r
    split at k
    · rename_i xs q
      obtain ⟨vs, hv, rv, l⟩ := so.sql q
      have hc := cutD_le xs lo hi
      refine sl_list pins s σ _ _ v vl vu lo hi sl Q I rx hs pl pu ⟨_, _, rfl, SqL.of hv, fun p hp => ?_⟩
      obtain ⟨st, so', rr⟩ := Step.new so hp (.lst (by omega) (rv.cut lo hi))
      exact k _ _ st so' rr
    · exact k.elim
  · cases r with
    | rl t l r =>
      have hc := cutD_le ‹List D› lo hi
      refine sl_list pins s σ _ _ v vl vu lo hi sl Q I rx hs pl pu ⟨_, _, rfl, t.sql, fun p hp => ?_⟩
      obtain ⟨st, so', rr⟩ := Step.new so hp (.lst (by omega) (r.cut lo hi))
      exact k _ _ st so' rr
  · exact k.elim
abbrev tO (g : Gnd) (W : WX) (f : Fr → Sto → Out (Option Int)) : TO := tG g W (fun _ a b => a = b) f
variable {W : WX} {e : Expr} {pos p2 : Pos} {f : DenE} {lo hi : Option Expr} {fl fh : Option DenE}
theorem do_none : PO X none (tO ⟨X.K, X.mg⟩ W (dPart none)) := by
  refine ⟨fun pins s σ H Q I h => po_none.run pins s σ H Q I ?_⟩
  obtain ⟨w, S, fr, rfl, so, fo, p⟩ := h
  exact p w _ (Step.refl so) so rfl
theorem do_some (he : PE X e (tE ⟨X.K, X.mg⟩ W f)) : PO X (some e) (tO ⟨X.K, X.mg⟩ W (dPart (some f))) := by
  refine ⟨fun pins s σ H Q I h => (po_some he).run pins s σ H Q I (tG_mono (lift1 h) fun x H1 q => ?_)⟩
  obtain ⟨w, S, fr, d, rfl, so, fo, r, p⟩ := q
  dsimp only at p
  cases r with
  | int i => exact ⟨i, rfl, p w _ (Step.refl so) so rfl⟩
  | _ => exact p.elim
theorem de_sl (he : PE X e (tE ⟨X.K, X.mg⟩ W f)) (hl : PO X lo (tO ⟨X.K, X.mg⟩ W (dPart fl))) (hh : PO X hi (tO ⟨X.K, X.mg⟩ W (dPart fh))) : PE X (.Subscript e (.Slice lo hi none p2) pos) (tE ⟨X.K, X.mg⟩ W (dSl f fl fh)) := by
  refine PE.weaken (pe_slice slr he hl hh) fun σ H Q h => tG_mono (lift2 (R1 := Rep _) (R2 := fun _ a b => a = b) (k := fun d l fr S2 => (dPart fh fr S2).bnd fun h S3 => .ofO (aSl d l h S3)) (fun _ _ _ _ s r => rmono s r) h) fun x H1 h1 => tG_mono h1 fun y H2 h2 => ?_
  refine tG_mono (next1 (R1 := fun w (p : D × Option Int) (q : V × Option Int) => Rep ⟨X.K, X.mg⟩ w p.1 q.1 ∧ p.2 = q.2) (R2 := fun _ a b => a = b) (k := fun (p : D × Option Int) h fr S3 => .ofO (aSl p.1 p.2 h S3)) (fun _ _ _ _ s r => ⟨rmono s r.1, r.2⟩) h2) fun z H3 h3 => ?_
  obtain ⟨w, S, fr, q, e, so, fo, ⟨⟨rx, ry⟩, rz⟩, p⟩ := h3
  dsimp only at rx ry rz p
  subst ry rz
  exact ⟨w, S, q.1.1, e, so, rx, Post.ofO p⟩
end

/-! ### built-in functions -/
abbrev FB := List D → Sto → Option (D × Sto)
def dB (f : FB) (h : DenA) : DenE := fun fr S => (h fr S).bnd fun ds S' => .ofO (f ds S')
def rB (g : Gnd) (f : FB) : List V → Hp → VK → Prop := fun vs H Q => ∃ w S ds, w.H = H ∧ SOk g w S ∧ Reps g w ds vs ∧ Post g w (Rep g) (.ofO (f ds S)) Q (fun _ _ _ => False)
/-- on one list that was just made -/
def rBT (g : Gnd) (f : FB) : List V → Hp → VK → Prop := fun vs H Q => ∃ w S xs v, vs = [v] ∧ w.H = H ∧ SOk g w S ∧ RepT g w xs v ∧ Post g w (Rep g) (.ofO (f xs S)) Q (fun _ _ _ => False)
section
variable {X : Cx} {W : WX} {x : Str} {p pos : Pos} {e : Expr} {es : List Expr} {h : DenA} {f : FB} {id T : String}
theorem lift_b {g : Gnd} {σ : L2.St} {H : Hp} {Q : VK} (q : tE g W (dB f h) σ H Q) : tCB (rB g f) (tA g W h) σ H Q := by
  refine tG_mono (lift1 q) fun x H1 h1 => ?_
  obtain ⟨w, S, fr, ds, e, so, fo, r, p⟩ := h1
  exact ⟨w, S, ds, e, so, r, Post.ofO p⟩
theorem de_callB (hc : CallR X (.builtin id) (rB ⟨X.K, X.mg⟩ f)) (hg : Gl X x) (hm : X.mg x = none) (hv : bootBuiltins x = some (.builtin id)) (ha : PA X (e :: es) (tA ⟨X.K, X.mg⟩ W h)) (hn : x ≠ "__name__") (hdb : (x == ("__debug__" : Str)) = false)
    (he : starEach (e :: es) X.env = (false, eval e X.env) :: starEach es X.env) (hpl : (backTo pos (starEach es X.env)).any (·.1) = false) : PE X (.Call (.Name x p) (e :: es) [] pos) (tE ⟨X.K, X.mg⟩ W (dB f h)) :=
  PE.weaken (pe_callB hc hg hm hv ha hn hdb he hpl) fun _ _ _ q => lift_b q
theorem de_callTy (hc : CallR X (.type T) (rB ⟨X.K, X.mg⟩ f)) (hg : Gl X x) (hm : X.mg x = none) (hv : bootBuiltins x = some (.type T)) (ha : PA X (e :: es) (tA ⟨X.K, X.mg⟩ W h)) (hn : x ≠ "__name__") (hdb : (x == ("__debug__" : Str)) = false)
    (he : starEach (e :: es) X.env = (false, eval e X.env) :: starEach es X.env) (hpl : (backTo pos (starEach es X.env)).any (·.1) = false) : PE X (.Call (.Name x p) (e :: es) [] pos) (tE ⟨X.K, X.mg⟩ W (dB f h)) :=
  PE.weaken (pe_callTy hc hg hm hv ha hn hdb he hpl) fun _ _ _ q => lift_b q
theorem lift_bt {g : Gnd} {σ : L2.St} {H : Hp} {Q : VK} (q : tE g W (dB f h) σ H Q) : tCB (rBT g f) (tCons (tL g W h) tNil) σ H Q := by
  refine lift1L q _ fun v H1 h1 => ?_
  obtain ⟨w, S, fr, ds, e, so, fo, r, p⟩ := h1
  exact ⟨w, S, ds, v, rfl, e, so, r, Post.ofO p⟩
theorem de_callBT (hc : CallR X (.builtin id) (rBT ⟨X.K, X.mg⟩ f)) (hg : Gl X x) (hm : X.mg x = none) (hv : bootBuiltins x = some (.builtin id)) (ha : PE X e (tL ⟨X.K, X.mg⟩ W h)) (hn : x ≠ "__name__") (hdb : (x == ("__debug__" : Str)) = false)
    (he : starEach [e] X.env = (false, eval e X.env) :: starEach [] X.env) (hpl : (backTo pos (starEach [] X.env)).any (·.1) = false) : PE X (.Call (.Name x p) [e] [] pos) (tE ⟨X.K, X.mg⟩ W (dB f h)) :=
  PE.weaken (pe_callB hc hg hm hv (pa_cons ha pa_nil he) hn hdb he hpl) fun _ _ _ q => lift_bt q
theorem de_callTyT (hc : CallR X (.type T) (rBT ⟨X.K, X.mg⟩ f)) (hg : Gl X x) (hm : X.mg x = none) (hv : bootBuiltins x = some (.type T)) (ha : PE X e (tL ⟨X.K, X.mg⟩ W h)) (hn : x ≠ "__name__") (hdb : (x == ("__debug__" : Str)) = false)
    (he : starEach [e] X.env = (false, eval e X.env) :: starEach [] X.env) (hpl : (backTo pos (starEach [] X.env)).any (·.1) = false) : PE X (.Call (.Name x p) [e] [] pos) (tE ⟨X.K, X.mg⟩ W (dB f h)) :=
  PE.weaken (pe_callTy hc hg hm hv (pa_cons ha pa_nil he) hn hdb he hpl) fun _ _ _ q => lift_bt q
end
/-- on one list's items -/
def onSeq (f : FB) : FB := fun ds S => match ds with
  | [d] => match seqD d S with
    | some xs => f xs S
    | none => none
  | _ => none
/-- .. of a list, no tuple -/
def onLst (f : FB) : FB := fun ds S => match ds with
  | [.tup _] => none
  | _ => onSeq f ds S
def rLst (g : Gnd) (f : FB) : List V → Hp → VK → Prop := fun vs H Q => ∃ w S xs a us, vs = [.ref a] ∧ w.H = H ∧ SOk g w S ∧ SqL g.K H a us ∧ Reps g w xs us ∧ xs.length ≤ sizeLine ∧ Post g w (Rep g) (.ofO (f xs S)) Q (fun _ _ _ => False)
theorem rLst_T {g : Gnd} {f : FB} {vs : List V} {H : Hp} {Q : VK} (h : rBT g f vs H Q) : rLst g f vs H Q := by
  obtain ⟨w, S, xs, v, rfl, rfl, so, ⟨p, us, rfl, e, hn, l, r⟩, k⟩ := h
  exact ⟨w, S, xs, p, us, rfl, rfl, so, SqL.of e, r, l, k⟩
theorem rLst_D {g : Gnd} {f : FB} {vs : List V} {H : Hp} {Q : VK} (h : rB g (onLst f) vs H Q) : rLst g f vs H Q := by
  obtain ⟨w, S, ds, rfl, so, r, k⟩ := h
  unfold onLst onSeq at k
  split at k
  · exact k.elim
  · rename_i hnt
    split at k
    · rename_i d
      split at k
      · rename_i xs e
        cases r with
        | cons r1 r2 =>
          cases r2
          obtain ⟨a, us, rfl, hq, rv, l⟩ := seqL_ok so r1 e fun ys q => hnt ys (by rw [q])
          exact ⟨w, S, xs, a, us, rfl, rfl, so, hq, rv, l, k⟩
      · exact k.elim
    · exact k.elim
end DL
/-! DL, part g: the built-in functions and methods that are served. -/
namespace DL
open PySem PySem.Spec PyProof.Rows L2

def optAll {α : Type} (f : D → Option α) : List D → Option (List α)
  | [] => some []
  | d :: ds => match f d, optAll f ds with
    | some a, some as => some (a :: as)
    | _, _ => none
def blOf : D → Option Bool
  | .bl b => some b
  | _ => none
def intOf : D → Option Int
  | .int b => some b
  | _ => none
def strOf : D → Option Str
  | .str b => some b
  | _ => none
theorem optAll_map {α : Type} {f : D → Option α} {c : α → D} (hc : ∀ d a, f d = some a → d = c a) : ∀ {ds : List D} {as : List α}, optAll f ds = some as → ds = as.map c
  | [], _, e => by cases e; rfl
  | d :: ds, as, e => by
    unfold optAll at e
    split at e
    · rename_i a as' e1 e2
      cases e
      rw [hc d a e1, optAll_map hc e2]
      rfl
    · cases e
theorem blOf_ok {ds : List D} {bs : List Bool} (e : optAll blOf ds = some bs) : ds = bs.map D.bl := optAll_map (fun d a h => by cases d <;> cases h; rfl) e
theorem intOf_ok {ds : List D} {bs : List Int} (e : optAll intOf ds = some bs) : ds = bs.map D.int := optAll_map (fun d a h => by cases d <;> cases h; rfl) e
theorem strOf_ok {ds : List D} {bs : List Str} (e : optAll strOf ds = some bs) : ds = bs.map D.str := optAll_map (fun d a h => by cases d <;> cases h; rfl) e
theorem optAll_mk {α : Type} {f : D → Option α} {c : α → D} (hc : ∀ a, f (c a) = some a) : ∀ as : List α, optAll f (as.map c) = some as
  | [] => rfl
  | a :: as => by
    show (match f (c a), optAll f (as.map c) with | some a, some as => some (a :: as) | _, _ => none) = _
    rw [hc, optAll_mk hc]

def fAll : FB := fun xs S => (optAll blOf xs).map fun bs => (.bl (bs.all id), S)
def fAny : FB := fun xs S => (optAll blOf xs).map fun bs => (.bl (bs.any id), S)
def fSum : FB := fun xs S => (optAll intOf xs).map fun bs => (.int bs.sum, S)
def maxI : List Int → Int
  | [] => 0
  | n :: ns => ns.foldl max n
def minI : List Int → Int
  | [] => 0
  | n :: ns => ns.foldl min n
def fMax : FB := fun xs S => match optAll intOf xs with
  | some (n :: ns) => some (.int (maxI (n :: ns)), S)
  | _ => none
def fMin : FB := fun xs S => match optAll intOf xs with
  | some (n :: ns) => some (.int (minI (n :: ns)), S)
  | _ => none
def fTup : FB := fun xs S => some (.tup xs, S)
def fList : FB := fun xs S => some (.ob S.length, S ++ [.lst xs])
def fLen : FB := fun ds S => match ds with
  | [.str z] => if z.length ≤ sizeLine then some (.int z.length, S) else none
  | [d] => match seqD d S with
    | some xs => some (.int xs.length, S)
    | none => match d with
      | .ob n => match S[n]? with
        | some (.dk kvs) => some (.int kvs.length, S)
        | _ => none
      | _ => none
  | _ => none
def fAbs : FB := fun ds S => match ds with
  | [.int i] => some (.int (if i < 0 then -i else i), S)
  | _ => none
def fMax2 : FB := fun ds S => match ds with
  | [.int i, .int j] => some (.int (if j > i then j else i), S)
  | _ => none
def fMin2 : FB := fun ds S => match ds with
  | [.int i, .int j] => some (.int (if j < i then j else i), S)
  | _ => none
def fInt : FB := fun ds S => match ds with
  | [.int i] => some (.int i, S)
  | [.bl k] => some (.int (if k then 1 else 0), S)
  | [.str a] => if a.length ≤ 640 then (PySem.intText? a).map fun n => (.int n, S) else none
  | _ => none
def fStr : FB := fun ds S => match ds with
  | [.int i] => if i.natAbs.log2 < 1920 then some (.str (toString i), S) else none
  | _ => none
/-- the type of a thing that is no instance of an own class -/
def tyD (d : D) (S : Sto) : Option String := match d with
  | .non => some "NoneType"
  | .bl _ => some "bool"
  | .int _ => some "int"
  | .str _ => some "str"
  | .tup _ => some "tuple"
  | .rl _ => some "list"
  | .ob n => match S[n]? with
    | some (.lst _) => some "list"
    | some (.dk _) => some "dict"
    | _ => none
  | _ => none
def tyNames : List String := ["NoneType", "bool", "int", "str", "tuple", "list", "dict"]
def isTy (a b : String) : Bool := a == b || (a == "bool" && b == "int")
def fIsi : FB := fun ds S => match ds with
  | [d, .ty b] => match tyD d S with
    | some a => if b ∈ tyNames then some (.bl (isTy a b), S) else none
    | none => none
  | _ => none
section
variable {X : Cx}
theorem lst_bl {f : FB} {id : String} {q : List Bool → Bool} (hc : CallR X (.builtin id) (fun vs H Q => ∃ (a : Addr) (bs : List Bool), vs = [V.ref a] ∧ SqL X.K H a (bs.map V.bl) ∧ Q (.bl (q bs)) H))
    (hf : ∀ xs S, f xs S = (optAll blOf xs).map fun bs => (.bl (q bs), S)) : CallR X (.builtin id) (rLst ⟨X.K, X.mg⟩ f) := by
  intro pins s σ H xs us Q I r h
  obtain ⟨w, S, ds, a, vs, rfl, rfl, so, hq, rv, l, k⟩ := h
  rw [hf] at k
  cases e : optAll blOf ds with
  | none => rw [e] at k; exact k.elim
  | some bs =>
    rw [e] at k
    have e1 := blOf_ok e
    subst e1
    have e2 := rv.bls
    subst e2
    exact hc pins s σ _ _ us Q I r ⟨a, bs, rfl, hq, k w _ (Step.refl so) so (.bl _)⟩
theorem c_all (hc : X.calm = true) : CallR X (.builtin "all") (rLst ⟨X.K, X.mg⟩ fAll) := lst_bl (cr_all hc) fun _ _ => rfl
theorem c_any (hc : X.calm = true) : CallR X (.builtin "any") (rLst ⟨X.K, X.mg⟩ fAny) := lst_bl (cr_any hc) fun _ _ => rfl
theorem c_sum (hc : X.calm = true) : CallR X (.builtin "sum") (rLst ⟨X.K, X.mg⟩ fSum) := by
  intro pins s σ H xs us Q I r h
  obtain ⟨w, S, ds, a, vs, rfl, rfl, so, hq, rv, l, k⟩ := h
  unfold fSum at k
  cases e : optAll intOf ds with
  | none => rw [e] at k; exact k.elim
  | some bs =>
    rw [e] at k
    have e1 := intOf_ok e
    subst e1
    have e2 := rv.ints
    subst e2
    exact cr_sum hc pins s σ _ _ us Q I r ⟨a, bs, rfl, hq, k w _ (Step.refl so) so (.int _)⟩
theorem maxI_ge : ∀ (ns : List Int) (a : Int), a ≤ ns.foldl max a ∧ (∀ y ∈ ns, y ≤ ns.foldl max a) ∧ (ns.foldl max a = a ∨ ns.foldl max a ∈ ns)
  | [], a => ⟨Int.le_refl _, fun _ h => (nomatch h), .inl rfl⟩
  | n :: ns, a => by
    obtain ⟨h1, h2, h3⟩ := maxI_ge ns (max a n)
    show a ≤ ns.foldl max (max a n) ∧ (∀ y ∈ n :: ns, y ≤ ns.foldl max (max a n)) ∧ (ns.foldl max (max a n) = a ∨ ns.foldl max (max a n) ∈ n :: ns)
    refine ⟨by omega, fun y hy => ?_, ?_⟩
    · rcases List.mem_cons.mp hy with rfl | hy
      · omega
      · exact h2 y hy
    · rcases h3 with h3 | h3
      · by_cases q : n ≤ a
        · exact .inl (by omega)
        · refine .inr (List.mem_cons.mpr (.inl (by omega)))
      · exact .inr (List.mem_cons_of_mem _ h3)
theorem minI_le : ∀ (ns : List Int) (a : Int), ns.foldl min a ≤ a ∧ (∀ y ∈ ns, ns.foldl min a ≤ y) ∧ (ns.foldl min a = a ∨ ns.foldl min a ∈ ns)
  | [], a => ⟨Int.le_refl _, fun _ h => (nomatch h), .inl rfl⟩
  | n :: ns, a => by
    obtain ⟨h1, h2, h3⟩ := minI_le ns (min a n)
    show ns.foldl min (min a n) ≤ a ∧ (∀ y ∈ n :: ns, ns.foldl min (min a n) ≤ y) ∧ (ns.foldl min (min a n) = a ∨ ns.foldl min (min a n) ∈ n :: ns)
    refine ⟨by omega, fun y hy => ?_, ?_⟩
    · rcases List.mem_cons.mp hy with rfl | hy
      · omega
      · exact h2 y hy
    · rcases h3 with h3 | h3
      · by_cases q : a ≤ n
        · exact .inl (by omega)
        · refine .inr (List.mem_cons.mpr (.inl (by omega)))
      · exact .inr (List.mem_cons_of_mem _ h3)
theorem c_max (hc : X.calm = true) : CallR X (.builtin "max") (rLst ⟨X.K, X.mg⟩ fMax) := by
  intro pins s σ H xs us Q I r h
  obtain ⟨w, S, ds, a, vs, rfl, rfl, so, hq, rv, l, k⟩ := h
  unfold fMax at k
  split at k
  · rename_i n ns e
    have e1 := intOf_ok e
    subst e1
    have e2 := rv.ints
    subst e2
    refine cr_max hc pins s σ _ _ us Q I r ⟨a, _, rfl, hq, by simp, fun m hm hle => ?_⟩
    obtain ⟨h1, h2, h3⟩ := maxI_ge ns n
    have e3 : m = maxI (n :: ns) := by
      show m = ns.foldl max n
      have q1 : ns.foldl max n ≤ m := by
        rcases h3 with h3 | h3
        · rw [h3]; exact hle n List.mem_cons_self
        · exact hle _ (List.mem_cons_of_mem _ h3)
      rcases List.mem_cons.mp hm with z | z
      · omega
      · have := h2 m z
        omega
    rw [e3]
    exact k w _ (Step.refl so) so (.int _)
  · exact k.elim
theorem c_min (hc : X.calm = true) : CallR X (.builtin "min") (rLst ⟨X.K, X.mg⟩ fMin) := by
  intro pins s σ H xs us Q I r h
  obtain ⟨w, S, ds, a, vs, rfl, rfl, so, hq, rv, l, k⟩ := h
  unfold fMin at k
  split at k
  · rename_i n ns e
    have e1 := intOf_ok e
    subst e1
    have e2 := rv.ints
    subst e2
    refine cr_min hc pins s σ _ _ us Q I r ⟨a, _, rfl, hq, by simp, fun m hm hle => ?_⟩
    obtain ⟨h1, h2, h3⟩ := minI_le ns n
    have e3 : m = minI (n :: ns) := by
      show m = ns.foldl min n
      have q1 : m ≤ ns.foldl min n := by
        rcases h3 with h3 | h3
        · rw [h3]; exact hle n List.mem_cons_self
        · exact hle _ (List.mem_cons_of_mem _ h3)
      rcases List.mem_cons.mp hm with z | z
      · omega
      · have := h2 m z
        omega
    rw [e3]
    exact k w _ (Step.refl so) so (.int _)
  · exact k.elim
theorem CallR.imp {f : Value} {r r' : List V → Hp → VK → Prop} (h : CallR X f r) (k : ∀ vs H Q, r' vs H Q → r vs H Q) : CallR X f r' := fun pins s σ H xs us Q I rv q => h pins s σ H xs us Q I rv (k _ _ _ q)
theorem c_tupT : CallR X (.type "tuple") (rBT ⟨X.K, X.mg⟩ fTup) := by
  intro pins s σ H xs us Q I r h
  obtain ⟨w, S, ds, v, rfl, rfl, so, ⟨p, vs, rfl, e, hn, l, rv⟩, k⟩ := h
  refine call_tuple_of pins s σ _ _ us Q I r ⟨p, vs, rfl, .inl ⟨SqL.of e, fun q hq => ?_⟩⟩
  obtain ⟨st, so', _⟩ := Step.put so hq (.tup vs)
  exact k _ _ st so' (.tup (SqT.of upd_same) l (Reps.mono st.toMono _ _ rv))
theorem c_tup : CallR X (.type "tuple") (rB ⟨X.K, X.mg⟩ (onSeq fTup)) := by
  intro pins s σ H xs us Q I r h
  obtain ⟨w, S, ds, rfl, so, rd, k⟩ := h
  unfold onSeq at k
  split at k
  · rename_i d
    split at k
    · rename_i ys e
      cases rd with
      | cons r1 r2 =>
        cases r2
        obtain ⟨a, vs, rfl, hq, rv, l⟩ := seqD_ok so r1 e
        rcases hq with hq | hq
        · refine call_tuple_of pins s σ _ _ us Q I r ⟨a, vs, rfl, .inl ⟨hq, fun q hq => ?_⟩⟩
          obtain ⟨st, so', _⟩ := Step.put so hq (.tup vs)
          exact k _ _ st so' (.tup (SqT.of upd_same) l (Reps.mono st.toMono _ _ rv))
        · exact call_tuple_of pins s σ _ _ us Q I r ⟨a, vs, rfl, .inr ⟨hq, k w _ (Step.refl so) so (.tup hq l rv)⟩⟩
    · exact k.elim
  · exact k.elim
theorem c_list : CallR X (.type "list") (rB ⟨X.K, X.mg⟩ (onSeq fList)) := by
  intro pins s σ H xs us Q I r h
  obtain ⟨w, S, ds, rfl, so, rd, k⟩ := h
  unfold onSeq at k
  split at k
  · rename_i d
    split at k
    · rename_i ys e
      cases rd with
      | cons r1 r2 =>
        cases r2
        obtain ⟨a, vs, rfl, hq, rv, l⟩ := seqD_ok so r1 e
        refine call_list_of pins s σ _ _ us Q I r ⟨a, vs, rfl, hq, fun q hq => ?_⟩
        obtain ⟨st, so', rr⟩ := Step.new so hq (.lst l rv)
        exact k _ _ st so' rr
    · exact k.elim
  · exact k.elim
theorem c_len : CallR X (.builtin "len") (rB ⟨X.K, X.mg⟩ fLen) := by
  intro pins s σ H xs us Q I r h
  obtain ⟨w, S, ds, rfl, so, rd, k⟩ := h
  have stp := Step.refl so
  unfold fLen at k
  split at k
  · cases rd with
    | cons r1 r2 =>
      cases r1; cases r2
      split at k
      · rename_i hz
        exact call_len pins s σ _ _ us Q I r ⟨_, _, rfl, ⟨hz, rfl⟩, k w _ stp so (.int _)⟩
      · exact k.elim
  · cases rd with
    | cons r1 r2 =>
      cases r2
      split at k
      · rename_i ys e
        obtain ⟨a, vs, rfl, hq, rv, l⟩ := seqD_ok so r1 e
        have el := rv.length
        refine call_len pins s σ _ _ us Q I r ⟨_, ys.length, rfl, ?_, k w _ stp so (.int _)⟩
        rcases hq with hq | hq
        · exact .inl ⟨vs, hq, el⟩
        · exact .inr ⟨vs, hq, el⟩
      · split at k
        · split at k
          · rename_i kvs e
            cases r1
            obtain ⟨kus, eh, l, e3, r2⟩ := so.dka e
            have el := congrArg List.length e3
            rw [List.length_map, List.length_map] at el
            refine call_lenD pins s σ _ _ us Q I r ⟨_, kus, rfl, eh, ?_⟩
            rw [← el]
            exact k w _ stp so (.int _)
          · exact k.elim
        · exact k.elim
  · exact k.elim
theorem c_abs : CallR X (.builtin "abs") (rB ⟨X.K, X.mg⟩ fAbs) := by
  intro pins s σ H xs us Q I r h
  obtain ⟨w, S, ds, rfl, so, rd, k⟩ := h
  unfold fAbs at k
  split at k
  · cases rd with
    | cons r1 r2 =>
      cases r1; cases r2
      exact call_abs pins s σ _ _ us Q I r ⟨_, rfl, k w _ (Step.refl so) so (.int _)⟩
  · exact k.elim
theorem c_max2 (hc : X.calm = true) : CallR X (.builtin "max") (rB ⟨X.K, X.mg⟩ fMax2) := by
  intro pins s σ H xs us Q I r h
  obtain ⟨w, S, ds, rfl, so, rd, k⟩ := h
  unfold fMax2 at k
  split at k
  · cases rd with
    | cons r1 r2 =>
      cases r2 with
      | cons r3 r4 =>
        cases r1; cases r3; cases r4
        exact call_max2 hc pins s σ _ _ us Q I r ⟨_, _, rfl, k w _ (Step.refl so) so (.int _)⟩
  · exact k.elim
theorem c_min2 (hc : X.calm = true) : CallR X (.builtin "min") (rB ⟨X.K, X.mg⟩ fMin2) := by
  intro pins s σ H xs us Q I r h
  obtain ⟨w, S, ds, rfl, so, rd, k⟩ := h
  unfold fMin2 at k
  split at k
  · cases rd with
    | cons r1 r2 =>
      cases r2 with
      | cons r3 r4 =>
        cases r1; cases r3; cases r4
        exact call_min2 hc pins s σ _ _ us Q I r ⟨_, _, rfl, k w _ (Step.refl so) so (.int _)⟩
  · exact k.elim
theorem c_int : CallR X (.type "int") (rB ⟨X.K, X.mg⟩ fInt) := by
  intro pins s σ H xs us Q I r h
  obtain ⟨w, S, ds, rfl, so, rd, k⟩ := h
  have stp := Step.refl so
  unfold fInt at k
  split at k
  · cases rd with
    | cons r1 r2 =>
      cases r1; cases r2
      exact call_int1 pins s σ _ _ us Q I r (.inl ⟨_, rfl, k w _ stp so (.int _)⟩)
  · cases rd with
    | cons r1 r2 =>
      cases r1; cases r2
      exact call_int1 pins s σ _ _ us Q I r (.inr ⟨_, rfl, k w _ stp so (.int _)⟩)
  · cases rd with
    | cons r1 r2 =>
      cases r1; cases r2
      split at k
      · rename_i hl
        cases e : PySem.intText? _ with
        | none => rw [e] at k; exact k.elim
        | some n =>
          rw [e] at k
          exact call_int_str pins s σ _ _ us Q I r ⟨_, n, rfl, e, hl, k w _ stp so (.int _)⟩
      · exact k.elim
  · exact k.elim
theorem c_str : CallR X (.type "str") (rB ⟨X.K, X.mg⟩ fStr) := by
  intro pins s σ H xs us Q I r h
  obtain ⟨w, S, ds, rfl, so, rd, k⟩ := h
  unfold fStr at k
  split at k
  · cases rd with
    | cons r1 r2 =>
      cases r1; cases r2
      split at k
      · rename_i hl
        exact call_str_int pins s σ _ _ us Q I r ⟨_, rfl, hl, k w _ (Step.refl so) so (.str _)⟩
      · exact k.elim
  · exact k.elim
theorem tyD_ok {g : Gnd} {w : Wd} {S : Sto} (so : SOk g w S) {d : D} {v : V} {a : String} (r : Rep g w d v) (e : tyD d S = some a) : TyX g.K w.H v (.type a) ∧ a ∈ tyNames := by
  unfold tyD at e
  split at e
  · cases r; cases e; exact ⟨.base .non, by decide⟩
  · cases r; cases e; exact ⟨.base (.bl _), by decide⟩
  · cases r; cases e; exact ⟨.base (.int _), by decide⟩
  · cases r; cases e; exact ⟨.base (.str _), by decide⟩
  · cases e
    cases r with
    | tup t l r =>
      refine ⟨?_, by decide⟩
      rcases t with (t | ⟨o, t⟩) | ⟨o, its, n, h1, h2, h3⟩
      · exact .base (.tup t)
      · exact .fTuple t
      · exact .kTuple h1 h2
  · cases e
    cases r with
    | rl t l r =>
      refine ⟨?_, by decide⟩
      rcases t with ⟨o, t⟩ | ⟨o, its, n, h1, h2, h3⟩
      · exact .base (.frz t)
      · exact .kList h1 h2
  · cases r
    split at e
    · rename_i q
      cases e
      obtain ⟨vs, hv, rv, l⟩ := so.sql q
      exact ⟨.base (.lst hv), by decide⟩
    · rename_i q
      cases e
      obtain ⟨kus, eh, _⟩ := so.dka q
      exact ⟨.base (.dK eh), by decide⟩
    · cases e
  · cases e
theorem isTy_ok : ∀ a ∈ tyNames, ∀ b ∈ tyNames, kitB a b = some (isTy a b) := by decide +kernel
theorem c_isi : CallR X (.builtin "isinstance") (rB ⟨X.K, X.mg⟩ fIsi) := by
  intro pins s σ H xs us Q I r h
  obtain ⟨w, S, ds, rfl, so, rd, k⟩ := h
  unfold fIsi at k
  split at k
  · rename_i d b
    cases rd with
    | cons r1 r2 =>
      cases r2 with
      | cons r3 r4 =>
        cases r3; cases r4
        split at k
        · rename_i a e
          split at k
          · rename_i hb
            obtain ⟨t, ha⟩ := tyD_ok so r1 e
            exact call_isi pins s σ _ _ us Q I r ⟨_, _, _, _, _, rfl, .ty b, t, kit_ty (isTy_ok a ha b hb), k w _ (Step.refl so) so (.bl _)⟩
          · exact k.elim
        · exact k.elim
  · exact k.elim
end

/-! ### methods -/
abbrev FM := D → List D → Sto → Option (D × Sto)
/-- the built-in type whose methods a thing has -/
def mtyD (d : D) (S : Sto) : Option String := match d with
  | .str _ => some "str"
  | .rl _ => some "list"
  | .ob n => match S[n]? with
    | some (.lst _) => some "list"
    | some (.dk _) => some "dict"
    | _ => none
  | _ => none
def dM (T : String) (f : FM) (o : DenE) (h : DenA) : DenE := fun fr S => (o fr S).bnd fun d S' => if mtyD d S' = some T then (h fr S').bnd fun ds S2 => .ofO (f d ds S2) else .no
def rM (g : Gnd) (f : FM) : V → List V → Hp → VK → Prop := fun x vs H Q => ∃ w S d ds, w.H = H ∧ SOk g w S ∧ Rep g w d x ∧ Reps g w ds vs ∧ Post g w (Rep g) (.ofO (f d ds S)) Q (fun _ _ _ => False)
/-- the argument a list that was just made -/
def rMT (g : Gnd) (f : FM) : V → List V → Hp → VK → Prop := fun x vs H Q => ∃ w S d xs v, vs = [v] ∧ w.H = H ∧ SOk g w S ∧ Rep g w d x ∧ RepT g w xs v ∧ Post g w (Rep g) (.ofO (f d xs S)) Q (fun _ _ _ => False)
theorem mtyD_ok {g : Gnd} {w : Wd} {S : Sto} (so : SOk g w S) {d : D} {v : V} {T : String} (r : Rep g w d v) (e : mtyD d S = some T) : tyV g.K T v w.H := by
  unfold mtyD at e
  split at e
  · cases r; cases e; exact rfl
  · cases e
    cases r with
    | rl t l r => exact .inl ⟨rfl, _, t.sql⟩
  · cases r
    split at e
    · rename_i q
      cases e
      obtain ⟨vs, hv, rv, l⟩ := so.sql q
      exact .inl ⟨rfl, vs, SqL.of hv⟩
    · rename_i q
      cases e
      obtain ⟨kus, eh, _⟩ := so.dka q
      exact .inr (.inr (.inl ⟨rfl, .inl ⟨kus, eh⟩⟩))
    · cases e
  · cases e
section
variable {X : Cx} {W : WX} {o e : Expr} {es : List Expr} {fo : DenE} {h : DenA} {f : FM} {name : Str} {apos cpos : Pos} {T id : String}
theorem lift_m {g : Gnd} {σ : L2.St} {H : Hp} {Q : VK} (q : tE g W (dM T f fo h) σ H Q) : tBM g.K T (rM g f) (tE g W fo) (tA g W h) σ H Q := by
  refine tG_mono (lift1 q) fun x H1 h1 => ?_
  obtain ⟨w, S, fr, d, rfl, so, fo', r, p⟩ := h1
  dsimp only at p
  split at p
  · rename_i ht
    refine ⟨mtyD_ok so r ht, ?_⟩
    refine tG_mono (next1 (R1 := Rep g) (R2 := Reps g) (R := Rep g) (x := x) (f' := h) (k := fun d ds fr S2 => .ofO (f d ds S2)) (fun _ _ _ _ s r => rmono s r) ⟨w, S, fr, d, rfl, so, fo', r, p⟩) fun vs H2 h2 => ?_
    obtain ⟨w2, S2, fr2, q2, e2, so2, fo2, ⟨r1, r2⟩, p2⟩ := h2
    exact ⟨w2, S2, q2.1, q2.2, e2, so2, r1, r2, Post.ofO p2⟩
  · exact p.elim
theorem lift_m0 {g : Gnd} {σ : L2.St} {H : Hp} {Q : VK} (q : tE g W (dM T f fo dANil) σ H Q) : tBM0 g.K T (rM g f) (tE g W fo) σ H Q := by
  refine tG_mono (lift1 q) fun x H1 h1 => ?_
  obtain ⟨w, S, fr, d, rfl, so, fo', r, p⟩ := h1
  dsimp only at p
  split at p
  · rename_i ht
    exact ⟨mtyD_ok so r ht, w, S, d, [], rfl, so, r, .nil, Post.ofO p⟩
  · exact p.elim
theorem lift_mt {g : Gnd} {σ : L2.St} {H : Hp} {Q : VK} (q : tE g W (dM T f fo h) σ H Q) : tBM g.K T (rMT g f) (tE g W fo) (tCons (tL g W h) tNil) σ H Q := by
  refine tG_mono (lift1 q) fun x H1 h1 => ?_
  obtain ⟨w, S, fr, d, rfl, so, fo', r, p⟩ := h1
  dsimp only at p
  split at p
  · rename_i ht
    refine ⟨mtyD_ok so r ht, ?_⟩
    refine ⟨w, S, fr, rfl, so, fo', ?_⟩
    cases q : h fr S with
    | no => rw [q] at p; exact p
    | ex e S1 => rw [q] at p; exact p
    | ok ds S1 =>
      rw [q] at p
      intro w1 b st so1 _ r1
      exact ⟨w1, S1, d, ds, _, rfl, rfl, so1, rmono st r, r1, Post.ofO (Post.step st p)⟩
  · exact p.elim
theorem de_m (pa : PlainAttrs T) (slot : Slot T name id) (hty : typeOf (.builtin id) = pure (.type "method_descriptor")) (hm : MtR X id (rM ⟨X.K, X.mg⟩ f)) (ho : PE X o (tE ⟨X.K, X.mg⟩ W fo)) (ha : PA X (e :: es) (tA ⟨X.K, X.mg⟩ W h))
    (hbase : attributeBase o name X.env (eval o X.env) = eval o X.env)
    (hfew : ((backTo cpos (starEach (e :: es) X.env)).all (fun x => !x.1) && (backToKw cpos (keywordEach [] X.env)).all (fun x => x.1.isSome)
      && decide ((e :: es).length + ([] : List Keyword).length + (if ([] : List Keyword).isEmpty then 0 else 1) < 30)) = true)
    (hline : (apos.endLine == cpos.line) = true) (hs : starEach (e :: es) X.env = (false, eval e X.env) :: starEach es X.env) (hplain : (backTo cpos (starEach es X.env)).any (·.1) = false) :
    PE X (.Call (.Attribute o name apos) (e :: es) [] cpos) (tE ⟨X.K, X.mg⟩ W (dM T f fo h)) :=
  PE.weaken (pe_bm pa slot hty hm ho ha hbase hfew hline hs hplain) fun _ _ _ q => lift_m q
theorem de_m0 (pa : PlainAttrs T) (slot : Slot T name id) (hty : typeOf (.builtin id) = pure (.type "method_descriptor")) (hm : MtR X id (rM ⟨X.K, X.mg⟩ f)) (ho : PE X o (tE ⟨X.K, X.mg⟩ W fo))
    (hbase : attributeBase o name X.env (eval o X.env) = eval o X.env) (hline : (apos.endLine == cpos.line) = true) : PE X (.Call (.Attribute o name apos) [] [] cpos) (tE ⟨X.K, X.mg⟩ W (dM T f fo dANil)) :=
  PE.weaken (pe_bm0 pa slot hty hm ho hbase hline) fun _ _ _ q => lift_m0 q
theorem de_mt (pa : PlainAttrs T) (slot : Slot T name id) (hty : typeOf (.builtin id) = pure (.type "method_descriptor")) (hm : MtR X id (rMT ⟨X.K, X.mg⟩ f)) (ho : PE X o (tE ⟨X.K, X.mg⟩ W fo)) (ha : PE X e (tL ⟨X.K, X.mg⟩ W h))
    (hbase : attributeBase o name X.env (eval o X.env) = eval o X.env)
    (hfew : ((backTo cpos (starEach [e] X.env)).all (fun x => !x.1) && (backToKw cpos (keywordEach [] X.env)).all (fun x => x.1.isSome)
      && decide ([e].length + ([] : List Keyword).length + (if ([] : List Keyword).isEmpty then 0 else 1) < 30)) = true)
    (hline : (apos.endLine == cpos.line) = true) (hs : starEach [e] X.env = (false, eval e X.env) :: starEach [] X.env) (hplain : (backTo cpos (starEach [] X.env)).any (·.1) = false) :
    PE X (.Call (.Attribute o name apos) [e] [] cpos) (tE ⟨X.K, X.mg⟩ W (dM T f fo h)) :=
  PE.weaken (pe_bm pa slot hty hm ho (pa_cons ha pa_nil hs) hbase hfew hline hs hplain) fun _ _ _ q => lift_mt q
/-- the same name, of two types -/
def dM2 (T T' : String) (f f' : FM) (o : DenE) (h : DenA) : DenE := fun fr S => (o fr S).bnd fun d S' => if mtyD d S' = some T then (h fr S').bnd fun ds S2 => .ofO (f d ds S2) else
  if mtyD d S' = some T' then (h fr S').bnd fun ds S2 => .ofO (f' d ds S2) else .no
theorem de_m2 {T' : String} {f' : FM} {q : Expr} (h1 : PE X q (tE ⟨X.K, X.mg⟩ W (dM T f fo h))) (h2 : PE X q (tE ⟨X.K, X.mg⟩ W (dM T' f' fo h))) : PE X q (tE ⟨X.K, X.mg⟩ W (dM2 T T' f f' fo h)) := by
  refine PE.weaken (PE_or h1 h2) fun σ H Q q => ?_
  obtain ⟨w, S, fr, e, so, fo', p⟩ := q
  unfold dM2 at p
  by_cases hT : ∃ d S', fo fr S = .ok d S' ∧ mtyD d S' = some T
  · obtain ⟨d, S', e1, e2⟩ := hT
    refine .inl ⟨w, S, fr, e, so, fo', ?_⟩
    unfold dM
    rw [e1] at p ⊢
    dsimp only [Out.bnd] at p ⊢
    rw [if_pos e2] at p ⊢
    exact p
  · refine .inr ⟨w, S, fr, e, so, fo', ?_⟩
    unfold dM
    cases z : fo fr S with
    | no => rw [z] at p; exact p
    | ex e S1 => rw [z] at p; exact p
    | ok d S' =>
      rw [z] at p
      dsimp only [Out.bnd] at p ⊢
      rw [if_neg fun q => hT ⟨d, S', z, q⟩] at p
      exact p
end
end DL
/-! DL, part h: methods of lists, texts, dicts. -/
namespace DL
open PySem PySem.Spec PyProof.Rows L2

def mAppend : FM := fun d ds S => match d, ds with
  | .ob n, [x] => match S[n]? with
    | some (.lst xs) => if xs.length < sizeLine then some (.non, S.set n (.lst (xs ++ [x]))) else none
    | _ => none
  | _, _ => none
/-- extend by items -/
def mExtendT : FM := fun d ys S => match d with
  | .ob n => match S[n]? with
    | some (.lst xs) => if xs.length + ys.length ≤ sizeLine then some (.non, S.set n (.lst (xs ++ ys))) else none
    | _ => none
  | _ => none
def mExtend : FM := fun d ds S => match ds with
  | [.ob j] => match S[j]? with
    | some (.lst ys) => mExtendT d ys S
    | _ => none
  | _ => none
def mPop : FM := fun d ds S => match d, ds with
  | .ob n, [] => match S[n]? with
    | some (.lst xs) => match xs[xs.length - 1]? with
      | some y => some (y, S.set n (.lst xs.dropLast))
      | none => none
    | _ => none
  | .ob n, [.int i] => match S[n]? with
    | some (.lst xs) => if -(2 ^ 63) ≤ i ∧ i < 2 ^ 63 then match seqIndex? i xs.length with
      | some k => match xs[k]? with
        | some y => some (y, S.set n (.lst (xs.eraseIdx k)))
        | none => none
      | none => none else none
    | _ => none
  | _, _ => none
def mClear : FM := fun d ds S => match d, ds with
  | .ob n, [] => match S[n]? with
    | some (.lst _) => some (.non, S.set n (.lst []))
    | _ => none
  | _, _ => none
/-- the first place of an equal one -/
def idxP (p : PyData) : List PyData → Nat → Option Nat
  | [], _ => none
  | z :: zs, j => if PyData.eqv z p then some j else idxP p zs (j + 1)
def joinOk (a : Str) (ys : List Str) : Prop := (ys.map (·.length)).sum + ys.length * a.length ≤ 16777216
instance (a : Str) (ys : List Str) : Decidable (joinOk a ys) := inferInstanceAs (Decidable (_ ≤ _))
def mJoinT : FM := fun d xs S => match d with
  | .str a => match optAll strOf xs with
    | some ys => if joinOk a ys then some (.str (Txt.join a ys), S) else none
    | none => none
  | _ => none
def mJoin : FM := fun d ds S => match ds with
  | [x] => match seqD x S with
    | some xs => mJoinT d xs S
    | none => none
  | _ => none
def mSplit : FM := fun d ds S => match d, ds with
  | .str a, [.str b] => if (b.length == 0) = false ∧ a.length + 2 ≤ sizeLine ∧ (Txt.split a b).length ≤ sizeLine then some (.ob S.length, S ++ [.lst ((Txt.split a b).map D.str)]) else none
  | _, _ => none
def mSIndex : FM := fun d ds S => match d, ds with
  | .str a, [.str b] => match Builtin.Str.occurrences a b 0 a.length 1 with
    | i :: _ => some (.int (i : Nat), S)
    | [] => none
  | _, _ => none
def mGet : FM := fun d ds S => match d, ds with
  | .ob n, [k, x] => match S[n]? with
    | some (.dk kvs) => (keyD k).map fun kk => ((valD kvs kk).getD x, S)
    | _ => none
  | .ob n, [k] => match S[n]? with
    | some (.dk kvs) => (keyD k).map fun kk => ((valD kvs kk).getD .non, S)
    | _ => none
  | _, _ => none
section
variable {X : Cx}
theorem Reps.one {g : Gnd} {w : Wd} {d : D} {vs : List V} (r : Reps g w [d] vs) : ∃ v, vs = [v] ∧ Rep g w d v := by
  cases r with
  | cons a b => cases b; exact ⟨_, rfl, a⟩
theorem Reps.two {g : Gnd} {w : Wd} {d e : D} {vs : List V} (r : Reps g w [d, e] vs) : ∃ v u, vs = [v, u] ∧ Rep g w d v ∧ Rep g w e u := by
  cases r with
  | cons a b =>
    obtain ⟨u, rfl, c⟩ := b.one
    exact ⟨_, u, rfl, a, c⟩
theorem Reps.zero {g : Gnd} {w : Wd} {vs : List V} (r : Reps g w [] vs) : vs = [] := by
  cases r; rfl
theorem SOk.lt {g : Gnd} {w : Wd} {S : Sto} (so : SOk g w S) {i : Nat} {o : O} (e : S[i]? = some o) : i < w.n := by
  rw [so.len]
  exact (List.getElem?_eq_some_iff.mp e).1
theorem m_append : MtR X "list.append" (rM ⟨X.K, X.mg⟩ mAppend) := by
  intro pins s σ H x xs v us Q I rx rs h
  obtain ⟨w, S, d, ds, rfl, so, r, rd, k⟩ := h
  unfold mAppend at k
  split at k
  · rename_i n y
    split at k
    · rename_i zs q
      split at k
      · rename_i hl
        obtain ⟨vs, hv, rv, l⟩ := so.sql q
        obtain ⟨u, rfl, ru⟩ := rd.one
        cases r
        have el := rv.length
        obtain ⟨st, so'⟩ := Step.write so (so.lt q) (o := .lst (zs ++ [y])) (ho := .lst (vs ++ [u])) (.lst (by rw [List.length_append]; exact hl) (rv.append (.cons ru .nil)))
        exact mt_append pins s σ _ _ _ v us Q I rx rs ⟨_, vs, u, rfl, rfl, hv, by omega, k _ _ st so' .non⟩
      · exact k.elim
    · exact k.elim
  · exact k.elim
theorem m_extendT : MtR X "list.extend" (rMT ⟨X.K, X.mg⟩ mExtendT) := by
  intro pins s σ H x xs v us Q I rx rs h
  obtain ⟨w, S, d, ys, b, rfl, rfl, so, r, ⟨p, vb, rfl, hb, hn, lb, rb⟩, k⟩ := h
  unfold mExtendT at k
  split at k
  · split at k
    · rename_i n zs q
      split at k
      · rename_i hl
        obtain ⟨vs, hv, rv, l⟩ := so.sql q
        cases r
        have e1 := rv.length
        have e2 := rb.length
        obtain ⟨st, so'⟩ := Step.write so (so.lt q) (o := .lst (zs ++ ys)) (ho := .lst (vs ++ vb)) (.lst (by rw [List.length_append]; exact hl) (rv.append rb))
        exact mt_extend pins s σ _ _ _ v us Q I rx rs ⟨_, p, vs, vb, rfl, rfl, hv, hb, by omega, k _ _ st so' .non⟩
      · exact k.elim
    · exact k.elim
  · exact k.elim
theorem m_extend : MtR X "list.extend" (rM ⟨X.K, X.mg⟩ mExtend) := by
  intro pins s σ H x xs v us Q I rx rs h
  obtain ⟨w, S, d, ds, rfl, so, r, rd, k⟩ := h
  unfold mExtend at k
  split at k
  · split at k
    · rename_i j ys qb
      obtain ⟨u, rfl, ru⟩ := rd.one
      cases ru
      obtain ⟨vb, hb, rb, lb⟩ := so.sql qb
      unfold mExtendT at k
      split at k
      · split at k
        · rename_i n zs q
          split at k
          · rename_i hl
            obtain ⟨vs, hv, rv, l⟩ := so.sql q
            cases r
            have e1 := rv.length
            have e2 := rb.length
            obtain ⟨st, so'⟩ := Step.write so (so.lt q) (o := .lst (zs ++ ys)) (ho := .lst (vs ++ vb)) (.lst (by rw [List.length_append]; exact hl) (rv.append rb))
            exact mt_extend pins s σ _ _ _ v us Q I rx rs ⟨_, _, vs, vb, rfl, rfl, hv, hb, by omega, k _ _ st so' .non⟩
          · exact k.elim
        · exact k.elim
      · exact k.elim
    · exact k.elim
  · exact k.elim
theorem Reps.dropLast {g : Gnd} {w : Wd} {ds : List D} {vs : List V} (r : Reps g w ds vs) : Reps g w ds.dropLast vs.dropLast := by
  rw [List.dropLast_eq_take, List.dropLast_eq_take, r.length]
  exact r.take _
theorem Reps.eraseIdx {g : Gnd} {w : Wd} : ∀ {ds : List D} {vs : List V} (i : Nat), Reps g w ds vs → Reps g w (ds.eraseIdx i) (vs.eraseIdx i)
  | _, _, _, .nil => .nil
  | _, _, 0, .cons _ t => t
  | _, _, i + 1, .cons r t => .cons r (Reps.eraseIdx i t)
theorem m_pop : MtR X "list.pop" (rM ⟨X.K, X.mg⟩ mPop) := by
  intro pins s σ H x xs v us Q I rx rs h
  obtain ⟨w, S, d, ds, rfl, so, r, rd, k⟩ := h
  unfold mPop at k
  split at k
  · split at k
    · rename_i n zs q
      split at k
      · rename_i y ey
        obtain ⟨vs, hv, rv, l⟩ := so.sql q
        cases rd.zero
        cases r
        obtain ⟨u, eu, ru⟩ := rv.get ey
        obtain ⟨st, so'⟩ := Step.write so (so.lt q) (o := .lst zs.dropLast) (ho := .lst vs.dropLast) (.lst (by rw [List.length_dropLast]; omega) rv.dropLast)
        exact mt_pop pins s σ _ _ _ v us Q I rx rs ⟨_, vs, u, rfl, rfl, hv, by rw [← rv.length]; exact eu, k _ _ st so' (Rep.mono st.toMono _ _ ru)⟩
      · exact k.elim
    · exact k.elim
  · rename_i n i
    split at k
    · rename_i zs q
      split at k
      · rename_i hi
        split at k
        · rename_i j ej
          split at k
          · rename_i y ey
            obtain ⟨vs, hv, rv, l⟩ := so.sql q
            obtain ⟨u0, rfl, ru0⟩ := rd.one
            cases ru0
            cases r
            obtain ⟨u, eu, ru⟩ := rv.get ey
            obtain ⟨st, so'⟩ := Step.write so (so.lt q) (o := .lst (zs.eraseIdx j)) (ho := .lst (vs.eraseIdx j)) (.lst (Nat.le_trans (len_erase _ _) l) (rv.eraseIdx j))
            exact mt_popAt pins s σ _ _ _ v us Q I rx rs ⟨_, vs, i, j, u, rfl, rfl, hv, hi.1, hi.2, by rw [← rv.length]; exact ej, eu, k _ _ st so' (Rep.mono st.toMono _ _ ru)⟩
          · exact k.elim
        · exact k.elim
      · exact k.elim
    · exact k.elim
  · exact k.elim
theorem m_clear : MtR X "list.clear" (rM ⟨X.K, X.mg⟩ mClear) := by
  intro pins s σ H x xs v us Q I rx rs h
  obtain ⟨w, S, d, ds, rfl, so, r, rd, k⟩ := h
  unfold mClear at k
  split at k
  · split at k
    · rename_i n zs q
      obtain ⟨vs, hv, rv, l⟩ := so.sql q
      cases rd.zero
      cases r
      obtain ⟨st, so'⟩ := Step.write so (so.lt q) (o := .lst []) (ho := .lst []) (.lst (Nat.zero_le _) .nil)
      exact mt_clear pins s σ _ _ _ v us Q I rx rs ⟨_, vs, rfl, rfl, hv, k _ _ st so' .non⟩
    · exact k.elim
  · exact k.elim
theorem join_any {pins : List (Addr × Obj)} {σ : L2.St} {s : Shared} {w : Wd} {S : Sto} {d : D} {xs : List D} {x : V} {vs : List V} {a : Addr} {v : Value} {us : List Value} {Q : VK} (I : Inv X pins σ w.H s) (so : SOk ⟨X.K, X.mg⟩ w S) (rx : RelV x v) (rs : Vals [.ref a] us)
    (r : Rep ⟨X.K, X.mg⟩ w d x) (hq : SqL X.K w.H a vs ∨ SqT X.K w.H a vs) (rv : Reps ⟨X.K, X.mg⟩ w xs vs) (k : Post ⟨X.K, X.mg⟩ w (Rep ⟨X.K, X.mg⟩) (.ofO (mJoinT d xs S)) Q fun _ _ _ => False) :
    wpAny (model X.prog X.w) X.A (call (.builtin "str.join") (v :: us)) (EP X pins σ Q) X.xe s := by
  unfold mJoinT at k
  split at k
  · split at k
    · rename_i ys e
      have e1 := strOf_ok e
      subst e1
      have e2 := rv.strs
      subst e2
      split at k
      · rename_i hj
        cases r
        exact mt_join pins s σ _ _ _ v us Q I rx rs ⟨_, a, ys, rfl, rfl, hq, hj, k w _ (Step.refl so) so (.str _)⟩
      · exact k.elim
    · exact k.elim
  · exact k.elim
theorem m_joinT : MtR X "str.join" (rMT ⟨X.K, X.mg⟩ mJoinT) := by
  intro pins s σ H x xs v us Q I rx rs h
  obtain ⟨w, S, d, ys, b, rfl, rfl, so, r, ⟨p, vb, rfl, hb, hn, lb, rb⟩, k⟩ := h
  exact join_any I so rx rs r (.inl (SqL.of hb)) rb k
theorem m_join : MtR X "str.join" (rM ⟨X.K, X.mg⟩ mJoin) := by
  intro pins s σ H x xs v us Q I rx rs h
  obtain ⟨w, S, d, ds, rfl, so, r, rd, k⟩ := h
  unfold mJoin at k
  split at k
  · split at k
    · rename_i ys e
      obtain ⟨u0, rfl, ru0⟩ := rd.one
      obtain ⟨a, vs, rfl, hq, rv, l⟩ := seqD_ok so ru0 e
      exact join_any I so rx rs r hq rv k
    · exact k.elim
  · exact k.elim
theorem m_split : MtR X "str.split" (rM ⟨X.K, X.mg⟩ mSplit) := by
  intro pins s σ H x xs v us Q I rx rs h
  obtain ⟨w, S, d, ds, rfl, so, r, rd, k⟩ := h
  unfold mSplit at k
  split at k
  · split at k
    · rename_i hc
      obtain ⟨u0, rfl, ru0⟩ := rd.one
      cases ru0
      cases r
      refine mt_split pins s σ _ _ _ v us Q I rx rs ⟨_, _, rfl, rfl, hc.1, hc.2.1, fun p hp => ?_⟩
      obtain ⟨st, so', rr⟩ := Step.new so hp (o := .lst ((Txt.split _ _).map D.str)) (.lst (by rw [List.length_map]; exact hc.2.2) (Reps.of_strs _))
      exact k _ _ st so' rr
    · exact k.elim
  · exact k.elim
theorem m_sindex : MtR X "str.index" (rM ⟨X.K, X.mg⟩ mSIndex) := by
  intro pins s σ H x xs v us Q I rx rs h
  obtain ⟨w, S, d, ds, rfl, so, r, rd, k⟩ := h
  unfold mSIndex at k
  split at k
  · split at k
    · rename_i i rest e
      obtain ⟨u0, rfl, ru0⟩ := rd.one
      cases ru0
      cases r
      exact mt_sindex pins s σ _ _ _ v us Q I rx rs ⟨_, _, i, rest, rfl, rfl, e, k w _ (Step.refl so) so (.int _)⟩
    · exact k.elim
  · exact k.elim
theorem valD_getD {g : Gnd} {w : Wd} {k : Key} {kvs : List (Key × D)} {kus : List (Key × V)} {x : D} {u : V} (e : kvs.map (·.1) = kus.map (·.1)) (r : Reps g w (kvs.map (·.2)) (kus.map (·.2))) (rx : Rep g w x u) : Rep g w ((valD kvs k).getD x) ((valV kus k).getD u) := by
  obtain ⟨q1, q2⟩ := valD_ok (k := k) e r
  cases z : valD kvs k with
  | none => rw [q2 z]; exact rx
  | some d =>
    obtain ⟨v', ev, r'⟩ := q1 d z
    rw [ev]
    exact r'
theorem m_get (hu : X.A.units + 200 < cLine) : MtR X "dict.get" (rM ⟨X.K, X.mg⟩ mGet) := by
  intro pins s σ H x xs v us Q I rx rs h
  obtain ⟨w, S, d, ds, rfl, so, r, rd, k⟩ := h
  unfold mGet at k
  split at k
  · rename_i n k0 x0
    split at k
    · rename_i kvs q
      cases ek : keyD k0 with
      | none => rw [ek] at k; exact k.elim
      | some kk =>
        rw [ek] at k
        obtain ⟨u1, u2, rfl, r1, r2⟩ := rd.two
        obtain ⟨kus, eh, l, e3, rk⟩ := so.dka q
        have e1 := keyD_ok r1 ek
        subst e1
        obtain ⟨w1, w2, rfl, q1, q2⟩ := rs.two
        cases r
        obtain rfl : v = .ref (w.m n) := rx
        exact d_get2 (by omega) I (DGet.k (k := kk) eh) q1 q2 fun w' s3 I3 rw' => ⟨_, _, I3, rw', k w _ (Step.refl so) so (valD_getD e3 rk r2)⟩
    · exact k.elim
  · rename_i n k0
    split at k
    · rename_i kvs q
      cases ek : keyD k0 with
      | none => rw [ek] at k; exact k.elim
      | some kk =>
        rw [ek] at k
        obtain ⟨u1, rfl, r1⟩ := rd.one
        obtain ⟨kus, eh, l, e3, rk⟩ := so.dka q
        have e1 := keyD_ok r1 ek
        subst e1
        obtain ⟨w1, rfl, q1⟩ := rs.one
        cases r
        obtain rfl : v = .ref (w.m n) := rx
        exact d_get1 (by omega) I (DGet.k (k := kk) eh) q1 fun w' s3 I3 rw' => ⟨_, _, I3, rw', k w _ (Step.refl so) so (valD_getD e3 rk .non)⟩
    · exact k.elim
  · exact k.elim
end
end DL
/-! DL, part i: statements. -/
namespace DL
open PySem PySem.Spec PyProof.Rows L2

def PostS (g : Gnd) (w : Wd) (out : OutS) (D : Ends) (W : WX) : Prop := match out with
  | .ok .nx fr S => ∀ w' σ', Step w w' → SOk g w' S → FrOk g w' fr σ' → D.nx σ' w'.H
  | .ok .bk fr S => ∀ w' σ', Step w w' → SOk g w' S → FrOk g w' fr σ' → D.bk σ' w'.H
  | .ok .ct fr S => ∀ w' σ', Step w w' → SOk g w' S → FrOk g w' fr σ' → D.ct σ' w'.H
  | .ok (.rt d) _ S => ∀ w' v, Step w w' → SOk g w' S → Rep g w' d v → D.rt v w'.H
  | .ex e fr S => ∀ w' σ' c dx, Step w w' → SOk g w' S → FrOk g w' fr σ' → RepX g w' e c dx → W c dx σ' w'.H
  | .no => False
def tS (g : Gnd) (W : WX) (f : DenS) : TS := fun D σ H => ∃ w S fr, w.H = H ∧ SOk g w S ∧ FrOk g w fr σ ∧ PostS g w (f fr S) D W
theorem PostS.step {g : Gnd} {w w' : Wd} {out : OutS} {D : Ends} {W : WX} (a : Step w w') (p : PostS g w out D W) : PostS g w' out D W := by
  cases out with
  | ok f fr S =>
    cases f with
    | nx => exact fun w2 σ' s so fo => p w2 σ' (a.trans s) so fo
    | bk => exact fun w2 σ' s so fo => p w2 σ' (a.trans s) so fo
    | ct => exact fun w2 σ' s so fo => p w2 σ' (a.trans s) so fo
    | rt d => exact fun w2 v s so r => p w2 v (a.trans s) so r
  | ex e fr S => exact fun w2 σ' c dx s so fo rx => p w2 σ' c dx (a.trans s) so fo rx
  | no => exact p
theorem FrOk.set {g : Gnd} {w : Wd} {fr : Fr} {σ : L2.St} {d : D} {v : V} (f : FrOk g w fr σ) (i : Nat) (r : Rep g w d v) : FrOk g w (fr.set i (some d)) (σ.set i (some v)) := by
  refine ⟨by rw [List.length_set, List.length_set]; exact f.len, fun j e h => ?_⟩
  by_cases hj : j = i
  · subst hj
    have hl : j < fr.length := by
      have := (List.getElem?_eq_some_iff.mp h).1
      rw [List.length_set] at this
      exact this
    rw [List.getElem?_set_self hl] at h
    cases h
    exact ⟨v, List.getElem?_set_self (by rw [← f.len]; exact hl), r⟩
  · rw [List.getElem?_set_ne (Ne.symm hj)] at h ⊢
    exact f.at_ j e h
theorem FrOk.unset {g : Gnd} {w : Wd} {fr : Fr} {σ : L2.St} (f : FrOk g w fr σ) (i : Nat) (o : Option V) : FrOk g w (fr.set i none) (σ.set i o) := by
  refine ⟨by rw [List.length_set, List.length_set]; exact f.len, fun j e h => ?_⟩
  by_cases hj : j = i
  · subst hj
    have hl : j < fr.length := by
      have := (List.getElem?_eq_some_iff.mp h).1
      rw [List.length_set] at this
      exact this
    rw [List.getElem?_set_self hl] at h
    cases h
  · rw [List.getElem?_set_ne (Ne.symm hj)] at h ⊢
    exact f.at_ j e h

/-! ### blocks, small statements -/
/-- an expression, then a statement -/
def Out.thn {α : Type} (o : Out α) (fr : Fr) (f : α → Sto → OutS) : OutS := match o with
  | .ok a S => f a S
  | .ex e S => .ex e fr S
  | .no => .no
def dNil : DenS := fun fr S => .ok .nx fr S
def dSeq (a b : DenS) : DenS := fun fr S => match a fr S with
  | .ok .nx fr' S' => b fr' S'
  | o => o
def dBreak : DenS := fun fr S => .ok .bk fr S
def dCont : DenS := fun fr S => .ok .ct fr S
def dExpr (f : DenE) : DenS := fun fr S => (f fr S).thn fr fun _ S' => .ok .nx fr S'
def dRet (f : DenE) : DenS := fun fr S => (f fr S).thn fr fun d S' => .ok (.rt d) fr S'
def dRetN : DenS := fun fr S => .ok (.rt .non) fr S
def dIfS (t : DenT) (a b : DenS) : DenS := fun fr S => (t fr S).thn fr fun c S' => match c with
  | true => a fr S'
  | false => b fr S'
def dSet (i : Nat) (f : DenE) : DenS := fun fr S => (f fr S).thn fr fun d S' => .ok .nx (fr.set i (some d)) S'
section
variable {X : Cx} {W : WX} {g : Gnd} {st : Stmt} {rest : List Stmt} {a b : DenS} {e : Expr} {f : DenE} {pos : Pos} {t : DenT}
/-- the reading of an expression, what follows it a statement's end -/
theorem liftS {α β : Type} {R : Wd → α → β → Prop} {fe : Fr → Sto → Out α} {k : α → Fr → Sto → OutS} {D : Ends} {σ : L2.St} {H : Hp} {Q : β → Hp → Prop}
    (h : tS g W (fun fr S => (fe fr S).thn fr fun a S' => k a fr S') D σ H)
    (hq : ∀ w S fr a b, SOk g w S → FrOk g w fr σ → R w a b → PostS g w (k a fr S) D W → Q b w.H) : tG g W R fe σ H Q := by
  obtain ⟨w, S, fr, e, so, fo, p⟩ := h
  refine ⟨w, S, fr, e, so, fo, ?_⟩
  have p : PostS g w ((fe fr S).thn fr fun a S' => k a fr S') D W := p
  cases q : fe fr S with
  | ok a S1 =>
    rw [q] at p
    intro w1 x st so1 r
    exact hq w1 S1 fr a x so1 (fo.mono st.toMono) r (PostS.step st p)
  | ex e S1 =>
    rw [q] at p
    intro w1 c dx st so1 rx
    exact p w1 σ c dx st so1 (fo.mono st.toMono) rx
  | no =>
    rw [q] at p
    exact p
theorem nextS {α β α' β' : Type} {R1 : Wd → α → β → Prop} {R2 : Wd → α' → β' → Prop} (hm : Stays R1) {f' : Fr → Sto → Out α'} {k : α' → Sto → OutS} {D : Ends} {σ : L2.St} {Q : β' → Hp → Prop} {w : Wd} {S : Sto} {fr : Fr} {a : α} {x : β}
    (so : SOk g w S) (fo : FrOk g w fr σ) (r1 : R1 w a x) (p : PostS g w ((f' fr S).thn fr k) D W)
    (hq : ∀ w S b y, SOk g w S → FrOk g w fr σ → R1 w a x → R2 w b y → PostS g w (k b S) D W → Q y w.H) : tG g W R2 f' σ w.H Q := by
  refine ⟨w, S, fr, rfl, so, fo, ?_⟩
  cases q : f' fr S with
  | ok b S1 =>
    rw [q] at p
    intro w1 y st so1 r
    exact hq w1 S1 b y so1 (fo.mono st.toMono) (hm _ _ _ _ st r1) r (PostS.step st p)
  | ex e S1 =>
    rw [q] at p
    intro w1 c dx st so1 rx
    exact p w1 σ c dx st so1 (fo.mono st.toMono) rx
  | no =>
    rw [q] at p
    exact p
theorem ds_nil : PSs X [] (tS ⟨X.K, X.mg⟩ W dNil) := by
  refine PSs.weaken pss_nil fun D σ H q => ?_
  obtain ⟨w, S, fr, rfl, so, fo, p⟩ := q
  exact p w σ (Step.refl so) so fo
theorem ds_seq (h1 : PS X st (tS ⟨X.K, X.mg⟩ W a)) (h2 : PSs X rest (tS ⟨X.K, X.mg⟩ W b)) : PSs X (st :: rest) (tS ⟨X.K, X.mg⟩ W (dSeq a b)) := by
  refine PSs.weaken (pss_cons h1 h2) fun D σ H q => ?_
  obtain ⟨w, S, fr, e, so, fo, p⟩ := q
  refine ⟨w, S, fr, e, so, fo, ?_⟩
  unfold dSeq at p
  cases q : a fr S with
  | ok f fr1 S1 =>
    rw [q] at p
    cases f with
    | nx => exact fun w1 σ1 st so1 fo1 => ⟨w1, S1, fr1, rfl, so1, fo1, PostS.step st p⟩
    | bk => exact p
    | ct => exact p
    | rt d => exact p
  | ex e fr1 S1 => rw [q] at p; exact p
  | no => rw [q] at p; exact p
theorem ds_pass : PS X (.Pass pos) (tS ⟨X.K, X.mg⟩ W dNil) := by
  refine PS.weaken ps_pass fun D σ H q => ?_
  obtain ⟨w, S, fr, rfl, so, fo, p⟩ := q
  exact p w σ (Step.refl so) so fo
theorem ds_doc {x : Str} {j : Nat} {pos' : Pos} : PS X (.Expr (.Constant (.str x) j pos) pos') (tS ⟨X.K, X.mg⟩ W dNil) := by
  refine PS.weaken ps_doc fun D σ H q => ?_
  obtain ⟨w, S, fr, rfl, so, fo, p⟩ := q
  exact p w σ (Step.refl so) so fo
theorem ds_break : PS X (.Break pos) (tS ⟨X.K, X.mg⟩ W dBreak) := by
  refine PS.weaken ps_break fun D σ H q => ?_
  obtain ⟨w, S, fr, rfl, so, fo, p⟩ := q
  exact p w σ (Step.refl so) so fo
theorem ds_cont : PS X (.Continue pos) (tS ⟨X.K, X.mg⟩ W dCont) := by
  refine PS.weaken ps_continue fun D σ H q => ?_
  obtain ⟨w, S, fr, rfl, so, fo, p⟩ := q
  exact p w σ (Step.refl so) so fo
theorem ds_retN : PS X (.Return none pos) (tS ⟨X.K, X.mg⟩ W dRetN) := by
  refine PS.weaken ps_retN fun D σ H q => ?_
  obtain ⟨w, S, fr, rfl, so, fo, p⟩ := q
  exact p w _ (Step.refl so) so .non
theorem ds_ret (he : PE X e (tE ⟨X.K, X.mg⟩ W f)) : PS X (.Return (some e) pos) (tS ⟨X.K, X.mg⟩ W (dRet f)) :=
  PS.weaken (ps_ret he) fun D σ H q => liftS q fun w S fr d v so fo r p => p w v (Step.refl so) so r
theorem ds_expr (he : PE X e (tE ⟨X.K, X.mg⟩ W f)) (hs : swapsWith e none pos.line X.env = pure false) : PS X (.Expr e pos) (tS ⟨X.K, X.mg⟩ W (dExpr f)) :=
  PS.weaken (ps_expr he hs) fun D σ H q => liftS q fun w S fr d v so fo r p => p w σ (Step.refl so) so fo
theorem ds_if {c : Expr} {xs ys : List Stmt} (hc : PT X c (tT ⟨X.K, X.mg⟩ W t)) (ha : PSs X xs (tS ⟨X.K, X.mg⟩ W a)) (hb : PSs X ys (tS ⟨X.K, X.mg⟩ W b)) : PS X (.If c xs ys pos) (tS ⟨X.K, X.mg⟩ W (dIfS t a b)) :=
  PS.weaken (ps_if hc ha hb) fun D σ H q => liftS q fun w S fr d v so fo r p => by
    subst r
    cases d with
    | true => exact iteT ⟨w, S, fr, rfl, so, fo, p⟩
    | false => exact iteF ⟨w, S, fr, rfl, so, fo, p⟩
theorem ds_set {i : Nat} {x : Str} {pos' : Pos} (hN : X.N.Nodup) (hi : X.N[i]? = some x) (hx : Loc X.env.scope x) (he : PE X e (tE ⟨X.K, X.mg⟩ W f)) (hs : swapsWith e (some (.Name x pos')) pos.line X.env = pure false)
    (hf : X.fn x = true ∨ X.env.scope.names.lookup x = some .local) : PS X (.Assign [.Name x pos'] e pos) (tS ⟨X.K, X.mg⟩ W (dSet i f)) :=
  PS.weaken (ps_set hN hi hx he hs hf) fun D σ H q => liftS q fun w S fr d v so fo r p => p w _ (Step.refl so) so (fo.set i r)
end

/-! ### targets -/
abbrev DTg := D → Fr → Sto → Option Fr
abbrev DTgs := List D → Fr → Sto → Option Fr
def gN (i : Nat) : DTg := fun d fr _ => some (fr.set i (some d))
def gsNil : DTgs := fun ds fr _ => match ds with
  | [] => some fr
  | _ => none
def gsCons (t : DTg) (u : DTgs) : DTgs := fun ds fr S => match ds with
  | d :: r => match t d fr S with
    | some fr' => u r fr' S
    | none => none
  | [] => none
def gT (n : Nat) (t : DTgs) : DTg := fun d fr S => match seqD d S with
  | some xs => if xs.length = n then t xs fr S else none
  | none => none
/-- is: the slots that it may write -/
def tGt (g : Gnd) (is : List Nat) (f : DTg) : TG := fun v σ H Q => ∃ w S fr d, w.H = H ∧ SOk g w S ∧ FrOk g w fr σ ∧ Rep g w d v ∧ match f d fr S with
  | some fr' => ∀ σ', FrOk g w fr' σ' → wipe σ' is = wipe σ is → Q σ' H
  | none => False
def tGts (g : Gnd) (is : List Nat) (f : DTgs) : TGs := fun vs σ H Q => ∃ w S fr ds, w.H = H ∧ SOk g w S ∧ FrOk g w fr σ ∧ Reps g w ds vs ∧ match f ds fr S with
  | some fr' => ∀ σ', FrOk g w fr' σ' → wipe σ' is = wipe σ is → Q σ' H
  | none => False
theorem wipe_at : ∀ (is : List Nat) (σ : L2.St) (j : Nat), (wipe σ is)[j]? = if j ∈ is then (if j < σ.length then some none else none) else σ[j]?
  | [], σ, j => by simp [wipe]
  | i :: is, σ, j => by
    unfold wipe
    rw [List.getElem?_set, wipe_length, wipe_at is σ j]
    by_cases e : i = j
    · subst e
      simp
    · have e' : ¬ j = i := fun q => e q.symm
      simp [e, e']
theorem wipe_set {is : List Nat} {σ : L2.St} {i : Nat} {o : Option V} (h : i ∈ is) : wipe (σ.set i o) is = wipe σ is := by
  refine List.ext_getElem? fun j => ?_
  rw [wipe_at, wipe_at, List.length_set]
  by_cases hj : j ∈ is
  · rw [if_pos hj, if_pos hj]
  · rw [if_neg hj, if_neg hj, List.getElem?_set_ne (fun e : i = j => hj (by rw [← e]; exact h))]
theorem wipe_wipe (σ : L2.St) (is : List Nat) : wipe (wipe σ is) is = wipe σ is := by
  refine List.ext_getElem? fun j => ?_
  rw [wipe_at, wipe_at is σ, wipe_length]
  by_cases hj : j ∈ is
  · rw [if_pos hj, if_pos hj]
  · rw [if_neg hj, if_neg hj]
section
variable {X : Cx} {W : WX} {e : Expr} {es : List Expr} {pos : Pos} {t : DTg} {u : DTgs} {is : List Nat}
theorem dg_name {i : Nat} {x : Str} (hN : X.N.Nodup) (hi : X.N[i]? = some x) (hx : Loc X.env.scope x) (hf : X.fn x = true ∨ X.env.scope.names.lookup x = some .local) (hm : i ∈ is) : PG X (.Name x pos) (tGt ⟨X.K, X.mg⟩ is (gN i)) := by
  refine PG.weaken (pg_name hN hi hx hf) fun v σ H Q q => ?_
  obtain ⟨w, S, fr, d, rfl, so, fo, r, p⟩ := q
  exact p _ (fo.set i r) (wipe_set hm)
theorem PGs.weaken {t t' : TGs} (h : PGs X es t) (k : ∀ vs σ H Q, t' vs σ H Q → t vs σ H Q) : PGs X es t' := ⟨fun pins s σ H vs us Q I r hw => h.run pins s σ H vs us Q I r (k vs σ H Q hw)⟩
theorem dgs_nil : PGs X [] (tGts ⟨X.K, X.mg⟩ is gsNil) := by
  refine PGs.weaken pgs_nil fun vs σ H Q q => ?_
  obtain ⟨w, S, fr, ds, rfl, so, fo, r, p⟩ := q
  unfold gsNil at p
  split at p
  · rename_i e
    split at e
    · cases e
      exact ⟨r.zero, p _ fo rfl⟩
    · cases e
  · exact p.elim
theorem dgs_cons (h1 : PG X e (tGt ⟨X.K, X.mg⟩ is t)) (h2 : PGs X es (tGts ⟨X.K, X.mg⟩ is u)) (hs : (assignEach (e :: es) X.env).map (·.2) = assign e X.env :: (assignEach es X.env).map (·.2)) : PGs X (e :: es) (tGts ⟨X.K, X.mg⟩ is (gsCons t u)) := by
  refine PGs.weaken (pgs_cons h1 h2 hs) fun vs σ H Q q => ?_
  obtain ⟨w, S, fr, ds, rfl, so, fo, r, p⟩ := q
  cases r with
  | nil => exact p.elim
  | @cons d ds' v vs' r1 r2 =>
    refine ⟨v, vs', rfl, w, S, fr, d, rfl, so, fo, r1, ?_⟩
    have p : match (match t d fr S with | some fr' => u ds' fr' S | none => none) with
      | some fr' => ∀ σ', FrOk ⟨X.K, X.mg⟩ w fr' σ' → wipe σ' is = wipe σ is → Q σ' w.H
      | none => False := p
    cases q : t d fr S with
    | none => rw [q] at p; exact p.elim
    | some fr1 =>
      rw [q] at p
      refine fun σ1 fo1 e1 => ⟨w, S, fr1, ds', rfl, so, fo1, r2, ?_⟩
      dsimp only at p
      cases q2 : u ds' fr1 S with
      | none => rw [q2] at p; exact p.elim
      | some fr2 =>
        rw [q2] at p
        exact fun σ2 fo2 e2 => p σ2 fo2 (e2.trans e1)
theorem PG_or {t t' : TG} (h : PG X e t) (h' : PG X e t') : PG X e (fun v σ H Q => t v σ H Q ∨ t' v σ H Q) := ⟨fun pins s σ H v u Q I r q => q.elim (h.run pins s σ H v u Q I r) (h'.run pins s σ H v u Q I r)⟩
theorem dg_tup {k n : Nat} (hc : X.calm = true) (h : PGs X es (tGts ⟨X.K, X.mg⟩ is u)) (hn : (assignEach es X.env).length = n) (hst : (assignEach es X.env).findIdx? (·.1) = none) : PG X (.Tuple es k pos) (tGt ⟨X.K, X.mg⟩ is (gT n u)) := by
  refine PG.weaken (PG_or (pg_tup hc h hn hst) (pg_lst hc h hn hst)) fun v σ H Q q => ?_
  obtain ⟨w, S, fr, d, rfl, so, fo, r, p⟩ := q
  unfold gT at p
  cases q : seqD d S with
  | none => rw [q] at p; exact p.elim
  | some xs =>
    rw [q] at p
    dsimp only at p
    by_cases hl : xs.length = n
    · rw [if_pos hl] at p
      obtain ⟨a, vs, rfl, hq, rv, l⟩ := seqD_ok so r q
      rcases hq with hq | hq
      · exact .inr ⟨a, vs, rfl, hq, by rw [← rv.length]; exact hl, w, S, fr, xs, rfl, so, fo, rv, p⟩
      · exact .inl ⟨a, vs, rfl, hq, by rw [← rv.length]; exact hl, w, S, fr, xs, rfl, so, fo, rv, p⟩
    · rw [if_neg hl] at p
      exact p.elim
/-- target = value -/
def dAsg (t : DTg) (f : DenE) : DenS := fun fr S => (f fr S).thn fr fun d S' => match t d fr S' with
  | some fr' => .ok .nx fr' S'
  | none => .no
theorem ds_asg {tg : Expr} {f : DenE} (he : PE X e (tE ⟨X.K, X.mg⟩ W f)) (hg : PG X tg (tGt ⟨X.K, X.mg⟩ is t)) (hs : swapsWithSole [tg] e pos.line X.env = pure false) (hw : swappedStores [tg] e X.env = pure none)
    (h1 : (assignEach [tg] X.env).map (·.2) = [assign tg X.env]) : PS X (.Assign [tg] e pos) (tS ⟨X.K, X.mg⟩ W (dAsg t f)) := by
  refine PS.weaken (ps_asg he hg hs hw h1) fun D σ H q => liftS q fun w S fr d v so fo r p => ⟨w, S, fr, d, rfl, so, fo, r, ?_⟩
  cases q : t d fr S with
  | none => rw [q] at p; exact p.elim
  | some fr1 =>
    rw [q] at p
    exact fun σ1 fo1 _ => p w σ1 (Step.refl so) so fo1
/-- a, b = x, y -/
def dPar (i j : Nat) (h : DenA) : DenS := fun fr S => (h fr S).thn fr fun ds S' => match ds with
  | [d, e] => .ok .nx ((fr.set i (some d)).set j (some e)) S'
  | _ => .no
theorem ds_par {i j : Nat} {x y : Str} {a b : Expr} {h : DenA} {px py pt : Pos} {kt k2 : Nat} {pt2 : Pos} (hc : X.calm = true) (hN : X.N.Nodup) (hi : X.N[i]? = some x) (hj : X.N[j]? = some y) (hij : i ≠ j)
    (hx : X.env.scope.names.lookup x = some .local) (hy : X.env.scope.names.lookup y = some .local) (ha : PA X [a, b] (tA ⟨X.K, X.mg⟩ W h))
    (hw : swappedStores [.Tuple [.Name x px, .Name y py] kt pt] (.Tuple [a, b] k2 pt2) X.env = pure (some [x, y]))
    (hs : swapsWithSole [.Tuple [.Name x px, .Name y py] kt pt] (.Tuple [a, b] k2 pt2) pos.line X.env = pure false) :
    PS X (.Assign [.Tuple [.Name x px, .Name y py] kt pt] (.Tuple [a, b] k2 pt2) pos) (tS ⟨X.K, X.mg⟩ W (dPar i j h)) := by
  refine PS.weaken (ps_par hc hN hi hj hij hx hy ha hw hs) fun D σ H q => liftS q fun w S fr ds vs so fo r p => ?_
  split at p
  · obtain ⟨v, u, rfl, r1, r2⟩ := r.two
    exact ⟨v, u, rfl, p w _ (Step.refl so) so ((fo.set i r1).set j r2)⟩
  · exact p.elim
end

/-! ### o[i] = e -/
def putD (kvs : List (Key × D)) (k : Key) (v : D) : List (Key × D) :=
  if (kvs.any fun kv => decide (kv.1 = k)) = true then kvs.map (fun kv => if kv.1 = k then (kv.1, v) else kv) else kvs ++ [(k, v)]
def aSet (o i v : D) (S : Sto) : Option Sto := match o with
  | .ob n => match S[n]? with
    | some (.lst xs) => match i with
      | .int k => (ixN xs.length k).map fun j => S.set n (.lst (xs.set j v))
      | _ => none
    | some (.dk kvs) => match keyD i with
      | some k => if kvs.length < sizeLine then some (S.set n (.dk (putD kvs k v))) else none
      | none => none
    | _ => none
  | _ => none
def dSetIx (o i e : DenE) : DenS := fun fr S => (e fr S).thn fr fun v S1 => (o fr S1).thn fr fun x S2 => (i fr S2).thn fr fun y S3 => match aSet x y v S3 with
  | some S4 => .ok .nx fr S4
  | none => .no
def r3 (g : Gnd) (f : D → D → D → Sto → Option Sto) : TSet := fun o i v H Q => ∃ w S od id vd, w.H = H ∧ SOk g w S ∧ Rep g w od o ∧ Rep g w id i ∧ Rep g w vd v ∧ match f od id vd S with
  | some S' => ∀ w', Step w w' → SOk g w' S' → Q w'.H
  | none => False
theorem putD_ok {g : Gnd} {w : Wd} {k : Key} {x : D} {v : V} (rx : Rep g w x v) {kvs : List (Key × D)} {kus : List (Key × V)} (e : kvs.map (·.1) = kus.map (·.1)) (r : Reps g w (kvs.map (·.2)) (kus.map (·.2))) :
    (putD kvs k x).map (·.1) = (putK kus k v).map (·.1) ∧ Reps g w ((putD kvs k x).map (·.2)) ((putK kus k v).map (·.2)) ∧ (putD kvs k x).length ≤ kvs.length + 1 := by
  have hany : ∀ {kvs : List (Key × D)} {kus : List (Key × V)}, kvs.map (·.1) = kus.map (·.1) → (kvs.any fun kv => decide (kv.1 = k)) = (kus.any fun kv => decide (kv.1 = k)) := by
    intro kvs
    induction kvs with
    | nil => intro kus e; cases kus with | nil => rfl | cons _ _ => cases e
    | cons p r ih =>
      intro kus e
      cases kus with
      | nil => cases e
      | cons q s =>
        simp only [List.map_cons, List.cons.injEq] at e
        simp only [List.any_cons, e.1, ih e.2]
  have hmap : ∀ {kvs : List (Key × D)} {kus : List (Key × V)}, kvs.map (·.1) = kus.map (·.1) → Reps g w (kvs.map (·.2)) (kus.map (·.2)) →
      (kvs.map fun kv => if kv.1 = k then (kv.1, x) else kv).map (·.1) = (kus.map fun kv => if kv.1 = k then (kv.1, v) else kv).map (·.1) ∧
      Reps g w ((kvs.map fun kv => if kv.1 = k then (kv.1, x) else kv).map (·.2)) ((kus.map fun kv => if kv.1 = k then (kv.1, v) else kv).map (·.2)) := by
    intro kvs
    induction kvs with
    | nil => intro kus e r; cases kus with | nil => exact ⟨rfl, .nil⟩ | cons _ _ => cases e
    | cons p t ih =>
      intro kus e r
      cases kus with
      | nil => cases e
      | cons q s =>
        obtain ⟨a, b⟩ := p
        obtain ⟨c, dd⟩ := q
        simp only [List.map_cons, List.cons.injEq] at e
        obtain ⟨e1, e2⟩ := e
        subst e1
        cases r with
        | cons r1 r2 =>
          obtain ⟨h1, h2⟩ := ih e2 r2
          simp only [List.map_cons]
          by_cases q : a = k
          · subst q
            simp only [if_true]
            exact ⟨by rw [h1], .cons rx h2⟩
          · simp only [if_neg q]
            exact ⟨by rw [h1], .cons r1 h2⟩
  unfold putD putK
  rw [hany e]
  split
  · refine ⟨(hmap e r).1, (hmap e r).2, ?_⟩
    rw [List.length_map]
    omega
  · refine ⟨by rw [List.map_append, List.map_append, e]; rfl, ?_, by rw [List.length_append]; exact Nat.le_refl _⟩
    rw [List.map_append, List.map_append]
    exact r.append (.cons rx .nil)
section
variable {X : Cx} {W : WX}
theorem setr (hu : X.A.units + 200 < cLine) : PSet X (r3 ⟨X.K, X.mg⟩ aSet) := by
  intro pins s σ H o i v ov iv u Q I ro ri rv h
  obtain ⟨w, S, od, id, vd, rfl, so, r1, r2, r3, k⟩ := h
  unfold aSet at k
  cases od with
  | ob n =>
    cases r1
    dsimp only at k
    cases q : S[n]? with
    | none => rw [q] at k; exact k.elim
    | some ob =>
      rw [q] at k
      cases ob with
      | lst xs =>
        obtain ⟨vs, hv, rv', l⟩ := so.sql q
        cases id with
        | int kk =>
          cases r2
          dsimp only at k
          cases e : ixN xs.length kk with
          | none => rw [e] at k; exact k.elim
          | some j =>
            rw [e] at k
            obtain ⟨st, so'⟩ := Step.write so (so.lt q) (o := .lst (xs.set j vd)) (ho := .lst (vs.set j v)) (.lst (by rw [List.length_set]; exact l) (rv'.set r3 j))
            exact set_list pins s σ _ _ _ v ov iv u Q I ro ri rv ⟨_, vs, kk, j, rfl, rfl, hv, by rw [← rv'.length]; exact e, k _ st so'⟩
        | _ => exact k.elim
      | dk kvs =>
        dsimp only at k
        cases ek : keyD id with
        | none => rw [ek] at k; exact k.elim
        | some kk =>
          rw [ek] at k
          dsimp only at k
          by_cases hl : kvs.length < sizeLine
          · rw [if_pos hl] at k
            have e1 := keyD_ok r2 ek
            subst e1
            obtain ⟨kus, eh, l, e3, rk⟩ := so.dka q
            obtain ⟨p1, p2, p3⟩ := putD_ok (k := kk) r3 e3 rk
            have el := congrArg List.length e3
            rw [List.length_map, List.length_map] at el
            obtain ⟨st, so'⟩ := Step.write so (so.lt q) (o := .dk (putD kvs kk vd)) (ho := .dK (putK kus kk v)) (.dk (by omega) p1 p2)
            obtain rfl : ov = .ref (w.m n) := ro
            exact d_setItem (by omega) I (DPut.k (k := kk) eh (by omega)) ri rv fun s4 I4 => ⟨_, I4, k _ st so'⟩
          · rw [if_neg hl] at k
            exact k.elim
      | ins c fs => exact k.elim
  | _ => exact k.elim
theorem ds_setIx {o i e : Expr} {fo fi fe : DenE} {pos tpos : Pos} (hu : X.A.units + 200 < cLine) (he : PE X e (tE ⟨X.K, X.mg⟩ W fe)) (ho : PE X o (tE ⟨X.K, X.mg⟩ W fo)) (hi : PE X i (tE ⟨X.K, X.mg⟩ W fi))
    (ha : ∀ v, assign (.Subscript o i tpos) X.env v = (do
      let ov ← holding [v] (eval o X.env)
      let iv ← holding [v, ov] (eval i X.env)
      standAt tpos
      holding [v, ov, iv] (setItem ov iv v)
      release [v, ov, iv] []))
    (hs : swapsWithSole [.Subscript o i tpos] e pos.line X.env = pure false) (hw : swappedStores [.Subscript o i tpos] e X.env = pure none)
    (h1 : (assignEach [.Subscript o i tpos] X.env).map (·.2) = [assign (.Subscript o i tpos) X.env]) : PS X (.Assign [.Subscript o i tpos] e pos) (tS ⟨X.K, X.mg⟩ W (dSetIx fo fi fe)) := by
  refine PS.weaken (ps_asg he (pg_sub ho hi (setr hu) ha) hs hw h1) fun D σ H q => liftS q fun w S fr v x so fo1 r p => ?_
  refine nextS (R1 := Rep _) (R2 := Rep _) (fun _ _ _ _ s r => rmono s r) so fo1 r p fun w2 S2 od o2 so2 fo2 r2 ro p2 => ?_
  refine nextS (R1 := fun w (p : DL.D × DL.D) (q : V × V) => Rep _ w p.1 q.1 ∧ Rep _ w p.2 q.2) (a := (v, od)) (x := (x, o2)) (R2 := Rep _) (fun _ _ _ _ s r => ⟨rmono s r.1, rmono s r.2⟩) so2 fo2 ⟨r2, ro⟩ p2 fun w3 S3 id i3 so3 fo3 r3 ri p3 => ?_
  refine ⟨w3, S3, od, id, v, rfl, so3, r3.2, ri, r3.1, ?_⟩
  cases q : aSet od id v S3 with
  | none => rw [q] at p3; exact p3.elim
  | some S4 =>
    rw [q] at p3
    exact fun w4 st4 so4 => p3 w4 σ st4 so4 (fo3.mono st4.toMono)
end
end DL
/-! DL, part j: augmented assignment, while, for, comprehensions. -/
namespace DL
open PySem PySem.Spec PyProof.Rows L2

/-! ### name op= e -/
def aIAdd : F2 := fun a b S => match a, b with
  | .int i, .int j => some (.int (i + j), S)
  | .str x, .str y => if x.length + y.length ≤ sizeLine then some (.str (x ++ y), S) else none
  | .ob i, .ob j => match S[i]?, S[j]? with
    | some (.lst xs), some (.lst ys) => if xs.length + ys.length ≤ sizeLine then some (.ob i, S.set i (.lst (xs ++ ys))) else none
    | _, _ => none
  | _, _ => none
def dAug (i : Nat) (f : F2) (e : DenE) : DenS := fun fr S => match fr[i]? with
  | some (some x) => (e fr S).thn fr fun y S' => match f x y S' with
    | some (z, S2) => .ok .nx (fr.set i (some z)) S2
    | none => .no
  | _ => .no
section
variable {X : Cx} {W : WX} {g : Gnd} {e : Expr} {pos : Pos}
theorem ipr_add : PIp X .Add (r2 ⟨X.K, X.mg⟩ aIAdd) := by
  intro pins s σ H x y v u Q I rx ry h
  obtain ⟨w, S, a, b, rfl, so, ra, rb, p⟩ := h
  have stp := Step.refl so
  unfold aIAdd at p
  split at p
  · cases ra; cases rb
    exact iop_add pins s σ _ _ _ v u Q I rx ry ⟨_, _, rfl, rfl, p w _ stp so (.int _)⟩
  · cases ra; cases rb
    split at p
    · rename_i hl
      exact iop_add_str pins s σ _ _ _ v u Q I rx ry ⟨_, _, rfl, rfl, hl, p w _ stp so (.str _)⟩
    · exact p.elim
  · split at p
    · rename_i i j xs ys ea eb
      cases ra with
      | ob hi =>
        cases rb
        obtain ⟨vs, h1, r1, _⟩ := so.sql ea
        obtain ⟨us, h2, r2, _⟩ := so.sql eb
        split at p
        · rename_i hl
          have l1 := r1.length
          have l2 := r2.length
          obtain ⟨st, so'⟩ := Step.write so hi (o := .lst (xs ++ ys)) (ho := .lst (vs ++ us)) (.lst (by rw [List.length_append]; exact hl) (r1.append r2))
          exact iop_ext pins s σ _ _ _ v u Q I rx ry ⟨_, _, vs, us, rfl, rfl, h1, h2, by omega, p _ _ st so' (.ob hi)⟩
        · exact p.elim
    · exact p.elim
  · exact p.elim
theorem ipr_sub : PIp X .Sub (r2 ⟨X.K, X.mg⟩ aSub) := by
  intro pins s σ H x y v u Q I rx ry h
  obtain ⟨w, S, a, b, rfl, so, ra, rb, p⟩ := h
  unfold aSub iOp at p
  split at p
  · cases ra; cases rb
    exact ip_sub pins s σ _ _ _ v u Q I rx ry ⟨_, _, rfl, rfl, p w _ (Step.refl so) so (.int _)⟩
  · exact p.elim
theorem ds_aug {i : Nat} {x : Str} {op : Operator} {f : F2} {fe : DenE} {pos' : Pos} (hN : X.N.Nodup) (hi : X.N[i]? = some x) (hx : Loc X.env.scope x) (he : PE X e (tE ⟨X.K, X.mg⟩ W fe)) (ho : PIp X op (r2 ⟨X.K, X.mg⟩ f))
    (hf : X.fn x = true ∨ X.env.scope.names.lookup x = some .local) : PS X (.AugAssign (.Name x pos') op e pos) (tS ⟨X.K, X.mg⟩ W (dAug i f fe)) := by
  refine PS.weaken (ps_aug hN hi hx he ho hf) fun D σ H q => ?_
  obtain ⟨w, S, fr, rfl, so, fo, p⟩ := q
  unfold dAug at p
  split at p
  · rename_i d ed
    obtain ⟨v, ev, rv⟩ := fo.at_ i d ed
    refine ⟨v, ev, nextS (R1 := Rep _) (R2 := Rep _) (fun _ _ _ _ s r => rmono s r) so fo rv p fun w2 S2 b y so2 fo2 r2 rb p2 => ?_⟩
    refine ⟨w2, S2, d, b, rfl, so2, r2, rb, ?_⟩
    cases q : f d b S2 with
    | none => rw [q] at p2; exact p2.elim
    | some z =>
      obtain ⟨z, S3⟩ := z
      rw [q] at p2
      exact fun w3 u st so3 r3 => p2 w3 _ st so3 ((fo2.mono st.toMono).set i r3)
  · exact p.elim
end

/-! ### while -/
def whileN (t : DenT) (b : DenS) : Nat → DenS
  | 0 => fun _ _ => .no
  | n + 1 => fun fr S => (t fr S).thn fr fun c S' => match c with
    | false => .ok .nx fr S'
    | true => match b fr S' with
      | .ok .nx fr2 S2 => whileN t b n fr2 S2
      | .ok .ct fr2 S2 => whileN t b n fr2 S2
      | .ok .bk fr2 S2 => .ok .nx fr2 S2
      | o => o
def whileK (t : DenT) (b : DenS) (n : Nat) (c : Bool) (fr : Fr) (S' : Sto) : OutS := match c with
  | false => .ok .nx fr S'
  | true => match b fr S' with
    | .ok .nx fr2 S2 => whileN t b n fr2 S2
    | .ok .ct fr2 S2 => whileN t b n fr2 S2
    | .ok .bk fr2 S2 => .ok .nx fr2 S2
    | o => o
/-- more turns than any loop has -/
def turns : Nat := 10 ^ 12
def dWhile (t : DenT) (b : DenS) : DenS := whileN t b turns
section
variable {X : Cx} {W : WX} {pos : Pos}
theorem ds_while {c : Expr} {body : List Stmt} {t : DenT} {b : DenS} (hp : PassesOwn (model X.prog X.w) X.A X.env X.xe) (hc : PT X c (tT ⟨X.K, X.mg⟩ W t)) (hb : PSs X body (tS ⟨X.K, X.mg⟩ W b)) :
    PS X (.While c body [] pos) (tS ⟨X.K, X.mg⟩ W (dWhile t b)) := by
  refine PS.weaken (ps_while hp hc hb) fun D σ H q => ?_
  obtain ⟨w, S, fr, rfl, so, fo, p⟩ := q
  refine ⟨fun n σ H => ∃ w S fr, w.H = H ∧ SOk ⟨X.K, X.mg⟩ w S ∧ FrOk ⟨X.K, X.mg⟩ w fr σ ∧ PostS ⟨X.K, X.mg⟩ w (whileN t b n fr S) D W, ⟨turns, w, S, fr, rfl, so, fo, p⟩, ?_⟩
  rintro n σ H ⟨w, S, fr, rfl, so, fo, p⟩
  cases n with
  | zero => exact p.elim
  | succ n =>
    have h : tS ⟨X.K, X.mg⟩ W (fun fr S => (t fr S).thn fr fun c S' => whileK t b n c fr S') D σ w.H := ⟨w, S, fr, rfl, so, fo, p⟩
    refine liftS (D := D) (R := fun _ a b => a = b) (k := whileK t b n) h fun w1 S1 fr1 c c' so1 fo1 ec p1 => ?_
    subst ec
    cases c with
    | false => exact iteF (p1 w1 σ (Step.refl so1) so1 fo1)
    | true =>
      refine iteT ⟨fun σ H => ∃ w S fr, w.H = H ∧ SOk ⟨X.K, X.mg⟩ w S ∧ FrOk ⟨X.K, X.mg⟩ w fr σ ∧ PostS ⟨X.K, X.mg⟩ w (whileN t b n fr S) D W, fun σ' H' h => ⟨n, Nat.lt_succ_self n, h⟩, w1, S1, fr1, rfl, so1, fo1, ?_⟩
      unfold whileK at p1
      dsimp only at p1
      cases q : b fr1 S1 with
      | ok f fr2 S2 =>
        rw [q] at p1
        cases f with
        | nx => exact fun w2 σ2 st so2 fo2 => ⟨w2, S2, fr2, rfl, so2, fo2, PostS.step st p1⟩
        | ct => exact fun w2 σ2 st so2 fo2 => ⟨w2, S2, fr2, rfl, so2, fo2, PostS.step st p1⟩
        | bk => exact p1
        | rt d => exact p1
      | ex e fr2 S2 => rw [q] at p1; exact p1
      | no => rw [q] at p1; exact p1
end

/-! ### what is walked -/
structure Src where
  items : List D
  guard : List (Nat × List D)
/-- the walked lists stand as they were -/
def Src.ok (s : Src) (S : Sto) : Prop := ∀ p ∈ s.guard, S[p.1]? = some (.lst p.2)
structure Walks (g : Gnd) (w : Wd) (src : Src) (J : It) : Prop where
  len : src.items.length ≤ sizeLine
  go : ∀ w1 S1, Step w w1 → SOk g w1 S1 → src.ok S1 → ∀ (i : Nat) d, src.items[i]? = some d → J.go i w1.H ∧ ∀ v H2, J.yld i w1.H v H2 → ∃ w2, w2.H = H2 ∧ Step w1 w2 ∧ SOk g w2 S1 ∧ Rep g w2 d v
  stop : ∀ w1 S1, Step w w1 → SOk g w1 S1 → src.ok S1 → J.stop src.items.length w1.H
abbrev tI (g : Gnd) (W : WX) (f : Fr → Sto → Out Src) : TI := tG g W (Walks g) f
open Classical in
noncomputable def forL (ok : Sto → Prop) (t : DTg) (b : DenS) : List D → DenS
  | [], fr, S => if ok S then .ok .nx fr S else .no
  | x :: xs, fr, S => if ok S then (match t x fr S with
    | none => .no
    | some fr1 => match b fr1 S with
      | .ok .nx fr2 S2 => forL ok t b xs fr2 S2
      | .ok .ct fr2 S2 => forL ok t b xs fr2 S2
      | .ok .bk fr2 S2 => .ok .nx fr2 S2
      | o => o) else .no
noncomputable def dFor (t : DTg) (fi : Fr → Sto → Out Src) (b : DenS) : DenS := fun fr S => (fi fr S).thn fr fun src S' => forL src.ok t b src.items fr S'
open Classical in
noncomputable def compL (ok : Sto → Prop) (t : DTg) (tt : DenT) (e : DenE) (fr : Fr) : List D → Sto → Out (List D)
  | [], S => if ok S then .ok [] S else .no
  | x :: xs, S => if ok S then (match t x fr S with
    | none => .no
    | some fr1 => match tt fr1 S with
      | .ok false S2 => compL ok t tt e fr xs S2
      | .ok true S2 => match e fr1 S2 with
        | .ok d S3 => (compL ok t tt e fr xs S3).bnd fun ds S4 => .ok (d :: ds) S4
        | _ => .no
      | _ => .no) else .no
def wipeD (fr : Fr) : List Nat → Fr
  | [] => fr
  | v :: vs => (wipeD fr vs).set v none
noncomputable def dComp (is : List Nat) (fi : Fr → Sto → Out Src) (t : DTg) (tt : DenT) (e : DenE) : DenA := fun fr S => (fi fr S).bnd fun src S' => compL src.ok t tt e (wipeD fr is) src.items S'
def dYes : DenT := fun _ S => .ok true S
section
variable {X : Cx} {W : WX} {pos : Pos} {is : List Nat}
theorem ds_for {tg iter : Expr} {body : List Stmt} {fi : Fr → Sto → Out Src} {t : DTg} {b : DenS} (hp : PassesOwn (model X.prog X.w) X.A X.env X.xe) (hc : X.calm = true) (hi : PI X tg iter (tI ⟨X.K, X.mg⟩ W fi)) (hg : PG X tg (tGt ⟨X.K, X.mg⟩ is t))
    (hb : PSs X body (tS ⟨X.K, X.mg⟩ W b)) (hs : ∀ x, foldedSetIterable iter X.env x = pure x) : PS X (.For tg iter body [] pos) (tS ⟨X.K, X.mg⟩ W (dFor t fi b)) := by
  refine PS.weaken (ps_for hp hc hi hg hb hs) fun D σ H q => liftS q fun w S fr src J so fo wk p => ?_
  refine ⟨fun i m σ' H' => m = src.items.length - i ∧ i ≤ src.items.length ∧ ∃ w1 S1 fr1, w1.H = H' ∧ Step w w1 ∧ SOk ⟨X.K, X.mg⟩ w1 S1 ∧ FrOk ⟨X.K, X.mg⟩ w1 fr1 σ' ∧ PostS ⟨X.K, X.mg⟩ w1 (forL src.ok t b (src.items.drop i) fr1 S1) D W,
    ⟨_, rfl, Nat.zero_le _, w, S, fr, rfl, Step.refl so, so, fo, p⟩, ?_⟩
  rintro i m σ' H' ⟨rfl, hil, w1, S1, fr1, rfl, st1, so1, fo1, p1⟩
  by_cases hlt : i < src.items.length
  · have ed : src.items.drop i = src.items[i] :: src.items.drop (i + 1) := List.drop_eq_getElem_cons hlt
    rw [ed] at p1
    unfold forL at p1
    by_cases hok : src.ok S1
    · rw [if_pos hok] at p1
      obtain ⟨hgo, hy⟩ := wk.go w1 S1 st1 so1 hok i _ (List.getElem?_eq_getElem hlt)
      refine .inr ⟨hgo, fun σ' H' => ∃ w1 S1 fr1, w1.H = H' ∧ Step w w1 ∧ SOk ⟨X.K, X.mg⟩ w1 S1 ∧ FrOk ⟨X.K, X.mg⟩ w1 fr1 σ' ∧ PostS ⟨X.K, X.mg⟩ w1 (forL src.ok t b (src.items.drop (i + 1)) fr1 S1) D W, fun σ2 H2 h => ⟨src.items.length - (i + 1), by omega, rfl, hlt, h⟩, fun x H2 y => ?_⟩
      obtain ⟨w2, rfl, st2, so2, r2⟩ := hy x H2 y
      refine ⟨w2, S1, fr1, _, rfl, so2, fo1.mono st2.toMono, r2, ?_⟩
      cases q : t src.items[i] fr1 S1 with
      | none => rw [q] at p1; exact p1.elim
      | some fr2 =>
        rw [q] at p1
        dsimp only at p1 ⊢
        refine fun σ3 fo3 _ => ⟨w2, S1, fr2, rfl, so2, fo3, ?_⟩
        cases q2 : b fr2 S1 with
        | ok f fr4 S4 =>
          rw [q2] at p1
          cases f with
          | nx => exact fun w4 σ4 st4 so4 fo4 => ⟨w4, S4, fr4, rfl, st1.trans (st2.trans st4), so4, fo4, PostS.step (st2.trans st4) p1⟩
          | ct => exact fun w4 σ4 st4 so4 fo4 => ⟨w4, S4, fr4, rfl, st1.trans (st2.trans st4), so4, fo4, PostS.step (st2.trans st4) p1⟩
          | bk => exact fun w4 σ4 st4 so4 fo4 => p1 w4 σ4 (st2.trans st4) so4 fo4
          | rt d => exact fun w4 v st4 so4 r4 => p1 w4 v (st2.trans st4) so4 r4
        | ex e fr4 S4 =>
          rw [q2] at p1
          exact fun w4 σ4 c dx st4 so4 fo4 rx => p1 w4 σ4 c dx (st2.trans st4) so4 fo4 rx
        | no => rw [q2] at p1; exact p1
    · rw [if_neg hok] at p1
      exact p1.elim
  · have e : i = src.items.length := by omega
    subst e
    rw [List.drop_length] at p1
    unfold forL at p1
    by_cases hok : src.ok S1
    · rw [if_pos hok] at p1
      exact .inl ⟨wk.stop w1 S1 st1 so1 hok, p1 w1 σ' (Step.refl so1) so1 fo1⟩
    · rw [if_neg hok] at p1
      exact p1.elim
theorem wipeD_ok {g : Gnd} {w : Wd} {fr : Fr} {σ : L2.St} (f : FrOk g w fr σ) : ∀ is : List Nat, FrOk g w (wipeD fr is) (wipe σ is)
  | [] => f
  | v :: vs => (wipeD_ok f vs).unset v none
/-- the new list D stands apart from what is tracked -/
theorem SOk.side {g : Gnd} {w : Wd} {S : Sto} (so : SOk g w S) {p : Addr} {ys : List V} (hp : w.H p = some (.lst ys)) (hne : ∀ i, i < w.n → w.m i ≠ p) (zs : List V) : SOk g (w.put p (.lst zs)) S ∧ Mono w (w.put p (.lst zs)) := by
  have hk : ∀ b, b ≠ p → (upd w.H p (.lst zs)) b = w.H b := fun b e => upd_ne e
  have mo : Mono w (w.put p (.lst zs)) := by
    refine ⟨Nat.le_refl _, fun _ _ => rfl, fun a xs e => ?_, fun a ob u e => ?_⟩
    · show upd w.H p (.lst zs) a = _
      rw [hk a (ne_of e hp (by intro z; cases z))]
      exact e
    · show upd w.H p (.lst zs) a = _
      rw [hk a (ne_of e hp (by intro z; cases z))]
      exact e
  refine ⟨so.mono mo rfl fun i hi => ?_, mo⟩
  show upd w.H p (.lst zs) (w.m i) = _
  rw [hk _ (hne i hi)]
theorem lift_comp {fi : Fr → Sto → Out Src} {t : DTg} {tt : DenT} {fe : DenE} {g : Gnd} {σ : L2.St} {H : Hp} {Q : VK} (h : tL g W (dComp is fi t tt fe) σ H Q) :
    tLc (tI g W fi) (tGt g is t) (tT g (fun _ _ _ _ => False) tt) (tE g (fun _ _ _ _ => False) fe) is σ H Q := by
  obtain ⟨w0, S0, fr0, rfl, so0, fo0, p⟩ := h
  refine ⟨w0, S0, fr0, rfl, so0, fo0, ?_⟩
  have p : PostL g w0 ((fi fr0 S0).bnd fun src S' => compL src.ok t tt fe (wipeD fr0 is) src.items S') Q (fun c d H' => W c d σ H') := p
  cases q0 : fi fr0 S0 with
  | no => rw [q0] at p; exact p
  | ex e S => rw [q0] at p; exact p
  | ok src S =>
    rw [q0] at p
    intro w J st so wk p0 hp0
    have p : PostL g w0 (compL src.ok t tt fe (wipeD fr0 is) src.items S) Q (fun c d H' => W c d σ H') := p
    -- what remains, given what stands
    let rem (acc : List D) (o : Out (List D)) : Out (List D) := o.bnd fun ds S => .ok (acc ++ ds) S
    have hp0' : w0.H p0 = none := st.back hp0
    refine ⟨fun i m H' => m = src.items.length - i ∧ i ≤ src.items.length ∧ ∃ w1 S1 acc vs, w1.H = H' ∧ Step w w1 ∧ SOk g w1 S1 ∧ w1.H p0 = some (.lst vs) ∧ (∀ j, j < w1.n → w1.m j ≠ p0) ∧ Reps g w1 acc vs ∧ acc.length ≤ i ∧
      PostL g w0 (rem acc (compL src.ok t tt fe (wipeD fr0 is) (src.items.drop i) S1)) Q (fun c d H' => W c d σ H'), ?_, ?_⟩
    · obtain ⟨st1, so1, hn1⟩ := Step.put so hp0 (.lst [])
      refine ⟨_, rfl, Nat.zero_le _, w.put p0 (.lst []), S, [], [], rfl, st1, so1, upd_same, hn1, .nil, Nat.zero_le _, ?_⟩
      show PostL g w0 (rem [] (compL src.ok t tt fe (wipeD fr0 is) src.items S)) Q _
      cases q : compL src.ok t tt fe (wipeD fr0 is) src.items S with
      | no => rw [q] at p; exact p
      | ex e S => rw [q] at p; exact p
      | ok ds S => rw [q] at p; exact p
    · rintro i m H' ⟨rfl, hil, w1, S1, acc, vs, rfl, st1, so1, hD, hnD, ra, la, p1⟩
      by_cases hlt : i < src.items.length
      · have ed : src.items.drop i = src.items[i] :: src.items.drop (i + 1) := List.drop_eq_getElem_cons hlt
        rw [ed] at p1
        unfold compL at p1
        by_cases hok : src.ok S1
        · rw [if_pos hok] at p1
          obtain ⟨hgo, hy⟩ := wk.go w1 S1 st1 so1 hok i _ (List.getElem?_eq_getElem hlt)
          refine .inr ⟨hgo, fun H' => ∃ w1 S1 acc vs, w1.H = H' ∧ Step w w1 ∧ SOk g w1 S1 ∧ w1.H p0 = some (.lst vs) ∧ (∀ j, j < w1.n → w1.m j ≠ p0) ∧ Reps g w1 acc vs ∧ acc.length ≤ i + 1 ∧
            PostL g w0 (rem acc (compL src.ok t tt fe (wipeD fr0 is) (src.items.drop (i + 1)) S1)) Q (fun c d H' => W c d σ H'), fun H2 h => ⟨src.items.length - (i + 1), by omega, rfl, hlt, h⟩, fun x H2 y => ?_⟩
          obtain ⟨w2, rfl, st2, so2, r2⟩ := hy x H2 y
          have fo2 : FrOk g w2 (wipeD fr0 is) (wipe σ is) := wipeD_ok (fo0.mono (st.trans (st1.trans st2)).toMono) is
          refine ⟨w2, S1, wipeD fr0 is, _, rfl, so2, fo2, r2, ?_⟩
          cases q : t src.items[i] (wipeD fr0 is) S1 with
          | none => rw [q] at p1; exact p1.elim
          | some fr2 =>
            rw [q] at p1
            dsimp only at p1 ⊢
            refine fun σ3 fo3 ew => ⟨by rw [ew, wipe_wipe], w2, S1, fr2, rfl, so2, fo3, ?_⟩
            cases q2 : tt fr2 S1 with
            | no => rw [q2] at p1; exact p1.elim
            | ex e S4 => rw [q2] at p1; exact p1.elim
            | ok c S4 =>
              rw [q2] at p1
              intro w4 c' st4 so4 ec
              subst ec
              have hD4 := (st2.trans st4).untracked hD hnD
              have ra4 := Reps.mono (st2.trans st4).toMono _ _ ra
              cases c with
              | false => exact iteF ⟨w4, S4, acc, vs, rfl, st1.trans (st2.trans st4), so4, hD4.1, hD4.2, ra4, by omega, p1⟩
              | true =>
                refine iteT ⟨w4, S4, fr2, rfl, so4, fo3.mono st4.toMono, ?_⟩
                dsimp only at p1
                cases q3 : fe fr2 S4 with
                | no => rw [q3] at p1; exact p1.elim
                | ex e S5 => rw [q3] at p1; exact p1.elim
                | ok d S5 =>
                  rw [q3] at p1
                  intro w5 v st5 so5 rv
                  have hD5 := st5.untracked hD4.1 hD4.2
                  have ra5 := Reps.mono st5.toMono _ _ ra4
                  have le := ra5.length
                  have hlen := wk.len
                  refine ⟨vs, hD5.1, by omega, ?_⟩
                  obtain ⟨so6, mo6⟩ := so5.side hD5.1 hD5.2 (vs ++ [v])
                  have st15 := st1.trans (st2.trans (st4.trans st5))
                  refine ⟨w5.put p0 (.lst (vs ++ [v])), S5, acc ++ [d], vs ++ [v], rfl, ⟨st15.toMono.trans mo6, fun b o hb hx => ?_, fun j h1 h2 => st15.fr j h1 h2, fun j hj => so6.al j hj⟩, so6, upd_same, hD5.2, Reps.mono mo6 _ _ (ra5.append (.cons rv .nil)), by rw [List.length_append]; show acc.length + 1 ≤ i + 1; omega, ?_⟩
                  · show upd w5.H p0 (.lst (vs ++ [v])) b = _
                    rw [upd_ne (ne_of_none hb hp0)]
                    exact st15.kp b o hb hx
                  · dsimp only at p1
                    cases q6 : compL src.ok t tt fe (wipeD fr0 is) (src.items.drop (i + 1)) S5 with
                    | no => rw [q6] at p1; exact p1
                    | ex e S6 => rw [q6] at p1; exact p1
                    | ok ds S6 =>
                      rw [q6] at p1
                      show PostL g w0 (.ok ((acc ++ [d]) ++ ds) S6) Q _
                      rw [List.append_assoc]
                      exact p1
        · rw [if_neg hok] at p1
          exact p1.elim
      · have e : i = src.items.length := by omega
        subst e
        rw [List.drop_length] at p1
        unfold compL at p1
        by_cases hok : src.ok S1
        · rw [if_pos hok] at p1
          have p1 : PostL g w0 (.ok (acc ++ []) S1) Q _ := p1
          rw [List.append_nil] at p1
          have hlen := wk.len
          exact .inl ⟨wk.stop w1 S1 st1 so1 hok, p1 w1 p0 (st.trans st1) so1 hp0' ⟨p0, vs, rfl, hD, hnD, by omega, ra⟩⟩
        · rw [if_neg hok] at p1
          exact p1.elim
end
end DL
/-! DL, part k: what is walked, comprehensions, calls of defs. -/
namespace DL
open PySem PySem.Spec PyProof.Rows L2

def signs (z : Str) : List D := z.cps.toList.map fun c => .str ⟨#[c]⟩
def srcOf (d : D) (S : Sto) : Option Src := match d with
  | .tup xs => some ⟨xs, []⟩
  | .rl xs => some ⟨xs, []⟩
  | .str z => if z.length ≤ sizeLine then some ⟨signs z, []⟩ else none
  | .ob n => match S[n]? with
    | some (.lst xs) => some ⟨xs, [(n, xs)]⟩
    | _ => none
  | _ => none
def Out.ofS {α : Type} (o : Option α) (S : Sto) : Out α := match o with
  | some a => .ok a S
  | none => .no
def dISeq (f : DenE) : Fr → Sto → Out Src := fun fr S => (f fr S).bnd fun d S' => .ofS (srcOf d S') S'
def dIT (h : DenA) : Fr → Sto → Out Src := fun fr S => (h fr S).bnd fun xs S' => .ok ⟨xs, []⟩ S'
def upTo (lo : Int) (n : Nat) : List D := (List.range n).map fun (i : Nat) => D.int (lo + (i : Int))
def dIRange1 (h : DenA) : Fr → Sto → Out Src := fun fr S => (h fr S).bnd fun ds S' => match ds with
  | [.int j] => if -(2 ^ 62) ≤ j ∧ j ≤ 16777216 then .ok ⟨upTo 0 j.toNat, []⟩ S' else .no
  | _ => .no
def dIRange2 (h : DenA) : Fr → Sto → Out Src := fun fr S => (h fr S).bnd fun ds S' => match ds with
  | [.int i, .int j] => if (-(2 ^ 62) ≤ i ∧ i < 2 ^ 62 ∧ -(2 ^ 62) ≤ j ∧ j < 2 ^ 62) ∧ j - i ≤ 16777216 then .ok ⟨upTo i (j - i).toNat, []⟩ S' else .no
  | _ => .no
def zipD : List D → List D → List D
  | a :: as, b :: bs => .tup [a, b] :: zipD as bs
  | _, _ => []
def isTup : D → Bool
  | .tup _ => true
  | _ => false
def dIZip (h : DenA) : Fr → Sto → Out Src := fun fr S => (h fr S).bnd fun ds S' => match ds with
  | [a, b] => if isTup a = isTup b then (match srcOf a S', srcOf b S' with
    | some p, some q => match a, b with
      | .str _, _ => .no
      | _, .str _ => .no
      | _, _ => .ok ⟨zipD p.items q.items, p.guard ++ q.guard⟩ S'
    | _, _ => .no) else .no
  | _ => .no
def enumD (xs : List D) : Nat → List D
  | i => match xs with
    | [] => []
    | x :: r => .tup [.int (i : Int), x] :: enumD r (i + 1)
def dIEnum (h : DenA) : Fr → Sto → Out Src := fun fr S => (h fr S).bnd fun ds S' => match ds with
  | [.rl xs] => .ok ⟨enumD xs 0, []⟩ S'
  | [.ob n] => match S'[n]? with
    | some (.lst xs) => .ok ⟨enumD xs 0, [(n, xs)]⟩ S'
    | _ => .no
  | _ => .no
def dIEnumT (h : DenA) : Fr → Sto → Out Src := fun fr S => (h fr S).bnd fun xs S' => .ok ⟨enumD xs 0, []⟩ S'
section
variable {X : Cx} {W : WX} {g : Gnd} {tg e : Expr}
theorem walks_list {w : Wd} {src : Src} {a : Addr} (hl : src.items.length ≤ sizeLine) (hs : ∀ w1 S1, Step w w1 → SOk g w1 S1 → src.ok S1 → ∃ vs, SqL g.K w1.H a vs ∧ Reps g w1 src.items vs) : Walks g w src (Itl g.K a) := by
  refine ⟨hl, fun w1 S1 st so ok i d e => ?_, fun w1 S1 st so ok => ?_⟩
  · obtain ⟨vs, hq, rv⟩ := hs w1 S1 st so ok
    obtain ⟨v, ev, r⟩ := rv.get e
    refine ⟨⟨vs, v, hq, ev⟩, fun u H2 y => ?_⟩
    obtain ⟨rfl, y⟩ := y
    have := y vs hq
    rw [ev] at this
    cases this
    exact ⟨w1, rfl, Step.refl so, so, r⟩
  · obtain ⟨vs, hq, rv⟩ := hs w1 S1 st so ok
    exact ⟨vs, hq, Nat.le_of_eq rv.length.symm⟩
theorem walks_tup {w : Wd} {src : Src} {a : Addr} {vs : List V} (hl : src.items.length ≤ sizeLine) (hq : SqT g.K w.H a vs) (rv : Reps g w src.items vs) : Walks g w src (Itt g.K a) := by
  refine ⟨hl, fun w1 S1 st so ok i d e => ?_, fun w1 S1 st so ok => ?_⟩
  · have hq1 := st.sqt (K := g.K) hq
    obtain ⟨v, ev, r⟩ := (Reps.mono st.toMono _ _ rv).get e
    refine ⟨⟨vs, v, hq1, ev⟩, fun u H2 y => ?_⟩
    obtain ⟨rfl, y⟩ := y
    have := y vs hq1
    rw [ev] at this
    cases this
    exact ⟨w1, rfl, Step.refl so, so, r⟩
  · exact ⟨vs, st.sqt hq, Nat.le_of_eq rv.length.symm⟩
theorem walks_str {w : Wd} {z : Str} (hl : z.length ≤ sizeLine) : Walks g w ⟨signs z, []⟩ (Its z) := by
  have hz : (signs z).length = z.length := by unfold signs; rw [List.length_map]; simp [Str.length]
  refine ⟨by show (signs z).length ≤ _; omega, fun w1 S1 st so ok i d e => ?_, fun w1 S1 st so ok => ?_⟩
  · have e : (signs z)[i]? = some d := e
    unfold signs at e
    rw [List.getElem?_map, Array.getElem?_toList] at e
    cases q : z.cps[i]? with
    | none => rw [q] at e; cases e
    | some c =>
      rw [q] at e
      cases e
      refine ⟨(Array.getElem?_eq_some_iff.mp q).1, fun v H2 y => ?_⟩
      obtain ⟨rfl, c', ec, rfl⟩ := y
      rw [q] at ec
      cases ec
      exact ⟨w1, rfl, Step.refl so, so, .str _⟩
  · show z.cps.size ≤ (signs z).length
    rw [hz]
    exact Nat.le_refl _
theorem walks_range {w : Wd} {lo : Int} {n : Nat} (hl : n ≤ sizeLine) : Walks g w ⟨upTo lo n, []⟩ (Itr lo n) := by
  have hz : (upTo lo n).length = n := by unfold upTo; rw [List.length_map, List.length_range]
  refine ⟨by show (upTo lo n).length ≤ _; omega, fun w1 S1 st so ok i d e => ?_, fun w1 S1 st so ok => ?_⟩
  · have e : (upTo lo n)[i]? = some d := e
    have hi : i < n := by
      have := (List.getElem?_eq_some_iff.mp e).1
      omega
    unfold upTo at e
    rw [List.getElem?_map, List.getElem?_range hi] at e
    cases e
    refine ⟨hi, fun v H2 y => ?_⟩
    obtain ⟨rfl, rfl⟩ := y
    exact ⟨w1, rfl, Step.refl so, so, .int _⟩
  · show n ≤ (upTo lo n).length
    rw [hz]
    exact Nat.le_refl _
theorem di_seq {fe : DenE} (he : PE X e (tE ⟨X.K, X.mg⟩ W fe)) : PI X tg e (tI ⟨X.K, X.mg⟩ W (dISeq fe)) := by
  refine PI.weaken (PI_or (PI_or (pi_list he) (pi_tup he)) (pi_str he)) fun σ H R q => ?_
  have q0 := q
  obtain ⟨w, S, fr, eH, so, fo, p⟩ := q
  replace p : Post ⟨X.K, X.mg⟩ w (Walks ⟨X.K, X.mg⟩) ((fe fr S).bnd fun d S' => .ofS (srcOf d S') S') R (fun c d H' => W c d σ H') := p
  cases q1 : fe fr S with
  | no => rw [q1] at p; exact p.elim
  | ex e S1 =>
    rw [q1] at p
    refine .inr ⟨w, S, fr, eH, so, fo, ?_⟩
    rw [q1]
    exact p
  | ok d S1 =>
    rw [q1] at p
    replace p : Post ⟨X.K, X.mg⟩ w (Walks ⟨X.K, X.mg⟩) (.ofS (srcOf d S1) S1) R (fun c d H' => W c d σ H') := p
    unfold srcOf at p
    split at p
    · refine .inl (.inr ⟨w, S, fr, eH, so, fo, ?_⟩)
      rw [q1]
      intro w1 v st so1 r
      cases r with
      | tup t l r => exact ⟨_, rfl, ⟨_, t⟩, p w1 _ st so1 (walks_tup (src := ⟨_, []⟩) l t r)⟩
    · refine .inl (.inl ⟨w, S, fr, eH, so, fo, ?_⟩)
      rw [q1]
      intro w1 v st so1 r
      cases r with
      | rl t l r => exact ⟨_, rfl, ⟨_, t.sql⟩, p w1 _ st so1 (walks_list (src := ⟨_, []⟩) l fun w2 S2 st2 so2 _ => ⟨_, (st2.sqf t).sql, Reps.mono st2.toMono _ _ r⟩)⟩
    · split at p
      · rename_i hz
        refine .inr ⟨w, S, fr, eH, so, fo, ?_⟩
        rw [q1]
        intro w1 v st so1 r
        cases r
        exact ⟨_, rfl, p w1 _ st so1 (walks_str hz)⟩
      · exact p.elim
    · rename_i n
      split at p
      · rename_i xs e1
        refine .inl (.inl ⟨w, S, fr, eH, so, fo, ?_⟩)
        rw [q1]
        intro w1 v st so1 r
        cases r with
        | ob hi =>
          obtain ⟨vs, hv, rv, l⟩ := so1.sql e1
          refine ⟨_, rfl, ⟨_, SqL.of hv⟩, p w1 _ st so1 (walks_list (src := ⟨xs, [(n, xs)]⟩) l fun w2 S2 st2 so2 ok => ?_)⟩
          obtain ⟨vs2, hv2, rv2, _⟩ := so2.sql (ok (n, xs) (List.mem_singleton.mpr rfl))
          rw [st2.ag n hi] at hv2
          exact ⟨vs2, SqL.of hv2, rv2⟩
      · exact p.elim
    · exact p.elim
theorem di_t {h : DenA} (he : PE X e (tL ⟨X.K, X.mg⟩ W h)) : PI X tg e (tI ⟨X.K, X.mg⟩ W (dIT h)) := by
  refine PI.weaken (pi_list he) fun σ H R q => lift1L q _ fun v H1 h1 => ?_
  obtain ⟨w, S, fr, xs, rfl, so, fo, ⟨p0, vs, rfl, hv, hn, l, rv⟩, p⟩ := h1
  refine ⟨p0, rfl, ⟨_, SqL.of hv⟩, p w _ (Step.refl so) so (walks_list (src := ⟨xs, []⟩) l fun w2 S2 st2 so2 _ => ?_)⟩
  exact ⟨vs, SqL.of (st2.untracked hv hn).1, Reps.mono st2.toMono _ _ rv⟩
theorem di_range1 {a : Expr} {h : DenA} {p pos : Pos} (hg : Gl X "range") (hm : X.mg "range" = none) (ha : PA X [a] (tA ⟨X.K, X.mg⟩ W h)) (hs : starEach [a] X.env = [(false, eval a X.env)]) :
    PI X tg (.Call (.Name "range" p) [a] [] pos) (tI ⟨X.K, X.mg⟩ W (dIRange1 h)) := by
  refine PI.weaken (pi_range1 hg hm ha hs) fun σ H R q => tG_mono (lift1 q) fun vs H1 h1 => ?_
  obtain ⟨w, S, fr, ds, rfl, so, fo, r, p⟩ := h1
  dsimp only at p
  split at p
  · obtain ⟨v, rfl, rv⟩ := r.one
    cases rv
    split at p
    · rename_i hj
      exact ⟨_, rfl, hj.1, by omega, p w _ (Step.refl so) so (walks_range (by rw [sizeLine_eq]; omega))⟩
    · exact p.elim
  · exact p.elim
theorem di_range2 {a b : Expr} {h : DenA} {p pos : Pos} (hg : Gl X "range") (hm : X.mg "range" = none) (ha : PA X [a, b] (tA ⟨X.K, X.mg⟩ W h)) (hs : starEach [a, b] X.env = [(false, eval a X.env), (false, eval b X.env)]) (hs2 : starEach [b] X.env = [(false, eval b X.env)]) :
    PI X tg (.Call (.Name "range" p) [a, b] [] pos) (tI ⟨X.K, X.mg⟩ W (dIRange2 h)) := by
  refine PI.weaken (pi_range2 hg hm ha hs hs2) fun σ H R q => tG_mono (lift1 q) fun vs H1 h1 => ?_
  obtain ⟨w, S, fr, ds, rfl, so, fo, r, p⟩ := h1
  dsimp only at p
  split at p
  · obtain ⟨v, u, rfl, rv, ru⟩ := r.two
    cases rv
    cases ru
    split at p
    · rename_i hj
      exact ⟨_, _, rfl, hj.1, p w _ (Step.refl so) so (walks_range (by rw [sizeLine_eq]; omega))⟩
    · exact p.elim
  · exact p.elim
theorem zipD_get : ∀ (xs ys : List D) (i : Nat) (d : D), (zipD xs ys)[i]? = some d → ∃ x y, xs[i]? = some x ∧ ys[i]? = some y ∧ d = .tup [x, y]
  | [], _, _, _, e => by cases e
  | _ :: _, [], _, _, e => by cases e
  | x :: xs, y :: ys, 0, d, e => by cases e; exact ⟨x, y, rfl, rfl, rfl⟩
  | x :: xs, y :: ys, i + 1, d, e => zipD_get xs ys i d e
theorem zipD_len : ∀ xs ys : List D, (zipD xs ys).length ≤ xs.length ∧ (xs.length ≤ (zipD xs ys).length ∨ ys.length ≤ (zipD xs ys).length)
  | [], _ => ⟨Nat.le_refl _, .inl (Nat.le_refl _)⟩
  | _ :: _, [] => ⟨Nat.zero_le _, .inr (Nat.le_refl _)⟩
  | x :: xs, y :: ys => by
    obtain ⟨h1, h2⟩ := zipD_len xs ys
    show (zipD xs ys).length + 1 ≤ xs.length + 1 ∧ (xs.length + 1 ≤ (zipD xs ys).length + 1 ∨ ys.length + 1 ≤ (zipD xs ys).length + 1)
    omega
theorem Step.newTup (so : SOk g w S) {p : Addr} (hp : w.H p = none) {ds : List D} {vs : List V} (hl : ds.length ≤ sizeLine) (r : Reps g w ds vs) :
    Step w (w.put p (.tup vs)) ∧ SOk g (w.put p (.tup vs)) S ∧ Rep g (w.put p (.tup vs)) (.tup ds) (.ref p) := by
  obtain ⟨st, so', _⟩ := Step.put so hp (.tup vs)
  exact ⟨st, so', .tup (SqT.of upd_same) hl (Reps.mono st.toMono _ _ r)⟩
theorem two_line : (2 : Nat) ≤ sizeLine := by decide
theorem walks_zip {w : Wd} {src : Src} {xs ys : List D} {a b : Addr} (es : src.items = zipD xs ys) (hl : xs.length ≤ sizeLine)
    (hs : ∀ w1 S1, Step w w1 → SOk g w1 S1 → src.ok S1 → (∃ vs, SqL g.K w1.H a vs ∧ Reps g w1 xs vs) ∧ ∃ us, SqL g.K w1.H b us ∧ Reps g w1 ys us) : Walks g w src (Itz g.K a b) := by
  obtain ⟨z1, z2⟩ := zipD_len xs ys
  refine ⟨by rw [es]; omega, fun w1 S1 st so ok i d e => ?_, fun w1 S1 st so ok => ?_⟩
  · obtain ⟨⟨vs, hq, rv⟩, us, hq2, rv2⟩ := hs w1 S1 st so ok
    rw [es] at e
    obtain ⟨x, y, ex, ey, rfl⟩ := zipD_get _ _ _ _ e
    obtain ⟨v, ev, r1⟩ := rv.get ex
    obtain ⟨u, eu, r2⟩ := rv2.get ey
    refine ⟨⟨vs, us, v, u, hq, hq2, ev, eu⟩, fun t H2 q => ?_⟩
    obtain ⟨T, x', y', rfl, hT, rfl, qx, qy⟩ := q
    have e1 := qx vs hq
    have e2 := qy us hq2
    rw [ev] at e1
    rw [eu] at e2
    cases e1
    cases e2
    obtain ⟨st2, so2, r⟩ := Step.newTup so hT (ds := [x, y]) two_line (.cons r1 (.cons r2 .nil))
    exact ⟨_, rfl, st2, so2, r⟩
  · obtain ⟨⟨vs, hq, rv⟩, us, hq2, rv2⟩ := hs w1 S1 st so ok
    have e1 := rv.length
    have e2 := rv2.length
    refine ⟨vs, us, hq, hq2, ?_⟩
    rw [es]
    omega
theorem walks_zipT {w : Wd} {src : Src} {xs ys : List D} {a b : Addr} {vs us : List V} (es : src.items = zipD xs ys) (hl : xs.length ≤ sizeLine) (hq : SqT g.K w.H a vs) (rv : Reps g w xs vs) (hq2 : SqT g.K w.H b us) (rv2 : Reps g w ys us) :
    Walks g w src (RZ.ItzT g.K a b) := by
  obtain ⟨z1, z2⟩ := zipD_len xs ys
  refine ⟨by rw [es]; omega, fun w1 S1 st so ok i d e => ?_, fun w1 S1 st so ok => ?_⟩
  · rw [es] at e
    obtain ⟨x, y, ex, ey, rfl⟩ := zipD_get _ _ _ _ e
    obtain ⟨v, ev, r1⟩ := (Reps.mono st.toMono _ _ rv).get ex
    obtain ⟨u, eu, r2⟩ := (Reps.mono st.toMono _ _ rv2).get ey
    refine ⟨⟨vs, us, v, u, st.sqt hq, st.sqt hq2, ev, eu⟩, fun t H2 q => ?_⟩
    obtain ⟨T, x', y', rfl, hT, rfl, qx, qy⟩ := q
    have e1 := qx vs (st.sqt hq)
    have e2 := qy us (st.sqt hq2)
    rw [ev] at e1
    rw [eu] at e2
    cases e1
    cases e2
    obtain ⟨st2, so2, r⟩ := Step.newTup so hT (ds := [x, y]) two_line (.cons r1 (.cons r2 .nil))
    exact ⟨_, rfl, st2, so2, r⟩
  · have e1 := rv.length
    have e2 := rv2.length
    refine ⟨vs, us, st.sqt hq, st.sqt hq2, ?_⟩
    rw [es]
    omega
/-- a list by its source -/
theorem src_list {w : Wd} {S : Sto} {d : D} {v : V} {src : Src} (so : SOk g w S) (r : Rep g w d v) (e : srcOf d S = some src) (h1 : isTup d = false) (h2 : ∀ z, d ≠ .str z) :
    ∃ a, v = .ref a ∧ src.items.length ≤ sizeLine ∧ (∃ vs, SqL g.K w.H a vs) ∧ ∀ w1 S1, Step w w1 → SOk g w1 S1 → src.ok S1 → ∃ vs, SqL g.K w1.H a vs ∧ Reps g w1 src.items vs := by
  unfold srcOf at e
  split at e
  · cases h1
  · cases e
    cases r with
    | rl t l r => exact ⟨_, rfl, l, ⟨_, t.sql⟩, fun w1 S1 st so1 _ => ⟨_, (st.sqf t).sql, Reps.mono st.toMono _ _ r⟩⟩
  · exact (h2 _ rfl).elim
  · rename_i n
    split at e
    · rename_i xs q
      cases e
      cases r with
      | ob hi =>
        obtain ⟨vs, hv, rv, l⟩ := so.sql q
        refine ⟨_, rfl, l, ⟨vs, SqL.of hv⟩, fun w1 S1 st so1 ok => ?_⟩
        obtain ⟨vs2, hv2, rv2, _⟩ := so1.sql (ok (n, xs) (List.mem_singleton.mpr rfl))
        rw [st.ag n hi] at hv2
        exact ⟨vs2, SqL.of hv2, rv2⟩
    · cases e
  · cases e
theorem di_zip {e e2 : Expr} {h : DenA} {p pos tpos : Pos} {elts : List Expr} {kk : Nat} (hg : Gl X "zip") (hm : X.mg "zip" = none) (ha : PA X [e, e2] (tA ⟨X.K, X.mg⟩ W h))
    (hs : starEach [e, e2] X.env = (false, eval e X.env) :: starEach [e2] X.env) (hpl : (backTo pos (starEach [e2] X.env)).any (·.1) = false) :
    PI X (.Tuple elts kk tpos) (.Call (.Name "zip" p) [e, e2] [] pos) (tI ⟨X.K, X.mg⟩ W (dIZip h)) := by
  refine PI.weaken (RZ.pi_zipA hg hm ha hs hpl) fun σ H R q => tG_mono (lift1 q) fun vs H1 h1 => ?_
  obtain ⟨w, S, fr, ds, rfl, so, fo, r, p⟩ := h1
  dsimp only at p
  split at p
  · rename_i a b
    obtain ⟨va, vb, rfl, ra, rb⟩ := r.two
    split at p
    · rename_i ht
      split at p
      · rename_i s1 s2 e1 e2
        have okL : ∀ {S1 : Sto}, (Src.mk (zipD s1.items s2.items) (s1.guard ++ s2.guard)).ok S1 → s1.ok S1 ∧ s2.ok S1 := fun ok => ⟨fun q hq => ok q (List.mem_append_left _ hq), fun q hq => ok q (List.mem_append_right _ hq)⟩
        split at p
        · exact p.elim
        · exact p.elim
        · rename_i n1 n2
          cases hx : isTup a with
          | false =>
            rw [hx] at ht
            obtain ⟨a1, rfl, l1, ⟨us1, q1⟩, k1⟩ := src_list so ra e1 hx fun z hz => n1 z hz
            obtain ⟨a2, rfl, l2, ⟨us2, q2⟩, k2⟩ := src_list so rb e2 ht.symm fun z hz => n2 z hz
            refine ⟨a1, a2, us1, us2, rfl, .inl ⟨q1, q2, p w _ (Step.refl so) so (walks_zip rfl l1 fun w1 S1 st so1 ok => ?_)⟩⟩
            exact ⟨k1 w1 S1 st so1 (okL ok).1, k2 w1 S1 st so1 (okL ok).2⟩
          | true =>
            rw [hx] at ht
            cases ra with
            | tup t1 l1 r1 =>
              cases rb with
              | tup t2 l2 r2 =>
                cases e1
                cases e2
                exact ⟨_, _, _, _, rfl, .inr ⟨t1, t2, p w _ (Step.refl so) so (walks_zipT rfl l1 t1 r1 t2 r2)⟩⟩
              | _ => cases ht
            | _ => cases hx
      · exact p.elim
    · exact p.elim
  · exact p.elim
theorem enumD_get : ∀ (xs : List D) (k i : Nat) (d : D), (enumD xs k)[i]? = some d → ∃ x, xs[i]? = some x ∧ d = .tup [.int ((k + i : Nat) : Int), x]
  | [], _, _, _, e => by cases e
  | x :: xs, k, 0, d, e => by cases e; exact ⟨x, rfl, rfl⟩
  | x :: xs, k, i + 1, d, e => by
    obtain ⟨y, h1, h2⟩ := enumD_get xs (k + 1) i d e
    refine ⟨y, h1, ?_⟩
    rw [h2]
    have : k + 1 + i = k + (i + 1) := by omega
    rw [this]
theorem enumD_len : ∀ (xs : List D) (k : Nat), (enumD xs k).length = xs.length
  | [], _ => rfl
  | x :: xs, k => by
    show (enumD xs (k + 1)).length + 1 = xs.length + 1
    rw [enumD_len]
theorem walks_enum {w : Wd} {src : Src} {xs : List D} {a : Addr} (es : src.items = enumD xs 0) (hl : xs.length ≤ sizeLine)
    (hs : ∀ w1 S1, Step w w1 → SOk g w1 S1 → src.ok S1 → ∃ vs, SqL g.K w1.H a vs ∧ Reps g w1 xs vs) : Walks g w src (Ite g.K a) := by
  have el := enumD_len xs 0
  refine ⟨by rw [es]; omega, fun w1 S1 st so ok i d e => ?_, fun w1 S1 st so ok => ?_⟩
  · obtain ⟨vs, hq, rv⟩ := hs w1 S1 st so ok
    rw [es] at e
    obtain ⟨x, ex, rfl⟩ := enumD_get _ _ _ _ e
    obtain ⟨v, ev, r1⟩ := rv.get ex
    refine ⟨⟨vs, v, hq, ev⟩, fun t H2 q => ?_⟩
    obtain ⟨T, x', rfl, hT, rfl, qx⟩ := q
    have e1 := qx vs hq
    rw [ev] at e1
    cases e1
    rw [Nat.zero_add]
    obtain ⟨st2, so2, r⟩ := Step.newTup so hT (ds := [.int ((i : Nat) : Int), x]) two_line (.cons (.int _) (.cons r1 .nil))
    exact ⟨_, rfl, st2, so2, r⟩
  · obtain ⟨vs, hq, rv⟩ := hs w1 S1 st so ok
    have e1 := rv.length
    refine ⟨vs, hq, ?_⟩
    rw [es]
    omega
theorem di_enum {e : Expr} {h : DenA} {p pos tpos : Pos} {elts : List Expr} {kk : Nat} (hg : Gl X "enumerate") (hm : X.mg "enumerate" = none) (ha : PA X [e] (tA ⟨X.K, X.mg⟩ W h)) (hs : starEach [e] X.env = [(false, eval e X.env)]) :
    PI X (.Tuple elts kk tpos) (.Call (.Name "enumerate" p) [e] [] pos) (tI ⟨X.K, X.mg⟩ W (dIEnum h)) := by
  refine PI.weaken (pi_enum hg hm ha hs) fun σ H R q => tG_mono (lift1 q) fun vs H1 h1 => ?_
  obtain ⟨w, S, fr, ds, rfl, so, fo, r, p⟩ := h1
  dsimp only at p
  split at p
  · obtain ⟨v, rfl, rv⟩ := r.one
    cases rv with
    | rl t l r5 => exact ⟨_, _, rfl, t.sql, p w _ (Step.refl so) so (walks_enum rfl l fun w1 S1 st so1 _ => ⟨_, (st.sqf t).sql, Reps.mono st.toMono _ _ r5⟩)⟩
  · rename_i n
    obtain ⟨v, rfl, rv⟩ := r.one
    split at p
    · rename_i xs q
      cases rv with
      | ob hi =>
        obtain ⟨vs, hv, rv, l⟩ := so.sql q
        refine ⟨_, _, rfl, SqL.of hv, p w _ (Step.refl so) so (walks_enum rfl l fun w1 S1 st so1 ok => ?_)⟩
        obtain ⟨vs2, hv2, rv2, _⟩ := so1.sql (ok (n, xs) (List.mem_singleton.mpr rfl))
        rw [st.ag n hi] at hv2
        exact ⟨vs2, SqL.of hv2, rv2⟩
    · exact p.elim
  · exact p.elim
theorem di_enumT {e : Expr} {h : DenA} {p pos tpos : Pos} {elts : List Expr} {kk : Nat} (hg : Gl X "enumerate") (hm : X.mg "enumerate" = none) (ha : PE X e (tL ⟨X.K, X.mg⟩ W h)) (hs : starEach [e] X.env = [(false, eval e X.env)]) :
    PI X (.Tuple elts kk tpos) (.Call (.Name "enumerate" p) [e] [] pos) (tI ⟨X.K, X.mg⟩ W (dIEnumT h)) := by
  refine PI.weaken (pi_enum hg hm (pa_cons ha pa_nil hs) hs) fun σ H R q => lift1L q _ fun v H1 h1 => ?_
  obtain ⟨w, S, fr, xs, rfl, so, fo, ⟨p0, vs, rfl, hv, hn, l, rv⟩, p⟩ := h1
  exact ⟨p0, vs, rfl, SqL.of hv, p w _ (Step.refl so) so (walks_enum rfl l fun w1 S1 st so1 _ => ⟨vs, SqL.of (st.untracked hv hn).1, Reps.mono st.toMono _ _ rv⟩)⟩
end

/-! ### comprehensions -/
section
variable {X : Cx} {W : WX}
theorem dts_nil : PTs X [] (tT ⟨X.K, X.mg⟩ W dYes) := by
  refine ⟨fun pins s σ H Q I h => pts_nil.run pins s σ H Q I ?_⟩
  obtain ⟨w, S, fr, rfl, so, fo, p⟩ := h
  exact p w _ (Step.refl so) so rfl
theorem dl_comp {elt tg iter : Expr} {ifs : List Expr} {scope : Scope} {own : List (Str × Nat)} {pos : Pos} {fi : Fr → Sto → Out Src} {t : DTg} {tt : DenT} {fe : DenE} (hc : X.calm = true) (hN : X.N.Nodup)
    (hi : PI X tg iter (tI ⟨X.K, X.mg⟩ W fi)) (ok : BlkOk X.N X.env.scope scope own)
    (hg : ∀ (s : Shared) (H : Hp) (C : Addr) (cl : List (Str × Addr)) (fp : List Addr), PG (X.blk s H scope (compEnvC scope cl C X.env) fp) tg (tGt ⟨X.K, X.mg⟩ (own.map (·.2)) t))
    (ht : ∀ (s : Shared) (H : Hp) (C : Addr) (cl : List (Str × Addr)) (fp : List Addr), PTs (X.blk s H scope (compEnvC scope cl C X.env) fp) ifs (tT ⟨X.K, X.mg⟩ (fun _ _ _ _ => False) tt))
    (he : ∀ (s : Shared) (H : Hp) (C : Addr) (cl : List (Str × Addr)) (fp : List Addr), PE (X.blk s H scope (compEnvC scope cl C X.env) fp) elt (tE ⟨X.K, X.mg⟩ (fun _ _ _ _ => False) fe))
    (hs : ∀ x, foldedSetIterable iter X.env x = pure x) : PE X (.ListComp elt [⟨tg, iter, ifs, 0⟩] scope pos) (tL ⟨X.K, X.mg⟩ W (dComp (own.map (·.2)) fi t tt fe)) :=
  PE.weaken (pe_lc hc hN hi ok hg ht he hs) fun _ _ _ h => lift_comp h
theorem ds_setLc {i : Nat} {y : Str} {py : Pos} {elt tg iter : Expr} {ifs : List Expr} {scope : Scope} {own : List (Str × Nat)} {pos spos : Pos} {fi : Fr → Sto → Out Src} {t : DTg} {tt : DenT} {fe : DenE} (hc : X.calm = true) (hN : X.N.Nodup)
    (hy : X.N[i]? = some y) (hyl : X.env.scope.names.lookup y = some .local) (hsw : swapsWith (.ListComp elt [⟨tg, iter, ifs, 0⟩] scope pos) (some (.Name y py)) spos.line X.env = pure true)
    (hi : PI X tg iter (tI ⟨X.K, X.mg⟩ W fi)) (ok : BlkOk X.N X.env.scope scope own)
    (hg : ∀ (s : Shared) (H : Hp) (C : Addr) (cl : List (Str × Addr)) (fp : List Addr), PG (X.blk s H scope (compEnvC scope cl C X.env) fp) tg (tGt ⟨X.K, X.mg⟩ (own.map (·.2)) t))
    (ht : ∀ (s : Shared) (H : Hp) (C : Addr) (cl : List (Str × Addr)) (fp : List Addr), PTs (X.blk s H scope (compEnvC scope cl C X.env) fp) ifs (tT ⟨X.K, X.mg⟩ (fun _ _ _ _ => False) tt))
    (he : ∀ (s : Shared) (H : Hp) (C : Addr) (cl : List (Str × Addr)) (fp : List Addr), PE (X.blk s H scope (compEnvC scope cl C X.env) fp) elt (tE ⟨X.K, X.mg⟩ (fun _ _ _ _ => False) fe))
    (hs : ∀ x, foldedSetIterable iter X.env x = pure x) : PS X (.Assign [.Name y py] (.ListComp elt [⟨tg, iter, ifs, 0⟩] scope pos) spos) (tS ⟨X.K, X.mg⟩ W (dSet i (dKeep (dComp (own.map (·.2)) fi t tt fe)))) := by
  refine PS.weaken (ps_setLc hc hN hy hyl hsw hi ok hg ht he hs) fun D σ H q => lift_comp ?_
  obtain ⟨w, S, fr, e, so, fo, p⟩ := q
  refine ⟨w, S, fr, e, so, fo, ?_⟩
  generalize dComp (own.map (·.2)) fi t tt fe = h at p ⊢
  replace p : PostS ⟨X.K, X.mg⟩ w (((h fr S).bnd fun ds S' => .ok (.ob S'.length) (S' ++ [.lst ds])).thn fr fun d S' => .ok .nx (fr.set i (some d)) S') D W := p
  cases q : h fr S with
  | no => rw [q] at p; exact p
  | ex e S1 =>
    rw [q] at p
    exact fun w1 c dx st so1 rx => p w1 σ c dx st so1 (fo.mono st.toMono) rx
  | ok ds S1 =>
    rw [q] at p
    intro w1 a st so1 fresh r
    obtain ⟨a', vs, ea, ha, hn, hl, rv⟩ := r
    cases ea
    obtain ⟨so2, mo, rr⟩ := Step.adopt so1 ha hn hl rv
    refine p (w1.adopt a) _ ⟨st.toMono.trans mo, fun b o hb hx => st.kp b o hb hx, fun i h1 h2 => ?_, fun i hi => so2.al i hi⟩ so2 ((fo.mono (st.toMono.trans mo)).set i rr)
    have h2 : i < w1.n + 1 := h2
    by_cases e : i = w1.n
    · show w.H (if i = w1.n then a else w1.m i) = none
      rw [if_pos e]
      exact fresh
    · show w.H (if i = w1.n then a else w1.m i) = none
      rw [if_neg e]
      exact st.fr i h1 (by omega)
end

/-! ### a def called -/
abbrev PhT := Nat → List D → Sto → Out D
def spD (g : Gnd) (n : Nat) (f : List D → Sto → Out D) : Sp := fun vs H Q E => ∃ w S ds, w.H = H ∧ SOk g w S ∧ Reps g w ds vs ∧ ds.length = n ∧ Post g w (Rep g) (f ds S) Q E
def dCall (n : Nat) (f : List D → Sto → Out D) (h : DenA) : DenE := fun fr S => (h fr S).bnd fun ds S' => if ds.length = n then f ds S' else .no
section
variable {X : Cx} {W : WX} {k n : Nat} {a : Addr} {fd : FuncData} {ps : List Str} {x : Str} {p pos : Pos} {e : Expr} {es : List Expr} {h : DenA} {f : List D → Sto → Out D}
theorem lift_call {g : Gnd} {σ : L2.St} {H : Hp} {Q : VK} (q : tE g W (dCall n f h) σ H Q) : tCallSD (spD g n f) [] (fun σ => WE W σ) (tA g W h) σ H Q := by
  refine tG_mono (lift1 q) fun vs H1 h1 => ?_
  obtain ⟨w, S, fr, ds, e, so, fo, r, p⟩ := h1
  dsimp only at p
  split at p
  · rename_i hl
    rw [List.append_nil]
    exact ⟨w, S, ds, e, so, r, hl, p⟩
  · exact p.elim
theorem de_call (F : FnOk X.prog X.w X.K X.mg X.base (L2.CX X.prog X.w) k a fd ps (spD ⟨X.K, X.mg⟩ n f)) (hr : Room k X.A) (hg : Gl X x) (hm : X.mg x = some (.ref a)) (hk : PySem.W.keepIn X.K (.ref a) = true) (hb : Binds X.K fd ps []) (tk : Takes X W)
    (ha : PA X (e :: es) (tA ⟨X.K, X.mg⟩ W h)) (hdb : (x == ("__debug__" : Str)) = false) (he : starEach (e :: es) X.env = (false, eval e X.env) :: starEach es X.env) (hpl : (backTo pos (starEach es X.env)).any (·.1) = false) :
    PE X (.Call (.Name x p) (e :: es) [] pos) (tE ⟨X.K, X.mg⟩ W (dCall n f h)) :=
  PE.weaken (pe_callSD F hr hg hm hk hb .nil (fun σ => passAt tk σ) ha hdb he hpl) fun _ _ _ q => lift_call q
theorem de_call0 (F : FnOk X.prog X.w X.K X.mg X.base (L2.CX X.prog X.w) k a fd ps (spD ⟨X.K, X.mg⟩ 0 f)) (hr : Room k X.A) (hg : Gl X x) (hm : X.mg x = some (.ref a)) (hk : PySem.W.keepIn X.K (.ref a) = true) (hb : Binds X.K fd ps []) (tk : Takes X W)
    (hdb : (x == ("__debug__" : Str)) = false) : PE X (.Call (.Name x p) [] [] pos) (tE ⟨X.K, X.mg⟩ W (dCall 0 f dANil)) := by
  refine ⟨fun pins s σ H Q I q => ?_⟩
  obtain ⟨w, S, fr, rfl, so, fo, p⟩ := q
  refine wpAny_Call_Name_kw (ld_glob I hg hm ?_ hdb)
  exact PySem.W.callWith_K0 I.kIn hk (run_fnSD (us := []) (vs := []) F hr hb .nil (passAt tk σ) I .nil ⟨w, S, [], rfl, so, .nil, rfl, p⟩)
end
end DL
/-! DL, part l: a def's whole call; what it leaves behind and nobody holds is forgotten. -/
namespace DL
open PySem PySem.Spec PyProof.Rows L2

mutual
/-- no tracked object from n on stands within -/
def D.und (n : Nat) : D → Bool
  | .ob k => decide (k < n)
  | .tup xs => undL n xs
  | .rl xs => undL n xs
  | .non => true
  | .bl _ => true
  | .int _ => true
  | .str _ => true
  | .ty _ => true
  | .gl _ => true
def undL (n : Nat) : List D → Bool
  | [] => true
  | d :: ds => d.und n && undL n ds
end
def O.und (n : Nat) : O → Bool
  | .lst xs => undL n xs
  | .dk kvs => undL n (kvs.map (·.2))
  | .ins _ fs => undL n (fs.map (·.2))
def Ex.und (n : Nat) (e : Ex) : Bool := e.cls.und n && (match e.fs with
  | none => true
  | some fs => undL n (fs.map (·.2)))
/-- the objects that stood ahead stand, and what they hold stood ahead -/
def Olds (S S' : Sto) : Prop := S.length ≤ S'.length ∧ ∀ i, i < S.length → S'[i]? = S[i]? ∨ ∃ o, S'[i]? = some o ∧ o.und S.length = true
open Classical in
noncomputable def gcO (S : Sto) (d : D) (S' : Sto) : Out D :=
  if Olds S S' ∧ d.und S.length = true then .ok d (S'.take S.length)
  else match d with
    | .ob j => match S'[j]? with
      | some o => if Olds S S' ∧ S.length ≤ j ∧ o.und S.length = true then .ok (.ob S.length) (S'.take S.length ++ [o]) else .ok d S'
      | none => .ok d S'
    | _ => .ok d S'
open Classical in
noncomputable def gcX (S : Sto) (e : Ex) (S' : Sto) : Out D := if Olds S S' ∧ e.und S.length = true then .ex e (S'.take S.length) else .ex e S'
/-- a def's body, called: n names -/
noncomputable def runB (n : Nat) (b : DenS) (ds : List D) (S : Sto) : Out D := match b (ds.map some ++ List.replicate (n - ds.length) none) S with
  | .ok (.rt d) _ S' => gcO S d S'
  | .ok .nx _ S' => gcO S .non S'
  | .ex e _ S' => gcX S e S'
  | _ => .no
def Wd.cut (w : Wd) (n : Nat) : Wd := ⟨w.m, n, w.H⟩
section
variable {g : Gnd} {w w' : Wd} {S S' : Sto}
mutual
theorem Rep.isBelow : ∀ (d : D) (v : V), Rep g w d v → d.und w.n = true
  | .non, _, _ => rfl
  | .bl _, _, _ => rfl
  | .int _, _, _ => rfl
  | .str _, _, _ => rfl
  | .ty _, _, _ => rfl
  | .gl _, _, _ => rfl
  | .ob k, _, r => by
    cases r with
    | ob h => exact decide_eq_true h
  | .tup xs, _, r => by
    cases r with
    | tup _ _ r => unfold D.und; exact Reps.isBelow xs _ r
  | .rl xs, _, r => by
    cases r with
    | rl _ _ r => unfold D.und; exact Reps.isBelow xs _ r
theorem Reps.isBelow : ∀ (ds : List D) (vs : List V), Reps g w ds vs → undL w.n ds = true
  | [], _, _ => rfl
  | d :: ds, _, r => by
    cases r with
    | cons a b =>
      unfold undL
      rw [Rep.isBelow d _ a, Reps.isBelow ds _ b]
      rfl
end
mutual
theorem Rep.lower {n : Nat} : ∀ (d : D) (v : V), Rep g w d v → d.und n = true → Rep g (w.cut n) d v
  | .non, _, r, _ => by cases r; exact .non
  | .bl _, _, r, _ => by cases r; exact .bl _
  | .int _, _, r, _ => by cases r; exact .int _
  | .str _, _, r, _ => by cases r; exact .str _
  | .ty _, _, r, _ => by cases r; exact .ty _
  | .gl _, _, r, _ => by cases r with | gl e => exact .gl e
  | .ob k, _, r, h => by
    cases r with
    | ob _ => exact Rep.ob (w := w.cut n) (of_decide_eq_true (by unfold D.und at h; exact h))
  | .tup xs, _, r, h => by
    cases r with
    | tup t l r => exact .tup t l (Reps.lower xs _ r (by unfold D.und at h; exact h))
  | .rl xs, _, r, h => by
    cases r with
    | rl t l r => exact .rl t l (Reps.lower xs _ r (by unfold D.und at h; exact h))
theorem Reps.lower {n : Nat} : ∀ (ds : List D) (vs : List V), Reps g w ds vs → undL n ds = true → Reps g (w.cut n) ds vs
  | [], _, r, _ => by cases r; exact .nil
  | d :: ds, _, r, h => by
    unfold undL at h
    rw [Bool.and_eq_true] at h
    cases r with
    | cons a b => exact .cons (Rep.lower d _ a h.1) (Reps.lower ds _ b h.2)
end
theorem RepO.isBelow {o : O} {h : HO} (r : RepO g w o h) : o.und w.n = true := by
  cases r with
  | lst l r => exact Reps.isBelow _ _ r
  | dk l e r => exact Reps.isBelow _ _ r
  | ins e e2 r => exact Reps.isBelow _ _ r
theorem RepO.lower {n : Nat} {o : O} {h : HO} (r : RepO g w o h) (hb : o.und n = true) : RepO g (w.cut n) o h := by
  cases r with
  | lst l r => exact .lst l (Reps.lower _ _ r hb)
  | dk l e r => exact .dk l e (Reps.lower _ _ r hb)
  | ins e e2 r => exact .ins e e2 (Reps.lower _ _ r hb)
theorem olds_below (so : SOk g w S) (ol : Olds S S') {i : Nat} {o : O} (hi : i < S.length) (e : S'[i]? = some o) : o.und S.length = true := by
  rcases ol.2 i hi with h | ⟨o', h, b⟩
  · rw [h] at e
    obtain ⟨ho, _, r⟩ := so.ob i o e
    rw [← so.len]
    exact r.isBelow
  · rw [h] at e
    cases e
    exact b
/-- what is new is forgotten -/
theorem cut_ok (so : SOk g w S) (st : Step w w') (so' : SOk g w' S') (ol : Olds S S') : Step w (w'.cut S.length) ∧ SOk g (w'.cut S.length) (S'.take S.length) := by
  have en := so.len
  have hle : S.length ≤ w'.n := by rw [so'.len]; exact ol.1
  refine ⟨⟨⟨by show w.n ≤ S.length; omega, st.ag, st.tp, st.fz⟩, st.kp, fun i h1 h2 => ?_, fun i hi => ?_⟩, ⟨?_, fun i o e => ?_, fun i j hi hj e => ?_⟩⟩
  · have h2 : i < S.length := h2
    omega
  · have hi : i < S.length := hi
    exact st.al i (by omega)
  · show S.length = _
    rw [List.length_take]
    have := ol.1
    omega
  · have hi : i < S.length := by
      have := (List.getElem?_eq_some_iff.mp e).1
      rw [List.length_take] at this
      omega
    rw [List.getElem?_take_of_lt hi] at e
    obtain ⟨h, e2, r⟩ := so'.ob i o e
    exact ⟨h, e2, r.lower (olds_below so ol hi e)⟩
  · have hi : i < S.length := hi
    have hj : j < S.length := hj
    exact so'.inj i j (by omega) (by omega) e
def Wd.cut1 (w : Wd) (n j : Nat) : Wd := ⟨fun i => if i = n then w.m j else w.m i, n + 1, w.H⟩
/-- .. but one new object -/
theorem cut1_ok (so : SOk g w S) (st : Step w w') (so' : SOk g w' S') (ol : Olds S S') {j : Nat} {o : O} (hj : S.length ≤ j) (e : S'[j]? = some o) (hb : o.und S.length = true) :
    Step w (w'.cut1 S.length j) ∧ SOk g (w'.cut1 S.length j) (S'.take S.length ++ [o]) ∧ Rep g (w'.cut1 S.length j) (.ob S.length) (.ref (w'.m j)) := by
  have en := so.len
  have hle : S.length ≤ w'.n := by rw [so'.len]; exact ol.1
  have hjn : j < w'.n := so'.lt e
  obtain ⟨st1, so1⟩ := cut_ok so st so' ol
  have hm : ∀ i, i < S.length → (w'.cut1 S.length j).m i = w'.m i := fun i hi => if_neg (Nat.ne_of_lt hi)
  have hmn : (w'.cut1 S.length j).m S.length = w'.m j := if_pos rfl
  have mo : Mono (w'.cut S.length) (w'.cut1 S.length j) := ⟨Nat.le_succ _, hm, fun a xs e => e, fun a ob u e => e⟩
  have hlen : (S'.take S.length).length = S.length := by
    rw [List.length_take]
    have := ol.1
    omega
  refine ⟨⟨st1.toMono.trans mo, st.kp, fun i h1 h2 => ?_, fun i hi => ?_⟩, ⟨?_, fun i u e2 => ?_, fun i k hi hk e2 => ?_⟩, ?_⟩
  · have h2 : i < S.length + 1 := h2
    have e1 : i = S.length := by omega
    subst e1
    rw [hmn]
    exact st.fr j (by omega) hjn
  · have hi : i < S.length + 1 := hi
    by_cases e1 : i = S.length
    · subst e1
      rw [hmn]
      exact st.al j hjn
    · rw [hm i (by omega)]
      exact st.al i (by omega)
  · show S.length + 1 = _
    rw [List.length_append, hlen]
    rfl
  · by_cases hi : i < S.length
    · rw [List.getElem?_append_left (by rw [hlen]; exact hi)] at e2
      obtain ⟨h, e3, r⟩ := so1.ob i u e2
      exact ⟨h, by rw [hm i hi]; exact e3, r.mono mo⟩
    · rw [List.getElem?_append_right (by rw [hlen]; omega), hlen] at e2
      have hz : i - S.length = 0 := by
        have := (List.getElem?_eq_some_iff.mp e2).1
        simp at this
        omega
      rw [hz] at e2
      cases e2
      have e1 : i = S.length := by omega
      subst e1
      obtain ⟨h, e3, r⟩ := so'.ob j o e
      exact ⟨h, by rw [hmn]; exact e3, (r.lower hb).mono mo⟩
  · have hi : i < S.length + 1 := hi
    have hk : k < S.length + 1 := hk
    by_cases e1 : i = S.length
    · by_cases e3 : k = S.length
      · rw [e1, e3]
      · rw [e1, hmn, hm k (by omega)] at e2
        have := so'.inj j k hjn (by omega) e2
        omega
    · by_cases e3 : k = S.length
      · rw [e3, hmn, hm i (by omega)] at e2
        have := so'.inj i j (by omega) hjn e2
        omega
      · rw [hm i (by omega), hm k (by omega)] at e2
        exact so'.inj i k (by omega) (by omega) e2
  · have q : Rep g (w'.cut1 S.length j) (.ob S.length) (.ref ((w'.cut1 S.length j).m S.length)) := .ob (show S.length < S.length + 1 from Nat.lt_succ_self _)
    rw [hmn] at q
    exact q
theorem gc_post {d : D} {v : V} {Q : VK} {E : XK} (so : SOk g w S) (p : Post g w (Rep g) (gcO S d S') Q E) (st : Step w w') (so' : SOk g w' S') (r : Rep g w' d v) : Q v w'.H := by
  unfold gcO at p
  by_cases h : Olds S S' ∧ d.und S.length = true
  · rw [if_pos h] at p
    obtain ⟨st1, so1⟩ := cut_ok so st so' h.1
    exact p (w'.cut S.length) v st1 so1 (Rep.lower _ _ r h.2)
  · rw [if_neg h] at p
    split at p
    · rename_i j
      split at p
      · rename_i o e
        by_cases h2 : Olds S S' ∧ S.length ≤ j ∧ o.und S.length = true
        · rw [if_pos h2] at p
          cases r
          obtain ⟨st1, so1, r1⟩ := cut1_ok so st so' h2.1 h2.2.1 e h2.2.2
          exact p (w'.cut1 S.length j) _ st1 so1 r1
        · rw [if_neg h2] at p
          exact p _ _ st so' r
      · exact p _ _ st so' r
    · exact p _ _ st so' r
theorem gcX_post {e : Ex} {c : Value} {dx : Option Addr} {Q : VK} {E : XK} (so : SOk g w S) (p : Post g w (Rep g) (gcX S e S') Q E) (st : Step w w') (so' : SOk g w' S') (r : RepX g w' e c dx) : E c dx w'.H := by
  unfold gcX at p
  by_cases h : Olds S S' ∧ e.und S.length = true
  · rw [if_pos h] at p
    obtain ⟨st1, so1⟩ := cut_ok so st so' h.1
    have hb := h.2
    unfold Ex.und at hb
    rw [Bool.and_eq_true] at hb
    refine p (w'.cut S.length) c dx st1 so1 ⟨?_, ?_⟩
    · obtain ⟨v, r1, r2⟩ := r.cls
      exact ⟨v, Rep.lower _ _ r1 hb.1, r2⟩
    · have q := r.fs
      have hle : S.length ≤ w'.n := by rw [so'.len]; exact h.1.1
      cases ef : e.fs with
      | none => rw [ef] at q; exact q
      | some fs =>
        rw [ef] at q hb
        obtain ⟨d, us, e1, e2, e3, e4, e5⟩ := q
        exact ⟨d, us, e1, e2, fun i hi => e3 i (Nat.lt_of_lt_of_le hi hle), e4, Reps.lower _ _ e5 hb.2⟩
  · rw [if_neg h] at p
    exact p _ c dx st so' r
/-- the names at the entry -/
theorem FrOk.start {ds : List D} {vs : List V} {N : List Str} (r : Reps g w ds vs) : FrOk g w (ds.map some ++ List.replicate (N.length - ds.length) none) (L2.start N vs) := by
  have l := r.length
  refine ⟨by unfold L2.start; rw [List.length_append, List.length_append, List.length_map, List.length_map, List.length_replicate, List.length_replicate, l], fun i d e => ?_⟩
  by_cases hi : i < ds.length
  · rw [List.getElem?_append_left (by rw [List.length_map]; exact hi), List.getElem?_map] at e
    cases q : ds[i]? with
    | none => rw [q] at e; cases e
    | some d' =>
      rw [q] at e
      cases e
      obtain ⟨v, ev, rv⟩ := r.get q
      refine ⟨v, ?_, rv⟩
      unfold L2.start
      rw [List.getElem?_append_left (by rw [List.length_map, ← l]; exact hi), List.getElem?_map, ev]
      rfl
  · rw [List.getElem?_append_right (by rw [List.length_map]; omega), List.getElem?_replicate] at e
    split at e <;> cases e
end
/-- THE RULE of a def -/
theorem fn_ok {P : Program} {W0 : World} {K : PySem.W.Frag} {mg : Str → Option Value} {base : Heap} {x qual : Str} {st : Stmt} {f : Addr} {fd : FuncData} {N ps : List Str} {k : Nat} {b : DenS} (F : Fun K x qual st f fd) (S : FnScope N ps (defScope st))
    (hbody : ∀ (X : Cx) (W : WX), X.prog = P → X.w = W0 → X.K = K → X.mg = mg → X.base = base → X.N = N → X.env.scope = defScope st → Room k X.A → X.calm = true → (∀ y, X.fn y = true) → X.stack = X.env :: X.outer → X.env.frame = some X.env.locals → Takes X W →
      PassesOwn (model X.prog X.w) X.A X.env X.xe → PSs X (defBody st) (tS ⟨X.K, X.mg⟩ W b)) :
    FnOk P W0 K mg base (L2.CX P W0) (k + 1) f fd ps (spD ⟨K, mg⟩ ps.length (runB N.length b)) := by
  refine F.okX S (fun vs H Q E h => ?_) (fun cdv A outer s H vs Q E hr h => ?_)
  · obtain ⟨w, S, ds, _, _, r, hl, _⟩ := h
    rw [← r.length, hl]
  · obtain ⟨w, S0, ds, eH, so, r, hl, p⟩ := h
    refine ⟨_, hbody _ (fun c d _ H => E c d H) rfl rfl rfl rfl rfl rfl rfl hr rfl (fun _ => rfl) rfl rfl (takes_of rfl rfl rfl rfl) PassesOwn.leaving, w, S0, ds.map some ++ List.replicate (N.length - ds.length) none, eH, so, FrOk.start r, ?_⟩
    unfold runB at p
    cases q : b (ds.map some ++ List.replicate (N.length - ds.length) none) S0 with
    | ok fl fr S' =>
      rw [q] at p
      cases fl with
      | nx => exact fun w' σ' st so' fo' => gc_post so p st so' .non
      | rt d => exact fun w' v st so' r' => gc_post so p st so' r'
      | bk => exact p.elim
      | ct => exact p.elim
    | ex e fr S' =>
      rw [q] at p
      exact fun w' σ' c dx st so' fo' rx => gcX_post so p st so' rx
    | no => rw [q] at p; exact p
end DL
/-! DL, part m: side conditions on the syntax, by small tests. -/
namespace DL
open PySem PySem.Spec PyProof.Rows L2

def isStar : Expr → Bool
  | .Starred .. => true
  | _ => false
def isComp : Expr → Bool
  | .ListComp .. => true
  | .SetComp .. => true
  | .DictComp .. => true
  | _ => false
def isSlice : Expr → Bool
  | .Slice .. => true
  | _ => false
def isSetE : Expr → Bool
  | .Set .. => true
  | _ => false
def isTupE : Expr → Bool
  | .Tuple .. => true
  | .List .. => true
  | _ => false
def isCall0 : Expr → Bool
  | .Call (.Name ..) [] [] _ => true
  | _ => false
/-- an expression whose test is its value's truth -/
def isPlainT : Expr → Bool
  | .UnaryOp .Not _ _ => false
  | .BoolOp .. => false
  | .IfExp .. => false
  | .Compare .. => false
  | _ => true
section
variable {env : Env} {e : Expr} {es : List Expr} {pos : Pos}
theorem star_cons (h : isStar e = false) : starEach (e :: es) env = (false, eval e env) :: starEach es env := by
  cases e <;> first | rfl | cases h
theorem star_any : ∀ {es : List Expr}, es.all (fun e => !isStar e) = true → (backTo pos (starEach es env)).any (·.1) = false
  | [], _ => rfl
  | e :: es, h => by
    rw [List.all_cons, Bool.and_eq_true] at h
    have h1 : isStar e = false := by simpa using h.1
    rw [star_cons h1]
    show (false || (backTo pos (starEach es env)).any (·.1)) = false
    rw [star_any h.2]
    rfl
theorem star_all : ∀ {es : List Expr}, es.all (fun e => !isStar e) = true → (backTo pos (starEach es env)).all (fun x => !x.1) = true
  | [], _ => rfl
  | e :: es, h => by
    rw [List.all_cons, Bool.and_eq_true] at h
    have h1 : isStar e = false := by simpa using h.1
    rw [star_cons h1]
    show (true && (backTo pos (starEach es env)).all (fun x => !x.1)) = true
    rw [star_all h.2]
    rfl
theorem few_ok (h : es.all (fun e => !isStar e) = true) (hl : es.length < 30) : ((backTo pos (starEach es env)).all (fun x => !x.1) && (backToKw pos (keywordEach [] env)).all (fun x => x.1.isSome)
      && decide (es.length + ([] : List Keyword).length + (if ([] : List Keyword).isEmpty then 0 else 1) < 30)) = true := by
  rw [star_all h]
  show (true && decide (es.length + 0 + 0 < 30)) = true
  rw [Bool.true_and]
  exact decide_eq_true (by omega)
theorem swaps_no {t : Option Expr} {l : Nat} (h : isComp e = false) : swapsWith e t l env = pure false := by
  cases e <;> first | rfl | cases h
theorem swapped_no {t : Expr} (h : isTupE e = false) : swappedStores [t] e env = pure none := by
  cases e <;> first | (cases t <;> rfl) | cases h
theorem swapped_no' {t : Expr} (h : isTupE t = false) : swappedStores [t] e env = pure none := by
  cases t <;> first | rfl | cases h
theorem base_ok {n : Str} (h : isCall0 e = false) : attributeBase e n env (eval e env) = eval e env := by
  cases e with
  | Call f args kw p =>
    cases f with
    | Name id p2 =>
      cases args with
      | nil =>
        cases kw with
        | nil => cases h
        | cons a b => rfl
      | cons a b => rfl
    | _ => rfl
  | _ => rfl
theorem plainIx (h : isSlice e = false) : PlainIx e := by
  cases e <;> first | (intro _ _; rfl) | cases h
theorem folded_ok (h : isSetE e = false) : ∀ x, foldedSetIterable e env x = pure x := by
  cases e <;> first | (intro _; rfl) | cases h
theorem behind_ok {op : CmpOp} (h : isSetE e = false) : behindInMarks op e = false := by
  cases e <;> first | rfl | cases h
theorem last_ok {op op' : CmpOp} {b : Expr} (h : isSetE e = false) : lastMarks [op, op'] [b, e] = false := by
  show behindInMarks op' e = false
  exact behind_ok h
theorem test_ok (h : isPlainT e = true) : ∀ whole, isTrue e env whole = (do let v ← whole; standAt e.pos; holding [v] (truthy v)) := by
  cases e with
  | UnaryOp op x p => cases op <;> first | (intro _; rfl) | cases h
  | BoolOp _ _ _ => cases h
  | IfExp _ _ _ _ => cases h
  | Compare _ _ _ _ => cases h
  | _ => intro _; rfl
theorem assign1 {t : Expr} (h : isStar t = false) : (assignEach [t] env).map (·.2) = [assign t env] := by
  cases t <;> first | rfl | cases h
theorem assign_cons {t : Expr} (h : isStar t = false) : (assignEach (t :: es) env).map (·.2) = assign t env :: (assignEach es env).map (·.2) := by
  cases t <;> first | rfl | cases h
theorem assign_len : ∀ {es : List Expr}, (assignEach es env).length = es.length
  | [] => rfl
  | e :: es => by
    cases e <;> (show (assignEach es env).length + 1 = es.length + 1; rw [assign_len])
theorem assign_find : ∀ {es : List Expr}, es.all (fun e => !isStar e) = true → (assignEach es env).findIdx? (·.1) = none
  | [], _ => rfl
  | e :: es, h => by
    rw [List.all_cons, Bool.and_eq_true] at h
    have h1 : isStar e = false := by simpa using h.1
    have e1 : assignEach (e :: es) env = (false, assign e env) :: assignEach es env := by cases e <;> first | rfl | cases h1
    rw [e1, List.findIdx?_cons]
    simp [assign_find h.2]
theorem setIx_ok {o i : Expr} {tpos : Pos} (h : isSlice i = false) : ∀ v, assign (.Subscript o i tpos) env v = (do
      let ov ← holding [v] (eval o env)
      let iv ← holding [v, ov] (eval i env)
      standAt tpos
      holding [v, ov, iv] (setItem ov iv v)
      release [v, ov, iv] []) := by
  intro v
  cases i <;> first | rfl | cases h
/-- does the store of a comprehension change places with its variables' end -/
def swB (sc : Scope) (t : Str) (l1 l2 : Nat) (scope : Scope) : Bool := (match sc.names.lookup t with | some .local => true | _ => false) && l1 == l2 && !(scope.names.any fun (n, k) => n == t && (k == .local || k == .cell))
theorem sw_comp {elt : Expr} {gs : List Comprehension} {scope : Scope} {ppos py : Pos} {y : Str} {l : Nat} {b : Bool} (hk : env.scope.kind = .function) (h : swB env.scope y py.line ppos.line scope = b) :
    swapsWith (.ListComp elt gs scope ppos) (some (.Name y py)) l env = pure b := by
  subst h
  have hb : (env.blockKind == .function) = true := by unfold Env.blockKind; rw [hk]; rfl
  have hl : (env.kindOf y == some .local) = (match env.scope.names.lookup y with | some .local => true | _ => false) := by
    unfold Env.kindOf
    cases env.scope.names.lookup y with
    | none => rfl
    | some k => cases k <;> rfl
  unfold swapsWith swB
  simp only [hb, hl, Expr.pos]
  rfl
def fold2 (vs : List Expr) : Bool := vs.all (foldedForSure 8)
def cons2 (vs : List Expr) : Bool := vs.all (constantsAlone 8)
theorem par_ok {x y : Str} {a b : Expr} {px py pt pt2 : Pos} {kt k2 : Nat} (hk : env.scope.kind = .function) (hx : env.scope.names.lookup x = some .local) (hy : env.scope.names.lookup y = some .local) (hxy : x ≠ y)
    (ha : isStar a = false) (hb : isStar b = false) (hl : py.line = px.line) (hf : fold2 [a, b] = false) (hc : cons2 [a, b] = false) :
    swappedStores [.Tuple [.Name x px, .Name y py] kt pt] (.Tuple [a, b] k2 pt2) env = pure (some [x, y]) := by
  have hbk : (env.blockKind != .function) = false := by unfold Env.blockKind; rw [hk]; rfl
  have h1 : (env.kindOf x == some .local) = true := by unfold Env.kindOf; rw [hx]; rfl
  have h2 : (env.kindOf y == some .local) = true := by unfold Env.kindOf; rw [hy]; rfl
  unfold fold2 at hf
  unfold cons2 at hc
  have hd : ([x, y] : List Str).eraseDups.length = 2 := by
    have q : (y == x) = false := by simpa using fun e => hxy e.symm
    simp [List.eraseDups_cons, q]
  unfold swappedStores
  simp only [hbk, h1, h2, hf, hc, Expr.pos, List.length_cons, List.length_nil, List.head?_cons, Option.map_some, Option.getD_some, hl, beq_self_eq_true, Bool.and_self, List.filterMap_cons, List.filterMap_nil, if_true, hd, List.any_cons, List.any_nil, Bool.or_false]
  clear hf hc hd h1 h2 hbk
  cases a <;> first | (cases ha; done) | (cases b <;> first | (cases hb; done) | rfl)
end
end DL
/-! DL, part n: from the syntax to its meaning, each step with its proof. -/
namespace DL
open PySem PySem.Spec PyProof.Rows L2

/-- what a module's name holds -/
inductive GK where
  | fn (id ar : Nat)
  | con (d : D)
abbrev GEnv := List (Str × GK)
/-- where one stands: the scope, the names by slots, which names may be stored -/
structure Ctx where
  sc : Scope
  N : List Str
  ow : Str → Bool

inductive BK where
  | len | all | any | sum | max | min | tuple | list | int | str | abs | isinstance | range | zip | enumerate
  deriving DecidableEq
def bkTab : List (Str × BK) := [("len", .len), ("all", .all), ("any", .any), ("sum", .sum), ("max", .max), ("min", .min), ("tuple", .tuple), ("list", .list), ("int", .int), ("str", .str), ("abs", .abs), ("isinstance", .isinstance),
  ("range", .range), ("zip", .zip), ("enumerate", .enumerate)]
def BK.val : BK → Value
  | .len => .builtin "len" | .all => .builtin "all" | .any => .builtin "any" | .sum => .builtin "sum" | .max => .builtin "max" | .min => .builtin "min" | .tuple => .type "tuple" | .list => .type "list"
  | .int => .type "int" | .str => .type "str" | .abs => .builtin "abs" | .isinstance => .builtin "isinstance" | .range => .type "range" | .zip => .type "zip" | .enumerate => .type "enumerate"
/-- the built-in types by name -/
def tyTab : List (Str × String) := [("int", "int"), ("str", "str"), ("bool", "bool"), ("tuple", "tuple"), ("list", "list"), ("dict", "dict")]
/-- names that the module must leave to the built-ins -/
def freeN : List Str := ["len", "all", "any", "sum", "max", "min", "tuple", "list", "int", "str", "abs", "isinstance", "range", "zip", "enumerate", "bool", "dict"]
theorem bkTab_ok : ∀ p ∈ bkTab, bootBuiltins p.1 = some p.2.val ∧ p.1 ∈ freeN ∧ p.1 ≠ "__name__" ∧ (p.1 == ("__debug__" : Str)) = false := by decide +kernel
theorem tyTab_ok : ∀ p ∈ tyTab, bootBuiltins p.1 = some (.type p.2) ∧ p.1 ∈ freeN ∧ p.1 ≠ "__name__" ∧ (p.1 == ("__debug__" : Str)) = false := by decide +kernel
theorem mem_of_look {α : Type} : ∀ {l : List (Str × α)} {x : Str} {a : α}, l.lookup x = some a → (x, a) ∈ l := fun h => PySem.mem_of_lookup h

structure FnAt (X : Cx) (k : Nat) (Φ : PhT) (x : Str) (id ar : Nat) : Prop where
  ex : ∃ (a : Addr) (fd : FuncData) (ps : List Str), X.mg x = some (.ref a) ∧ PySem.W.keepIn X.K (.ref a) = true ∧ Binds X.K fd ps [] ∧ FnOk X.prog X.w X.K X.mg X.base (L2.CX X.prog X.w) k a fd ps (spD ⟨X.K, X.mg⟩ ar (Φ id))
structure Amb (G : GEnv) (k : Nat) (Φ : PhT) (c : Ctx) (X : Cx) : Prop where
  sc : X.env.scope = c.sc
  N : X.N = c.N
  nd : X.N.Nodup
  calm : X.calm = true
  room : Room k X.A
  kind : X.env.scope.kind = .function
  po : PassesOwn (model X.prog X.w) X.A X.env X.xe
  ow : ∀ y, c.ow y = true → X.fn y = true
  fn : ∀ x id ar, G.lookup x = some (.fn id ar) → FnAt X k Φ x id ar
  con : ∀ x d, G.lookup x = some (.con d) → ∃ v u, X.mg x = some u ∧ RelV v u ∧ ∀ w, Rep ⟨X.K, X.mg⟩ w d v
  free : ∀ x ∈ freeN, X.mg x = none
theorem Amb.hu {G : GEnv} {k : Nat} {Φ : PhT} {c : Ctx} {X : Cx} (A : Amb G k Φ c X) : X.A.units + 200 < cLine := by
  have := A.room.un
  omega

structure CE (G : GEnv) (c : Ctx) (e : Expr) where
  den : PhT → DenE
  ok : ∀ (Φ : PhT) (k : Nat) (X : Cx) (W : WX), Amb G k Φ c X → Takes X W → PE X e (tE ⟨X.K, X.mg⟩ W (den Φ))
structure CL (G : GEnv) (c : Ctx) (e : Expr) where
  den : PhT → DenA
  ok : ∀ (Φ : PhT) (k : Nat) (X : Cx) (W : WX), Amb G k Φ c X → Takes X W → PE X e (tL ⟨X.K, X.mg⟩ W (den Φ))
structure CT (G : GEnv) (c : Ctx) (e : Expr) where
  den : PhT → DenT
  ok : ∀ (Φ : PhT) (k : Nat) (X : Cx) (W : WX), Amb G k Φ c X → Takes X W → PT X e (tT ⟨X.K, X.mg⟩ W (den Φ))
structure CW (G : GEnv) (c : Ctx) (e : Expr) where
  den : PhT → DenT
  ok : ∀ (Φ : PhT) (k : Nat) (X : Cx) (W : WX), Amb G k Φ c X → Takes X W → PW X e (tT ⟨X.K, X.mg⟩ W (den Φ))
structure CA (G : GEnv) (c : Ctx) (es : List Expr) where
  den : PhT → DenA
  star : es.all (fun e => !isStar e) = true
  ok : ∀ (Φ : PhT) (k : Nat) (X : Cx) (W : WX), Amb G k Φ c X → Takes X W → PA X es (tA ⟨X.K, X.mg⟩ W (den Φ))
structure CI (G : GEnv) (c : Ctx) (tg e : Expr) where
  den : PhT → Fr → Sto → Out Src
  ok : ∀ (Φ : PhT) (k : Nat) (X : Cx) (W : WX), Amb G k Φ c X → Takes X W → PI X tg e (tI ⟨X.K, X.mg⟩ W (den Φ))
structure CG (G : GEnv) (c : Ctx) (is : List Nat) (e : Expr) where
  den : DTg
  ok : ∀ (Φ : PhT) (k : Nat) (X : Cx), Amb G k Φ c X → PG X e (tGt ⟨X.K, X.mg⟩ is den)
structure CGs (G : GEnv) (c : Ctx) (is : List Nat) (es : List Expr) where
  den : DTgs
  star : es.all (fun e => !isStar e) = true
  ok : ∀ (Φ : PhT) (k : Nat) (X : Cx), Amb G k Φ c X → PGs X es (tGts ⟨X.K, X.mg⟩ is den)
structure CS (G : GEnv) (c : Ctx) (st : Stmt) where
  den : PhT → DenS
  ok : ∀ (Φ : PhT) (k : Nat) (X : Cx) (W : WX), Amb G k Φ c X → Takes X W → PS X st (tS ⟨X.K, X.mg⟩ W (den Φ))
structure CSs (G : GEnv) (c : Ctx) (st : List Stmt) where
  den : PhT → DenS
  ok : ∀ (Φ : PhT) (k : Nat) (X : Cx) (W : WX), Amb G k Φ c X → Takes X W → PSs X st (tS ⟨X.K, X.mg⟩ W (den Φ))

/-! ### names -/
def ixOf : List Str → Str → Option Nat
  | [], _ => none
  | y :: ys, x => if y = x then some 0 else (ixOf ys x).map (· + 1)
theorem ixOf_ok : ∀ {N : List Str} {x : Str} {i : Nat}, ixOf N x = some i → N[i]? = some x
  | [], _, _, h => by cases h
  | y :: ys, x, i, h => by
    unfold ixOf at h
    by_cases e : y = x
    · rw [if_pos e] at h
      cases h
      rw [e]
      rfl
    · rw [if_neg e] at h
      cases q : ixOf ys x with
      | none => rw [q] at h; cases h
      | some j =>
        rw [q] at h
        cases h
        show ys[j]? = some x
        exact ixOf_ok q
def visB (sc : Scope) (x : Str) : Bool := match sc.names.lookup x with
  | some .local => true
  | some .cell => true
  | some .free => true
  | _ => false
theorem visB_ok {sc : Scope} {x : Str} (h : visB sc x = true) : Vis sc x := by
  unfold visB at h
  split at h
  · rename_i e; exact .inl e
  · rename_i e; exact .inr (.inl e)
  · rename_i e; exact .inr (.inr e)
  · cases h
def locB (sc : Scope) (x : Str) : Bool := match sc.names.lookup x with
  | some .local => true
  | some .cell => true
  | _ => false
theorem locB_ok {sc : Scope} {x : Str} (h : locB sc x = true) : Loc sc x := by
  unfold locB at h
  split at h
  · rename_i e; exact .inl e
  · rename_i e; exact .inr e
  · cases h
def isLoc (sc : Scope) (x : Str) : Bool := match sc.names.lookup x with
  | some .local => true
  | _ => false
theorem isLoc_ok {sc : Scope} {x : Str} (h : isLoc sc x = true) : sc.names.lookup x = some .local := by
  unfold isLoc at h
  split at h
  · assumption
  · cases h
def glB (sc : Scope) (x : Str) : Bool := match sc.names.lookup x with
  | some .globalImplicit => true
  | _ => false
theorem glB_ok {sc : Scope} {x : Str} (h : glB sc x = true) : sc.names.lookup x = some .globalImplicit := by
  unfold glB at h
  split at h
  · assumption
  · cases h
/-- no name with two bars ahead -/
def okN (x : Str) : Bool := x.cps[1]? != some 95
theorem okN_dbg {x : Str} (h : okN x = true) : (x == ("__debug__" : Str)) = false ∧ (x == ("__classdict__" : Str)) = false := by
  have h1 : (("__debug__" : Str)).cps[1]? = some 95 := by decide +kernel
  have h2 : (("__classdict__" : Str)).cps[1]? = some 95 := by decide +kernel
  unfold okN at h
  refine ⟨?_, ?_⟩
  · cases q : x == ("__debug__" : Str) with
    | false => rfl
    | true =>
      have e : x = ("__debug__" : Str) := by simpa using q
      rw [e, h1] at h
      cases h
  · cases q : x == ("__classdict__" : Str) with
    | false => rfl
    | true =>
      have e : x = ("__classdict__" : Str) := by simpa using q
      rw [e, h2] at h
      cases h
section
variable {G : GEnv} {c : Ctx}
theorem Amb.gl {k : Nat} {Φ : PhT} {X : Cx} (A : Amb G k Φ c X) {x : Str} (h : glB c.sc x = true) : Gl X x := by
  show X.env.scope.names.lookup x = _
  rw [A.sc]
  exact glB_ok h
theorem Amb.vis {k : Nat} {Φ : PhT} {X : Cx} (A : Amb G k Φ c X) {x : Str} (h : visB c.sc x = true) : Vis X.env.scope x := by
  rw [A.sc]
  exact visB_ok h
theorem Amb.loc {k : Nat} {Φ : PhT} {X : Cx} (A : Amb G k Φ c X) {x : Str} (h : locB c.sc x = true) : Loc X.env.scope x := by
  rw [A.sc]
  exact locB_ok h
theorem Amb.lk {k : Nat} {Φ : PhT} {X : Cx} (A : Amb G k Φ c X) {x : Str} (h : isLoc c.sc x = true) : X.env.scope.names.lookup x = some .local := by
  rw [A.sc]
  exact isLoc_ok h
theorem Amb.ix {k : Nat} {Φ : PhT} {X : Cx} (A : Amb G k Φ c X) {x : Str} {i : Nat} (h : ixOf c.N x = some i) : X.N[i]? = some x := by
  rw [A.N]
  exact ixOf_ok h
/-- a name that may be stored -/
def stB (c : Ctx) (x : Str) : Bool := locB c.sc x && (c.ow x || isLoc c.sc x)
theorem Amb.st {k : Nat} {Φ : PhT} {X : Cx} (A : Amb G k Φ c X) {x : Str} (h : stB c x = true) : Loc X.env.scope x ∧ (X.fn x = true ∨ X.env.scope.names.lookup x = some .local) := by
  unfold stB at h
  rw [Bool.and_eq_true, Bool.or_eq_true] at h
  refine ⟨A.loc h.1, ?_⟩
  rcases h.2 with q | q
  · exact .inl (A.ow _ q)
  · exact .inr (A.lk q)

/-! ### expressions -/
def sName (x : Str) (pos : Pos) : Option (CE G c (.Name x pos)) :=
  if hn : okN x = true then
    if hv : visB c.sc x = true then
      match hi : ixOf c.N x with
      | some i => some ⟨fun _ => dVar i, fun Φ k X W A tk => de_var (pe_var (A.ix hi) (A.vis hv) (okN_dbg hn).1 (okN_dbg hn).2)⟩
      | none => none
    else if hg : glB c.sc x = true then
      match hq : G.lookup x with
      | some (.con d) => some ⟨fun _ => dC d, fun Φ k X W A tk => by
          obtain ⟨v, u, h1, h2, h3⟩ := A.con x d hq
          exact de_con h3 (pe_glob (A.gl hg) h1 h2 (okN_dbg hn).1)⟩
      | some (.fn id ar) => some ⟨fun _ => dC (.gl x), fun Φ k X W A tk => by
          obtain ⟨a, fd, ps, h1, _⟩ := (A.fn x id ar hq).ex
          exact de_con (v := .ref a) (fun w => .gl h1) (pe_glob (A.gl hg) h1 rfl (okN_dbg hn).1)⟩
      | none => match ht : tyTab.lookup x with
        | some n => some ⟨fun _ => dC (.ty n), fun Φ k X W A tk => by
            obtain ⟨h1, h2, h3, h4⟩ := tyTab_ok _ (mem_of_look ht)
            exact de_con (v := .ty n) (fun w => .ty n) (pe_bltn (A.gl hg) (A.free x h2) h1 rfl h3 h4)⟩
        | none => none
    else none
  else none
def sConst : (v : Const) → (j : Nat) → (pos : Pos) → Option (CE G c (.Constant v j pos))
  | .int i, j, pos => some ⟨fun _ => dC (.int i), fun Φ k X W A tk => de_con (fun w => .int i) pe_int⟩
  | .bool b, j, pos => some ⟨fun _ => dC (.bl b), fun Φ k X W A tk => de_con (fun w => .bl b) pe_bl⟩
  | .none, j, pos => some ⟨fun _ => dC .non, fun Φ k X W A tk => de_con (fun w => .non) pe_non⟩
  | .str x, j, pos => some ⟨fun _ => dC (.str x), fun Φ k X W A tk => de_con (fun w => .str x) pe_str⟩
  | _, _, _ => none
/-- an operator's meaning -/
def opF : Operator → Option F2
  | .Add => some aAdd | .Sub => some aSub | .Mult => some aMul | .Mod => some aMod | .FloorDiv => some aFDiv | .Pow => some aPow | .LShift => some aShl
  | _ => none
theorem opF_ok {X : Cx} {op : Operator} {f : F2} (h : opF op = some f) : OpR X (binaryOp op) (r2 ⟨X.K, X.mg⟩ f) := by
  cases op <;> cases h
  · exact opr_add
  · exact opr_sub
  · exact opr_mul
  · exact opr_mod
  · exact opr_pow
  · exact opr_shl
  · exact opr_fdiv
def cmpF : CmpOp → F2
  | .Eq => aEq | .NotEq => aNe | .Lt => aLt | .LtE => aLe | .Gt => aGt | .GtE => aGe | .Is => aIs | .IsNot => aIsNot | .In => aIn | .NotIn => aNotIn
theorem cmpF_ok {X : Cx} (hu : X.A.units + 200 < cLine) (op : CmpOp) : OpR X (compareOp op) (r2 ⟨X.K, X.mg⟩ (cmpF op)) := by
  cases op
  · exact opr_eq hu
  · exact opr_ne hu
  · exact opr_lt
  · exact opr_le
  · exact opr_gt
  · exact opr_ge
  · exact opr_is
  · exact opr_isNot
  · exact opr_in hu
  · exact opr_notIn hu
def sBin (a : Expr) (op : Operator) (b : Expr) (pos : Pos) (ca : Option (CE G c a)) (cb : Option (CE G c b)) : Option (CE G c (.BinOp a op b pos)) :=
  match ca, cb, hf : opF op with
  | some ca, some cb, some f => some ⟨fun Φ => dOp f (ca.den Φ) (cb.den Φ), fun Φ k X W A tk => de_op (opF_ok hf) (ca.ok Φ k X W A tk) (cb.ok Φ k X W A tk)⟩
  | _, _, _ => none
def sCmp (a : Expr) (op : CmpOp) (b : Expr) (pos : Pos) (ca : Option (CE G c a)) (cb : Option (CE G c b)) : Option (CE G c (.Compare a [op] [b] pos)) :=
  match ca, cb with
  | some ca, some cb => if h : isSetE b = false then some ⟨fun Φ => dOp (cmpF op) (ca.den Φ) (cb.den Φ), fun Φ k X W A tk => de_cmp (cmpF_ok A.hu op) (ca.ok Φ k X W A tk) (cb.ok Φ k X W A tk) (behind_ok h)⟩ else none
  | _, _ => none
def sCmpT (a : Expr) (op : CmpOp) (b : Expr) (pos : Pos) (ca : Option (CE G c a)) (cb : Option (CE G c b)) : Option (CT G c (.Compare a [op] [b] pos)) :=
  match ca, cb with
  | some ca, some cb => if h : isSetE b = false then some ⟨fun Φ => dCmpT (cmpF op) (ca.den Φ) (cb.den Φ), fun Φ k X W A tk => dt_cmp (cmpF_ok A.hu op) (ca.ok Φ k X W A tk) (cb.ok Φ k X W A tk) (behind_ok h)⟩ else none
  | _, _ => none
def sChain (a : Expr) (op op' : CmpOp) (b d : Expr) (pos : Pos) (ca : Option (CE G c a)) (cb : Option (CE G c b)) (cd : Option (CE G c d)) : Option (CE G c (.Compare a [op, op'] [b, d] pos)) :=
  match ca, cb, cd with
  | some ca, some cb, some cd => if h : isSetE d = false then some ⟨fun Φ => dChain (cmpF op) (cmpF op') (ca.den Φ) (cb.den Φ) (cd.den Φ), fun Φ k X W A tk => de_chain (cmpF_ok A.hu op) (cmpF_ok A.hu op') (ca.ok Φ k X W A tk) (cb.ok Φ k X W A tk) (cd.ok Φ k X W A tk) (last_ok h)⟩ else none
  | _, _, _ => none
def sChainT (a : Expr) (op op' : CmpOp) (b d : Expr) (pos : Pos) (ca : Option (CE G c a)) (cb : Option (CE G c b)) (cd : Option (CE G c d)) : Option (CT G c (.Compare a [op, op'] [b, d] pos)) :=
  match ca, cb, cd with
  | some ca, some cb, some cd => if h : isSetE d = false then some ⟨fun Φ => dChainT (cmpF op) (cmpF op') (ca.den Φ) (cb.den Φ) (cd.den Φ), fun Φ k X W A tk => dt_chain (cmpF_ok A.hu op) (cmpF_ok A.hu op') (ca.ok Φ k X W A tk) (cb.ok Φ k X W A tk) (cd.ok Φ k X W A tk) (last_ok h)⟩ else none
  | _, _, _ => none
def dNeg (f : DenE) : DenE := fun fr S => (f fr S).bnd fun d S' => match d with
  | .int i => .ok (.int (-i)) S'
  | _ => .no
theorem de_neg {X : Cx} {W : WX} {a : Expr} {pos : Pos} {f : DenE} (ha : PE X a (tE ⟨X.K, X.mg⟩ W f)) : PE X (.UnaryOp .USub a pos) (tE ⟨X.K, X.mg⟩ W (dNeg f)) := by
  refine PE.weaken (pe_un un_neg ha) fun σ H Q h => tG_mono (lift1 h) fun x H1 q => ?_
  obtain ⟨w, S, fr, d, rfl, so, fo, r, p⟩ := q
  dsimp only at p
  split at p
  · cases r
    exact ⟨_, rfl, p w _ (Step.refl so) so (.int _)⟩
  · exact p.elim
def sUn : (op : UnaryOp) → (a : Expr) → (pos : Pos) → Option (CE G c a) → Option (CE G c (.UnaryOp op a pos))
  | .Not, a, pos, some ca => some ⟨fun Φ => dNotV (ca.den Φ), fun Φ k X W A tk => de_not (ca.ok Φ k X W A tk)⟩
  | .USub, a, pos, some ca => some ⟨fun Φ => dNeg (ca.den Φ), fun Φ k X W A tk => de_neg (ca.ok Φ k X W A tk)⟩
  | _, _, _, _ => none
/-- and, or by values -/
def sBools (rec_ : (e : Expr) → Option (CE G c e)) (pos : Pos) : (op : BoolOp) → (es : List Expr) → Option (CE G c (.BoolOp op es pos))
  | op, [a] => match rec_ a with
    | some ca => some ⟨ca.den, fun Φ k X W A tk => pe_one (ca.ok Φ k X W A tk)⟩
    | none => none
  | .And, a :: b :: r => match rec_ a, sBools rec_ pos .And (b :: r) with
    | some ca, some cb => some ⟨fun Φ => dAndV (ca.den Φ) (cb.den Φ), fun Φ k X W A tk => de_and (ca.ok Φ k X W A tk) (cb.ok Φ k X W A tk)⟩
    | _, _ => none
  | .Or, a :: b :: r => match rec_ a, sBools rec_ pos .Or (b :: r) with
    | some ca, some cb => some ⟨fun Φ => dOrV (ca.den Φ) (cb.den Φ), fun Φ k X W A tk => de_or (ca.ok Φ k X W A tk) (cb.ok Φ k X W A tk)⟩
    | _, _ => none
  | _, _ => none
def sBoolsW (rec_ : (e : Expr) → Option (CT G c e)) (pos : Pos) : (op : BoolOp) → (es : List Expr) → Option (CW G c (.BoolOp op es pos))
  | .And, [a] => match rec_ a with
    | some ca => some ⟨ca.den, fun Φ k X W A tk => pw_and1 (ca.ok Φ k X W A tk)⟩
    | none => none
  | .Or, [a] => match rec_ a with
    | some ca => some ⟨ca.den, fun Φ k X W A tk => pw_or1 (ca.ok Φ k X W A tk)⟩
    | none => none
  | .And, a :: b :: r => match rec_ a, sBoolsW rec_ pos .And (b :: r) with
    | some ca, some cb => some ⟨fun Φ => dTAnd (ca.den Φ) (cb.den Φ), fun Φ k X W A tk => dw_and (ca.ok Φ k X W A tk) (cb.ok Φ k X W A tk)⟩
    | _, _ => none
  | .Or, a :: b :: r => match rec_ a, sBoolsW rec_ pos .Or (b :: r) with
    | some ca, some cb => some ⟨fun Φ => dTOr (ca.den Φ) (cb.den Φ), fun Φ k X W A tk => dw_or (ca.ok Φ k X W A tk) (cb.ok Φ k X W A tk)⟩
    | _, _ => none
  | _, _ => none
def sArgs (rec_ : (e : Expr) → Option (CE G c e)) : (es : List Expr) → Option (CA G c es)
  | [] => some ⟨fun _ => dANil, rfl, fun Φ k X W A tk => da_nil⟩
  | e :: es => match rec_ e, sArgs rec_ es with
    | some ce, some cs => if h : isStar e = false then some ⟨fun Φ => dACons (ce.den Φ) (cs.den Φ), by rw [List.all_cons, cs.star, h]; rfl, fun Φ k X W A tk => da_cons (ce.ok Φ k X W A tk) (cs.ok Φ k X W A tk) (star_cons h)⟩ else none
    | _, _ => none
def sIf (t a b : Expr) (pos : Pos) (ct : Option (CT G c t)) (ca : Option (CE G c a)) (cb : Option (CE G c b)) : Option (CE G c (.IfExp t a b pos)) :=
  match ct, ca, cb with
  | some ct, some ca, some cb => some ⟨fun Φ => dIf (ct.den Φ) (ca.den Φ) (cb.den Φ), fun Φ k X W A tk => de_if (ct.ok Φ k X W A tk) (ca.ok Φ k X W A tk) (cb.ok Φ k X W A tk)⟩
  | _, _, _ => none
def sIx (a b : Expr) (pos : Pos) (ca : Option (CE G c a)) (cb : Option (CE G c b)) : Option (CE G c (.Subscript a b pos)) :=
  match ca, cb with
  | some ca, some cb => if h : isSlice b = false then some ⟨fun Φ => dOp aIx (ca.den Φ) (cb.den Φ), fun Φ k X W A tk => de_ix A.hu (ca.ok Φ k X W A tk) (cb.ok Φ k X W A tk) (plainIx h)⟩ else none
  | _, _ => none
structure CO (G : GEnv) (c : Ctx) (e : Option Expr) where
  den : PhT → Option DenE
  ok : ∀ (Φ : PhT) (k : Nat) (X : Cx) (W : WX), Amb G k Φ c X → Takes X W → PO X e (tO ⟨X.K, X.mg⟩ W (dPart (den Φ)))
def sPart (rec_ : (e : Expr) → Option (CE G c e)) : (e : Option Expr) → Option (CO G c e)
  | none => some ⟨fun _ => none, fun Φ k X W A tk => do_none⟩
  | some e => match rec_ e with
    | some ce => some ⟨fun Φ => some (ce.den Φ), fun Φ k X W A tk => do_some (ce.ok Φ k X W A tk)⟩
    | none => none
def sSl (e : Expr) (lo hi : Option Expr) (p2 pos : Pos) (ce : Option (CE G c e)) (cl : Option (CO G c lo)) (ch : Option (CO G c hi)) : Option (CE G c (.Subscript e (.Slice lo hi none p2) pos)) :=
  match ce, cl, ch with
  | some ce, some cl, some ch => some ⟨fun Φ => dSl (ce.den Φ) (cl.den Φ) (ch.den Φ), fun Φ k X W A tk => de_sl (ce.ok Φ k X W A tk) (cl.ok Φ k X W A tk) (ch.ok Φ k X W A tk)⟩
  | _, _, _ => none

/-! ### calls -/
def sCallFn (x : Str) (es : List Expr) (p pos : Pos) (id ar : Nat) (hq : G.lookup x = some (.fn id ar)) (hg : glB c.sc x = true) (hn : okN x = true) (cs : Option (CA G c es)) : Option (CE G c (.Call (.Name x p) es [] pos)) :=
  match es, cs with
  | [], _ => if h0 : ar = 0 then some ⟨fun Φ => dCall 0 (Φ id) dANil, fun Φ k X W A tk => by
      subst h0
      obtain ⟨a, fd, ps, h1, h2, h3, h4⟩ := (A.fn x id 0 hq).ex
      exact de_call0 h4 A.room (A.gl hg) h1 h2 h3 tk (okN_dbg hn).1⟩ else none
  | e :: es, some cs => some ⟨fun Φ => dCall ar (Φ id) (cs.den Φ), fun Φ k X W A tk => by
      obtain ⟨a, fd, ps, h1, h2, h3, h4⟩ := (A.fn x id ar hq).ex
      have hs := cs.star
      rw [List.all_cons, Bool.and_eq_true] at hs
      exact de_call h4 A.room (A.gl hg) h1 h2 h3 tk (cs.ok Φ k X W A tk) (okN_dbg hn).1 (star_cons (by simpa using hs.1)) (star_any hs.2)⟩
  | _, none => none
theorem Amb.blt {k : Nat} {Φ : PhT} {X : Cx} (A : Amb G k Φ c X) {x : Str} {t : BK} (h : bkTab.lookup x = some t) : X.mg x = none ∧ bootBuiltins x = some t.val ∧ x ≠ "__name__" ∧ (x == ("__debug__" : Str)) = false := by
  obtain ⟨h1, h2, h3, h4⟩ := bkTab_ok _ (mem_of_look h)
  exact ⟨A.free x h2, h1, h3, h4⟩
/-- a built-in function's call by data -/
def sB (x : Str) (e : Expr) (es : List Expr) (p pos : Pos) (t : BK) (id : String) (f : FB) (ht : bkTab.lookup x = some t) (hid : t.val = .builtin id) (hg : glB c.sc x = true) (hc : ∀ X : Cx, X.calm = true → CallR X (.builtin id) (rB ⟨X.K, X.mg⟩ f))
    (cs : CA G c (e :: es)) : CE G c (.Call (.Name x p) (e :: es) [] pos) := ⟨fun Φ => dB f (cs.den Φ), fun Φ k X W A tk => by
      obtain ⟨h1, h2, h3, h4⟩ := A.blt ht
      have hs := cs.star
      rw [List.all_cons, Bool.and_eq_true] at hs
      exact de_callB (hc X A.calm) (A.gl hg) h1 (by rw [h2, hid]) (cs.ok Φ k X W A tk) h3 h4 (star_cons (by simpa using hs.1)) (star_any hs.2)⟩
def sTy (x : Str) (e : Expr) (es : List Expr) (p pos : Pos) (t : BK) (id : String) (f : FB) (ht : bkTab.lookup x = some t) (hid : t.val = .type id) (hg : glB c.sc x = true) (hc : ∀ X : Cx, X.calm = true → CallR X (.type id) (rB ⟨X.K, X.mg⟩ f))
    (cs : CA G c (e :: es)) : CE G c (.Call (.Name x p) (e :: es) [] pos) := ⟨fun Φ => dB f (cs.den Φ), fun Φ k X W A tk => by
      obtain ⟨h1, h2, h3, h4⟩ := A.blt ht
      have hs := cs.star
      rw [List.all_cons, Bool.and_eq_true] at hs
      exact de_callTy (hc X A.calm) (A.gl hg) h1 (by rw [h2, hid]) (cs.ok Φ k X W A tk) h3 h4 (star_cons (by simpa using hs.1)) (star_any hs.2)⟩
def sBT (x : Str) (e : Expr) (p pos : Pos) (t : BK) (id : String) (f : FB) (ht : bkTab.lookup x = some t) (hid : t.val = .builtin id) (hg : glB c.sc x = true) (hc : ∀ X : Cx, X.calm = true → CallR X (.builtin id) (rBT ⟨X.K, X.mg⟩ f))
    (cl : CL G c e) : Option (CE G c (.Call (.Name x p) [e] [] pos)) := if h : isStar e = false then some ⟨fun Φ => dB f (cl.den Φ), fun Φ k X W A tk => by
      obtain ⟨h1, h2, h3, h4⟩ := A.blt ht
      exact de_callBT (hc X A.calm) (A.gl hg) h1 (by rw [h2, hid]) (cl.ok Φ k X W A tk) h3 h4 (star_cons h) rfl⟩ else none
def sTyT (x : Str) (e : Expr) (p pos : Pos) (t : BK) (id : String) (f : FB) (ht : bkTab.lookup x = some t) (hid : t.val = .type id) (hg : glB c.sc x = true) (hc : ∀ X : Cx, X.calm = true → CallR X (.type id) (rBT ⟨X.K, X.mg⟩ f))
    (cl : CL G c e) : Option (CE G c (.Call (.Name x p) [e] [] pos)) := if h : isStar e = false then some ⟨fun Φ => dB f (cl.den Φ), fun Φ k X W A tk => by
      obtain ⟨h1, h2, h3, h4⟩ := A.blt ht
      exact de_callTyT (hc X A.calm) (A.gl hg) h1 (by rw [h2, hid]) (cl.ok Φ k X W A tk) h3 h4 (star_cons h) rfl⟩ else none
/-- a function of one list: of a list just made, or of any -/
def sSeqB (x : Str) (e : Expr) (p pos : Pos) (t : BK) (id : String) (f : FB) (ht : bkTab.lookup x = some t) (hid : t.val = .builtin id) (hg : glB c.sc x = true) (hc : ∀ X : Cx, X.calm = true → CallR X (.builtin id) (rLst ⟨X.K, X.mg⟩ f))
    (cl : Option (CL G c e)) (cs : Option (CA G c [e])) : Option (CE G c (.Call (.Name x p) [e] [] pos)) := match cl, cs with
  | some cl, _ => sBT x e p pos t id f ht hid hg (fun X h => CallR.imp (hc X h) fun _ _ _ q => rLst_T q) cl
  | none, some cs => some (sB x e [] p pos t id (onLst f) ht hid hg (fun X h => CallR.imp (hc X h) fun _ _ _ q => rLst_D q) cs)
  | none, none => none
def sCallB (x : Str) (es : List Expr) (p pos : Pos) (t : BK) (ht : bkTab.lookup x = some t) (hg : glB c.sc x = true) (recL : (e : Expr) → Option (CL G c e)) (cs : Option (CA G c es)) : Option (CE G c (.Call (.Name x p) es [] pos)) :=
  match t, ht, es, cs with
  | .len, ht, [e], some cs => some (sB x e [] p pos _ "len" fLen ht rfl hg (fun _ _ => c_len) cs)
  | .abs, ht, [e], some cs => some (sB x e [] p pos _ "abs" fAbs ht rfl hg (fun _ _ => c_abs) cs)
  | .isinstance, ht, [e, e2], some cs => some (sB x e [e2] p pos _ "isinstance" fIsi ht rfl hg (fun _ _ => c_isi) cs)
  | .max, ht, [e, e2], some cs => some (sB x e [e2] p pos _ "max" fMax2 ht rfl hg (fun _ h => c_max2 h) cs)
  | .min, ht, [e, e2], some cs => some (sB x e [e2] p pos _ "min" fMin2 ht rfl hg (fun _ h => c_min2 h) cs)
  | .int, ht, [e], some cs => some (sTy x e [] p pos _ "int" fInt ht rfl hg (fun _ _ => c_int) cs)
  | .str, ht, [e], some cs => some (sTy x e [] p pos _ "str" fStr ht rfl hg (fun _ _ => c_str) cs)
  | .all, ht, [e], cs => sSeqB x e p pos _ "all" fAll ht rfl hg (fun _ h => c_all h) (recL e) cs
  | .any, ht, [e], cs => sSeqB x e p pos _ "any" fAny ht rfl hg (fun _ h => c_any h) (recL e) cs
  | .sum, ht, [e], cs => sSeqB x e p pos _ "sum" fSum ht rfl hg (fun _ h => c_sum h) (recL e) cs
  | .max, ht, [e], cs => sSeqB x e p pos _ "max" fMax ht rfl hg (fun _ h => c_max h) (recL e) cs
  | .min, ht, [e], cs => sSeqB x e p pos _ "min" fMin ht rfl hg (fun _ h => c_min h) (recL e) cs
  | .tuple, ht, [e], cs => match recL e, cs with
    | some cl, _ => sTyT x e p pos _ "tuple" fTup ht rfl hg (fun _ _ => c_tupT) cl
    | none, some cs => some (sTy x e [] p pos _ "tuple" (onSeq fTup) ht rfl hg (fun _ _ => c_tup) cs)
    | none, none => none
  | .list, ht, [e], some cs => some (sTy x e [] p pos _ "list" (onSeq fList) ht rfl hg (fun _ _ => c_list) cs)
  | _, _, _, _ => none
def sCall (x : Str) (es : List Expr) (p pos : Pos) (recL : (e : Expr) → Option (CL G c e)) (cs : Option (CA G c es)) : Option (CE G c (.Call (.Name x p) es [] pos)) :=
  if hn : okN x = true then
    if hg : glB c.sc x = true then
      match hq : G.lookup x with
      | some (.fn id ar) => sCallFn x es p pos id ar hq hg hn cs
      | some (.con _) => none
      | none => match ht : bkTab.lookup x with
        | some t => sCallB x es p pos t ht hg recL cs
        | none => none
    else none
  else none
end
end DL
/-! DL, part o: displays of dicts; the compiler goes on. -/
namespace DL
open PySem PySem.Spec PyProof.Rows L2

/-! ### dict displays -/
def evP : List (DenE × DenE) → Fr → Sto → Out (List (D × D))
  | [], _, S => .ok [] S
  | p :: r, fr, S => (p.1 fr S).bnd fun x S1 => (p.2 fr S1).bnd fun y S2 => (evP r fr S2).bnd fun l S3 => .ok ((x, y) :: l) S3
def keysD : List (D × D) → Option (List (Key × D))
  | [] => some []
  | p :: r => match keyD p.1, keysD r with
    | some k, some l => some ((k, p.2) :: l)
    | _, _ => none
def mergeD (kvs more : List (Key × D)) : List (Key × D) := more.foldl (fun acc kv => putD acc kv.1 kv.2) kvs
def dDict (ps : List (DenE × DenE)) : DenE := fun fr S => (evP ps fr S).bnd fun l S' => match keysD l with
  | some kvs => if kvs.length ≤ 15 then .ok (.ob S'.length) (S' ++ [.dk (mergeD [] kvs)]) else .no
  | none => .no
def RPs (g : Gnd) (w : Wd) (l : List (D × D)) (vs : List (V × V)) : Prop := Reps g w (l.map (·.1)) (vs.map (·.1)) ∧ Reps g w (l.map (·.2)) (vs.map (·.2))
theorem lift_pairs {g : Gnd} {W : WX} {σ : L2.St} : ∀ (ps : List (DenE × DenE)) (H : Hp) {Q : List (V × V) → Hp → Prop}, tG g W (RPs g) (evP ps) σ H Q → tPairs (ps.map fun p => (tE g W p.1, tE g W p.2)) σ H Q
  | [], H, Q, h => by
    obtain ⟨w, S, fr, rfl, so, fo, p⟩ := h
    exact p w [] (Step.refl so) so ⟨.nil, .nil⟩
  | p :: r, H, Q, h => by
    show tE g W p.1 σ H fun x H1 => tE g W p.2 σ H1 fun y H2 => tPairs (r.map fun p => (tE g W p.1, tE g W p.2)) σ H2 fun ps H3 => Q ((x, y) :: ps) H3
    refine tG_mono (lift2 (R1 := Rep g) (R2 := Rep g) (R := RPs g) (k := fun x y fr S2 => (evP r fr S2).bnd fun l S3 => .ok ((x, y) :: l) S3) (fun _ _ _ _ s r => rmono s r) h) fun x H1 h1 => tG_mono h1 fun y H2 h2 => lift_pairs r H2 ?_
    refine tG_mono (next1 (R1 := fun w (p : D × D) (q : V × V) => Rep g w p.1 q.1 ∧ Rep g w p.2 q.2) (R2 := RPs g) (R := RPs g) (k := fun a l fr S => .ok ((a.1, a.2) :: l) S) (x := (x, y)) (fun _ _ _ _ s r => ⟨rmono s r.1, rmono s r.2⟩) h2) fun l H3 h3 => ?_
    obtain ⟨w, S, fr, q, rfl, so, fo, ⟨⟨rx, ry⟩, rl⟩, p⟩ := h3
    exact p w _ (Step.refl so) so ⟨.cons rx rl.1, .cons ry rl.2⟩
theorem keysD_ok {g : Gnd} {w : Wd} : ∀ {l : List (D × D)} {vs : List (V × V)} {kvs : List (Key × D)}, RPs g w l vs → keysD l = some kvs →
    ∃ kus : List (Key × V), vs = kus.map (fun kv => (kV kv.1, kv.2)) ∧ kvs.map (·.1) = kus.map (·.1) ∧ Reps g w (kvs.map (·.2)) (kus.map (·.2))
  | [], vs, kvs, r, e => by
    cases e
    cases vs with
    | nil => exact ⟨[], rfl, rfl, .nil⟩
    | cons a b => cases r.1
  | p :: l, vs, kvs, r, e => by
    cases vs with
    | nil => cases r.1
    | cons a b =>
      unfold keysD at e
      split at e
      · rename_i k l' ek el
        cases e
        cases r.1 with
        | cons r1 r2 =>
          cases r.2 with
          | cons r3 r4 =>
            obtain ⟨kus, e1, e2, e3⟩ := keysD_ok ⟨r2, r4⟩ el
            refine ⟨(k, a.2) :: kus, ?_, ?_, .cons r3 e3⟩
            · show a :: b = (kV k, a.2) :: _
              rw [← e1, ← keyD_ok r1 ek]
            · show k :: l'.map (·.1) = k :: kus.map (·.1)
              rw [e2]
      · cases e
theorem mergeD_ok {g : Gnd} {w : Wd} : ∀ {more : List (Key × D)} {moreV : List (Key × V)} {kvs : List (Key × D)} {kus : List (Key × V)}, more.map (·.1) = moreV.map (·.1) → Reps g w (more.map (·.2)) (moreV.map (·.2)) →
    kvs.map (·.1) = kus.map (·.1) → Reps g w (kvs.map (·.2)) (kus.map (·.2)) → (mergeD kvs more).map (·.1) = (mergeK kus moreV).map (·.1) ∧ Reps g w ((mergeD kvs more).map (·.2)) ((mergeK kus moreV).map (·.2))
  | [], [], _, _, _, _, e, r => ⟨e, r⟩
  | [], _ :: _, _, _, q, _, _, _ => by cases q
  | _ :: _, [], _, _, q, _, _, _ => by cases q
  | p :: more, q :: moreV, kvs, kus, e1, r1, e, r => by
    cases r1 with
    | cons rx r2 =>
      have h1 : p.1 = q.1 := (List.cons.inj e1).1
      obtain ⟨h2, h3, _⟩ := putD_ok (k := p.1) rx e r
      have := mergeD_ok (List.cons.inj e1).2 r2 h2 h3
      rw [h1] at this
      show (mergeD (putD kvs p.1 p.2) more).map (·.1) = (mergeK (putK kus q.1 q.2) moreV).map (·.1) ∧ Reps g w ((mergeD (putD kvs p.1 p.2) more).map (·.2)) ((mergeK (putK kus q.1 q.2) moreV).map (·.2))
      rw [h1]
      exact this
theorem len_of_map {α β γ : Type} {f : α → γ} {h : β → γ} {l : List α} {l' : List β} (e : l.map f = l'.map h) : l.length = l'.length := by
  have := congrArg List.length e
  simpa using this
theorem de_dict {X : Cx} {W : WX} {pos : Pos} {keys : List (Option Expr)} {values : List Expr} {ps : List (DenE × DenE)} (h : PPs X pos keys values (ps.map fun p => (tE ⟨X.K, X.mg⟩ W p.1, tE ⟨X.K, X.mg⟩ W p.2)))
    (hall : keys.all (·.isSome) = true) (hl : keys.length = values.length) (h0 : keys ≠ []) (h15 : keys.length ≤ 15) : PE X (.Dict keys values pos) (tE ⟨X.K, X.mg⟩ W (dDict ps)) := by
  refine PE.weaken (pe_disp h hall hl h0 h15) fun σ H Q q p hp => ?_
  obtain ⟨w, S, fr, rfl, so, fo, p0⟩ := q
  obtain ⟨st, so1, hn⟩ := Step.put so hp (.dK [])
  refine lift_pairs ps _ ⟨w.put p (.dK []), S, fr, rfl, so1, fo.mono st.toMono, ?_⟩
  have p0 : Post _ w (Rep _) ((evP ps fr S).bnd fun l S' => match keysD l with
    | some kvs => if kvs.length ≤ 15 then .ok (.ob S'.length) (S' ++ [.dk (mergeD [] kvs)]) else .no
    | none => .no) Q (fun c d H' => W c d σ H') := p0
  cases e : evP ps fr S with
  | no => rw [e] at p0; exact p0
  | ex x S1 =>
    rw [e] at p0
    exact fun w' c dx s' so' rx => p0 w' c dx (st.trans s') so' rx
  | ok l S1 =>
    rw [e] at p0
    intro w1 vs st1 so2 r
    obtain ⟨hu, hne⟩ := st1.untracked (p := p) (o := .dK []) upd_same hn
    refine ⟨hu, ?_⟩
    dsimp only [Out.bnd] at p0
    split at p0
    · rename_i kvs ek
      split at p0
      · rename_i h15'
        obtain ⟨kus, e1, e2, r2⟩ := keysD_ok r ek
        refine ⟨kus, e1, by rw [← len_of_map e2]; exact h15', ?_⟩
        have hk : ∀ b, b ≠ p → (upd w1.H p (.dK (mergeK [] kus))) b = w1.H b := fun b e => upd_ne e
        have mo : Mono w1 (w1.put p (.dK (mergeK [] kus))) := by
          refine ⟨Nat.le_refl _, fun _ _ => rfl, fun a xs e => ?_, fun a ob u e => ?_⟩
          · show upd w1.H p (.dK (mergeK [] kus)) a = _
            rw [hk a (ne_of e hu (by intro z; cases z))]
            exact e
          · show upd w1.H p (.dK (mergeK [] kus)) a = _
            rw [hk a (ne_of e hu (by intro z; cases z))]
            exact e
        have so3 : SOk _ (w1.put p (.dK (mergeK [] kus))) S1 := so2.mono mo rfl fun i hi => hk _ (hne i hi)
        obtain ⟨m1, m2⟩ := mergeD_ok (kvs := []) (kus := []) e2 r2 rfl .nil
        have hlen : (mergeD [] kvs).length ≤ sizeLine := by
          have h1 := length_mergeK kus []
          have h2 := len_of_map m1
          have h3 := len_of_map e2
          rw [List.length_nil] at h1
          rw [sizeLine_eq]
          omega
        obtain ⟨so4, mo4, rr⟩ := Step.adoptO (p := p) (ob := .dk (mergeD [] kvs)) so3 (show upd w1.H p (.dK (mergeK [] kus)) p = _ from upd_same) hne (.dk hlen m1 (Reps.mono mo _ _ m2))
        have st13 := st.trans st1
        refine p0 _ _ ⟨(st13.toMono.trans mo).trans mo4, fun b o hb hx => ?_, fun i h1 h2 => ?_, fun i hi => so4.al i hi⟩ so4 rr
        · show upd w1.H p (.dK (mergeK [] kus)) b = _
          rw [upd_ne (ne_of_none hb hp)]
          exact st13.kp b o hb hx
        · have h2 : i < w1.n + 1 := h2
          by_cases e : i = w1.n
          · show w.H (if i = w1.n then p else w1.m i) = none
            rw [if_pos e]
            exact hp
          · show w.H (if i = w1.n then p else w1.m i) = none
            rw [if_neg e]
            exact st13.fr i h1 (by omega)
      · exact p0.elim
    · exact p0.elim
theorem de_dict0 {X : Cx} {W : WX} {pos : Pos} : PE X (.Dict [] [] pos) (tE ⟨X.K, X.mg⟩ W (dDict [])) := by
  refine PE.weaken pe_dnewK fun σ H Q q p hp => ?_
  obtain ⟨w, S, fr, rfl, so, fo, p0⟩ := q
  obtain ⟨st, so1, rr⟩ := Step.new so hp (o := .dk []) (ho := .dK []) (.dk (Nat.zero_le _) rfl .nil)
  exact p0 _ _ st so1 rr
end DL
/-! DL, part p: from the syntax to its meaning, the rest. -/
namespace DL
open PySem PySem.Spec PyProof.Rows L2
noncomputable section

structure Cps (G : GEnv) where
  E : (c : Ctx) → (e : Expr) → Option (CE G c e)
  L : (c : Ctx) → (e : Expr) → Option (CL G c e)
  T : (c : Ctx) → (e : Expr) → Option (CT G c e)
structure CP (G : GEnv) (c : Ctx) (keys : List (Option Expr)) (values : List Expr) where
  den : PhT → List (DenE × DenE)
  some_ : keys.all (·.isSome) = true
  len : keys.length = values.length
  ok : ∀ (Φ : PhT) (k : Nat) (X : Cx) (W : WX) (pos : Pos), Amb G k Φ c X → Takes X W → PPs X pos keys values ((den Φ).map fun p => (tE ⟨X.K, X.mg⟩ W p.1, tE ⟨X.K, X.mg⟩ W p.2))
structure CTs (G : GEnv) (c : Ctx) (es : List Expr) where
  den : PhT → DenT
  ok : ∀ (Φ : PhT) (k : Nat) (X : Cx) (W : WX), Amb G k Φ c X → Takes X W → PTs X es (tT ⟨X.K, X.mg⟩ W (den Φ))

/-- the inside of a comprehension -/
def Ctx.blk (c : Ctx) (scope : Scope) : Ctx := ⟨relS scope c.sc, c.N, fun y => scope.names.lookup y == some .cell⟩
def ownOf (N : List Str) (scope : Scope) : List (Str × Nat) := scope.names.filterMap fun p => if p.2 = .local ∨ p.2 = .cell then (ixOf N p.1).map fun i => (p.1, i) else none
theorem Amb.blk {G : GEnv} {c : Ctx} {k : Nat} {Φ : PhT} {X : Cx} (A : Amb G k Φ c X) {scope : Scope} (hk : scope.kind = .function) (s : Shared) (H : Hp) (C : Addr) (cl : List (Str × Addr)) (fp : List Addr) :
    Amb G k Φ (c.blk scope) (X.blk s H scope (compEnvC scope cl C X.env) fp) where
  sc := by
    show relS scope X.env.scope = relS scope c.sc
    rw [A.sc]
  N := A.N
  nd := A.nd
  calm := A.calm
  room := A.room
  kind := hk
  po := PassesOwn.never
  ow := fun y h => h
  fn := fun x id ar h => ⟨(A.fn x id ar h).ex⟩
  con := A.con
  free := A.free

section
variable {G : GEnv} {c : Ctx}
def sTupE (es : List Expr) (n : Nat) (pos : Pos) (cs : Option (CA G c es)) : Option (CE G c (.Tuple es n pos)) := match cs with
  | some cs => some ⟨fun Φ => dTup (cs.den Φ), fun Φ k X W A tk => de_tup (cs.ok Φ k X W A tk)⟩
  | none => none
def sLstE (es : List Expr) (pos : Pos) (cs : Option (CA G c es)) : Option (CE G c (.List es pos)) := match cs with
  | some cs => some ⟨fun Φ => dLst (cs.den Φ), fun Φ k X W A tk => de_lst (cs.ok Φ k X W A tk)⟩
  | none => none
def sLstL (es : List Expr) (pos : Pos) (cs : Option (CA G c es)) : Option (CL G c (.List es pos)) := match cs with
  | some cs => some ⟨fun Φ => dLstT (cs.den Φ), fun Φ k X W A tk => dl_lst (cs.ok Φ k X W A tk)⟩
  | none => none
def sKeep {e : Expr} (cl : Option (CL G c e)) : Option (CE G c e) := match cl with
  | some cl => some ⟨fun Φ => dKeep (cl.den Φ), fun Φ k X W A tk => de_keep (cl.ok Φ k X W A tk)⟩
  | none => none
def sPairs (rec_ : (e : Expr) → Option (CE G c e)) : (keys : List (Option Expr)) → (values : List Expr) → Option (CP G c keys values)
  | [], [] => some ⟨fun _ => [], rfl, rfl, fun _ _ _ _ _ _ _ => pps_nil⟩
  | some a :: ks, b :: vs => match rec_ a, rec_ b, sPairs rec_ ks vs with
    | some ca, some cb, some cp => some ⟨fun Φ => (ca.den Φ, cb.den Φ) :: cp.den Φ, by rw [List.all_cons, cp.some_]; rfl, by rw [List.length_cons, List.length_cons, cp.len],
        fun Φ k X W pos A tk => pps_cons (ca.ok Φ k X W A tk) (cb.ok Φ k X W A tk) (cp.ok Φ k X W pos A tk)⟩
    | _, _, _ => none
  | _, _ => none
def sDict (pos : Pos) : (keys : List (Option Expr)) → (values : List Expr) → Option (CP G c keys values) → Option (CE G c (.Dict keys values pos))
  | [], [], _ => some ⟨fun _ => dDict [], fun Φ k X W A tk => de_dict0⟩
  | a :: ks, vs, some cp => if h15 : (a :: ks).length ≤ 15 then some ⟨fun Φ => dDict (cp.den Φ), fun Φ k X W A tk => de_dict (cp.ok Φ k X W pos A tk) cp.some_ cp.len (by intro h; cases h) h15⟩ else none
  | _, _, _ => none

/-! ### targets -/
def sTgN (is : List Nat) (x : Str) (pos : Pos) : Option (CG G c is (.Name x pos)) :=
  if hs : stB c x = true then
    match hi : ixOf c.N x with
    | some i => if hm : i ∈ is then some ⟨gN i, fun Φ k X A => dg_name A.nd (A.ix hi) (A.st hs).1 (A.st hs).2 hm⟩ else none
    | none => none
  else none
def sTgs {is : List Nat} (rec_ : (e : Expr) → Option (CG G c is e)) : (es : List Expr) → Option (CGs G c is es)
  | [] => some ⟨gsNil, rfl, fun Φ k X A => dgs_nil⟩
  | e :: es => match rec_ e, sTgs rec_ es with
    | some ce, some cs => if h : isStar e = false then some ⟨gsCons ce.den cs.den, by rw [List.all_cons, cs.star, h]; rfl, fun Φ k X A => dgs_cons (ce.ok Φ k X A) (cs.ok Φ k X A) (assign_cons h)⟩ else none
    | _, _ => none
def sTg (is : List Nat) : Nat → (e : Expr) → Option (CG G c is e)
  | 0, _ => none
  | _ + 1, .Name x pos => sTgN is x pos
  | n + 1, .Tuple es m pos => match sTgs (sTg is n) es with
    | some cs => some ⟨gT es.length cs.den, fun Φ k X A => dg_tup A.calm (cs.ok Φ k X A) assign_len (assign_find cs.star)⟩
    | none => none
  | _ + 1, _ => none

/-! ### what is walked through -/
def sIterG (r : Cps G) (tg iter : Expr) : Option (CI G c tg iter) := match r.L c iter with
  | some cl => some ⟨fun Φ => dIT (cl.den Φ), fun Φ k X W A tk => di_t (cl.ok Φ k X W A tk)⟩
  | none => match r.E c iter with
    | some ce => some ⟨fun Φ => dISeq (ce.den Φ), fun Φ k X W A tk => di_seq (ce.ok Φ k X W A tk)⟩
    | none => none
theorem star1 {a : Expr} {env : Env} (h : [a].all (fun e => !isStar e) = true) : starEach [a] env = [(false, eval a env)] := by
  rw [List.all_cons, Bool.and_eq_true] at h
  exact star_cons (es := []) (by simpa using h.1)
theorem star2 {a b : Expr} {env : Env} (h : [a, b].all (fun e => !isStar e) = true) : starEach [a, b] env = [(false, eval a env), (false, eval b env)] ∧ starEach [b] env = [(false, eval b env)] := by
  rw [List.all_cons, Bool.and_eq_true] at h
  have h2 := star1 (env := env) h.2
  refine ⟨?_, h2⟩
  rw [star_cons (by simpa using h.1), h2]
def sRange (r : Cps G) (tg : Expr) (p pos : Pos) (hg : glB c.sc "range" = true) : (es : List Expr) → Option (CI G c tg (.Call (.Name "range" p) es [] pos))
  | [a] => match sArgs (r.E c) [a] with
    | some cs => some ⟨fun Φ => dIRange1 (cs.den Φ), fun Φ k X W A tk => di_range1 (A.gl hg) (A.free _ (by decide +kernel)) (cs.ok Φ k X W A tk) (star1 cs.star)⟩
    | none => none
  | [a, b] => match sArgs (r.E c) [a, b] with
    | some cs => some ⟨fun Φ => dIRange2 (cs.den Φ), fun Φ k X W A tk => di_range2 (A.gl hg) (A.free _ (by decide +kernel)) (cs.ok Φ k X W A tk) (star2 cs.star).1 (star2 cs.star).2⟩
    | none => none
  | _ => none
def sZip (r : Cps G) (p pos : Pos) (hg : glB c.sc "zip" = true) : (tg : Expr) → (es : List Expr) → Option (CI G c tg (.Call (.Name "zip" p) es [] pos))
  | .Tuple elts kk tpos, [a, b] => match sArgs (r.E c) [a, b] with
    | some cs => some ⟨fun Φ => dIZip (cs.den Φ), fun Φ k X W A tk => by
        have hs := cs.star
        rw [List.all_cons, Bool.and_eq_true] at hs
        exact di_zip (A.gl hg) (A.free _ (by decide +kernel)) (cs.ok Φ k X W A tk) (star_cons (by simpa using hs.1)) (star_any hs.2)⟩
    | none => none
  | _, _ => none
def sEnum (r : Cps G) (p pos : Pos) (hg : glB c.sc "enumerate" = true) : (tg : Expr) → (es : List Expr) → Option (CI G c tg (.Call (.Name "enumerate" p) es [] pos))
  | .Tuple elts kk tpos, [a] => match r.L c a with
    | some cl => if h : isStar a = false then some ⟨fun Φ => dIEnumT (cl.den Φ), fun Φ k X W A tk => di_enumT (A.gl hg) (A.free _ (by decide +kernel)) (cl.ok Φ k X W A tk) (star_cons (es := []) h)⟩ else none
    | none => match sArgs (r.E c) [a] with
      | some cs => some ⟨fun Φ => dIEnum (cs.den Φ), fun Φ k X W A tk => di_enum (A.gl hg) (A.free _ (by decide +kernel)) (cs.ok Φ k X W A tk) (star1 cs.star)⟩
      | none => none
  | _, _ => none
def sIter (r : Cps G) (tg : Expr) : (iter : Expr) → Option (CI G c tg iter)
  | .Call (.Name x p) es [] pos =>
    if hx : x = "range" then if hg : glB c.sc "range" = true then (by subst hx; exact sRange r tg p pos hg es) else none
    else if hx : x = "zip" then if hg : glB c.sc "zip" = true then (by subst hx; exact sZip r p pos hg tg es) else none
    else if hx : x = "enumerate" then if hg : glB c.sc "enumerate" = true then (by subst hx; exact sEnum r p pos hg tg es) else none
    else sIterG r tg _
  | iter => sIterG r tg iter

/-! ### comprehensions -/
def sTs (rec_ : (e : Expr) → Option (CT G c e)) : (es : List Expr) → Option (CTs G c es)
  | [] => some ⟨fun _ => dYes, fun Φ k X W A tk => dts_nil⟩
  | [e] => match rec_ e with
    | some ct => some ⟨ct.den, fun Φ k X W A tk => pts_one (ct.ok Φ k X W A tk)⟩
    | none => none
  | _ => none
structure Lc (G : GEnv) (c : Ctx) (elt tg iter : Expr) (ifs : List Expr) (scope : Scope) where
  ci : CI G c tg iter
  cg : CG G (c.blk scope) ((ownOf c.N scope).map (·.2)) tg
  ct : CTs G (c.blk scope) ifs
  ce : CE G (c.blk scope) elt
  ok : blkC c.N c.sc scope (ownOf c.N scope) = true
  set : isSetE iter = false
def sLc (r : Cps G) (elt tg iter : Expr) (ifs : List Expr) (scope : Scope) : Option (Lc G c elt tg iter ifs scope) :=
  match sIter r tg iter, sTg (G := G) (c := c.blk scope) ((ownOf c.N scope).map (·.2)) 3 tg, sTs (G := G) (c := c.blk scope) (r.T (c.blk scope)) ifs, r.E (c.blk scope) elt with
  | some ci, some cg, some ct, some ce => if h : blkC c.N c.sc scope (ownOf c.N scope) = true then if h2 : isSetE iter = false then some ⟨ci, cg, ct, ce, h, h2⟩ else none else none
  | _, _, _, _ => none
def Lc.den {elt tg iter : Expr} {ifs : List Expr} {scope : Scope} (l : Lc G c elt tg iter ifs scope) (Φ : PhT) : DenA := dComp ((ownOf c.N scope).map (·.2)) (l.ci.den Φ) l.cg.den (l.ct.den Φ) (l.ce.den Φ)
theorem Lc.blk {elt tg iter : Expr} {ifs : List Expr} {scope : Scope} (l : Lc G c elt tg iter ifs scope) {k : Nat} {Φ : PhT} {X : Cx} (A : Amb G k Φ c X) : BlkOk X.N X.env.scope scope (ownOf c.N scope) := by
  rw [A.N, A.sc]
  exact blkOk_by l.ok
theorem takes0 {X : Cx} : Takes X (fun _ _ _ _ => False) := fun _ _ x => by
  obtain ⟨_, _, _, _, _, _, _, _, _, _, _, _, _, _, _, _, z⟩ := x
  exact z.elim
theorem Lc.pe {elt tg iter : Expr} {ifs : List Expr} {scope : Scope} (l : Lc G c elt tg iter ifs scope) (pos : Pos) {k : Nat} {Φ : PhT} {X : Cx} {W : WX} (A : Amb G k Φ c X) (tk : Takes X W) :
    PE X (.ListComp elt [⟨tg, iter, ifs, 0⟩] scope pos) (tL ⟨X.K, X.mg⟩ W (l.den Φ)) :=
  have hk := (l.blk A).kind
  dl_comp A.calm A.nd (l.ci.ok Φ k X W A tk) (l.blk A) (fun s H C cl fp => l.cg.ok Φ k _ (A.blk hk s H C cl fp)) (fun s H C cl fp => l.ct.ok Φ k _ _ (A.blk hk s H C cl fp) takes0)
    (fun s H C cl fp => l.ce.ok Φ k _ _ (A.blk hk s H C cl fp) takes0) (folded_ok l.set)
def sComp (r : Cps G) (pos : Pos) (elt : Expr) (scope : Scope) : (gs : List Comprehension) → Option (CL G c (.ListComp elt gs scope pos))
  | [⟨tg, iter, ifs, 0⟩] => match sLc (c := c) r elt tg iter ifs scope with
    | some l => some ⟨l.den, fun Φ k X W A tk => l.pe pos A tk⟩
    | none => none
  | _ => none

/-! ### methods -/
structure MI (name : Str) where
  T : String
  id : String
  pa : PlainAttrs T
  slot : Slot T name id
  hty : typeOf (.builtin id) = pure (.type "method_descriptor")
def sM {name : Str} (mi : MI name) (f : FM) (hm : ∀ X : Cx, X.A.units + 200 < cLine → MtR X mi.id (rM ⟨X.K, X.mg⟩ f)) (o : Expr) (apos cpos : Pos) (co : CE G c o) : (es : List Expr) → Option (CA G c es) → Option (CE G c (.Call (.Attribute o name apos) es [] cpos))
  | [], _ => if h : isCall0 o = false ∧ (apos.endLine == cpos.line) = true then some ⟨fun Φ => dM mi.T f (co.den Φ) dANil, fun Φ k X W A tk => de_m0 mi.pa mi.slot mi.hty (hm X A.hu) (co.ok Φ k X W A tk) (base_ok h.1) h.2⟩ else none
  | e :: es, some cs => if h : (isCall0 o = false ∧ (apos.endLine == cpos.line) = true) ∧ (e :: es).length < 30 then some ⟨fun Φ => dM mi.T f (co.den Φ) (cs.den Φ), fun Φ k X W A tk => by
      have hs := cs.star
      have hf := few_ok (pos := cpos) (env := X.env) hs h.2
      rw [List.all_cons, Bool.and_eq_true] at hs
      exact de_m mi.pa mi.slot mi.hty (hm X A.hu) (co.ok Φ k X W A tk) (cs.ok Φ k X W A tk) (base_ok h.1.1) hf h.1.2 (star_cons (by simpa using hs.1)) (star_any hs.2)⟩ else none
  | _, none => none
def sMT {name : Str} (mi : MI name) (f : FM) (hm : ∀ X : Cx, MtR X mi.id (rMT ⟨X.K, X.mg⟩ f)) (o : Expr) (apos cpos : Pos) (co : CE G c o) (e : Expr) (cl : CL G c e) : Option (CE G c (.Call (.Attribute o name apos) [e] [] cpos)) :=
  if h : (isCall0 o = false ∧ (apos.endLine == cpos.line) = true) ∧ isStar e = false then some ⟨fun Φ => dM mi.T f (co.den Φ) (cl.den Φ), fun Φ k X W A tk =>
    have hs : [e].all (fun e => !isStar e) = true := by rw [List.all_cons, h.2]; rfl
    de_mt mi.pa mi.slot mi.hty (hm X) (co.ok Φ k X W A tk) (cl.ok Φ k X W A tk) (base_ok h.1.1) (few_ok hs (show 1 < 30 by decide)) h.1.2 (star_cons h.2) rfl⟩ else none
def miAppend : MI "append" := ⟨_, _, PySem.F.plainAttrs_list, PySem.F.slot_list_append, PySem.F.type_list_append⟩
def miExtend : MI "extend" := ⟨_, _, PySem.F.plainAttrs_list, PySem.F.slot_list_extend, PySem.F.type_list_extend⟩
def miPop : MI "pop" := ⟨_, _, PySem.F.plainAttrs_list, PySem.F.slot_list_pop, PySem.F.type_list_pop⟩
def miClear : MI "clear" := ⟨_, _, PySem.F.plainAttrs_list, PySem.F.slot_list_clear, PySem.F.type_list_clear⟩
def miJoin : MI "join" := ⟨_, _, PySem.F.plainAttrs_str, PySem.F.slot_str_join, PySem.F.type_str_join⟩
def miSplit : MI "split" := ⟨_, _, PySem.F.plainAttrs_str, PySem.F.slot_str_split, PySem.F.type_str_split⟩
def miSIndex : MI "index" := ⟨_, _, PySem.F.plainAttrs_str, PySem.F.slot_str_index, PySem.F.type_str_index⟩
def miGet : MI "get" := ⟨_, _, PySem.F.plainAttrs_dict, PySem.F.slot_dict_get, PySem.F.type_dict_get⟩
def sMeth (r : Cps G) (o : Expr) (apos cpos : Pos) (name : Str) (es : List Expr) : Option (CE G c (.Call (.Attribute o name apos) es [] cpos)) :=
  match r.E c o with
  | none => none
  | some co =>
    if h : name = "append" then (by subst h; exact sM miAppend mAppend (fun _ _ => m_append) o apos cpos co es (sArgs (r.E c) es))
    else if h : name = "extend" then (by subst h; exact match es with
      | [e] => match r.L c e with
        | some cl => sMT miExtend mExtendT (fun _ => m_extendT) o apos cpos co e cl
        | none => sM miExtend mExtend (fun _ _ => m_extend) o apos cpos co [e] (sArgs (r.E c) [e])
      | _ => none)
    else if h : name = "join" then (by subst h; exact match es with
      | [e] => match r.L c e with
        | some cl => sMT miJoin mJoinT (fun _ => m_joinT) o apos cpos co e cl
        | none => sM miJoin mJoin (fun _ _ => m_join) o apos cpos co [e] (sArgs (r.E c) [e])
      | _ => none)
    else if h : name = "pop" then (by subst h; exact sM miPop mPop (fun _ _ => m_pop) o apos cpos co es (sArgs (r.E c) es))
    else if h : name = "clear" then (by subst h; exact sM miClear mClear (fun _ _ => m_clear) o apos cpos co es (sArgs (r.E c) es))
    else if h : name = "split" then (by subst h; exact sM miSplit mSplit (fun _ _ => m_split) o apos cpos co es (sArgs (r.E c) es))
    else if h : name = "index" then (by subst h; exact sM miSIndex mSIndex (fun _ _ => m_sindex) o apos cpos co es (sArgs (r.E c) es))
    else if h : name = "get" then (by subst h; exact sM miGet mGet (fun _ h => m_get h) o apos cpos co es (sArgs (r.E c) es))
    else none
end

/-! ### expressions together -/
def stepE {G : GEnv} (r : Cps G) (c : Ctx) : (e : Expr) → Option (CE G c e)
  | .Name x pos => sName x pos
  | .Constant v j pos => sConst v j pos
  | .BinOp a op b pos => sBin a op b pos (r.E c a) (r.E c b)
  | .UnaryOp op a pos => sUn op a pos (r.E c a)
  | .BoolOp op es pos => sBools (r.E c) pos op es
  | .Compare a [op] [b] pos => sCmp a op b pos (r.E c a) (r.E c b)
  | .Compare a [op, op'] [b, d] pos => sChain a op op' b d pos (r.E c a) (r.E c b) (r.E c d)
  | .IfExp t a b pos => sIf t a b pos (r.T c t) (r.E c a) (r.E c b)
  | .Subscript a (.Slice lo hi none p2) pos => sSl a lo hi p2 pos (r.E c a) (sPart (r.E c) lo) (sPart (r.E c) hi)
  | .Subscript a b pos => sIx a b pos (r.E c a) (r.E c b)
  | .Call (.Name x p) es [] pos => sCall x es p pos (r.L c) (sArgs (r.E c) es)
  | .Call (.Attribute o name apos) es [] pos => sMeth r o apos pos name es
  | .Tuple es n pos => sTupE es n pos (sArgs (r.E c) es)
  | .List es pos => sLstE es pos (sArgs (r.E c) es)
  | .Dict keys values pos => sDict pos keys values (sPairs (r.E c) keys values)
  | .ListComp elt gs scope pos => sKeep (sComp r pos elt scope gs)
  | _ => none
def stepL {G : GEnv} (r : Cps G) (c : Ctx) : (e : Expr) → Option (CL G c e)
  | .List es pos => sLstL es pos (sArgs (r.E c) es)
  | .ListComp elt gs scope pos => sComp r pos elt scope gs
  | _ => none
def stepT {G : GEnv} (r : Cps G) (c : Ctx) : (e : Expr) → Option (CT G c e)
  | .UnaryOp .Not a pos => match r.T c a with
    | some ct => some ⟨fun Φ => dTNot (ct.den Φ), fun Φ k X W A tk => dt_not (ct.ok Φ k X W A tk)⟩
    | none => none
  | .BoolOp op es pos => match sBoolsW (r.T c) pos op es with
    | some cw => some ⟨cw.den, fun Φ k X W A tk => (cw.ok Φ k X W A tk).pt⟩
    | none => none
  | .Compare a [op] [b] pos => sCmpT a op b pos (r.E c a) (r.E c b)
  | .Compare a [op, op'] [b, d] pos => sChainT a op op' b d pos (r.E c a) (r.E c b) (r.E c d)
  | e => if h : isPlainT e = true then match r.E c e with
    | some ce => some ⟨fun Φ => dTr (ce.den Φ), fun Φ k X W A tk => dt_truth (ce.ok Φ k X W A tk) (test_ok h)⟩
    | none => none else none
def comps (G : GEnv) : Nat → Cps G
  | 0 => ⟨fun _ _ => none, fun _ _ => none, fun _ _ => none⟩
  | n + 1 => ⟨stepE (comps G n), stepL (comps G n), stepT (comps G n)⟩

/-! ### statements -/
section
variable {G : GEnv} {c : Ctx}
def sStmts (rec_ : (st : Stmt) → Option (CS G c st)) : (sts : List Stmt) → Option (CSs G c sts)
  | [] => some ⟨fun _ => dNil, fun Φ k X W A tk => ds_nil⟩
  | st :: rest => match rec_ st, sStmts rec_ rest with
    | some a, some b => some ⟨fun Φ => dSeq (a.den Φ) (b.den Φ), fun Φ k X W A tk => ds_seq (a.ok Φ k X W A tk) (b.ok Φ k X W A tk)⟩
    | _, _ => none
def sSetG (x : Str) (px pos : Pos) (e : Expr) (hsw : ∀ X : Cx, X.env.scope = c.sc → X.env.scope.kind = .function → swapsWith e (some (.Name x px)) pos.line X.env = pure false) (ce : Option (CE G c e)) : Option (CS G c (.Assign [.Name x px] e pos)) :=
  match ce, hi : ixOf c.N x with
  | some ce, some i => if hs : stB c x = true then some ⟨fun Φ => dSet i (ce.den Φ), fun Φ k X W A tk => ds_set A.nd (A.ix hi) (A.st hs).1 (ce.ok Φ k X W A tk) (hsw X A.sc A.kind) (A.st hs).2⟩ else none
  | _, _ => none
def sSetLc (r : Cps G) (x : Str) (px pos pos2 : Pos) (elt tg iter : Expr) (ifs : List Expr) (scope : Scope) : Option (CS G c (.Assign [.Name x px] (.ListComp elt [⟨tg, iter, ifs, 0⟩] scope pos2) pos)) :=
  if hb : swB c.sc x px.line pos2.line scope = false then
    sSetG x px pos _ (fun X h1 h2 => sw_comp h2 (by rw [h1]; exact hb)) (r.E c _)
  else if hb : swB c.sc x px.line pos2.line scope = true then
    match sLc (c := c) r elt tg iter ifs scope, hi : ixOf c.N x with
    | some l, some i => if hl : isLoc c.sc x = true then some ⟨fun Φ => dSet i (dKeep (l.den Φ)), fun Φ k X W A tk =>
        have hk := (l.blk A).kind
        ds_setLc A.calm A.nd (A.ix hi) (A.lk hl) (sw_comp A.kind (by rw [A.sc]; exact hb)) (l.ci.ok Φ k X W A tk) (l.blk A) (fun s H C cl fp => l.cg.ok Φ k _ (A.blk hk s H C cl fp)) (fun s H C cl fp => l.ct.ok Φ k _ _ (A.blk hk s H C cl fp) takes0)
          (fun s H C cl fp => l.ce.ok Φ k _ _ (A.blk hk s H C cl fp) takes0) (folded_ok l.set)⟩ else none
    | _, _ => none
  else none
def sSet (r : Cps G) (x : Str) (px pos : Pos) : (e : Expr) → Option (CS G c (.Assign [.Name x px] e pos))
  | .ListComp elt [⟨tg, iter, ifs, 0⟩] scope pos2 => sSetLc r x px pos pos2 elt tg iter ifs scope
  | e => if h : isComp e = false then sSetG x px pos e (fun _ _ _ => swaps_no h) (r.E c e) else none
theorem sole_no {t e : Expr} {l : Nat} {env : Env} (h : isComp e = false) : swapsWithSole [t] e l env = pure false := swaps_no (t := some t) h
def sPar (x y : Str) (px py pt pt2 pos : Pos) (kt k2 : Nat) (a b : Expr) (cs : Option (CA G c [a, b])) : Option (CS G c (.Assign [.Tuple [.Name x px, .Name y py] kt pt] (.Tuple [a, b] k2 pt2) pos)) :=
  match cs, hi : ixOf c.N x, hj : ixOf c.N y with
  | some cs, some i, some j => if h : (isLoc c.sc x = true ∧ isLoc c.sc y = true ∧ x ≠ y) ∧ isStar a = false ∧ isStar b = false ∧ py.line = px.line ∧ fold2 [a, b] = false ∧ cons2 [a, b] = false ∧ i ≠ j then
      some ⟨fun Φ => dPar i j (cs.den Φ), fun Φ k X W A tk => ds_par A.calm A.nd (A.ix hi) (A.ix hj) h.2.2.2.2.2.2 (A.lk h.1.1) (A.lk h.1.2.1) (cs.ok Φ k X W A tk)
        (par_ok A.kind (A.lk h.1.1) (A.lk h.1.2.1) h.1.2.2 h.2.1 h.2.2.1 h.2.2.2.1 h.2.2.2.2.1 h.2.2.2.2.2.1) (sole_no rfl)⟩ else none
  | _, _, _ => none
def allIx (N : List Str) : List Nat := List.range N.length
def sAsgT (es : List Expr) (kt : Nat) (pt pos : Pos) (e : Expr) (ce : Option (CE G c e)) : Option (CS G c (.Assign [.Tuple es kt pt] e pos)) :=
  match ce, sTg (G := G) (c := c) (allIx c.N) 3 (.Tuple es kt pt) with
  | some ce, some cg => if h : isComp e = false ∧ isTupE e = false then some ⟨fun Φ => dAsg cg.den (ce.den Φ), fun Φ k X W A tk => ds_asg (ce.ok Φ k X W A tk) (cg.ok Φ k X A) (sole_no h.1) (swapped_no h.2) (assign1 rfl)⟩ else none
  | _, _ => none
def sSetIx (o i e : Expr) (tpos pos : Pos) (co : Option (CE G c o)) (ci : Option (CE G c i)) (ce : Option (CE G c e)) : Option (CS G c (.Assign [.Subscript o i tpos] e pos)) :=
  match co, ci, ce with
  | some co, some ci, some ce => if h : isSlice i = false ∧ isComp e = false then some ⟨fun Φ => dSetIx (co.den Φ) (ci.den Φ) (ce.den Φ), fun Φ k X W A tk =>
      ds_setIx A.hu (ce.ok Φ k X W A tk) (co.ok Φ k X W A tk) (ci.ok Φ k X W A tk) (setIx_ok h.1) (sole_no h.2) (swapped_no' rfl) (assign1 rfl)⟩ else none
  | _, _, _ => none
def sAssign (r : Cps G) (pos : Pos) : (ts : List Expr) → (e : Expr) → Option (CS G c (.Assign ts e pos))
  | [.Name x px], e => sSet r x px pos e
  | [.Subscript o i tpos], e => sSetIx o i e tpos pos (r.E c o) (r.E c i) (r.E c e)
  | [.Tuple [.Name x px, .Name y py] kt pt], .Tuple [a, b] k2 pt2 => sPar x y px py pt pt2 pos kt k2 a b (sArgs (r.E c) [a, b])
  | [.Tuple es kt pt], e => sAsgT es kt pt pos e (r.E c e)
  | _, _ => none
def sAug (x : Str) (px pos : Pos) (op : Operator) (e : Expr) (ce : Option (CE G c e)) : Option (CS G c (.AugAssign (.Name x px) op e pos)) :=
  match op, ce, hi : ixOf c.N x with
  | .Add, some ce, some i => if hs : stB c x = true then some ⟨fun Φ => dAug i aIAdd (ce.den Φ), fun Φ k X W A tk => ds_aug A.nd (A.ix hi) (A.st hs).1 (ce.ok Φ k X W A tk) ipr_add (A.st hs).2⟩ else none
  | .Sub, some ce, some i => if hs : stB c x = true then some ⟨fun Φ => dAug i aSub (ce.den Φ), fun Φ k X W A tk => ds_aug A.nd (A.ix hi) (A.st hs).1 (ce.ok Φ k X W A tk) ipr_sub (A.st hs).2⟩ else none
  | _, _, _ => none
def sExpr (e : Expr) (pos : Pos) (ce : Option (CE G c e)) : Option (CS G c (.Expr e pos)) := match ce with
  | some ce => if h : isComp e = false then some ⟨fun Φ => dExpr (ce.den Φ), fun Φ k X W A tk => ds_expr (ce.ok Φ k X W A tk) (swaps_no h)⟩ else none
  | none => none
def sRet (pos : Pos) : (e : Option Expr) → (ce : (e : Expr) → Option (CE G c e)) → Option (CS G c (.Return e pos))
  | none, _ => some ⟨fun _ => dRetN, fun Φ k X W A tk => ds_retN⟩
  | some e, f => match f e with
    | some ce => some ⟨fun Φ => dRet (ce.den Φ), fun Φ k X W A tk => ds_ret (ce.ok Φ k X W A tk)⟩
    | none => none
def sIfS (t : Expr) (xs ys : List Stmt) (pos : Pos) (ct : Option (CT G c t)) (a : Option (CSs G c xs)) (b : Option (CSs G c ys)) : Option (CS G c (.If t xs ys pos)) := match ct, a, b with
  | some ct, some a, some b => some ⟨fun Φ => dIfS (ct.den Φ) (a.den Φ) (b.den Φ), fun Φ k X W A tk => ds_if (ct.ok Φ k X W A tk) (a.ok Φ k X W A tk) (b.ok Φ k X W A tk)⟩
  | _, _, _ => none
def sWhile (t : Expr) (xs : List Stmt) (pos : Pos) (ct : Option (CT G c t)) (a : Option (CSs G c xs)) : Option (CS G c (.While t xs [] pos)) := match ct, a with
  | some ct, some a => some ⟨fun Φ => dWhile (ct.den Φ) (a.den Φ), fun Φ k X W A tk => ds_while A.po (ct.ok Φ k X W A tk) (a.ok Φ k X W A tk)⟩
  | _, _ => none
def sFor (tg iter : Expr) (xs : List Stmt) (pos : Pos) (ci : Option (CI G c tg iter)) (a : Option (CSs G c xs)) : Option (CS G c (.For tg iter xs [] pos)) := match ci, sTg (G := G) (c := c) (allIx c.N) 3 tg, a with
  | some ci, some cg, some a => if h : isSetE iter = false then some ⟨fun Φ => dFor cg.den (ci.den Φ) (a.den Φ), fun Φ k X W A tk => ds_for A.po A.calm (ci.ok Φ k X W A tk) (cg.ok Φ k X A) (a.ok Φ k X W A tk) (folded_ok h)⟩ else none
  | _, _, _ => none
def stepS (r : Cps G) (rec_ : (st : Stmt) → Option (CS G c st)) : (st : Stmt) → Option (CS G c st)
  | .Expr (.Constant (.str x) j pos) pos' => some ⟨fun _ => dNil, fun Φ k X W A tk => ds_doc⟩
  | .Expr e pos => sExpr e pos (r.E c e)
  | .Assign ts e pos => sAssign r pos ts e
  | .AugAssign (.Name x px) op e pos => sAug x px pos op e (r.E c e)
  | .If t xs ys pos => sIfS t xs ys pos (r.T c t) (sStmts rec_ xs) (sStmts rec_ ys)
  | .While t xs [] pos => sWhile t xs pos (r.T c t) (sStmts rec_ xs)
  | .For tg iter xs [] pos => sFor tg iter xs pos (sIter r tg iter) (sStmts rec_ xs)
  | .Return e pos => sRet pos e (r.E c)
  | .Pass pos => some ⟨fun _ => dNil, fun Φ k X W A tk => ds_pass⟩
  | .Break pos => some ⟨fun _ => dBreak, fun Φ k X W A tk => ds_break⟩
  | .Continue pos => some ⟨fun _ => dCont, fun Φ k X W A tk => ds_cont⟩
  | _ => none
def compS (G : GEnv) (c : Ctx) : Nat → (st : Stmt) → Option (CS G c st)
  | 0, _ => none
  | n + 1, st => stepS (comps G 40) (compS G c n) st
def compB (G : GEnv) (c : Ctx) (body : List Stmt) : Option (CSs G c body) := sStmts (compS G c 12) body
end
end
end DL
/-! DL, part q: a program's defs, the promise of all, the law's end. -/
namespace DL
open PySem PySem.Spec PyProof.Rows L2

/-! ### constants of the module -/
mutual
def conB (K : PySem.W.Frag) : D → Value → Bool
  | .non, u => (match u with | .none => true | _ => false)
  | .bl b, u => (match u with | .bool c => b == c | _ => false)
  | .int i, u => (match u with | .int j _ => decide (i = j) | _ => false)
  | .str x, u => (match u with | .str y _ => decide (x = y) | _ => false)
  | .ty n, u => (match u with | .type m => decide (n = m) | _ => false)
  | .gl x, u => (match u with | .ref a => He.eqO (PySem.W.nsIn K mainGlobals x) (some (some (.ref a))) | _ => false)
  | .tup ds, u => (match u with
    | .ref a => (match K.lookup a with
      | some ⟨.type c, _, .seq its _, _⟩ => decide (c = "tuple") && (decide (its.size ≤ sizeLine) && conL K ds its.toList)
      | _ => false)
    | _ => false)
  | .rl ds, u => (match u with
    | .ref a => (match K.lookup a with
      | some ⟨.type c, none, .seq its _, _⟩ => decide (c = "list") && (decide (its.size ≤ sizeLine) && conL K ds its.toList)
      | _ => false)
    | _ => false)
  | .ob _, _ => false
def conL (K : PySem.W.Frag) : List D → List Value → Bool
  | [], us => us.isEmpty
  | d :: ds, us => (match us with
    | u :: us => conB K d u && conL K ds us
    | [] => false)
end
section
variable {K : PySem.W.Frag} {h : Heap} {mg : Str → Option Value}
theorem len_vals : ∀ {vs : List V} {us : List Value}, Vals vs us → vs.length = us.length
  | _, _, .nil => rfl
  | _, _, .cons _ t => by rw [List.length_cons, List.length_cons, len_vals t]
mutual
theorem conB_ok (X : K.In h) (G : h.Ns mainGlobals mg) : ∀ (d : D) (u : Value), conB K d u = true → ∃ v, RelV v u ∧ ∀ w, Rep ⟨K, mg⟩ w d v
  | .non, u, e => by
    cases u with
    | none => exact ⟨.non, rfl, fun _ => .non⟩
    | _ => cases e
  | .bl b, u, e => by
    cases u with
    | bool c =>
      have e1 : b = c := eq_of_beq (show (b == c) = true from e)
      exact ⟨.bl b, by rw [e1]; rfl, fun _ => .bl b⟩
    | _ => cases e
  | .int i, u, e => by
    cases u with
    | int j t =>
      have e1 : i = j := of_decide_eq_true e
      exact ⟨.int i, ⟨t, by rw [e1]⟩, fun _ => .int i⟩
    | _ => cases e
  | .str x, u, e => by
    cases u with
    | str j t =>
      have e1 : x = j := of_decide_eq_true e
      exact ⟨.str x, ⟨t, by rw [e1]⟩, fun _ => .str x⟩
    | _ => cases e
  | .ty n, u, e => by
    cases u with
    | type m =>
      have e1 : n = m := of_decide_eq_true e
      exact ⟨.ty n, by rw [e1]; rfl, fun _ => .ty n⟩
    | _ => cases e
  | .gl x, u, e => by
    cases u with
    | ref a => exact ⟨.ref a, rfl, fun _ => .gl (PySem.W.mg_of X G (He.eqO_ok e))⟩
    | _ => cases e
  | .tup ds, u, e => by
    cases u with
    | ref a =>
      unfold conB at e
      dsimp only at e
      cases q : K.lookup a with
      | none => rw [q] at e; cases e
      | some o =>
        obtain ⟨oc, od, dt, osl⟩ := o
        rw [q] at e
        cases oc with
        | type c =>
          cases dt with
          | seq its n =>
            dsimp only at e
            rw [Bool.and_eq_true, Bool.and_eq_true] at e
            obtain ⟨h1, h2, h3⟩ := e
            obtain ⟨vs, r, hr⟩ := conL_ok X G ds its.toList h3
            have hl := of_decide_eq_true h2
            refine ⟨.ref a, rfl, fun w => .tup (.inr ⟨_, its, n, q, congrArg Value.type (of_decide_eq_true h1), rfl, hl, r⟩) ?_ (hr w)⟩
            rw [(hr w).length, len_vals r]
            simpa using hl
          | _ => cases e
        | _ => cases e
    | _ => cases e
  | .rl ds, u, e => by
    cases u with
    | ref a =>
      unfold conB at e
      dsimp only at e
      cases q : K.lookup a with
      | none => rw [q] at e; cases e
      | some o =>
        obtain ⟨oc, od, dt, osl⟩ := o
        rw [q] at e
        cases oc with
        | type c =>
          cases od with
          | none =>
            cases dt with
            | seq its n =>
              dsimp only at e
              rw [Bool.and_eq_true, Bool.and_eq_true] at e
              obtain ⟨h1, h2, h3⟩ := e
              obtain ⟨vs, r, hr⟩ := conL_ok X G ds its.toList h3
              have hl := of_decide_eq_true h2
              refine ⟨.ref a, rfl, fun w => .rl (.inr ⟨_, its, n, q, congrArg Value.type (of_decide_eq_true h1), rfl, rfl, hl, r⟩) ?_ (hr w)⟩
              rw [(hr w).length, len_vals r]
              simpa using hl
            | _ => cases e
          | some z => cases dt <;> cases e
        | _ => cases od <;> cases dt <;> cases e
    | _ => cases e
  | .ob n, u, e => by cases e
theorem conL_ok (X : K.In h) (G : h.Ns mainGlobals mg) : ∀ (ds : List D) (us : List Value), conL K ds us = true → ∃ vs, Vals vs us ∧ ∀ w, Reps ⟨K, mg⟩ w ds vs
  | [], us, e => by
    cases us with
    | nil => exact ⟨[], .nil, fun _ => .nil⟩
    | cons a b => cases e
  | d :: ds, us, e => by
    cases us with
    | nil => cases e
    | cons u us =>
      unfold conL at e
      dsimp only at e
      rw [Bool.and_eq_true] at e
      obtain ⟨v, r1, h1⟩ := conB_ok X G d u e.1
      obtain ⟨vs, r2, h2⟩ := conL_ok X G ds us e.2
      exact ⟨v :: vs, .cons r1 r2, fun w => .cons (h1 w) (h2 w)⟩
end
end
def conF (K : PySem.W.Frag) (p : Str × D) : Bool := match PySem.W.nsIn K mainGlobals p.1 with
  | some (some u) => conB K p.2 u
  | _ => false
theorem conF_ok {K : PySem.W.Frag} {h : Heap} {mg : Str → Option Value} (X : K.In h) (G : h.Ns mainGlobals mg) {x : Str} {d : D} (e : conF K (x, d) = true) : ∃ v u, mg x = some u ∧ RelV v u ∧ ∀ w, Rep ⟨K, mg⟩ w d v := by
  unfold conF at e
  dsimp only at e
  cases q : PySem.W.nsIn K mainGlobals x with
  | none => rw [q] at e; cases e
  | some o =>
    rw [q] at e
    cases o with
    | none => cases e
    | some u =>
      obtain ⟨v, r, hr⟩ := conB_ok X G d u e
      exact ⟨v, u, PySem.W.mg_of X G q, r, hr⟩

/-! ### what is looked at, at the end of the top -/
def obsQ (cs : List (Str × D)) (fa : List He.Fa) (fn : List He.DefD) (K : PySem.W.Frag) : He.AlD := (((fa.all fun f => f.ok K) && fn.all fun d => d.ok K) && cs.all (conF K), fn.map fun d => He.fnW K d.at_)
def SaysQ (cs : List (Str × D)) (fa : List He.Fa) (fn : List He.DefD) (K : PySem.W.Frag) : Prop := obsQ cs fa fn K = He.valD fn
theorem SaysQ.d {cs : List (Str × D)} {fa : List He.Fa} {fn : List He.DefD} {K : PySem.W.Frag} (c : SaysQ cs fa fn K) : He.SaysD fa fn K ∧ ∀ p ∈ cs, conF K p = true := by
  have c1 : (((fa.all fun f => f.ok K) && fn.all fun d => d.ok K) && cs.all (conF K)) = true := congrArg (fun z : He.AlD => z.1) c
  have c2 : fn.map (fun d => He.fnW K d.at_) = fn.map He.DefD.val := congrArg (fun z : He.AlD => z.2) c
  rw [Bool.and_eq_true] at c1
  refine ⟨?_, fun p hp => List.all_eq_true.mp c1.2 p hp⟩
  unfold He.SaysD He.obsD He.valD
  rw [c1.1, c2]
def obsQG (n : Nat) (cs : List (Str × D)) (fa : List He.Fa) (fn : List He.DefD) (g : Addr → Option Obj) : He.AlD := obsQ cs fa fn (He.frG g (He.asD g n))
def hookQ (n : Nat) (cs : List (Str × D)) (fa : List He.Fa) (fn : List He.DefD) : PySem.W.Hook where
  α := He.AlD
  obs := fun s => obsQG n cs fa fn s.heap.get?
  val := fun _ => He.valD fn
  says := fun _ h => ∃ K : PySem.W.Frag, K.In h ∧ SaysQ cs fa fn K
  of := fun _ _ e => ⟨_, He.frG_in, e⟩
  keeps := fun _ _ _ ⟨K, hK, c⟩ k => ⟨K, PySem.W.Frag.In.keeps hK k, c⟩
theorem obsQG_eq {n : Nat} {cs : List (Str × D)} {fa : List He.Fa} {fn : List He.DefD} {g : Addr → Option Obj} {s : Shared} (h : ∀ a, g a = s.heap.get? a) : obsQG n cs fa fn g = (hookQ n cs fa fn).obs s := by
  have e : g = s.heap.get? := funext h
  rw [e] <;> rfl

/-! ### a program -/
structure FDef where
  name : Str
  st : Stmt
  ps : List Str
  N : List Str
def FDef.ctx (d : FDef) : Ctx := ⟨defScope d.st, d.N, fun _ => true⟩
noncomputable def FDef.comp (d : FDef) (G : GEnv) : Option (CSs G d.ctx (defBody d.st)) := compB G d.ctx (defBody d.st)
noncomputable def FDef.den (d : FDef) (G : GEnv) : Option (PhT → DenS) := (d.comp G).map (·.den)
def FDef.defD (d : FDef) : He.DefD := ⟨(d.name, none), d.name, d.name, defArgs d.st, defBody d.st, defScope d.st, [], []⟩
/-- what the defs do, k calls deep at most -/
noncomputable def Phi (T : List FDef) (G : GEnv) : Nat → PhT
  | 0 => fun _ _ _ => .no
  | k + 1 => fun i ds S => match T[i]? with
    | none => .no
    | some d => match d.den G with
      | none => .no
      | some b => runB d.N.length (b (Phi T G k)) ds S
structure FOk (d : FDef) : Prop where
  sc : FnScope d.N d.ps (defScope d.st)
  bd : ∀ (kV doc pm : Value) (an : Option Addr) (cdv ct : Value) (us : List Value), us.length = d.ps.length → bindArgs (PySem.W.fnOf d.name d.name (defArgs d.st) (defBody d.st) (defScope d.st) .none kV doc pm an cdv ct) ⟨us, []⟩ = pure (d.ps.zip us)
def AllOk : List FDef → Prop
  | [] => True
  | d :: r => FOk d ∧ AllOk r
theorem AllOk.at_ : ∀ {T : List FDef} {i : Nat} {d : FDef}, AllOk T → T[i]? = some d → FOk d
  | d :: r, 0, _, h, e => by cases e; exact h.1
  | d :: r, i + 1, _, h, e => AllOk.at_ h.2 (by simpa using e)
def gB (T : List FDef) (cs : List (Str × D)) (G : GEnv) : Bool := G.all fun p => match p.2 with
  | .fn id ar => (match T[id]? with
    | some d => decide (d.name = p.1) && decide (d.ps.length = ar)
    | none => false)
  | .con _ => true
def csOf : GEnv → List (Str × D)
  | [] => []
  | (x, .con d) :: r => (x, d) :: csOf r
  | (_, .fn _ _) :: r => csOf r
theorem csOf_mem : ∀ {G : GEnv} {x : Str} {d : D}, (x, GK.con d) ∈ G → (x, d) ∈ csOf G
  | (y, .con e) :: r, x, d, h => by
    rcases List.mem_cons.mp h with h | h
    · cases h; exact List.mem_cons_self
    · exact List.mem_cons_of_mem _ (csOf_mem h)
  | (y, .fn i j) :: r, x, d, h => by
    rcases List.mem_cons.mp h with h | h
    · cases h
    · exact csOf_mem (G := r) h
theorem fn_okD {P : Program} {W0 : World} {K : PySem.W.Frag} {mg : Str → Option Value} {base : Heap} {x qual : Str} {args : Arguments} {body : List Stmt} {sc : Scope} {dvs : List V} {kws : List (Str × V)} {f : Addr} {fd : FuncData} {N ps : List Str} {k : Nat} {b : DenS}
    (F : FunD K x qual args body sc dvs kws f fd) (S : FnScope N ps sc)
    (hbody : ∀ (X : Cx) (W : WX), X.prog = P → X.w = W0 → X.K = K → X.mg = mg → X.base = base → X.N = N → X.env.scope = sc → Room k X.A → X.calm = true → (∀ y, X.fn y = true) → X.stack = X.env :: X.outer → X.env.frame = some X.env.locals → Takes X W →
      PassesOwn (model X.prog X.w) X.A X.env X.xe → PSs X body (tS ⟨X.K, X.mg⟩ W b)) :
    FnOk P W0 K mg base (L2.CX P W0) (k + 1) f fd ps (spD ⟨K, mg⟩ ps.length (runB N.length b)) := by
  refine F.ok S (fun vs H Q E h => ?_) (fun cdv A outer s H vs Q E hr h => ?_)
  · obtain ⟨w, S, ds, _, _, r, hl, _⟩ := h
    rw [← r.length, hl]
  · obtain ⟨w, S0, ds, eH, so, r, hl, p⟩ := h
    refine ⟨_, hbody _ (fun c d _ H => E c d H) rfl rfl rfl rfl rfl rfl rfl hr rfl (fun _ => rfl) rfl rfl (takes_of rfl rfl rfl rfl) PassesOwn.leaving, w, S0, ds.map some ++ List.replicate (N.length - ds.length) none, eH, so, FrOk.start r, ?_⟩
    unfold runB at p
    cases q : b (ds.map some ++ List.replicate (N.length - ds.length) none) S0 with
    | ok fl fr S' =>
      rw [q] at p
      cases fl with
      | nx => exact fun w' σ' st so' fo' => gc_post so p st so' .non
      | rt d => exact fun w' v st so' r' => gc_post so p st so' r'
      | bk => exact p.elim
      | ct => exact p.elim
    | ex e fr S' =>
      rw [q] at p
      exact fun w' σ' c dx st so' fo' rx => gcX_post so p st so' rx
    | no => rw [q] at p; exact p
theorem fn_no {P : Program} {w : World} {K : PySem.W.Frag} {mg : Str → Option Value} {base : Heap} {C : CXT} {k n : Nat} {f : Addr} {fd : FuncData} {ps : List Str} {g : Gnd} {φ : List D → Sto → Out D} (h : ∀ ds S, φ ds S = .no) : FnOk P w K mg base C k f fd ps (spD g n φ) := by
  have hf : ∀ vs H Q E, spD g n φ vs H Q E → False := fun vs H Q E q => by
    obtain ⟨w, S, ds, _, _, _, _, p⟩ := q
    rw [h] at p
    exact p
  exact ⟨fun vs H Q E q => (hf _ _ _ _ q).elim, fun A outer s H args us vs Q E hr he hb hv hs => (hf _ _ _ _ hs).elim⟩
/-- EVERY DEF KEEPS ITS PROMISE -/
theorem all_ok {P : Program} {W0 : World} {K : PySem.W.Frag} {mg : Str → Option Value} {base : Heap} {T : List FDef} {G : GEnv} (hT : ∀ (i : Nat) (d : FDef), T[i]? = some d → ∃ (f : Addr) (fd : FuncData), mg d.name = some (.ref f) ∧ FunD K d.name d.name (defArgs d.st) (defBody d.st) (defScope d.st) [] [] f fd)
    (hA : AllOk T) (hG : gB T (csOf G) G = true) (hcon : ∀ x d, (x, GK.con d) ∈ G → ∃ v u, mg x = some u ∧ RelV v u ∧ ∀ w, Rep ⟨K, mg⟩ w d v) (hfree : ∀ x ∈ freeN, mg x = none) :
    ∀ (k i : Nat) (d : FDef), T[i]? = some d → ∀ (f : Addr) (fd : FuncData), mg d.name = some (.ref f) → FunD K d.name d.name (defArgs d.st) (defBody d.st) (defScope d.st) [] [] f fd →
      FnOk P W0 K mg base (L2.CX P W0) k f fd d.ps (spD ⟨K, mg⟩ d.ps.length (Phi T G k i)) := by
  intro k
  induction k with
  | zero => exact fun i d _ f fd _ _ => fn_no fun _ _ => rfl
  | succ k ih =>
    intro i d hi f fd hm F
    cases q : d.den G with
    | none =>
      refine fn_no fun ds S => ?_
      unfold Phi
      rw [hi]
      dsimp only
      rw [q]
    | some b =>
      have eP : Phi T G (k + 1) i = runB d.N.length (b (Phi T G k)) := by
        funext ds S
        show (match T[i]? with
          | none => Out.no
          | some d => match d.den G with
            | none => Out.no
            | some b => runB d.N.length (b (Phi T G k)) ds S) = _
        rw [hi]
        dsimp only
        rw [q]
      rw [eP]
      unfold FDef.den at q
      cases q2 : d.comp G with
      | none => rw [q2] at q; cases q
      | some c =>
        rw [q2] at q
        cases q
        refine fn_okD F (hA.at_ hi).sc fun X W e1 e2 e3 e4 e5 e6 e7 hr hcalm hfn _ _ tk po => c.ok (Phi T G k) k X W ?_ tk
        refine ⟨e7, e6, by rw [e6]; exact (hA.at_ hi).sc.nd, hcalm, hr, by rw [e7]; exact (hA.at_ hi).sc.kind, po, fun y _ => hfn y, fun x id ar hx => ⟨?_⟩, fun x d hx => ?_, fun x hx => by rw [e4]; exact hfree x hx⟩
        · have hm := mem_of_look hx
          have z := List.all_eq_true.mp hG _ hm
          dsimp only at z
          cases q3 : T[id]? with
          | none => rw [q3] at z; cases z
          | some d' =>
            rw [q3] at z
            dsimp only at z
            rw [Bool.and_eq_true, decide_eq_true_eq, decide_eq_true_eq] at z
            obtain ⟨z1, z2⟩ := z
            subst z1 z2
            obtain ⟨f', fd', m', F'⟩ := hT id d' q3
            refine ⟨f', fd', d'.ps, by rw [e4]; exact m', by rw [e3]; exact F'.kp, ?_, ?_⟩
            · rw [e3]
              exact F'.bindsN (hA.at_ q3).bd
            · rw [e1, e2, e3, e4, e5]
              exact ih id d' q3 f' fd' m' F'
        · obtain ⟨v, u, h1, h2, h3⟩ := hcon x d (mem_of_look hx)
          rw [e3, e4]
          exact ⟨v, u, h1, h2, h3⟩
def faOf (T : List FDef) : List He.Fa := T.map (fun d : FDef => He.Fa.glo d.name) ++ freeN.map He.Fa.free
theorem facts {P : Program} {W0 : World} {K : PySem.W.Frag} {h : Heap} {mg : Str → Option Value} {f : Addr} (X : K.In h) (GN : h.Ns mainGlobals mg) {T : List FDef} {G : GEnv} (c : SaysQ (csOf G) (faOf T) (T.map FDef.defD) K) (hA : AllOk T) (hG : gB T (csOf G) G = true)
    {li : Nat} {dl : FDef} {x : Str} (hl : T[li]? = some dl) (hx : dl.ps = [x]) (hfa : mg dl.name = some (.ref f)) (k : Nat) :
    ∃ fd : FuncData, (∀ (s : Shared) (v : Value), BindsTo s fd ⟨[v], []⟩ [(x, v)]) ∧ ∀ base : Heap, FnOk P W0 K mg base (L2.CX P W0) k f fd [x] (spD ⟨K, mg⟩ 1 (Phi T G k li)) := by
  obtain ⟨cd, cc⟩ := c.d
  have hglo : ∀ (i : Nat) (d : FDef), T[i]? = some d → mg d.name = some (.ref (He.ga K d.name)) := fun i d e => by
    refine He.glo_ok X GN (cd.fact i (f := .glo d.name) ?_)
    unfold faOf
    rw [List.getElem?_append_left (by rw [List.length_map]; exact (List.getElem?_eq_some_iff.mp e).1), List.getElem?_map, e]
    rfl
  have hfun : ∀ (i : Nat) (d : FDef), T[i]? = some d → ∃ fd, FunD K d.name d.name (defArgs d.st) (defBody d.st) (defScope d.st) [] [] (He.ga K d.name) fd := fun i d e =>
    cd.def_ i (d := FDef.defD d) (by rw [List.getElem?_map, e]; rfl)
  have hfree : ∀ x ∈ freeN, mg x = none := fun x hx => by
    obtain ⟨j, hj, e⟩ := List.mem_iff_getElem.mp hx
    refine He.free_ok X GN (cd.fact (T.length + j) (f := .free x) ?_)
    unfold faOf
    rw [List.getElem?_append_right (by rw [List.length_map]; omega), List.length_map, Nat.add_sub_cancel_left, List.getElem?_map, List.getElem?_eq_getElem hj, e]
    rfl
  obtain ⟨fd, F⟩ := hfun li dl hl
  have e : f = He.ga K dl.name := by
    have z := hglo li dl hl
    rw [hfa] at z
    cases z
    rfl
  subst e
  have b := F.bindsA (hA.at_ hl).bd
  refine ⟨fd, fun s v => ?_, fun base => ?_⟩
  · have z := b s [v] (by rw [hx]; rfl)
    rw [hx] at z
    exact z
  · have z := all_ok (P := P) (W0 := W0) (base := base) (fun i d e => let ⟨fd, F⟩ := hfun i d e; ⟨_, fd, hglo i d e, F⟩) hA hG (fun x d hxd => conF_ok X GN (cc _ (csOf_mem hxd))) hfree k li dl hl _ fd hfa F
    rw [hx] at z
    exact z
/-- the script, as data -/
theorem sp_start {K : PySem.W.Frag} {mg : Str → Option Value} {φ : List D → Sto → Out D} {n : Nat} (hn : n ≤ sizeLine) (h : ∀ ns : List Int, ns.length ≤ n → ∃ S', φ [.rl (ns.map D.int)] [] = .ok (.bl true) S') (H : Hp) (a : Addr) (ns : List Int)
    (hl : ns.length ≤ n) (hO : Only H) (hS : SqL K H a (ns.map V.int)) : spD ⟨K, mg⟩ 1 φ [.ref a] H (fun v _ => v = .bl true) (fun _ _ _ => False) := by
  refine ⟨⟨fun _ => 0, 0, H⟩, [], [.rl (ns.map D.int)], rfl, ⟨rfl, fun i o e => ?_, fun i j hi => absurd hi (Nat.not_lt_zero _)⟩, .cons (.rl ?_ ?_ (Reps.of_ints ns)) .nil, rfl, ?_⟩
  · simp at e
  · rcases hS with (hS | ⟨o, hS⟩) | hS
    · rcases hO a with z | ⟨o, xs, z⟩
      · rw [hS] at z; cases z
      · rw [hS] at z; cases z
    · exact .inl ⟨o, hS⟩
    · exact .inr hS
  · rw [List.length_map]
    exact Nat.le_trans hl hn
  · obtain ⟨S', e⟩ := h ns hl
    rw [e]
    intro w' b st so r
    cases r
    rfl
theorem fn_ctx {P : Program} {w : World} {K : PySem.W.Frag} {mg : Str → Option Value} {base : Heap} {C C' : CXT} {k : Nat} {f : Addr} {fd : FuncData} {ps : List Str} {sp : Sp} (F : FnOk P w K mg base C k f fd ps sp)
    (h : ∀ a b c d e f, C a b c d e f → C' a b c d e f) : FnOk P w K mg base C' k f fd ps sp := by
  refine ⟨F.len, fun A outer s H args us vs Q E hr he hb hv hs => codeAny_mono (F.run A outer s H args us vs Q E hr he hb hv hs) fun r s' q => ?_⟩
  cases r with
  | ok fl => cases fl <;> first | exact q | exact q.elim
  | error e => exact h _ _ _ _ _ _ q
theorem cx_no {P : Program} {W0 : World} (H : Hp) (s : Shared) (e : Value) (s' : Shared) (h : L2.CX P W0 [] H s (fun _ _ _ => False) e s') : False := by
  obtain ⟨_, _, _, _, _, _, _, _, _, _, _, _, z⟩ := h
  exact z
end DL
/-! DL, part r: the numbers that a law draws. -/
namespace DL
open PySem PySem.Spec PyProof.Rows L2
noncomputable section

/-! ### a def's end -/
theorem und_app {S T : Sto} : Olds S (S ++ T) := ⟨by rw [List.length_append]; omega, fun i h => .inl (List.getElem?_append_left h)⟩
theorem gc_pure {S T : Sto} {d : D} (h : d.und S.length = true) : gcO S d (S ++ T) = .ok d S := by
  unfold gcO
  rw [if_pos ⟨und_app, h⟩, List.take_left]
theorem gc_pure0 {S : Sto} {d : D} (h : d.und S.length = true) : gcO S d S = .ok d S := by
  have := gc_pure (T := []) h
  rwa [List.append_nil] at this
theorem gc_lst {S T U : Sto} {o : O} (h : o.und S.length = true) : gcO S (.ob (S.length + T.length)) (S ++ T ++ o :: U) = .ok (.ob S.length) (S ++ [o]) := by
  unfold gcO
  rw [if_neg (fun z => by have z2 := of_decide_eq_true (show decide (S.length + T.length < S.length) = true from z.2); omega)]
  have e : (S ++ T ++ o :: U)[S.length + T.length]? = some o := by
    rw [List.getElem?_append_right (by rw [List.length_append]; omega)]
    simp
  dsimp only
  rw [e]
  dsimp only
  rw [if_pos ⟨by rw [List.append_assoc]; exact und_app, by omega, h⟩, List.append_assoc, List.take_left]

/-! ### the store of a law: the list [0], the cells, the draw -/
structure Ds where
  a : Int
  l : Int
  u : Int
def drw (s : Ds) : O := .dk [(.inr "cells", .ob 1), (.inr "at", .int s.a), (.inr "left", .int s.l), (.inr "used", .int s.u)]
def dst (cs : List Int) (s : Ds) (R : Sto) : Sto := .lst [.int 0] :: .lst (cs.map D.int) :: drw s :: R
/-- what may be drawn from: b, how often at most -/
structure Dr (b : Nat) (cs : List Int) (s : Ds) : Prop where
  a0 : 0 ≤ s.a
  ab : s.a ≤ b
  u0 : 0 ≤ s.u
  ub : s.u ≤ b
  ne : cs ≠ []
  le : cs.length ≤ 64
theorem Dr.mono {b b' : Nat} {cs : List Int} {s : Ds} (h : Dr b cs s) (q : b ≤ b') : Dr b' cs s := ⟨h.a0, by have := h.ab; omega, h.u0, by have := h.ub; omega, h.ne, h.le⟩
theorem gc_dst {cs : List Int} {s s' : Ds} {R T : Sto} {d : D} (h : d.und (R.length + 3) = true) : gcO (dst cs s R) d (dst cs s' (R ++ T)) = .ok d (dst cs s' R) := by
  have hl : (dst cs s R).length = R.length + 3 := rfl
  have ho : Olds (dst cs s R) (dst cs s' (R ++ T)) := by
    refine ⟨?_, fun i hi => ?_⟩
    · show R.length + 3 ≤ (R ++ T).length + 3
      rw [List.length_append]; omega
    · match i, hi with
      | 0, _ => exact .inl rfl
      | 1, _ => exact .inl rfl
      | 2, _ =>
        refine .inr ⟨drw s', rfl, ?_⟩
        rw [hl]
        show (decide (1 < R.length + 3) && (true && (true && (true && true)))) = true
        rw [decide_eq_true (by omega)]
        rfl
      | i + 3, hi =>
        refine .inl ?_
        show (R ++ T)[i]? = R[i]?
        exact List.getElem?_append_left (by rw [hl] at hi; omega)
  unfold gcO
  rw [if_pos ⟨ho, by rw [hl]; exact h⟩]
  show Out.ok d (.lst [.int 0] :: .lst (cs.map D.int) :: drw s' :: (R ++ T).take R.length) = _
  rw [List.take_left]
  rfl
theorem gc_dst0 {cs : List Int} {s s' : Ds} {R : Sto} {d : D} (h : d.und (R.length + 3) = true) : gcO (dst cs s R) d (dst cs s' R) = .ok d (dst cs s' R) := by
  have := gc_dst (cs := cs) (s := s) (s' := s') (R := R) (T := []) h
  rwa [List.append_nil] at this
theorem dst_app {cs : List Int} {s : Ds} {R T : Sto} : dst cs s R ++ T = dst cs s (R ++ T) := rfl
theorem dst_len {cs : List Int} {s : Ds} {R : Sto} : (dst cs s R).length = R.length + 3 := rfl
theorem dst_get {cs : List Int} {s : Ds} {R : Sto} {i : Nat} : (dst cs s R)[i + 3]? = R[i]? := rfl
theorem dst_get2 {cs : List Int} {s : Ds} {R : Sto} : (dst cs s R)[2]? = some (drw s) := rfl
theorem dst_get1 {cs : List Int} {s : Ds} {R : Sto} : (dst cs s R)[1]? = some (.lst (cs.map D.int)) := rfl

/-! ### the bodies -/
def bMixed (Φ : PhT) : DenS :=
  (dSeq (dSet 2 (dOp aMod (dOp aMul (dOp aAdd (dOp aAdd (dOp aAdd (dOp aMod (dVar 0) (dC (.int 1000000007))) (dOp aMul (dOp aMul (dC (.int 7919)) (dVar 1)) (dVar 1))) (dOp aMul (dC (.int 31)) (dVar 1))) (dC (.int 7))) (dC (.int 48271))) (dC (.int 2147483647))))
  (dSeq (dRet (dOp aFDiv (dOp aMod (dOp aMul (dVar 2) (dOp aAdd (dC (.int 69621)) (dOp aMul (dC (.int 2)) (dOp aMod (dVar 1) (dC (.int 1000)))))) (dC (.int 2147483629))) (dC (.int 7)))) dNil))
def bNext (m : Nat) (Φ : PhT) : DenS :=
  (dSeq (dIfS (dCmpT aGt (dOp aIx (dVar 0) (dC (.str "left"))) (dC (.int 0))) (dSeq (dSet 2 (dOp aMod (dOp aIx (dVar 0) (dC (.str "left"))) (dVar 1)))
    (dSeq (dSetIx (dVar 0) (dC (.str "left")) (dOp aFDiv (dOp aIx (dVar 0) (dC (.str "left"))) (dVar 1))) (dSeq (dRet (dVar 2)) dNil))) dNil)
  (dSeq (dSet 3 (dOp aIx (dVar 0) (dC (.str "cells"))))
  (dSeq (dSet 4 (dOp aIx (dVar 3) (dOp aMod (dOp aIx (dVar 0) (dC (.str "at"))) (dB fLen (dACons (dVar 3) dANil)))))
  (dSeq (dSetIx (dVar 0) (dC (.str "at")) (dOp aAdd (dOp aIx (dVar 0) (dC (.str "at"))) (dC (.int 1))))
  (dSeq (dIfS (dTAnd (dCmpT aGe (dVar 4) (dOp aPow (dC (.int 10)) (dC (.int 18)))) (dCmpT aLe (dOp aIx (dVar 0) (dC (.str "at"))) (dB fLen (dACons (dVar 3) dANil))))
    (dSeq (dSetIx (dVar 0) (dC (.str "left")) (dOp aFDiv (dVar 4) (dVar 1))) (dSeq (dRet (dOp aMod (dVar 4) (dVar 1))) dNil)) dNil)
  (dSeq (dSetIx (dVar 0) (dC (.str "used")) (dOp aAdd (dOp aIx (dVar 0) (dC (.str "used"))) (dC (.int 1))))
  (dSeq (dRet (dOp aMod (dCall 2 (Φ m) (dACons (dCall 2 (Φ m) (dACons (dVar 4) (dACons (dOp aIx (dVar 0) (dC (.str "at"))) dANil))) (dACons (dOp aIx (dVar 0) (dC (.str "used"))) dANil))) (dVar 1))) dNil)))))))
def bBegin (Φ : PhT) : DenS :=
  (dSeq (dRet (dDict [((dC (.str "cells")), (dOp aAdd (dVar 0) (dLst (dACons (dC (.int 0)) dANil)))), ((dC (.str "at")), (dC (.int 0))), ((dC (.str "left")), (dC (.int 0))), ((dC (.str "used")), (dC (.int 0)))])) dNil)

/-! ### what they do -/
theorem fmod_bd {i j : Int} (h : 0 < j) : 0 ≤ i.fmod j ∧ i.fmod j < j := ⟨Int.fmod_nonneg_of_pos i h, Int.fmod_lt_of_pos i h⟩
theorem mul_l {i j : Int} {S : Sto} (h : -(2 ^ 64) < i ∧ i < 2 ^ 64) : aMul (.int i) (.int j) S = some (.int (i * j), S) := by
  show (if CMul i j then some (D.int (i * j)) else none).map (fun d => (d, S)) = _
  rw [if_pos (show CMul i j from Or.inl h)]
  rfl
theorem mul_r {i j : Int} {S : Sto} (h : -(2 ^ 64) < j ∧ j < 2 ^ 64) : aMul (.int i) (.int j) S = some (.int (i * j), S) := by
  show (if CMul i j then some (D.int (i * j)) else none).map (fun d => (d, S)) = _
  rw [if_pos (show CMul i j from Or.inr h)]
  rfl
theorem mod_ok {i j : Int} {S : Sto} (h : j ≠ 0) : aMod (.int i) (.int j) S = some (.int (i.fmod j), S) := by
  show (if j ≠ 0 then some (D.int (i.fmod j)) else none).map (fun d => (d, S)) = _
  rw [if_pos h]
  rfl
theorem div_ok {i j : Int} {S : Sto} (h : j ≠ 0 ∧ j.natAbs < 1073741824) : aFDiv (.int i) (.int j) S = some (.int (i.fdiv j), S) := by
  show (if CDivN i j then some (D.int (i.fdiv j)) else none).map (fun d => (d, S)) = _
  rw [if_pos (show CDivN i j from h)]
  rfl
theorem pow_ok {i j : Int} {S : Sto} (h : 0 ≤ j ∧ j ≤ 1000000 ∧ i.natAbs < 2 ^ 64) : aPow (.int i) (.int j) S = some (.int (i ^ j.toNat), S) := by
  show (if CPow i j then some (D.int (i ^ j.toNat)) else none).map (fun d => (d, S)) = _
  rw [if_pos (show CPow i j from h)]
  rfl
theorem add_int {i j : Int} {S : Sto} : aAdd (.int i) (.int j) S = some (.int (i + j), S) := rfl
theorem sub_int {i j : Int} {S : Sto} : aSub (.int i) (.int j) S = some (.int (i - j), S) := rfl
theorem lt_int {i j : Int} {S : Sto} : aLt (.int i) (.int j) S = some (.bl (decide (i < j)), S) := rfl
theorem le_int {i j : Int} {S : Sto} : aLe (.int i) (.int j) S = some (.bl (decide (i ≤ j)), S) := rfl
theorem gt_int {i j : Int} {S : Sto} : aGt (.int i) (.int j) S = some (.bl (decide (j < i)), S) := rfl
theorem ge_int {i j : Int} {S : Sto} : aGe (.int i) (.int j) S = some (.bl (decide (j ≤ i)), S) := rfl
def mixH (c k : Int) : Int := ((c.fmod 1000000007 + 7919 * k * k + 31 * k + 7) * 48271).fmod 2147483647
def mixI (c k : Int) : Int := ((mixH c k * (69621 + 2 * k.fmod 1000)).fmod 2147483629).fdiv 7
theorem mixed_run {Φ : PhT} {c k : Int} {S : Sto} (h0 : 0 ≤ k) (h1 : k < 2 ^ 62) : runB 3 (bMixed Φ) [.int c, .int k] S = .ok (.int (mixI c k)) S := by
  have hk := fmod_bd (i := k) (j := 1000) (by decide)
  have hh := fmod_bd (i := (c.fmod 1000000007 + 7919 * k * k + 31 * k + 7) * 48271) (j := 2147483647) (by decide)
  have e : bMixed Φ [some (.int c), some (.int k), none] S = .ok (.rt (.int (mixI c k))) [some (.int c), some (.int k), some (.int (mixH c k))] S := by
    simp only [bMixed, dSeq, dSet, dRet, dOp, dVar, dC, Out.bnd, Out.thn, Out.ofO, List.getElem?_cons_zero, List.getElem?_cons_succ, mod_ok (show (1000000007 : Int) ≠ 0 by decide), mod_ok (show (1000 : Int) ≠ 0 by decide), mod_ok (show (2147483647 : Int) ≠ 0 by decide), mod_ok (show (2147483629 : Int) ≠ 0 by decide),
      mul_l (show -(2 ^ 64) < (7919 : Int) ∧ (7919 : Int) < 2 ^ 64 by decide), mul_l (show -(2 ^ 64) < (31 : Int) ∧ (31 : Int) < 2 ^ 64 by decide), mul_l (show -(2 ^ 64) < (2 : Int) ∧ (2 : Int) < 2 ^ 64 by decide), mul_r (show -(2 ^ 64) < (48271 : Int) ∧ (48271 : Int) < 2 ^ 64 by decide),
      mul_r (show -(2 ^ 64) < k ∧ k < 2 ^ 64 by omega), add_int, List.set_cons_succ, List.set_cons_zero, div_ok (show (7 : Int) ≠ 0 ∧ (7 : Int).natAbs < 1073741824 by decide)]
    rw [mul_l (by omega)]
    simp only [mod_ok (show (2147483629 : Int) ≠ 0 by decide), div_ok (show (7 : Int) ≠ 0 ∧ (7 : Int).natAbs < 1073741824 by decide)]
    rfl
  show (match bMixed Φ [some (.int c), some (.int k), none] S with
    | .ok (.rt d) _ S' => gcO S d S'
    | .ok .nx _ S' => gcO S .non S'
    | .ex e _ S' => gcX S e S'
    | _ => .no) = _
  rw [e]
  exact gc_pure0 rfl
theorem ix_left {cs : List Int} {s : Ds} {R : Sto} : aIx (.ob 2) (.str "left") (dst cs s R) = some (.int s.l, dst cs s R) := by kernel_rfl
theorem ix_at {cs : List Int} {s : Ds} {R : Sto} : aIx (.ob 2) (.str "at") (dst cs s R) = some (.int s.a, dst cs s R) := by kernel_rfl
theorem ix_used {cs : List Int} {s : Ds} {R : Sto} : aIx (.ob 2) (.str "used") (dst cs s R) = some (.int s.u, dst cs s R) := by kernel_rfl
theorem ix_cells {cs : List Int} {s : Ds} {R : Sto} : aIx (.ob 2) (.str "cells") (dst cs s R) = some (.ob 1, dst cs s R) := by kernel_rfl
theorem set_left {cs : List Int} {s : Ds} {R : Sto} {x : Int} : aSet (.ob 2) (.str "left") (.int x) (dst cs s R) = some (dst cs ⟨s.a, x, s.u⟩ R) := by kernel_rfl
theorem set_at {cs : List Int} {s : Ds} {R : Sto} {x : Int} : aSet (.ob 2) (.str "at") (.int x) (dst cs s R) = some (dst cs ⟨x, s.l, s.u⟩ R) := by kernel_rfl
theorem set_used {cs : List Int} {s : Ds} {R : Sto} {x : Int} : aSet (.ob 2) (.str "used") (.int x) (dst cs s R) = some (dst cs ⟨s.a, s.l, x⟩ R) := by kernel_rfl
theorem len_cells {cs : List Int} {s : Ds} {R : Sto} : fLen [.ob 1] (dst cs s R) = some (.int cs.length, dst cs s R) := by
  show some (D.int ((cs.map D.int).length : Nat), dst cs s R) = _
  rw [List.length_map]
theorem atI_ok {α : Type} {xs : List α} {i : Int} {j : Nat} {x : α} (e : i = j) (h : xs[j]? = some x) : L2.atI xs i = some x := by
  subst e
  have hj := (List.getElem?_eq_some_iff.mp h).1
  unfold L2.atI L2.ixN
  rw [if_pos (by omega), if_pos (by omega)]
  show xs[((j : Int)).toNat]? = _
  rw [Int.toNat_natCast]
  exact h
theorem ix_cell {cs : List Int} {s : Ds} {R : Sto} {i : Int} {c : Int} (h0 : 0 ≤ i) (h : cs[i.toNat]? = some c) : aIx (.ob 1) (.int i) (dst cs s R) = some (.int c, dst cs s R) := by
  show (L2.atI (cs.map D.int) i).map (fun d => (d, dst cs s R)) = _
  rw [atI_ok (j := i.toNat) (x := .int c) (by omega) (by rw [List.getElem?_map, h]; rfl)]
  rfl
theorem next_run {Φ : PhT} {mi b : Nat} {cs : List Int} {s : Ds} {m : Int} (hΦ : ∀ (c k : Int) (S : Sto), 0 ≤ k → k < 2 ^ 62 → Φ mi [.int c, .int k] S = .ok (.int (mixI c k)) S) (hd : Dr b cs s) (hb : b < 2 ^ 61) (hm : 0 < m) (hm2 : m < 1073741824) :
    ∃ r s', 0 ≤ r ∧ r < m ∧ Dr (b + 1) cs s' ∧ ∀ R, runB 5 (bNext mi Φ) [.ob 2, .int m] (dst cs s R) = .ok (.int r) (dst cs s' R) := by
  have hm' : m ≠ 0 := by omega
  have hm3 : m ≠ 0 ∧ m.natAbs < 1073741824 := ⟨hm', by omega⟩
  have h1 := hd.a0
  have h2 := hd.ab
  have h3 := hd.u0
  have h4 := hd.ub
  by_cases hl : 0 < s.l
  · have q := fmod_bd (i := s.l) hm
    refine ⟨s.l.fmod m, ⟨s.a, s.l.fdiv m, s.u⟩, q.1, q.2, ⟨h1, by show s.a ≤ ((b + 1 : Nat) : Int); omega, h3, by show s.u ≤ ((b + 1 : Nat) : Int); omega, hd.ne, hd.le⟩, fun R => ?_⟩
    have e : bNext mi Φ [some (.ob 2), some (.int m), none, none, none] (dst cs s R) = .ok (.rt (.int (s.l.fmod m))) [some (.ob 2), some (.int m), some (.int (s.l.fmod m)), none, none] (dst cs ⟨s.a, s.l.fdiv m, s.u⟩ R) := by
      simp only [bNext, dSeq, dSet, dSetIx, dIfS, dCmpT, dRet, dOp, dVar, dC, Out.bnd, Out.thn, Out.ofO, List.getElem?_cons_zero, List.getElem?_cons_succ, ix_left, gt_int, hl, decide_true, mod_ok hm', div_ok hm3, set_left, List.set_cons_succ, List.set_cons_zero]
    show (match bNext mi Φ [some (.ob 2), some (.int m), none, none, none] (dst cs s R) with
      | .ok (.rt d) _ S' => gcO (dst cs s R) d S'
      | .ok .nx _ S' => gcO (dst cs s R) .non S'
      | .ex e _ S' => gcX (dst cs s R) e S'
      | _ => .no) = _
    rw [e]
    exact gc_dst0 rfl
  · have hlen : 0 < cs.length := List.length_pos_iff.mpr hd.ne
    have hl64 := hd.le
    have q := fmod_bd (i := s.a) (j := (cs.length : Int)) (by omega)
    have hlt : (s.a.fmod cs.length).toNat < cs.length := by omega
    have hc := List.getElem?_eq_getElem hlt
    generalize cs[(s.a.fmod cs.length).toNat] = c at hc
    have hne : (cs.length : Int) ≠ 0 := by omega
    have hp : (10 : Int) ^ (18 : Int).toNat = 1000000000000000000 := by decide +kernel
    by_cases hx : 1000000000000000000 ≤ c ∧ s.a + 1 ≤ cs.length
    · have q2 := fmod_bd (i := c) hm
      refine ⟨c.fmod m, ⟨s.a + 1, c.fdiv m, s.u⟩, q2.1, q2.2, ⟨by show 0 ≤ s.a + 1; omega, by show s.a + 1 ≤ ((b + 1 : Nat) : Int); omega, h3, by show s.u ≤ ((b + 1 : Nat) : Int); omega, hd.ne, hd.le⟩, fun R => ?_⟩
      have e : bNext mi Φ [some (.ob 2), some (.int m), none, none, none] (dst cs s R) = .ok (.rt (.int (c.fmod m))) [some (.ob 2), some (.int m), none, some (.ob 1), some (.int c)] (dst cs ⟨s.a + 1, c.fdiv m, s.u⟩ R) := by
        simp only [bNext, dSeq, dSet, dSetIx, dIfS, dCmpT, dTAnd, dRet, dOp, dVar, dC, dB, dACons, dANil, dNil, Out.bnd, Out.thn, Out.ofO, List.getElem?_cons_zero, List.getElem?_cons_succ, ix_left, ix_cells, ix_at, ix_used, len_cells, gt_int, ge_int, le_int, add_int, hl, decide_true, decide_false,
          mod_ok hm', div_ok hm3, mod_ok hne, ix_cell q.1 hc, set_left, set_at, set_used, List.set_cons_succ, List.set_cons_zero, pow_ok (show (0 : Int) ≤ 18 ∧ (18 : Int) ≤ 1000000 ∧ (10 : Int).natAbs < 2 ^ 64 by decide), hp, hx.1, hx.2]
      show (match bNext mi Φ [some (.ob 2), some (.int m), none, none, none] (dst cs s R) with
        | .ok (.rt d) _ S' => gcO (dst cs s R) d S'
        | .ok .nx _ S' => gcO (dst cs s R) .non S'
        | .ex e _ S' => gcX (dst cs s R) e S'
        | _ => .no) = _
      rw [e]
      exact gc_dst0 rfl
    · have q2 := fmod_bd (i := mixI (mixI c (s.a + 1)) (s.u + 1)) hm
      refine ⟨(mixI (mixI c (s.a + 1)) (s.u + 1)).fmod m, ⟨s.a + 1, s.l, s.u + 1⟩, q2.1, q2.2, ⟨by show 0 ≤ s.a + 1; omega, by show s.a + 1 ≤ ((b + 1 : Nat) : Int); omega, by show 0 ≤ s.u + 1; omega, by show s.u + 1 ≤ ((b + 1 : Nat) : Int); omega, hd.ne, hd.le⟩, fun R => ?_⟩
      have e : bNext mi Φ [some (.ob 2), some (.int m), none, none, none] (dst cs s R) = .ok (.rt (.int ((mixI (mixI c (s.a + 1)) (s.u + 1)).fmod m))) [some (.ob 2), some (.int m), none, some (.ob 1), some (.int c)] (dst cs ⟨s.a + 1, s.l, s.u + 1⟩ R) := by
        by_cases hx1 : 1000000000000000000 ≤ c
        · have hx2 : ¬ (s.a + 1 ≤ cs.length) := fun z => hx ⟨hx1, z⟩
          simp only [bNext, dSeq, dSet, dSetIx, dIfS, dCmpT, dTAnd, dRet, dOp, dVar, dC, dB, dACons, dANil, dNil, dCall, Out.bnd, Out.thn, Out.ofO, List.getElem?_cons_zero, List.getElem?_cons_succ, ix_left, ix_cells, ix_at, ix_used, len_cells, gt_int, ge_int, le_int, add_int, hl, decide_true, decide_false,
            mod_ok hm', div_ok hm3, mod_ok hne, ix_cell q.1 hc, set_left, set_at, set_used, List.set_cons_succ, List.set_cons_zero, pow_ok (show (0 : Int) ≤ 18 ∧ (18 : Int) ≤ 1000000 ∧ (10 : Int).natAbs < 2 ^ 64 by decide), hp, hx1, hx2, List.length_cons, List.length_nil, if_true, Nat.reduceAdd, hΦ _ (s.a + 1) _ (by omega) (by omega), hΦ _ (s.u + 1) _ (by omega) (by omega)]
        · simp only [bNext, dSeq, dSet, dSetIx, dIfS, dCmpT, dTAnd, dRet, dOp, dVar, dC, dB, dACons, dANil, dNil, dCall, Out.bnd, Out.thn, Out.ofO, List.getElem?_cons_zero, List.getElem?_cons_succ, ix_left, ix_cells, ix_at, ix_used, len_cells, gt_int, ge_int, le_int, add_int, hl, decide_true, decide_false,
            mod_ok hm', div_ok hm3, mod_ok hne, ix_cell q.1 hc, set_left, set_at, set_used, List.set_cons_succ, List.set_cons_zero, pow_ok (show (0 : Int) ≤ 18 ∧ (18 : Int) ≤ 1000000 ∧ (10 : Int).natAbs < 2 ^ 64 by decide), hp, hx1, List.length_cons, List.length_nil, if_true, Nat.reduceAdd, hΦ _ (s.a + 1) _ (by omega) (by omega), hΦ _ (s.u + 1) _ (by omega) (by omega)]
      show (match bNext mi Φ [some (.ob 2), some (.int m), none, none, none] (dst cs s R) with
        | .ok (.rt d) _ S' => gcO (dst cs s R) d S'
        | .ok .nx _ S' => gcO (dst cs s R) .non S'
        | .ex e _ S' => gcX (dst cs s R) e S'
        | _ => .no) = _
      rw [e]
      exact gc_dst0 rfl
/-- the draw begins -/
theorem begin_run {Φ : PhT} {ns : List Int} (h : ns.length ≤ 63) : runB 1 (bBegin Φ) [.rl (ns.map D.int)] [] = .ok (.ob 2) (dst (ns ++ [0]) ⟨0, 0, 0⟩ []) ∧ Dr 0 (ns ++ [0]) ⟨0, 0, 0⟩ := by
  refine ⟨?_, ⟨by decide, by decide, by decide, by decide, by simp, by rw [List.length_append]; show ns.length + 1 ≤ 64; omega⟩⟩
  have hs : (ns.map D.int).length + [D.int 0].length ≤ sizeLine := by
    rw [List.length_map, sizeLine_eq]
    show ns.length + 1 ≤ _
    omega
  have e1 : aAdd (.rl (ns.map D.int)) (.ob 0) [.lst [.int 0]] = some (.ob 1, [.lst [.int 0], .lst ((ns ++ [0]).map D.int)]) := by
    show (if (ns.map D.int).length + [D.int 0].length ≤ sizeLine then some (D.ob 1, [O.lst [.int 0], .lst (ns.map D.int ++ [.int 0])]) else none) = _
    rw [if_pos hs, List.map_append]
    rfl
  have e : bBegin Φ [some (.rl (ns.map D.int))] [] = .ok (.rt (.ob 2)) [some (.rl (ns.map D.int))] (dst (ns ++ [0]) ⟨0, 0, 0⟩ []) := by
    have hz : [D.int 0].length ≤ sizeLine := by rw [sizeLine_eq]; show 1 ≤ _; omega
    simp only [bBegin, dSeq, dRet, dDict, evP, dOp, dVar, dC, dLst, dACons, dANil, Out.bnd, Out.thn, Out.ofO, List.getElem?_cons_zero, if_pos hz, List.length_nil, List.nil_append, e1]
    rfl
  show (match bBegin Φ [some (.rl (ns.map D.int))] [] with
    | .ok (.rt d) _ S' => gcO [] d S'
    | .ok .nx _ S' => gcO [] .non S'
    | .ex e _ S' => gcX [] e S'
    | _ => .no) = _
  rw [e]
  show gcO [] (.ob 2) (dst (ns ++ [0]) ⟨0, 0, 0⟩ []) = _
  unfold gcO
  rw [if_neg (fun z => by cases z.2)]
  have e2 : (dst (ns ++ [0]) ⟨0, 0, 0⟩ [])[2]? = some (drw ⟨0, 0, 0⟩) := rfl
  dsimp only
  rw [e2]
  dsimp only
  rw [if_neg (fun z => by cases z.2.2)]
end
end DL
/-! DL, part s: what the meanings do, in plain terms. -/
namespace DL
open PySem PySem.Spec PyProof.Rows L2
noncomputable section

theorem phi_succ {T : List FDef} {G : GEnv} {k i : Nat} {d : FDef} {b : PhT → DenS} (hT : T[i]? = some d) (hd : d.den G = some b) : Phi T G (k + 1) i = runB d.N.length (b (Phi T G k)) := by
  funext ds S
  show (match T[i]? with
    | none => Out.no
    | some d => match d.den G with
      | none => Out.no
      | some b => runB d.N.length (b (Phi T G k)) ds S) = _
  rw [hT]
  dsimp only
  rw [hd]
theorem runB_rt {n : Nat} {b : DenS} {ds : List D} {S S' : Sto} {d : D} {fr : Fr} {o : Out D} (h : b (ds.map some ++ List.replicate (n - ds.length) none) S = .ok (.rt d) fr S') (hg : gcO S d S' = o) : runB n b ds S = o := by
  unfold runB
  rw [h]
  exact hg
theorem runB_nx {n : Nat} {b : DenS} {ds : List D} {S S' : Sto} {fr : Fr} {o : Out D} (h : b (ds.map some ++ List.replicate (n - ds.length) none) S = .ok .nx fr S') (hg : gcO S .non S' = o) : runB n b ds S = o := by
  unfold runB
  rw [h]
  exact hg

/-! ### == -/
section
variable {S : Sto}
theorem eq_int {i j : Int} : aEq (.int i) (.int j) S = some (.bl (decide (i = j)), S) := by
  have e : PyData.eqv (.int i) (.int j) = decide (i = j) := by
    show (i == j) = _
    exact Bool.beq_eq_decide_eq i j
  show some (D.bl (PyData.eqv (.int i) (.int j)), S) = _
  rw [e]
theorem ne_int {i j : Int} : aNe (.int i) (.int j) S = some (.bl (!decide (i = j)), S) := by
  have e : PyData.eqv (.int i) (.int j) = decide (i = j) := by
    show (i == j) = _
    exact Bool.beq_eq_decide_eq i j
  show some (D.bl (!PyData.eqv (.int i) (.int j)), S) = _
  rw [e]
theorem eq_str {i j : Str} : aEq (.str i) (.str j) S = some (.bl (decide (i = j)), S) := by
  have e : PyData.eqv (.str i) (.str j) = decide (i = j) := by
    show (i == j) = _
    exact Bool.beq_eq_decide_eq i j
  show some (D.bl (PyData.eqv (.str i) (.str j)), S) = _
  rw [e]
theorem ne_str {i j : Str} : aNe (.str i) (.str j) S = some (.bl (!decide (i = j)), S) := by
  have e : PyData.eqv (.str i) (.str j) = decide (i = j) := by
    show (i == j) = _
    exact Bool.beq_eq_decide_eq i j
  show some (D.bl (!PyData.eqv (.str i) (.str j)), S) = _
  rw [e]
theorem eq_bl {i j : Bool} : aEq (.bl i) (.bl j) S = some (.bl (decide (i = j)), S) := by
  cases i <;> cases j <;> rfl
theorem ne_bl {i j : Bool} : aNe (.bl i) (.bl j) S = some (.bl (!decide (i = j)), S) := by
  cases i <;> cases j <;> rfl
theorem is_non {d : D} : aIs d .non S = some (.bl (isNon d), S) := rfl
theorem isNot_non {d : D} : aIsNot d .non S = some (.bl (!isNon d), S) := rfl
theorem isNot_true {b : Bool} : aIsNot (.bl b) (.bl true) S = some (.bl (!b), S) := by cases b <;> rfl
theorem eq_empty {i j : Nat} {xs : List D} {ps : List PyData} (hi : S[i]? = some (.lst xs)) (hj : S[j]? = some (.lst [])) (hp : toPs (obP 11 S) xs = some ps) :
    aEq (.ob i) (.ob j) S = some (.bl xs.isEmpty, S) ∧ aNe (.ob i) (.ob j) S = some (.bl (!xs.isEmpty), S) := by
  have h1 : dP S (.ob i) = some (.list ps) := by
    show (match S[i]? with | some (.lst xs) => (toPs (obP 11 S) xs).map PyData.list | _ => none) = _
    rw [hi]
    dsimp only
    rw [hp]
    rfl
  have h2 : dP S (.ob j) = some (.list []) := by
    show (match S[j]? with | some (.lst xs) => (toPs (obP 11 S) xs).map PyData.list | _ => none) = _
    rw [hj]
    rfl
  have h3 : ps.isEmpty = xs.isEmpty := by
    cases xs with
    | nil => cases hp; rfl
    | cons a b =>
      unfold toPs at hp
      split at hp
      · cases hp; rfl
      · cases hp
  have h4 : PyData.eqv (.list ps) (.list []) = ps.isEmpty := by cases ps <;> rfl
  have h5 : min (PyData.depth (.list ps)) (PyData.depth (.list [])) ≤ 100 := Nat.le_trans (Nat.min_le_right _ _) (by decide)
  unfold aEq aNe eqP
  rw [h1, h2]
  dsimp only
  rw [if_pos h5, h4, h3]
  exact ⟨rfl, by rw [if_pos h5]; rfl⟩
theorem toPs_strs {f : Nat → Option PyData} : ∀ l : List Str, toPs f (l.map D.str) = some (l.map PyData.str)
  | [] => rfl
  | a :: l => by
    show (match toP f (.str a), toPs f (l.map D.str) with | some p, some ps => some (p :: ps) | _, _ => none) = _
    rw [toPs_strs l]
    rfl
end

/-! ### texts -/
theorem optAll_bl {α : Type} (p : α → Bool) : ∀ l : List α, optAll blOf (l.map fun c => D.bl (p c)) = some (l.map p)
  | [] => rfl
  | a :: l => by
    have := optAll_bl p l
    rw [List.map_cons]
    unfold optAll
    rw [this]
    rfl
theorem optAll_strs : ∀ l : List Str, optAll strOf (l.map D.str) = some l
  | [] => rfl
  | a :: l => by
    have := optAll_strs l
    rw [List.map_cons]
    unfold optAll
    rw [this]
    rfl
theorem fAll_bl {α : Type} (p : α → Bool) (l : List α) (S : Sto) : fAll (l.map fun c => D.bl (p c)) S = some (.bl (l.all p), S) := by
  unfold fAll
  rw [optAll_bl]
  show some (D.bl ((l.map p).all id), S) = _
  rw [List.all_map]
  rfl
theorem sub1 {c : Nat} {y : Str} : subS ⟨#[c]⟩ y = decide (c ∈ y.cps.toList) := rfl
theorem in_one {c : Nat} {y : Str} {S : Sto} : aIn (.str ⟨#[c]⟩) (.str y) S = some (.bl (decide (c ∈ y.cps.toList)), S) := rfl
theorem notIn_one {c : Nat} {y : Str} {S : Sto} : aNotIn (.str ⟨#[c]⟩) (.str y) S = some (.bl (!decide (c ∈ y.cps.toList)), S) := rfl
theorem len_str {z : Str} {S : Sto} (h : z.length ≤ sizeLine) : fLen [.str z] S = some (.int z.length, S) := if_pos h
theorem str_len (z : Str) : z.length = z.cps.toList.length := by
  show z.cps.size = _
  rw [Array.length_toList]

/-! ### comprehensions -/
theorem compL_ok {ok : Sto → Prop} {t : DTg} {tt : DenT} {e : DenE} {fr : Fr} {S : Sto} {α : Type} (mk : α → D) (p : α → Bool) (v : α → D) (hok : ok S) : ∀ (items : List α),
    (∀ a ∈ items, ∃ fr1, t (mk a) fr S = some fr1 ∧ tt fr1 S = .ok (p a) S ∧ (p a = true → e fr1 S = .ok (v a) S)) → compL ok t tt e fr (items.map mk) S = .ok ((items.filter p).map v) S
  | [], _ => by
    unfold compL
    exact if_pos hok
  | a :: l, h => by
    obtain ⟨fr1, h1, h2, h3⟩ := h a List.mem_cons_self
    have ih := compL_ok mk p v hok l fun b hb => h b (List.mem_cons_of_mem _ hb)
    rw [List.map_cons]
    unfold compL
    rw [if_pos hok, h1]
    dsimp only
    rw [h2]
    cases q : p a with
    | false =>
      rw [List.filter_cons_of_neg (by rw [q]; exact Bool.false_ne_true)]
      exact ih
    | true =>
      rw [List.filter_cons_of_pos q]
      dsimp only
      rw [h3 q]
      dsimp only
      rw [ih]
      rfl
theorem noGuard {xs : List D} {S : Sto} : (Src.mk xs []).ok S := fun p hp => by cases hp
/-- over the signs of a text -/
theorem comp_signs {i j : Nat} {tt : DenT} {e : DenE} {fr : Fr} {S : Sto} {z : Str} (p : Nat → Bool) (v : Nat → D) (hj : fr[j]? = some (some (.str z))) (hl : z.length ≤ sizeLine)
    (h : ∀ c, tt ((wipeD fr [i]).set i (some (.str ⟨#[c]⟩))) S = .ok (p c) S ∧ (p c = true → e ((wipeD fr [i]).set i (some (.str ⟨#[c]⟩))) S = .ok (v c) S)) :
    dComp [i] (dISeq (dVar j)) (gN i) tt e fr S = .ok ((z.cps.toList.filter p).map v) S := by
  have e1 : dISeq (dVar j) fr S = .ok ⟨signs z, []⟩ S := by
    unfold dISeq dVar
    rw [hj]
    show Out.ofS (if z.length ≤ sizeLine then some (Src.mk (signs z) []) else none) S = _
    rw [if_pos hl]
    rfl
  unfold dComp
  rw [e1]
  exact compL_ok (fun c => D.str ⟨#[c]⟩) p v noGuard z.cps.toList fun c _ => ⟨_, rfl, h c⟩
/-- drawn: what each turn gives is of P, and wants at most c numbers -/
theorem compL_dr {ok : Sto → Prop} {t : DTg} {e : DenE} {fr : Fr} {cs : List Int} {P : D → Prop} {c B : Nat} (hok : ∀ S, ok S) : ∀ (items : List D) (b : Nat) (s : Ds),
    (∀ d ∈ items, ∀ (b : Nat) (s : Ds), Dr b cs s → b ≤ B → ∃ v s', P v ∧ Dr (b + c) cs s' ∧ ∀ R, ∃ fr1, t d fr (dst cs s R) = some fr1 ∧ e fr1 (dst cs s R) = .ok v (dst cs s' R)) → Dr b cs s → b + c * items.length ≤ B →
    ∃ vs s', vs.length = items.length ∧ (∀ v ∈ vs, P v) ∧ Dr (b + c * items.length) cs s' ∧ ∀ R, compL ok t dYes e fr items (dst cs s R) = .ok vs (dst cs s' R)
  | [], b, s, _, hd, _ => ⟨[], s, rfl, fun v hv => (by cases hv), hd, fun R => (by
      unfold compL
      exact if_pos (hok _))⟩
  | d :: l, b, s, h, hd, hb => by
    rw [List.length_cons, Nat.mul_succ] at hb
    obtain ⟨v, s1, h1, h2, h3⟩ := h d List.mem_cons_self b s hd (by omega)
    obtain ⟨vs, s2, k1, k2, k3, k4⟩ := compL_dr hok l (b + c) s1 (fun d' hd' => h d' (List.mem_cons_of_mem _ hd')) h2 (by omega)
    refine ⟨v :: vs, s2, by rw [List.length_cons, List.length_cons, k1], fun w hw => ?_, ?_, fun R => ?_⟩
    · rcases List.mem_cons.mp hw with z | z
      · rw [z]; exact h1
      · exact k2 w z
    · rw [List.length_cons, Nat.mul_succ]
      exact k3.mono (by omega)
    · obtain ⟨fr1, q1, q2⟩ := h3 R
      unfold compL
      rw [if_pos (hok _), q1]
      dsimp only [dYes]
      rw [q2]
      dsimp only
      rw [k4 R]
end
end DL
/-! DL, part t: the meanings run by simp. -/
namespace DL
open PySem PySem.Spec PyProof.Rows L2
noncomputable section
section
variable {S : Sto} {fr : Fr} {f h : DenE} {g : DenA} {t u : DenT} {a b : DenS}
@[simp] theorem ev_var {i : Nat} : dVar i fr S = match fr[i]? with
  | some (some d) => .ok d S
  | _ => .no := rfl
@[simp] theorem ev_c {d : D} : dC d fr S = .ok d S := rfl
@[simp] theorem ev_bok {α β : Type} {x : α} {k : α → Sto → Out β} : (Out.ok x S).bnd k = k x S := rfl
@[simp] theorem ev_bex {α β : Type} {x : Ex} {k : α → Sto → Out β} : (Out.ex x S : Out α).bnd k = .ex x S := rfl
@[simp] theorem ev_tok {α : Type} {x : α} {k : α → Sto → OutS} : (Out.ok x S).thn fr k = k x S := rfl
@[simp] theorem ev_tex {α : Type} {x : Ex} {k : α → Sto → OutS} : (Out.ex x S : Out α).thn fr k = .ex x fr S := rfl
@[simp] theorem ev_of {α : Type} {x : α} : Out.ofO (some (x, S)) = .ok x S := rfl
@[simp] theorem ev_op {o : F2} : dOp o f h fr S = (f fr S).bnd fun x S' => (h fr S').bnd fun y S'' => .ofO (o x y S'') := rfl
@[simp] theorem ev_anil : dANil fr S = .ok [] S := rfl
@[simp] theorem ev_acons : dACons f g fr S = (f fr S).bnd fun d S' => (g fr S').bnd fun ds S'' => .ok (d :: ds) S'' := rfl
@[simp] theorem ev_b {o : FB} : dB o g fr S = (g fr S).bnd fun ds S' => .ofO (o ds S') := rfl
@[simp] theorem ev_tr : dTr f fr S = (f fr S).bnd fun d S' => match truD d S' with
  | some b => .ok b S'
  | none => .no := by unfold dTr; rfl
@[simp] theorem ev_tand : dTAnd t u fr S = (t fr S).bnd fun b S' => match b with
  | true => u fr S'
  | false => .ok false S' := by unfold dTAnd; rfl
@[simp] theorem ev_tor : dTOr t u fr S = (t fr S).bnd fun b S' => match b with
  | true => .ok true S'
  | false => u fr S' := by unfold dTOr; rfl
@[simp] theorem ev_tnot : dTNot t fr S = (t fr S).bnd fun b S' => .ok (!b) S' := rfl
@[simp] theorem ev_yes : dYes fr S = .ok true S := rfl
@[simp] theorem ev_if : dIf t f h fr S = (t fr S).bnd fun b S' => match b with
  | true => f fr S'
  | false => h fr S' := by unfold dIf; rfl
@[simp] theorem ev_cmpT {o : F2} : dCmpT o f h fr S = (f fr S).bnd fun x S' => (h fr S').bnd fun y S'' => match o x y S'' with
  | some (.bl k, S3) => .ok k S3
  | _ => .no := by unfold dCmpT; rfl
@[simp] theorem ev_chain {o o' : F2} {c : DenE} : dChain o o' f h c fr S = (f fr S).bnd fun x S' => (h fr S').bnd fun y S'' => match o x y S'' with
  | some (.bl true, S3) => (c fr S3).bnd fun z S4 => .ofO (o' y z S4)
  | some (.bl false, S3) => .ok (.bl false) S3
  | _ => .no := by unfold dChain; rfl
@[simp] theorem ev_chainT {o o' : F2} {c : DenE} : dChainT o o' f h c fr S = (dChain o o' f h c fr S).bnd fun d S' => match d with
  | .bl k => .ok k S'
  | _ => .no := by unfold dChainT; rfl
@[simp] theorem ev_seq : dSeq a b fr S = match a fr S with
  | .ok .nx fr' S' => b fr' S'
  | o => o := by unfold dSeq; rfl
@[simp] theorem ev_nil : dNil fr S = .ok .nx fr S := rfl
@[simp] theorem ev_break : dBreak fr S = .ok .bk fr S := rfl
@[simp] theorem ev_cont : dCont fr S = .ok .ct fr S := rfl
@[simp] theorem ev_set {i : Nat} : dSet i f fr S = (f fr S).thn fr fun d S' => .ok .nx (fr.set i (some d)) S' := rfl
@[simp] theorem ev_expr : dExpr f fr S = (f fr S).thn fr fun _ S' => .ok .nx fr S' := rfl
@[simp] theorem ev_ret : dRet f fr S = (f fr S).thn fr fun d S' => .ok (.rt d) fr S' := rfl
@[simp] theorem ev_retN : dRetN fr S = .ok (.rt .non) fr S := rfl
@[simp] theorem ev_ifS : dIfS t a b fr S = (t fr S).thn fr fun c S' => match c with
  | true => a fr S'
  | false => b fr S' := by unfold dIfS; rfl
@[simp] theorem ev_andV : dAndV f h fr S = (f fr S).bnd fun d S' => match truD d S' with
  | some true => h fr S'
  | some false => .ok d S'
  | none => .no := by unfold dAndV; rfl
@[simp] theorem ev_orV : dOrV f h fr S = (f fr S).bnd fun d S' => match truD d S' with
  | some true => .ok d S'
  | some false => h fr S'
  | none => .no := by unfold dOrV; rfl
@[simp] theorem ev_notV : dNotV f fr S = (f fr S).bnd fun d S' => match truD d S' with
  | some b => .ok (.bl (!b)) S'
  | none => .no := by unfold dNotV; rfl
@[simp] theorem ev_neg : dNeg f fr S = (f fr S).bnd fun d S' => match d with
  | .int i => .ok (.int (-i)) S'
  | _ => .no := by unfold dNeg; rfl
@[simp] theorem ev_call {n : Nat} {φ : List D → Sto → Out D} : dCall n φ g fr S = (g fr S).bnd fun ds S' => if ds.length = n then φ ds S' else .no := rfl
@[simp] theorem ev_m {T : String} {m : FM} : dM T m f g fr S = (f fr S).bnd fun d S' => if mtyD d S' = some T then (g fr S').bnd fun ds S2 => .ofO (m d ds S2) else .no := rfl
@[simp] theorem ev_keep : dKeep g fr S = (g fr S).bnd fun ds S' => .ok (.ob S'.length) (S' ++ [.lst ds]) := rfl
@[simp] theorem ev_partN : dPart none fr S = .ok none S := rfl
@[simp] theorem ev_partS : dPart (some f) fr S = (f fr S).bnd fun d S' => match d with
  | .int i => .ok (some i) S'
  | _ => .no := by unfold dPart; rfl
@[simp] theorem ev_sl {lo hi : Option DenE} : dSl f lo hi fr S = (f fr S).bnd fun d S' => (dPart lo fr S').bnd fun l S2 => (dPart hi fr S2).bnd fun h S3 => .ofO (aSl d l h S3) := rfl
theorem five_line : (5 : Nat) ≤ 100 := by decide
theorem small_line {n : Nat} (h : n ≤ 1000) : n ≤ sizeLine := by rw [sizeLine_eq]; omega
@[simp] theorem size_small {n : Nat} (h : n ≤ 1000) : (n ≤ sizeLine) = True := eq_true (small_line h)
@[simp] theorem ev_tup : dTup g fr S = (g fr S).bnd fun ds S' => if ds.length ≤ sizeLine then .ok (.tup ds) S' else .no := rfl
@[simp] theorem ev_lst : dLst g fr S = (g fr S).bnd fun ds S' => if ds.length ≤ sizeLine then .ok (.ob S'.length) (S' ++ [.lst ds]) else .no := rfl
@[simp] theorem ev_lstT : dLstT g fr S = (g fr S).bnd fun ds S' => if ds.length ≤ sizeLine then .ok ds S' else .no := rfl
@[simp] theorem ev_dict0 : dDict [] fr S = .ok (.ob S.length) (S ++ [.dk []]) := rfl
@[simp] theorem tr_bl {c : Bool} : truD (.bl c) S = some c := rfl
@[simp] theorem tr_non : truD .non S = some false := rfl
@[simp] theorem s_add {i j : Int} : aAdd (.int i) (.int j) S = some (.int (i + j), S) := rfl
@[simp] theorem s_sub {i j : Int} : aSub (.int i) (.int j) S = some (.int (i - j), S) := rfl
@[simp] theorem s_lt {i j : Int} : aLt (.int i) (.int j) S = some (.bl (decide (i < j)), S) := rfl
@[simp] theorem s_le {i j : Int} : aLe (.int i) (.int j) S = some (.bl (decide (i ≤ j)), S) := rfl
@[simp] theorem s_gt {i j : Int} : aGt (.int i) (.int j) S = some (.bl (decide (j < i)), S) := rfl
@[simp] theorem s_ge {i j : Int} : aGe (.int i) (.int j) S = some (.bl (decide (j ≤ i)), S) := rfl
@[simp] theorem s_eqi {i j : Int} : aEq (.int i) (.int j) S = some (.bl (decide (i = j)), S) := eq_int
@[simp] theorem s_nei {i j : Int} : aNe (.int i) (.int j) S = some (.bl (!decide (i = j)), S) := ne_int
@[simp] theorem s_eqs {i j : Str} : aEq (.str i) (.str j) S = some (.bl (decide (i = j)), S) := eq_str
@[simp] theorem s_nes {i j : Str} : aNe (.str i) (.str j) S = some (.bl (!decide (i = j)), S) := ne_str
@[simp] theorem s_eqb {i j : Bool} : aEq (.bl i) (.bl j) S = some (.bl (decide (i = j)), S) := eq_bl
@[simp] theorem s_neb {i j : Bool} : aNe (.bl i) (.bl j) S = some (.bl (!decide (i = j)), S) := ne_bl
@[simp] theorem s_is {d : D} : aIs d .non S = some (.bl (isNon d), S) := rfl
@[simp] theorem s_isN {d : D} : aIsNot d .non S = some (.bl (!isNon d), S) := rfl
@[simp] theorem s_isT {b c : Bool} : aIs (.bl b) (.bl c) S = some (.bl (decide (b = c)), S) := by cases b <;> cases c <;> rfl
@[simp] theorem s_isNT {b c : Bool} : aIsNot (.bl b) (.bl c) S = some (.bl (!decide (b = c)), S) := by cases b <;> cases c <;> rfl
/-- an int literal's product -/
@[simp] theorem s_mulL {i j : Int} (h : -18446744073709551616 < i ∧ i < 18446744073709551616) : aMul (.int i) (.int j) S = some (.int (i * j), S) := mul_l (by omega)
@[simp] theorem s_mulR {i j : Int} (h : -18446744073709551616 < j ∧ j < 18446744073709551616) : aMul (.int i) (.int j) S = some (.int (i * j), S) := mul_r (by omega)
@[simp] theorem s_mod {i j : Int} (h : j ≠ 0) : aMod (.int i) (.int j) S = some (.int (i.fmod j), S) := mod_ok h
@[simp] theorem s_div {i j : Int} (h : j ≠ 0 ∧ j.natAbs < 1073741824) : aFDiv (.int i) (.int j) S = some (.int (i.fdiv j), S) := div_ok h
@[simp] theorem s_pow {i j : Int} (h : (0 ≤ j ∧ j ≤ 1000000) ∧ i.natAbs < 18446744073709551616) : aPow (.int i) (.int j) S = some (.int (i ^ j.toNat), S) := pow_ok ⟨h.1.1, h.1.2, h.2⟩
@[simp] theorem s_len {z : Str} (h : z.length ≤ 1000) : fLen [.str z] S = some (.int z.length, S) := len_str (small_line h)
@[simp] theorem mt_str {z : Str} : mtyD (.str z) S = some "str" := rfl
@[simp] theorem und_non {n : Nat} : D.und n .non = true := rfl
@[simp] theorem und_bl {n : Nat} {c : Bool} : D.und n (.bl c) = true := rfl
@[simp] theorem und_int {n : Nat} {c : Int} : D.und n (.int c) = true := rfl
@[simp] theorem und_str {n : Nat} {c : Str} : D.und n (.str c) = true := rfl
@[simp] theorem d_app {cs : List Int} {s : Ds} {R T : Sto} : dst cs s R ++ T = dst cs s (R ++ T) := rfl
@[simp] theorem d_len {cs : List Int} {s : Ds} {R : Sto} : List.length (dst cs s R) = R.length + 3 := rfl
@[simp] theorem d_get {cs : List Int} {s : Ds} {R : Sto} {i : Nat} : (dst cs s R)[i + 3]? = R[i]? := rfl
end
/-- what a def's body gives back -/
def rtOf : OutS → Option (D × Sto)
  | .ok (.rt d) _ S => some (d, S)
  | .ok .nx _ S => some (.non, S)
  | _ => none
@[simp] theorem rt_rt {d : D} {fr : Fr} {S : Sto} : rtOf (.ok (.rt d) fr S) = some (d, S) := rfl
@[simp] theorem rt_nx {fr : Fr} {S : Sto} : rtOf (.ok .nx fr S) = some (.non, S) := rfl
theorem runB_of {n : Nat} {b : DenS} {ds : List D} {S S' : Sto} {d : D} {o : Out D} (h : rtOf (b (ds.map some ++ List.replicate (n - ds.length) none) S) = some (d, S')) (hg : gcO S d S' = o) : runB n b ds S = o := by
  unfold runB
  cases q : b (ds.map some ++ List.replicate (n - ds.length) none) S with
  | ok fl fr S2 =>
    rw [q] at h
    cases fl <;> cases h <;> exact hg
  | ex e fr S2 => rw [q] at h; cases h
  | no => rw [q] at h; cases h
/-- the type that isinstance sees, of a thing of plain kind -/
def knd : D → Option String
  | .non => some "NoneType"
  | .bl _ => some "bool"
  | .int _ => some "int"
  | .str _ => some "str"
  | .tup _ => some "tuple"
  | .rl _ => some "list"
  | _ => none
theorem isi_ok {d : D} {S : Sto} {a b : String} (h : tyD d S = some a) (hb : b ∈ tyNames) : fIsi [d, .ty b] S = some (.bl (isTy a b), S) := by
  show (match tyD d S with
    | some a => if b ∈ tyNames then some (D.bl (isTy a b), S) else none
    | none => none) = _
  rw [h]
  exact if_pos hb
theorem tyD_ob {n : Nat} {S : Sto} {a : String} (h : tyD (.ob n) S = some a) : a = "list" ∨ a = "dict" := by
  unfold tyD at h
  dsimp only at h
  split at h
  · cases h; exact .inl rfl
  · cases h; exact .inr rfl
  · cases h
end
end DL
/-! DL, part u: lists, texts and drawn texts. -/
namespace DL
open PySem PySem.Spec PyProof.Rows L2
noncomputable section
def tx (cs : List Nat) : Str := ⟨cs.toArray⟩
theorem tx_cps (cs : List Nat) : (tx cs).cps.toList = cs := by simp [tx]
theorem tx_len (cs : List Nat) : (tx cs).length = cs.length := by rw [str_len, tx_cps]
theorem tx_of (z : Str) : z = tx z.cps.toList := by
  obtain ⟨a⟩ := z
  simp [tx]
theorem tx_inj {a b : List Nat} : tx a = tx b ↔ a = b := by
  constructor
  · intro h
    have := congrArg (fun z : Str => z.cps.toList) h
    rwa [tx_cps, tx_cps] at this
  · intro h; rw [h]
theorem ix_lst {S : Sto} {j : Nat} {xs : List D} {r : Int} {d : D} (hj : S[j]? = some (.lst xs)) (h0 : 0 ≤ r) (hd : xs[r.toNat]? = some d) : aIx (.ob j) (.int r) S = some (d, S) := by
  have e : seqD (.ob j) S = some xs := by
    show (match S[j]? with
      | some (.lst xs) => some xs
      | _ => none) = _
    rw [hj]
  show (match seqD (.ob j) S with
    | some xs => (L2.atI xs r).map fun d => (d, S)
    | none => match S[j]? with
      | some (.dk kvs) => match keyD (.int r) with
        | some k => (valD kvs k).map fun d => (d, S)
        | none => none
      | _ => none) = _
  rw [e]
  dsimp only
  rw [atI_ok (j := r.toNat) (x := d) (by omega) hd]
  rfl
theorem get_int {α : Type} (xs : List α) {r : Int} (h0 : 0 ≤ r) (h1 : r < xs.length) : ∃ d, d ∈ xs ∧ xs[r.toNat]? = some d := by
  have hl : r.toNat < xs.length := by omega
  exact ⟨xs[r.toNat], List.getElem_mem hl, List.getElem?_eq_getElem hl⟩
theorem ix_str {z : Str} {r : Int} (h0 : 0 ≤ r) (h1 : r < z.length) (hz : z.length ≤ 1000) : ∃ c, c ∈ z.cps.toList ∧ ∀ S, aIx (.str z) (.int r) S = some (.str ⟨#[c]⟩, S) := by
  obtain ⟨c, hc, e⟩ := get_int z.cps.toList (r := r) h0 (by rw [← str_len]; exact h1)
  refine ⟨c, hc, fun S => ?_⟩
  show (if z.length ≤ sizeLine then (L2.atI z.cps.toList r).map (fun c => (D.str ⟨#[c]⟩, S)) else none) = _
  rw [if_pos (small_line hz), atI_ok (j := r.toNat) (x := c) (by omega) e]
  rfl
theorem cut_len (z : Str) (lo hi : Option Int) : (cutS z lo hi).length ≤ z.length := by
  rw [str_len, str_len]
  unfold cutS
  simp only [List.length_take, List.length_drop]
  omega
theorem sl_any {z : Str} (lo hi : Option Int) (hz : z.length ≤ 1000) : ∃ y : Str, y.length ≤ z.length ∧ ∀ S, aSl (.str z) lo hi S = some (.str y, S) :=
  ⟨cutS z lo hi, cut_len z lo hi, fun S => if_pos (small_line hz)⟩
theorem add_str {x y : Str} {S : Sto} (h : x.length + y.length ≤ 1000) : aAdd (.str x) (.str y) S = some (.str (x ++ y), S) := if_pos (small_line h)
theorem app_len (x y : Str) : (x ++ y).length = x.length + y.length := by
  show (x.cps ++ y.cps).size = _
  rw [Array.size_append]
  rfl
theorem one_len (c : Nat) : (⟨#[c]⟩ : Str).length = 1 := rfl
theorem join_one {vs : List D} (h : ∀ v ∈ vs, ∃ c, v = D.str ⟨#[c]⟩) (hl : vs.length ≤ 1000) : ∃ z : Str, z.length = vs.length ∧ ∀ S, mJoinT (.str "") vs S = some (.str z, S) := by
  have : ∃ l : List Str, vs = l.map D.str ∧ ∀ a ∈ l, a.length = 1 := by
    clear hl
    induction vs with
    | nil => exact ⟨[], rfl, fun a ha => by cases ha⟩
    | cons v vs ih =>
      obtain ⟨l, e, h1⟩ := ih fun w hw => h w (List.mem_cons_of_mem _ hw)
      obtain ⟨c, rfl⟩ := h v List.mem_cons_self
      refine ⟨⟨#[c]⟩ :: l, by rw [e]; rfl, fun a ha => ?_⟩
      rcases List.mem_cons.mp ha with q | q
      · rw [q]; rfl
      · exact h1 a q
  obtain ⟨l, rfl, h1⟩ := this
  rw [List.length_map] at hl
  refine ⟨Txt.join "" l, ?_, fun S => ?_⟩
  · rw [List.length_map]
    exact PySem.W.KT.join_ones l h1
  · show (match optAll strOf (l.map D.str) with
      | some ys => if joinOk "" ys then some (D.str (Txt.join "" ys), S) else none
      | none => none) = _
    rw [optAll_strs]
    dsimp only
    rw [if_pos]
    have e0 : (("" : Str)).length = 0 := by decide +kernel
    have es : (l.map (·.length)).sum = l.length := by
      clear hl h
      induction l with
      | nil => rfl
      | cons a l ih =>
        rw [List.map_cons, List.sum_cons, List.length_cons, ih fun b hb => h1 b (List.mem_cons_of_mem _ hb), h1 a List.mem_cons_self]
        omega
    show (l.map (·.length)).sum + l.length * (("" : Str)).length ≤ 16777216
    rw [es, e0]
    omega
theorem range1 {h : DenA} {fr : Fr} {S S' : Sto} {n : Int} (e : h fr S = .ok [.int n] S') (h0 : 0 ≤ n) (hn : n ≤ 1000) : dIRange1 h fr S = .ok ⟨upTo 0 n.toNat, []⟩ S' := by
  unfold dIRange1
  rw [e]
  show (if -(2 ^ 62) ≤ n ∧ n ≤ 16777216 then Out.ok (Src.mk (upTo 0 n.toNat) []) S' else .no) = _
  rw [if_pos ⟨by omega, by omega⟩]
theorem dst_new {cs : List Int} {s : Ds} {R T : Sto} (j : Nat) : (dst cs s (R ++ T))[R.length + 3 + j]? = T[j]? := by
  rw [show R.length + 3 + j = (R.length + j) + 3 by omega, dst_get, List.getElem?_append_right (by omega), Nat.add_sub_cancel_left]
theorem upTo_len (lo : Int) (n : Nat) : (upTo lo n).length = n := by
  unfold upTo
  rw [List.length_map, List.length_range]
/-- a loop that goes through all its items -/
theorem forL_nx {ok : Sto → Prop} {t : DTg} {b : DenS} (hok : ∀ S, ok S) (N : Nat) (I : Nat → Fr → Sto → Prop) : ∀ (items : List D), (∀ d ∈ items, ∀ n fr S, n < N → I n fr S → ∃ fr1 fr2 S2, t d fr S = some fr1 ∧ (b fr1 S = .ok .nx fr2 S2 ∨ b fr1 S = .ok .ct fr2 S2) ∧ I (n + 1) fr2 S2) →
    ∀ n fr S, n + items.length ≤ N → I n fr S → ∃ fr' S', forL ok t b items fr S = .ok .nx fr' S' ∧ I (n + items.length) fr' S'
  | [], _, n, fr, S, _, hI => ⟨fr, S, by unfold forL; exact if_pos (hok S), hI⟩
  | d :: l, h, n, fr, S, hn, hI => by
    rw [List.length_cons] at hn
    obtain ⟨fr1, fr2, S2, h1, h2, h3⟩ := h d List.mem_cons_self n fr S (by omega) hI
    obtain ⟨fr', S', e, hI'⟩ := forL_nx hok N I l (fun d' hd' => h d' (List.mem_cons_of_mem _ hd')) (n + 1) fr2 S2 (by omega) h3
    refine ⟨fr', S', ?_, by rw [List.length_cons, Nat.add_comm l.length 1, ← Nat.add_assoc]; exact hI'⟩
    unfold forL
    rw [if_pos (hok S), h1]
    dsimp only
    rcases h2 with h2 | h2 <;> rw [h2] <;> exact e
end
end DL
/-! the defs of this law, their table and their meanings (written by gen.py) -/
namespace K01
open PySem PySem.Spec PyProof.Rows L2 DL
noncomputable section
def top (i : Nat) : Stmt := PySem.Challenge.pw_borderkin_k01_names_and_numbers.main.body.getD i (.Pass ⟨0, 0, 0, 0⟩)
def f_is_whole : FDef := ⟨"is_whole", top 6, ["thing", "least", "most"], ["thing", "least", "most"]⟩
def f_is_name : FDef := ⟨"is_name", top 7, ["thing"], ["thing", "sign"]⟩
def f_number_in : FDef := ⟨"number_in", top 8, ["word"], ["word", "figures", "sign"]⟩
def f_law_begin : FDef := ⟨"_law_begin", top 10, ["_law_script"], ["_law_script"]⟩
def f_law_mixed : FDef := ⟨"_law_mixed", top 11, ["_law_cell", "_law_k"], ["_law_cell", "_law_k", "_law_number_here"]⟩
def f_law_next : FDef := ⟨"_law_next", top 12, ["_law_draw", "_law_many"], ["_law_draw", "_law_many", "_law_found", "_law_cells", "_law_cell"]⟩
def f_law_text : FDef := ⟨"_law_text", top 13, ["_law_draw"], ["_law_draw", "_law_letters", "_law_size", "_law_found", "_law_at", "_law_sign", "_law_k"]⟩
def f_law_figures : FDef := ⟨"_law_figures", top 14, ["_law_draw"], ["_law_draw", "_law_head", "_law_size", "_law_found", "_law_near", "_law_k"]⟩
def f_law_is_name : FDef := ⟨"_law_is_name", top 15, ["_law_thing"], ["_law_thing", "_law_sign"]⟩
def f_law_number : FDef := ⟨"_law_number", top 16, ["_law_word"], ["_law_word", "_law_figures_here", "_law_bad", "_law_found", "_law_sign"]⟩
def f_law_whole_right : FDef := ⟨"_law_whole_right", top 17, ["_law_draw"], ["_law_draw", "_law_least", "_law_most", "_law_near", "_law_thing", "_law_due", "_law_found"]⟩
def f_law_same : FDef := ⟨"_law_same", top 18, ["_law_found", "_law_due"], ["_law_found", "_law_due"]⟩
def f_law : FDef := ⟨"law", top 19, ["_law_script"], ["_law_script", "_law_draw", "_law_k", "_law_text_here", "_law_word", "_law_odd", "_law_thing", "_law_one", "_law_found", "_law_words"]⟩
def T : List FDef := [f_is_whole, f_is_name, f_number_in, f_law_begin, f_law_mixed, f_law_next, f_law_text, f_law_figures, f_law_is_name, f_law_number, f_law_whole_right, f_law_same, f_law]
def G : GEnv := [("is_whole", .fn 0 3),
  ("is_name", .fn 1 1),
  ("number_in", .fn 2 1),
  ("_law_begin", .fn 3 1),
  ("_law_mixed", .fn 4 2),
  ("_law_next", .fn 5 2),
  ("_law_text", .fn 6 1),
  ("_law_figures", .fn 7 1),
  ("_law_is_name", .fn 8 1),
  ("_law_number", .fn 9 1),
  ("_law_whole_right", .fn 10 1),
  ("_law_same", .fn 11 2),
  ("law", .fn 12 1),
  ("MOST_LETTERS", .con (.int 8)),
  ("LETTERS", .con (.str "abcdefghijklmnopqrstuvwxyz")),
  ("MOST_NUMBER", .con (.int 1000000000000)),
  ("MOST_FIGURES", .con (.int 13)),
  ("FIGURES", .con (.str "0123456789"))]
def b_is_whole (Φ : PhT) : DenS :=
  (dSeq (dRet (dAndV (dB fIsi (dACons (dVar 0) (dACons (dC (.ty "int")) dANil))) (dAndV (dNotV (dB fIsi (dACons (dVar 0) (dACons (dC (.ty "bool")) dANil)))) (dChain aLe aLe (dVar 1) (dVar 0) (dVar 2)))))
 dNil)
theorem den_is_whole : f_is_whole.den G = some b_is_whole := by kernel_rfl
def b_is_name (Φ : PhT) : DenS :=
  (dSeq (dIfS (dTOr (dTNot (dTr (dB fIsi (dACons (dVar 0) (dACons (dC (.ty "str")) dANil))))) (dTNot (dChainT aLe aLe (dC (.int 1)) (dB fLen (dACons (dVar 0) dANil)) (dC (.int 8))))) (dSeq (dRet (dC (.bl false)))
  dNil) dNil)
 (dSeq (dRet (dB fAll (dComp [1] (dISeq (dVar 0)) (gN 1) dYes (dOp aIn (dVar 1) (dC (.str "abcdefghijklmnopqrstuvwxyz"))))))
 dNil))
theorem den_is_name : f_is_name.den G = some b_is_name := by kernel_rfl
def b_number_in (Φ : PhT) : DenS :=
  (dSeq (dSet 1 (dIf (dCmpT aEq (dSl (dVar 0) none (some (dC (.int 1)))) (dC (.str "-"))) (dSl (dVar 0) (some (dC (.int 1))) none) (dVar 0)))
 (dSeq (dIfS (dTOr (dTNot (dChainT aLe aLe (dC (.int 1)) (dB fLen (dACons (dVar 1) dANil)) (dC (.int 13)))) (dTNot (dTr (dB fAll (dComp [2] (dISeq (dVar 1)) (gN 2) dYes (dOp aIn (dVar 2) (dC (.str "0123456789")))))))) (dSeq (dRet (dC .non))
  dNil) dNil)
 (dSeq (dIfS (dTAnd (dCmpT aEq (dOp aIx (dVar 1) (dC (.int 0))) (dC (.str "0"))) (dCmpT aNe (dVar 0) (dC (.str "0")))) (dSeq (dRet (dC .non))
  dNil) dNil)
 (dSeq (dRet (dIf (dTr (dCall 3 (Φ 0) (dACons (dB fInt (dACons (dVar 0) dANil)) (dACons (dOp aSub (dC (.int 0)) (dC (.int 1000000000000))) (dACons (dC (.int 1000000000000)) dANil))))) (dB fInt (dACons (dVar 0) dANil)) (dC .non)))
 dNil))))
theorem den_number_in : f_number_in.den G = some b_number_in := by kernel_rfl
def b_law_begin (Φ : PhT) : DenS :=
  (dSeq (dRet (dDict [((dC (.str "cells")), (dOp aAdd (dVar 0) (dLst (dACons (dC (.int 0)) dANil)))), ((dC (.str "at")), (dC (.int 0))), ((dC (.str "left")), (dC (.int 0))), ((dC (.str "used")), (dC (.int 0)))]))
 dNil)
theorem den_law_begin : f_law_begin.den G = some b_law_begin := by kernel_rfl
def b_law_mixed (Φ : PhT) : DenS :=
  (dSeq (dSet 2 (dOp aMod (dOp aMul (dOp aAdd (dOp aAdd (dOp aAdd (dOp aMod (dVar 0) (dC (.int 1000000007))) (dOp aMul (dOp aMul (dC (.int 7919)) (dVar 1)) (dVar 1))) (dOp aMul (dC (.int 31)) (dVar 1))) (dC (.int 7))) (dC (.int 48271))) (dC (.int 2147483647))))
 (dSeq (dRet (dOp aFDiv (dOp aMod (dOp aMul (dVar 2) (dOp aAdd (dC (.int 69621)) (dOp aMul (dC (.int 2)) (dOp aMod (dVar 1) (dC (.int 1000)))))) (dC (.int 2147483629))) (dC (.int 7))))
 dNil))
theorem den_law_mixed : f_law_mixed.den G = some b_law_mixed := by kernel_rfl
def b_law_next (Φ : PhT) : DenS :=
  (dSeq (dIfS (dCmpT aGt (dOp aIx (dVar 0) (dC (.str "left"))) (dC (.int 0))) (dSeq (dSet 2 (dOp aMod (dOp aIx (dVar 0) (dC (.str "left"))) (dVar 1)))
  (dSeq (dSetIx (dVar 0) (dC (.str "left")) (dOp aFDiv (dOp aIx (dVar 0) (dC (.str "left"))) (dVar 1)))
  (dSeq (dRet (dVar 2))
  dNil))) dNil)
 (dSeq (dSet 3 (dOp aIx (dVar 0) (dC (.str "cells"))))
 (dSeq (dSet 4 (dOp aIx (dVar 3) (dOp aMod (dOp aIx (dVar 0) (dC (.str "at"))) (dB fLen (dACons (dVar 3) dANil)))))
 (dSeq (dSetIx (dVar 0) (dC (.str "at")) (dOp aAdd (dOp aIx (dVar 0) (dC (.str "at"))) (dC (.int 1))))
 (dSeq (dIfS (dTAnd (dCmpT aGe (dVar 4) (dOp aPow (dC (.int 10)) (dC (.int 18)))) (dCmpT aLe (dOp aIx (dVar 0) (dC (.str "at"))) (dB fLen (dACons (dVar 3) dANil)))) (dSeq (dSetIx (dVar 0) (dC (.str "left")) (dOp aFDiv (dVar 4) (dVar 1)))
  (dSeq (dRet (dOp aMod (dVar 4) (dVar 1)))
  dNil)) dNil)
 (dSeq (dSetIx (dVar 0) (dC (.str "used")) (dOp aAdd (dOp aIx (dVar 0) (dC (.str "used"))) (dC (.int 1))))
 (dSeq (dRet (dOp aMod (dCall 2 (Φ 4) (dACons (dCall 2 (Φ 4) (dACons (dVar 4) (dACons (dOp aIx (dVar 0) (dC (.str "at"))) dANil))) (dACons (dOp aIx (dVar 0) (dC (.str "used"))) dANil))) (dVar 1)))
 dNil)))))))
theorem den_law_next : f_law_next.den G = some b_law_next := by kernel_rfl
def b_law_text (Φ : PhT) : DenS :=
  (dSeq (dSet 1 (dC (.str "abcdefghijklmnopqrstuvwxyz")))
 (dSeq (dSet 2 (dCall 2 (Φ 5) (dACons (dVar 0) (dACons (dC (.int 11)) dANil))))
 (dSeq (dSet 3 (dM "str" mJoinT (dC (.str "")) (dComp [6] (dIRange1 (dACons (dVar 2) dANil)) (gN 6) dYes (dOp aIx (dVar 1) (dCall 2 (Φ 5) (dACons (dVar 0) (dACons (dC (.int 26)) dANil)))))))
 (dSeq (dSet 4 (dCall 2 (Φ 5) (dACons (dVar 0) (dACons (dOp aAdd (dVar 2) (dC (.int 1))) dANil))))
 (dSeq (dSet 5 (dOp aIx (dC (.str "A0-_ z.\n9~")) (dCall 2 (Φ 5) (dACons (dVar 0) (dACons (dC (.int 10)) dANil)))))
 (dSeq (dRet (dOp aIx (dLst (dACons (dVar 3) (dACons (dVar 3) (dACons (dVar 3) (dACons (dOp aAdd (dOp aAdd (dSl (dVar 3) none (some (dVar 4))) (dVar 5)) (dSl (dVar 3) (some (dOp aAdd (dVar 4) (dC (.int 1)))) none)) dANil))))) (dCall 2 (Φ 5) (dACons (dVar 0) (dACons (dC (.int 4)) dANil)))))
 dNil))))))
theorem den_law_text : f_law_text.den G = some b_law_text := by kernel_rfl
def b_law_figures (Φ : PhT) : DenS :=
  (dSeq (dSet 1 (dOp aIx (dLst (dACons (dC (.str "")) (dACons (dC (.str "")) (dACons (dC (.str "-")) (dACons (dC (.str "0")) (dACons (dC (.str "+")) (dACons (dC (.str "--")) (dACons (dC (.str "-0")) dANil)))))))) (dCall 2 (Φ 5) (dACons (dVar 0) (dACons (dC (.int 7)) dANil)))))
 (dSeq (dSet 2 (dOp aAdd (dC (.int 1)) (dCall 2 (Φ 5) (dACons (dVar 0) (dACons (dC (.int 15)) dANil)))))
 (dSeq (dSet 3 (dM "str" mJoinT (dC (.str "")) (dComp [5] (dIRange1 (dACons (dVar 2) dANil)) (gN 5) dYes (dOp aIx (dC (.str "0123456789")) (dCall 2 (Φ 5) (dACons (dVar 0) (dACons (dC (.int 10)) dANil)))))))
 (dSeq (dSet 4 (dOp aIx (dLst (dACons (dC (.str "1000000000000")) (dACons (dC (.str "1000000000001")) (dACons (dC (.str "999999999999")) (dACons (dVar 3) (dACons (dVar 3) (dACons (dOp aAdd (dVar 3) (dC (.str "x"))) dANil))))))) (dCall 2 (Φ 5) (dACons (dVar 0) (dACons (dC (.int 6)) dANil)))))
 (dSeq (dRet (dOp aAdd (dVar 1) (dVar 4)))
 dNil)))))
theorem den_law_figures : f_law_figures.den G = some b_law_figures := by kernel_rfl
def b_law_is_name (Φ : PhT) : DenS :=
  (dSeq (dIfS (dTOr (dTNot (dTr (dB fIsi (dACons (dVar 0) (dACons (dC (.ty "str")) dANil))))) (dTOr (dCmpT aLt (dB fLen (dACons (dVar 0) dANil)) (dC (.int 1))) (dCmpT aGt (dB fLen (dACons (dVar 0) dANil)) (dC (.int 8))))) (dSeq (dRet (dC (.bl false)))
  dNil) dNil)
 (dSeq (dRet (dOp aEq (dKeep (dComp [1] (dISeq (dVar 0)) (gN 1) (dTNot (dChainT aLe aLe (dC (.str "a")) (dVar 1) (dC (.str "z")))) (dVar 1))) (dLst dANil)))
 dNil))
theorem den_law_is_name : f_law_is_name.den G = some b_law_is_name := by kernel_rfl
def b_law_number (Φ : PhT) : DenS :=
  (dSeq (dSet 1 (dIf (dCmpT aEq (dSl (dVar 0) none (some (dC (.int 1)))) (dC (.str "-"))) (dSl (dVar 0) (some (dC (.int 1))) none) (dVar 0)))
 (dSeq (dSet 2 (dKeep (dComp [4] (dISeq (dVar 1)) (gN 4) (dCmpT aNotIn (dVar 4) (dC (.str "0123456789"))) (dVar 4))))
 (dSeq (dIfS (dTOr (dCmpT aEq (dVar 1) (dC (.str ""))) (dTOr (dCmpT aGt (dB fLen (dACons (dVar 1) dANil)) (dC (.int 13))) (dTOr (dCmpT aNe (dVar 2) (dLst dANil)) (dTAnd (dCmpT aEq (dOp aIx (dVar 1) (dC (.int 0))) (dC (.str "0"))) (dCmpT aNe (dVar 0) (dC (.str "0"))))))) (dSeq (dRet (dC .non))
  dNil) dNil)
 (dSeq (dSet 3 (dC (.int 0)))
 (dSeq (dFor (gN 4) (dISeq (dVar 1)) (dSeq (dSet 3 (dOp aAdd (dOp aMul (dC (.int 10)) (dVar 3)) (dM "str" mSIndex (dC (.str "0123456789")) (dACons (dVar 4) dANil))))
  dNil))
 (dSeq (dIfS (dCmpT aGt (dVar 3) (dOp aPow (dC (.int 10)) (dC (.int 12)))) (dSeq (dRet (dC .non))
  dNil) dNil)
 (dSeq (dRet (dIf (dCmpT aEq (dSl (dVar 0) none (some (dC (.int 1)))) (dC (.str "-"))) (dOp aSub (dC (.int 0)) (dVar 3)) (dVar 3)))
 dNil)))))))
theorem den_law_number : f_law_number.den G = some b_law_number := by kernel_rfl
def b_law_whole_right (Φ : PhT) : DenS :=
  (dSeq (dSet 1 (dOp aSub (dCall 2 (Φ 5) (dACons (dVar 0) (dACons (dC (.int 41)) dANil))) (dC (.int 20))))
 (dSeq (dSet 2 (dOp aSub (dOp aAdd (dVar 1) (dCall 2 (Φ 5) (dACons (dVar 0) (dACons (dC (.int 9)) dANil)))) (dC (.int 1))))
 (dSeq (dSet 3 (dLst (dACons (dVar 1) (dACons (dVar 2) (dACons (dOp aSub (dVar 1) (dC (.int 1))) (dACons (dOp aAdd (dVar 2) (dC (.int 1))) (dACons (dC (.int 0)) (dACons (dOp aPow (dC (.int 10)) (dC (.int 30))) (dACons (dNeg (dOp aPow (dC (.int 10)) (dC (.int 30)))) (dACons (dC .non) (dACons (dC (.bl true)) (dACons (dC (.bl false)) (dACons (dC (.str "1")) (dACons (dLst (dACons (dC (.int 1)) dANil)) (dACons (dTup (dACons (dC (.int 1)) dANil)) (dACons (dDict []) dANil))))))))))))))))
 (dSeq (dSet 4 (dOp aIx (dVar 3) (dCall 2 (Φ 5) (dACons (dVar 0) (dACons (dC (.int 14)) dANil)))))
 (dSeq (dSet 5 (dAndV (dB fIsi (dACons (dVar 4) (dACons (dC (.ty "int")) dANil))) (dAndV (dNotV (dB fIsi (dACons (dVar 4) (dACons (dC (.ty "bool")) dANil)))) (dChain aLe aLe (dVar 1) (dVar 4) (dVar 2)))))
 (dSeq (dSet 6 (dCall 3 (Φ 0) (dACons (dVar 4) (dACons (dVar 1) (dACons (dVar 2) dANil)))))
 (dSeq (dRet (dAndV (dB fIsi (dACons (dVar 6) (dACons (dC (.ty "bool")) dANil))) (dOp aEq (dVar 6) (dVar 5))))
 dNil)))))))
theorem den_law_whole_right : f_law_whole_right.den G = some b_law_whole_right := by kernel_rfl
def b_law_same (Φ : PhT) : DenS :=
  (dSeq (dIfS (dCmpT aIs (dVar 1) (dC .non)) (dSeq (dRet (dOp aIs (dVar 0) (dC .non)))
  dNil) dNil)
 (dSeq (dRet (dAndV (dB fIsi (dACons (dVar 0) (dACons (dC (.ty "int")) dANil))) (dAndV (dNotV (dB fIsi (dACons (dVar 0) (dACons (dC (.ty "bool")) dANil)))) (dOp aEq (dVar 0) (dVar 1)))))
 dNil))
theorem den_law_same : f_law_same.den G = some b_law_same := by kernel_rfl
def b_law (Φ : PhT) : DenS :=
  (dSeq (dSet 1 (dCall 1 (Φ 3) (dACons (dVar 0) dANil)))
 (dSeq (dFor (gN 2) (dIRange1 (dACons (dOp aAdd (dB fMin2 (dACons (dC (.int 63)) (dACons (dB fLen (dACons (dVar 0) dANil)) dANil))) (dC (.int 1))) dANil)) (dSeq (dPar 3 4 (dACons (dCall 1 (Φ 6) (dACons (dVar 1) dANil)) (dACons (dCall 1 (Φ 7) (dACons (dVar 1) dANil)) dANil)))
  (dSeq (dSet 5 (dOp aIx (dLst (dACons (dC .non) (dACons (dC (.int 5)) (dACons (dC (.bl true)) (dACons (dLst (dACons (dC (.str "a")) dANil)) (dACons (dTup (dACons (dC (.str "a")) dANil)) (dACons (dDict []) (dACons (dC (.str "")) (dACons (dC (.str "a")) dANil))))))))) (dCall 2 (Φ 5) (dACons (dVar 1) (dACons (dC (.int 8)) dANil)))))
  (dSeq (dFor (gN 6) (dISeq (dTup (dACons (dVar 3) (dACons (dVar 4) (dACons (dVar 5) dANil))))) (dSeq (dSet 8 (dCall 1 (Φ 1) (dACons (dVar 6) dANil)))
   (dSeq (dIfS (dTOr (dTNot (dTr (dB fIsi (dACons (dVar 8) (dACons (dC (.ty "bool")) dANil))))) (dCmpT aNe (dVar 8) (dCall 1 (Φ 8) (dACons (dVar 6) dANil)))) (dSeq (dRet (dC (.bl false)))
    dNil) dNil)
   dNil)))
  (dSeq (dFor (gN 7) (dISeq (dTup (dACons (dVar 4) (dACons (dVar 3) (dACons (dC (.str "")) (dACons (dC (.str "-")) (dACons (dC (.str "0")) (dACons (dC (.str "-0")) (dACons (dC (.str "1000000000000")) (dACons (dC (.str "-1000000000000")) dANil)))))))))) (dSeq (dIfS (dTNot (dTr (dCall 2 (Φ 11) (dACons (dCall 1 (Φ 2) (dACons (dVar 7) dANil)) (dACons (dCall 1 (Φ 9) (dACons (dVar 7) dANil)) dANil))))) (dSeq (dRet (dC (.bl false)))
    dNil) dNil)
   dNil))
  (dSeq (dIfS (dTNot (dTr (dCall 1 (Φ 10) (dACons (dVar 1) dANil)))) (dSeq (dRet (dC (.bl false)))
   dNil) dNil)
  dNil))))))
 (dSeq (dSet 9 (dM "str" mSplit (dC (.str "fun rec call let if op pair first second box open put as number truth name any num")) (dACons (dC (.str " ")) dANil)))
 (dSeq (dRet (dOp aEq (dKeep (dComp [4] (dISeq (dVar 9)) (gN 4) (dCmpT aIsNot (dCall 1 (Φ 1) (dACons (dVar 4) dANil)) (dC (.bl true))) (dVar 4))) (dLst dANil)))
 dNil))))
theorem den_law : f_law.den G = some b_law := by kernel_rfl
theorem ok_is_whole : FOk f_is_whole := ⟨⟨rfl, rfl, rfl, by decide +kernel, rfl, by decide +kernel, by decide +kernel⟩, fun _ _ _ _ _ _ us hl => match us, hl with | [_, _, _], _ => rfl⟩
theorem ok_is_name : FOk f_is_name := ⟨⟨rfl, rfl, rfl, by decide +kernel, rfl, by decide +kernel, by decide +kernel⟩, fun _ _ _ _ _ _ us hl => match us, hl with | [_], _ => rfl⟩
theorem ok_number_in : FOk f_number_in := ⟨⟨rfl, rfl, rfl, by decide +kernel, rfl, by decide +kernel, by decide +kernel⟩, fun _ _ _ _ _ _ us hl => match us, hl with | [_], _ => rfl⟩
theorem ok_law_begin : FOk f_law_begin := ⟨⟨rfl, rfl, rfl, by decide +kernel, rfl, by decide +kernel, by decide +kernel⟩, fun _ _ _ _ _ _ us hl => match us, hl with | [_], _ => rfl⟩
theorem ok_law_mixed : FOk f_law_mixed := ⟨⟨rfl, rfl, rfl, by decide +kernel, rfl, by decide +kernel, by decide +kernel⟩, fun _ _ _ _ _ _ us hl => match us, hl with | [_, _], _ => rfl⟩
theorem ok_law_next : FOk f_law_next := ⟨⟨rfl, rfl, rfl, by decide +kernel, rfl, by decide +kernel, by decide +kernel⟩, fun _ _ _ _ _ _ us hl => match us, hl with | [_, _], _ => rfl⟩
theorem ok_law_text : FOk f_law_text := ⟨⟨rfl, rfl, rfl, by decide +kernel, rfl, by decide +kernel, by decide +kernel⟩, fun _ _ _ _ _ _ us hl => match us, hl with | [_], _ => rfl⟩
theorem ok_law_figures : FOk f_law_figures := ⟨⟨rfl, rfl, rfl, by decide +kernel, rfl, by decide +kernel, by decide +kernel⟩, fun _ _ _ _ _ _ us hl => match us, hl with | [_], _ => rfl⟩
theorem ok_law_is_name : FOk f_law_is_name := ⟨⟨rfl, rfl, rfl, by decide +kernel, rfl, by decide +kernel, by decide +kernel⟩, fun _ _ _ _ _ _ us hl => match us, hl with | [_], _ => rfl⟩
theorem ok_law_number : FOk f_law_number := ⟨⟨rfl, rfl, rfl, by decide +kernel, rfl, by decide +kernel, by decide +kernel⟩, fun _ _ _ _ _ _ us hl => match us, hl with | [_], _ => rfl⟩
theorem ok_law_whole_right : FOk f_law_whole_right := ⟨⟨rfl, rfl, rfl, by decide +kernel, rfl, by decide +kernel, by decide +kernel⟩, fun _ _ _ _ _ _ us hl => match us, hl with | [_], _ => rfl⟩
theorem ok_law_same : FOk f_law_same := ⟨⟨rfl, rfl, rfl, by decide +kernel, rfl, by decide +kernel, by decide +kernel⟩, fun _ _ _ _ _ _ us hl => match us, hl with | [_, _], _ => rfl⟩
theorem ok_law : FOk f_law := ⟨⟨rfl, rfl, rfl, by decide +kernel, rfl, by decide +kernel, by decide +kernel⟩, fun _ _ _ _ _ _ us hl => match us, hl with | [_], _ => rfl⟩
theorem allOk : AllOk T := ⟨ok_is_whole, ok_is_name, ok_number_in, ok_law_begin, ok_law_mixed, ok_law_next, ok_law_text, ok_law_figures, ok_law_is_name, ok_law_number, ok_law_whole_right, ok_law_same, ok_law, trivial⟩
def loose0 : List Str := ["LETTERS", "FIGURES", "MOST_LETTERS", "MOST_NUMBER", "MOST_FIGURES", "is_whole", "is_name", "number_in", "_law_begin", "_law_mixed", "_law_next", "_law_text", "_law_figures", "_law_is_name", "_law_number", "_law_whole_right", "_law_same"]
def loose : List Str := loose0
abbrev R : PySem.W.OpenRow := PySem.W.OpenLaw.row PySem.Challenge.rw_borderkin_k01_names_and_numbers
abbrev hk : PySem.W.Hook := hookQ 5 (csOf G) (faOf T) (T.map FDef.defD)
def ob (s : PySem.W.SharedT) : He.AlD := obsQG 5 (csOf G) (faOf T) (T.map FDef.defD) (HandSHeadRun.getT s)
theorem ob_eq (s : PySem.W.SharedT) : ob s = hk.obs s.abs := obsQG_eq (HandSHeadRun.getT_eq s)
theorem run (w : World) : HandSHeadRun.RunEq R (PySem.W.view R.prog [19]) hk ob 600 loose w := by
  intro os
  kernel_rfl
open PySem PySem.W PySem.Calls PyProof.Rows
theorem head (hp : ∀ ns : List Int, ns.length ≤ 63 → ∃ S', Phi T G 230 12 [.rl (ns.map D.int)] [] = .ok (.bl true) S') : PySem.Challenge.rw_borderkin_k01_names_and_numbers.Holds := by
  w_on; o_law
  refine HandSHeadRun.head_any (r := OpenLaw.row PySem.Challenge.rw_borderkin_k01_names_and_numbers) (q := view (OpenLaw.row PySem.Challenge.rw_borderkin_k01_names_and_numbers).prog [19]) (H := hk) (ob := ob) (M := 600) (loose := loose) (d := HandSHeadRun.topDef (OpenLaw.row PySem.Challenge.rw_borderkin_k01_names_and_numbers).prog 19) (kwd := []) ob_eq
    (by kernel_rfl) (fun s => by kernel_rfl) run (by kernel_rfl) (by kernel_rfl) (by kernel_rfl) (by rfl) (by first | assumption | decide +kernel) (by decide +kernel) ⟨rfl, rfl, rfl, rfl, rfl, by decide +kernel⟩ ?hw ?hc
  case hw => w_witness2
  case hc =>
    refine L2.walk_ofE (l := PySem.Challenge.rw_borderkin_k01_names_and_numbers) (n := 63) (k := 230) (x := "_law_script") (CX := fun a b c d e f => ∃ w, L2.CX (PySem.Challenge.rw_borderkin_k01_names_and_numbers).prog w a b c d e f) rfl (by decide) (by kernel_rfl) ⟨rfl, by decide, by decide⟩ ?F (fun H s e s' ⟨w, z⟩ => cx_no H s e s' z)
    intro w mg fa h Y GN hmg0
    obtain ⟨K, KX, c⟩ := Y
    have hmg : mg ("law" : PySem.Str) = some (.ref fa) := by
      have e : (HandSHeadRun.topDef (OpenLaw.row PySem.Challenge.rw_borderkin_k01_names_and_numbers).prog 19).name = ("law" : PySem.Str) := by kernel_rfl
      rw [← e]
      exact hmg0
    obtain ⟨fd, hb, hF⟩ := facts (P := (PySem.Challenge.rw_borderkin_k01_names_and_numbers).prog) (W0 := w) (li := 12) (dl := f_law) KX GN c allOk (by decide +kernel) rfl rfl hmg 230
    exact ⟨K, fd, _, KX, hb, sp_start (n := 63) (by decide) hp, fun base _ _ => fn_ctx (hF base) fun a b c d e f z => ⟨w, z⟩⟩
end
end K01
/-! what the defs of this law answer -/
namespace K01
open PySem PySem.Spec PyProof.Rows L2 DL
noncomputable section

/-! ### is_whole -/
def wholeB (d : D) (l m : Int) : Bool := match d with
  | .int i => decide (l ≤ i) && decide (i ≤ m)
  | _ => false
theorem whole_e {fr : Fr} {S : Sto} {d : D} {l m : Int} {i j k : Nat} {a : String} (h1 : fr[i]? = some (some d)) (h2 : fr[j]? = some (some (.int l))) (h3 : fr[k]? = some (some (.int m))) (ht : tyD d S = some a) :
    dAndV (dB fIsi (dACons (dVar i) (dACons (dC (.ty "int")) dANil))) (dAndV (dNotV (dB fIsi (dACons (dVar i) (dACons (dC (.ty "bool")) dANil)))) (dChain aLe aLe (dVar j) (dVar i) (dVar k))) fr S = .ok (.bl (wholeB d l m)) S := by
  have e1 := isi_ok ht (b := "int") (by decide)
  have e2 := isi_ok ht (b := "bool") (by decide)
  cases d with
  | int n =>
    cases ht
    by_cases q : l ≤ n <;> simp [Out.bnd, h1, h2, h3, e1, e2, isTy, wholeB, q]
  | ob n =>
    rcases tyD_ob ht with rfl | rfl <;> simp [Out.bnd, h1, h2, h3, e1, e2, isTy, wholeB]
  | gl x => cases ht
  | ty x => cases ht
  | _ => cases ht; simp [Out.bnd, h1, h2, h3, e1, e2, isTy, wholeB]
theorem whole_run {k : Nat} {d : D} {l m : Int} {S : Sto} {a : String} (ht : tyD d S = some a) : Phi T G (k + 1) 0 [d, .int l, .int m] S = .ok (.bl (wholeB d l m)) S := by
  rw [phi_succ (d := f_is_whole) rfl den_is_whole]
  refine runB_rt (fr := [some d, some (.int l), some (.int m)]) (S' := S) ?_ (gc_pure0 rfl)
  show b_is_whole _ [some d, some (.int l), some (.int m)] S = _
  unfold b_is_whole
  rw [ev_seq, ev_ret, whole_e (d := d) (l := l) (m := m) rfl rfl rfl ht]
  rfl

/-! ### is_name -/
def low : Str := "abcdefghijklmnopqrstuvwxyz"
theorem low_mem (c : Nat) : decide (c ∈ low.cps.toList) = (decide (97 ≤ c) && decide (c ≤ 122)) := by
  have e : low.cps.toList = (List.range 26).map (· + 97) := by decide +kernel
  rw [e, ← Bool.decide_and]
  refine decide_eq_decide.mpr ?_
  rw [List.mem_map]
  constructor
  · rintro ⟨i, hi, rfl⟩
    have := List.mem_range.mp hi
    omega
  · intro h
    exact ⟨c - 97, List.mem_range.mpr (by omega), by omega⟩
def nameZ (z : Str) : Bool := (decide (1 ≤ z.length) && decide (z.length ≤ 8)) && z.cps.toList.all fun c => decide (97 ≤ c) && decide (c ≤ 122)
def nameB (d : D) : Bool := match d with
  | .str z => nameZ z
  | _ => false
theorem name_run {k : Nat} {d : D} {S : Sto} {a : String} (ht : tyD d S = some a) (hz : ∀ z, d = .str z → z.length ≤ 1000) : Phi T G (k + 1) 1 [d] S = .ok (.bl (nameB d)) S := by
  rw [phi_succ (d := f_is_name) rfl den_is_name]
  have e1 := isi_ok ht (b := "str") (by decide)
  have no : (∀ z, d ≠ .str z) → isTy a "str" = false := fun h => by
    cases d with
    | str z => exact absurd rfl (h z)
    | ob n => rcases tyD_ob ht with rfl | rfl <;> decide
    | gl x => cases ht
    | ty x => cases ht
    | _ => cases ht; decide
  refine runB_rt (fr := [some d, none]) (S' := S) ?_ (gc_pure0 rfl)
  show b_is_name _ [some d, none] S = _
  unfold b_is_name
  by_cases hs : ∃ z, d = .str z
  · obtain ⟨z, rfl⟩ := hs
    cases ht
    have hl := hz z rfl
    have hc : dComp [1] (dISeq (dVar 0)) (gN 1) dYes (dOp aIn (dVar 1) (dC (.str "abcdefghijklmnopqrstuvwxyz"))) [some (.str z), none] S = .ok (z.cps.toList.map fun c => D.bl (decide (97 ≤ c) && decide (c ≤ 122))) S := by
      have := comp_signs (i := 1) (j := 0) (tt := dYes) (e := dOp aIn (dVar 1) (dC (.str "abcdefghijklmnopqrstuvwxyz"))) (fr := [some (.str z), none]) (S := S) (z := z) (fun _ => true) (fun c => D.bl (decide (97 ≤ c) && decide (c ≤ 122))) rfl (small_line hl) fun c => ⟨rfl, fun _ => by
        show Out.ofO (aIn (.str ⟨#[c]⟩) (.str low) S) = _
        rw [in_one, low_mem]
        rfl⟩
      rw [this, List.filter_eq_self.mpr fun _ _ => rfl]
    by_cases h1 : 1 ≤ z.length
    · by_cases h2 : z.length ≤ 8
      · have h3 : (1 : Int) ≤ z.length := by omega
        have h4 : (z.length : Int) ≤ 8 := by omega
        simp [Out.bnd, e1, isTy, hl, h3, h4, hc, fAll_bl, nameB, nameZ, h1, h2]
      · have h3 : (1 : Int) ≤ z.length := by omega
        have h4 : ¬ (z.length : Int) ≤ 8 := by omega
        simp [Out.bnd, e1, isTy, hl, h3, h4, nameB, nameZ, h1, h2]
    · have h3 : ¬ (1 : Int) ≤ z.length := by omega
      simp [Out.bnd, e1, isTy, hl, h3, nameB, nameZ, h1]
  · have hn : ∀ z, d ≠ .str z := fun z e => hs ⟨z, e⟩
    have e2 : nameB d = false := by
      cases d with
      | str z => exact absurd rfl (hn z)
      | _ => rfl
    simp [Out.bnd, e1, no hn, e2]

theorem le_a {c : Nat} {S : Sto} : aLe (.str "a") (.str ⟨#[c]⟩) S = some (.bl (decide (97 ≤ c)), S) := by
  show some (D.bl (!decide ([c] < [97])), S) = _
  have e : decide ([c] < [97]) = decide (c < 97) := decide_eq_decide.mpr (by simp [List.cons_lt_cons_iff])
  rw [e]
  by_cases h : 97 ≤ c
  · rw [decide_eq_false (by omega), decide_eq_true h]; rfl
  · rw [decide_eq_true (by omega), decide_eq_false h]; rfl
theorem le_z {c : Nat} {S : Sto} : aLe (.str ⟨#[c]⟩) (.str "z") S = some (.bl (decide (c ≤ 122)), S) := by
  show some (D.bl (!decide ([122] < [c])), S) = _
  have e : decide ([122] < [c]) = decide (122 < c) := decide_eq_decide.mpr (by simp [List.cons_lt_cons_iff])
  rw [e]
  by_cases h : c ≤ 122
  · rw [decide_eq_false (by omega), decide_eq_true h]; rfl
  · rw [decide_eq_true (by omega), decide_eq_false h]; rfl
theorem all_filter {α : Type} (p : α → Bool) : ∀ l : List α, (l.filter fun a => !p a).isEmpty = l.all p
  | [] => rfl
  | a :: l => by
    cases h : p a with
    | true => rw [List.filter_cons_of_neg (by rw [h]; simp), List.all_cons, h, all_filter p l]; rfl
    | false => rw [List.filter_cons_of_pos (by rw [h]; rfl), List.all_cons, h]; rfl
theorem isEmpty_map {α β : Type} (f : α → β) (l : List α) : (l.map f).isEmpty = l.isEmpty := by cases l <;> rfl
/-- a new list held against a new empty one -/
theorem eq_new {S : Sto} {l : List Str} : aEq (.ob S.length) (.ob (S.length + 1)) (S ++ [.lst (l.map D.str), .lst []]) = some (.bl l.isEmpty, S ++ [.lst (l.map D.str), .lst []]) ∧
    aNe (.ob S.length) (.ob (S.length + 1)) (S ++ [.lst (l.map D.str), .lst []]) = some (.bl (!l.isEmpty), S ++ [.lst (l.map D.str), .lst []]) := by
  have := eq_empty (S := S ++ [.lst (l.map D.str), .lst []]) (i := S.length) (j := S.length + 1) (xs := l.map D.str) (ps := l.map PyData.str) (by simp) (by simp) (toPs_strs l)
  rwa [isEmpty_map] at this
theorem lname_run {k : Nat} {d : D} {S : Sto} {a : String} (ht : tyD d S = some a) (hz : ∀ z, d = .str z → z.length ≤ 1000) : Phi T G (k + 1) 8 [d] S = .ok (.bl (nameB d)) S := by
  rw [phi_succ (d := f_law_is_name) rfl den_law_is_name]
  have e1 := isi_ok ht (b := "str") (by decide)
  have no : (∀ z, d ≠ .str z) → isTy a "str" = false := fun h => by
    cases d with
    | str z => exact absurd rfl (h z)
    | ob n => rcases tyD_ob ht with rfl | rfl <;> decide
    | gl x => cases ht
    | ty x => cases ht
    | _ => cases ht; decide
  by_cases hs : ∃ z, d = .str z
  · obtain ⟨z, rfl⟩ := hs
    cases ht
    have hl := hz z rfl
    have hc : dComp [1] (dISeq (dVar 0)) (gN 1) (dTNot (dChainT aLe aLe (dC (.str "a")) (dVar 1) (dC (.str "z")))) (dVar 1) [some (.str z), none] S = .ok ((z.cps.toList.filter fun c => !(decide (97 ≤ c) && decide (c ≤ 122))).map fun c => D.str ⟨#[c]⟩) S :=
      comp_signs (i := 1) (j := 0) (fr := [some (.str z), none]) (S := S) (z := z) (fun c => !(decide (97 ≤ c) && decide (c ≤ 122))) (fun c => D.str ⟨#[c]⟩) rfl (small_line hl) fun c => by
        refine ⟨?_, fun _ => rfl⟩
        by_cases h : 97 ≤ c <;> simp [Out.bnd, wipeD, le_a, le_z, h]
    have hE : ((z.cps.toList.filter fun c => !(decide (97 ≤ c) && decide (c ≤ 122))).map fun c => (⟨#[c]⟩ : Str)).isEmpty = z.cps.toList.all fun c => decide (97 ≤ c) && decide (c ≤ 122) := by rw [isEmpty_map, all_filter (fun c => decide (97 ≤ c) && decide (c ≤ 122))]
    have hc : dComp [1] (dISeq (dVar 0)) (gN 1) (dTNot (dChainT aLe aLe (dC (.str "a")) (dVar 1) (dC (.str "z")))) (dVar 1) [some (.str z), none] S = .ok (((z.cps.toList.filter fun c => !(decide (97 ≤ c) && decide (c ≤ 122))).map fun c => (⟨#[c]⟩ : Str)).map D.str) S := by
      rw [hc, List.map_map]
      rfl
    generalize (z.cps.toList.filter fun c => !(decide (97 ≤ c) && decide (c ≤ 122))).map (fun c => (⟨#[c]⟩ : Str)) = l at hc hE
    have he := (eq_new (S := S) (l := l)).1
    have hN : nameB (.str z) = ((decide (1 ≤ z.length) && decide (z.length ≤ 8)) && l.isEmpty) := by rw [hE]; rfl
    by_cases h1 : 1 ≤ z.length
    · by_cases h2 : z.length ≤ 8
      · refine runB_rt (fr := [some (.str z), none]) (S' := S ++ [.lst (l.map D.str), .lst []]) ?_ (gc_pure rfl)
        show b_law_is_name _ [some (.str z), none] S = _
        unfold b_law_is_name
        have h3 : ¬ (z.length : Int) < 1 := by omega
        have h4 : ¬ (8 : Int) < z.length := by omega
        simp [Out.bnd, e1, isTy, hl, h3, h4, hN, h1, h2, he, hc]
      · refine runB_rt (fr := [some (.str z), none]) (S' := S) ?_ (gc_pure0 rfl)
        show b_law_is_name _ [some (.str z), none] S = _
        unfold b_law_is_name
        have h3 : ¬ (z.length : Int) < 1 := by omega
        have h4 : (8 : Int) < z.length := by omega
        simp [Out.bnd, e1, isTy, hl, h3, h4, hN, h1, h2]
    · refine runB_rt (fr := [some (.str z), none]) (S' := S) ?_ (gc_pure0 rfl)
      show b_law_is_name _ [some (.str z), none] S = _
      unfold b_law_is_name
      have h3 : (z.length : Int) < 1 := by omega
      simp [Out.bnd, e1, isTy, hl, h3, hN, h1]
  · refine runB_rt (fr := [some d, none]) (S' := S) ?_ (gc_pure0 rfl)
    show b_law_is_name _ [some d, none] S = _
    unfold b_law_is_name
    have hn : ∀ z, d ≠ .str z := fun z e => hs ⟨z, e⟩
    have e2 : nameB d = false := by
      cases d with
      | str z => exact absurd rfl (hn z)
      | _ => rfl
    simp [Out.bnd, e1, no hn, e2]
end
end K01
/-! the numbers of this law -/
namespace K01
open PySem PySem.Spec PyProof.Rows L2 DL
noncomputable section

theorem sl_one {cs : List Nat} {S : Sto} (h : cs.length ≤ 1000) : aSl (.str (tx cs)) none (some 1) S = some (.str (tx (cs.take 1)), S) := by
  show (if (tx cs).length ≤ sizeLine then some (D.str (cutS (tx cs) none (some 1)), S) else none) = _
  rw [if_pos (small_line (by rw [tx_len]; exact h))]
  have e : cutS (tx cs) none (some 1) = tx (cs.take 1) := by
    unfold cutS
    rw [tx_cps, HT.sIx_none, show (some (1 : Int)) = some ((1 : Nat) : Int) from rfl, HT.sIx_nat, tx_len]
    show tx _ = _
    rw [tx_inj, List.drop_zero, Nat.sub_zero]
    cases cs with
    | nil => rfl
    | cons a r => rw [List.length_cons, Nat.min_eq_left (by omega)]
  rw [e]
theorem sl_rest {cs : List Nat} {S : Sto} (h : cs.length ≤ 1000) : aSl (.str (tx cs)) (some 1) none S = some (.str (tx (cs.drop 1)), S) := by
  show (if (tx cs).length ≤ sizeLine then some (D.str (cutS (tx cs) (some 1) none), S) else none) = _
  rw [if_pos (small_line (by rw [tx_len]; exact h))]
  have e : cutS (tx cs) (some 1) none = tx (cs.drop 1) := by
    unfold cutS
    rw [tx_cps, HT.sIx_none, show (some (1 : Int)) = some ((1 : Nat) : Int) from rfl, HT.sIx_nat, tx_len]
    show tx _ = _
    rw [tx_inj]
    cases cs with
    | nil => rfl
    | cons a r => rw [List.length_cons, Nat.min_eq_left (by omega), List.take_of_length_le (by simp)]
  rw [e]
theorem ix_zero {c : Nat} {r : List Nat} {S : Sto} (h : (c :: r).length ≤ 1000) : aIx (.str (tx (c :: r))) (.int 0) S = some (.str (tx [c]), S) := by
  show (if (tx (c :: r)).length ≤ sizeLine then (L2.atI (tx (c :: r)).cps.toList 0).map (fun c => (D.str ⟨#[c]⟩, S)) else none) = _
  rw [if_pos (small_line (by rw [tx_len]; exact h)), tx_cps, atI_ok (i := 0) (j := 0) (x := c) rfl rfl]
  rfl

/-! what a word writes -/
abbrev dig (c : Nat) : Bool := decide (48 ≤ c) && decide (c ≤ 57)
def figs (cs : List Nat) : List Nat := if cs.take 1 = [45] then cs.drop 1 else cs
def numV (cs : List Nat) : Int := if cs.take 1 = [45] then -((NumText.digitsVal (figs cs) : Nat) : Int) else ((NumText.digitsVal (figs cs) : Nat) : Int)
/-- a writing that may be read at all -/
def numR (cs : List Nat) : Bool := (decide (1 ≤ (figs cs).length) && decide ((figs cs).length ≤ 13)) && ((figs cs).all dig && !(decide ((figs cs).take 1 = [48]) && !decide (cs = [48])))
def numZ (cs : List Nat) : Option Int := if numR cs = true ∧ NumText.digitsVal (figs cs) ≤ 1000000000000 then some (numV cs) else none
def optD : Option Int → D
  | none => .non
  | some i => .int i
def figW : Str := "0123456789"
theorem fig_mem (c : Nat) : decide (c ∈ figW.cps.toList) = dig c := by
  have e : figW.cps.toList = (List.range 10).map (· + 48) := by decide +kernel
  show _ = (decide (48 ≤ c) && decide (c ≤ 57))
  rw [e, ← Bool.decide_and]
  refine decide_eq_decide.mpr ?_
  rw [List.mem_map]
  constructor
  · rintro ⟨i, hi, rfl⟩
    have := List.mem_range.mp hi
    omega
  · intro h
    exact ⟨c - 48, List.mem_range.mpr (by omega), by omega⟩
theorem alldig {f : List Nat} (h : f.all dig = true) : NumText.AllDigits f := fun c hc => by
  have := List.all_eq_true.mp h c hc
  simpa using this
theorem int_text {cs : List Nat} (hr : (figs cs).all dig = true) (h1 : 1 ≤ (figs cs).length) (hl : cs.length ≤ 500) : intText? (tx cs) = some (numV cs) := by
  have hne : figs cs ≠ [] := fun e => by rw [e] at h1; cases h1
  have hl2 : (tx cs).length ≤ 4300 := by rw [tx_len]; omega
  unfold numV
  by_cases hn : cs.take 1 = [45]
  · rw [if_pos hn]
    have ef : figs cs = cs.drop 1 := if_pos hn
    refine PySem.intText_neg (by rw [tx_cps, ef, ← List.take_append_drop 1 cs, hn]; rfl) (alldig hr) hne hl2
  · rw [if_neg hn]
    have ef : figs cs = cs := if_neg hn
    have := PySem.intText_digits (x := tx cs) (by rw [tx_cps, ← ef]; exact alldig hr) (by rw [tx_cps, ← ef]; exact hne) hl2
    rw [tx_cps] at this
    rw [this, ef]
theorem f_int {cs : List Nat} {S : Sto} (hr : (figs cs).all dig = true) (h1 : 1 ≤ (figs cs).length) (hl : cs.length ≤ 500) : fInt [.str (tx cs)] S = some (.int (numV cs), S) := by
  show (if (tx cs).length ≤ 640 then (PySem.intText? (tx cs)).map (fun n => (D.int n, S)) else none) = _
  rw [if_pos (by rw [tx_len]; omega), int_text hr h1 hl]
  rfl
theorem num_figs {cs : List Nat} {fr : Fr} {S : Sto} (h0 : fr[0]? = some (some (.str (tx cs)))) (hl : cs.length ≤ 500) :
    dIf (dCmpT aEq (dSl (dVar 0) none (some (dC (.int 1)))) (dC (.str "-"))) (dSl (dVar 0) (some (dC (.int 1))) none) (dVar 0) fr S = .ok (.str (tx (figs cs))) S := by
  have e1 : (("-" : Str)) = tx [45] := by decide +kernel
  have s1 := sl_one (cs := cs) (S := S) (by omega)
  have s2 := sl_rest (cs := cs) (S := S) (by omega)
  rw [e1]
  unfold figs
  by_cases hn : cs.take 1 = [45] <;> simp [Out.bnd, h0, s1, s2, tx_inj, hn]
theorem num_comp {cs : List Nat} {fr : Fr} {S : Sto} (i j : Nat) (h0 : fr[j]? = some (some (.str (tx cs)))) (hi : i < fr.length) (hl : cs.length ≤ 500) :
    dComp [i] (dISeq (dVar j)) (gN i) dYes (dOp aIn (dVar i) (dC (.str "0123456789"))) fr S = .ok (cs.map fun c => D.bl (dig c)) S := by
  have hi2 : ∀ c, ((wipeD fr [i]).set i (some (.str ⟨#[c]⟩)))[i]? = some (some (.str ⟨#[c]⟩)) := fun c => by
    rw [List.getElem?_set_self]
    show i < ((wipeD fr []).set i none).length
    rw [List.length_set]
    exact hi
  have := comp_signs (i := i) (j := j) (tt := dYes) (e := dOp aIn (dVar i) (dC (.str "0123456789"))) (fr := fr) (S := S) (z := tx cs) (fun _ => true) (fun c => D.bl (dig c)) h0 (small_line (by rw [tx_len]; omega)) fun c => ⟨rfl, fun _ => by
    rw [ev_op, ev_var, hi2 c]
    show Out.ofO (aIn (.str ⟨#[c]⟩) (.str figW) S) = _
    rw [in_one, fig_mem]
    rfl⟩
  rw [this, List.filter_eq_self.mpr fun _ _ => rfl, tx_cps]
theorem num_run {k : Nat} {cs : List Nat} {S : Sto} (hl : cs.length ≤ 500) : Phi T G (k + 2) 2 [.str (tx cs)] S = .ok (optD (numZ cs)) S := by
  rw [phi_succ (d := f_number_in) rfl den_number_in]
  have hf := num_figs (cs := cs) (fr := [some (.str (tx cs)), none, none]) (S := S) rfl hl
  have hfl : (figs cs).length ≤ 500 := by
    unfold figs
    split
    · rw [List.length_drop]; omega
    · exact hl
  have hc := num_comp (cs := figs cs) (fr := [some (.str (tx cs)), some (.str (tx (figs cs))), none]) (S := S) 2 1 rfl (Nat.lt_succ_self 2) hfl
  have hlen : fLen [.str (tx (figs cs))] S = some (.int (figs cs).length, S) := by rw [DL.len_str (small_line (by rw [tx_len]; omega)), tx_len]
  have e0 : (("0" : Str)) = tx [48] := by decide +kernel
  refine runB_rt (fr := [some (.str (tx cs)), some (.str (tx (figs cs))), none]) (S' := S) ?_ (gc_pure0 (by cases numZ cs <;> rfl))
  show b_number_in _ [some (.str (tx cs)), none, none] S = _
  unfold b_number_in
  rw [ev_seq, ev_set, hf]
  by_cases h1 : 1 ≤ (figs cs).length
  · have h1' : (1 : Int) ≤ ((figs cs).length : Int) := by omega
    by_cases h2 : (figs cs).length ≤ 13
    · have h2' : ((figs cs).length : Int) ≤ 13 := by omega
      cases h3 : (figs cs).all dig with
      | false =>
        have hz : numZ cs = none := if_neg fun z => by
          have := z.1
          unfold numR at this
          rw [h3] at this
          simp at this
        have ha := fAll_bl (fun c => dig c) (figs cs) S
        rw [h3] at ha
        rw [hz]
        simp only [ev_tok, List.set_cons_succ, List.set_cons_zero]
        simp [Out.bnd, hlen, h1', h2', hc, ha, optD, -Bool.decide_and]
      | true =>
        obtain ⟨c, r, er⟩ : ∃ c r, figs cs = c :: r := by
          cases q : figs cs with
          | nil => rw [q] at h1; cases h1
          | cons c r => exact ⟨c, r, rfl⟩
        have ha := fAll_bl (fun c => dig c) (figs cs) S
        rw [h3] at ha
        have hi := ix_zero (c := c) (r := r) (S := S) (by rw [← er]; omega)
        rw [← er] at hi
        by_cases h4 : (figs cs).take 1 = [48] ∧ ¬ cs = [48]
        · have hz : numZ cs = none := if_neg fun z => by
            have := z.1
            unfold numR at this
            rw [h3, decide_eq_true h4.1, decide_eq_false h4.2] at this
            simp at this
          have h5 : c = 48 := by
            have := h4.1
            rw [er] at this
            simpa using this
          rw [hz]
          simp only [ev_tok, List.set_cons_succ, List.set_cons_zero]
          simp [Out.bnd, hlen, h1', h2', hc, ha, hi, e0, tx_inj, h5, h4.2, optD, -Bool.decide_and]
        · have hR : numR cs = true := by
            unfold numR
            rw [h3, decide_eq_true h1, decide_eq_true h2]
            by_cases q : (figs cs).take 1 = [48]
            · have : cs = [48] := Classical.byContradiction fun z => h4 ⟨q, z⟩
              rw [decide_eq_true this]
              simp
            · rw [decide_eq_false q]
              rfl
          have hw := whole_run (k := k) (d := .int (numV cs)) (l := 0 - 1000000000000) (m := 1000000000000) (S := S) rfl
          have hv := f_int (cs := cs) (S := S) h3 h1 hl
          have hB : wholeB (.int (numV cs)) (0 - 1000000000000) 1000000000000 = decide (NumText.digitsVal (figs cs) ≤ 1000000000000) := by
            show (decide (0 - 1000000000000 ≤ numV cs) && decide (numV cs ≤ 1000000000000)) = _
            rw [← Bool.decide_and]
            refine decide_eq_decide.mpr ?_
            unfold numV
            split <;> omega
          rw [hB] at hw
          have h6 : ¬ c = 48 ∨ cs = [48] := by
            by_cases q : c = 48
            · refine .inr (Classical.byContradiction fun z => h4 ⟨?_, z⟩)
              rw [er, q]
              rfl
            · exact .inl q
          have hz : optD (numZ cs) = match decide (NumText.digitsVal (figs cs) ≤ 1000000000000) with
            | true => D.int (numV cs)
            | false => .non := by
            unfold numZ
            rw [hR]
            by_cases q : NumText.digitsVal (figs cs) ≤ 1000000000000
            · rw [if_pos ⟨rfl, q⟩, decide_eq_true q]; rfl
            · rw [if_neg fun z => q z.2, decide_eq_false q]; rfl
          rw [hz]
          simp only [ev_tok, List.set_cons_succ, List.set_cons_zero]
          have hw' : ∀ j, j = 0 - 1000000000000 → Phi T G (k + 1) 0 [.int (numV cs), .int j, .int 1000000000000] S = .ok (.bl (decide (NumText.digitsVal (figs cs) ≤ 1000000000000))) S := fun j e => by rw [e]; exact hw
          have h7 : (c = 48) = (c = 48) ∧ ((c = 48) = False ∨ (cs = [48]) = True) := ⟨rfl, h6.imp eq_false eq_true⟩
          generalize decide (NumText.digitsVal (figs cs) ≤ 1000000000000) = bb at hw'
          rcases h7.2 with h8 | h8
          · cases bb <;> simp [Out.bnd, hlen, h1', h2', hc, ha, hi, e0, tx_inj, h8, hv, hw', -Bool.decide_and]
          · by_cases h9 : c = 48 <;> cases bb <;> simp [Out.bnd, hlen, h1', h2', hc, ha, hi, e0, tx_inj, h8, h9, hv, hw', -Bool.decide_and]
    · have h2' : ¬ ((figs cs).length : Int) ≤ 13 := by omega
      have hz : numZ cs = none := if_neg fun z => by
        have := z.1
        unfold numR at this
        rw [decide_eq_false h2] at this
        simp at this
      rw [hz]
      simp only [ev_tok, List.set_cons_succ, List.set_cons_zero]
      simp [Out.bnd, hlen, h1', h2', optD]
  · have h1' : ¬ (1 : Int) ≤ ((figs cs).length : Int) := by omega
    have hz : numZ cs = none := if_neg fun z => by
      have := z.1
      unfold numR at this
      rw [decide_eq_false h1] at this
      simp at this
    rw [hz]
    simp only [ev_tok, List.set_cons_succ, List.set_cons_zero]
    simp [Out.bnd, hlen, h1', optD]
end
end K01
/-! the law's own reading of numbers -/
namespace K01
open PySem PySem.Spec PyProof.Rows L2 DL
noncomputable section

theorem fig_ix {c : Nat} {S : Sto} (h : dig c = true) : mSIndex (.str "0123456789") [.str ⟨#[c]⟩] S = some (.int ((c - 48 : Nat) : Int), S) := by
  have h' : 48 ≤ c ∧ c ≤ 57 := by simpa using h
  have e : c = 48 ∨ c = 49 ∨ c = 50 ∨ c = 51 ∨ c = 52 ∨ c = 53 ∨ c = 54 ∨ c = 55 ∨ c = 56 ∨ c = 57 := by omega
  rcases e with rfl | rfl | rfl | rfl | rfl | rfl | rfl | rfl | rfl | rfl <;> kernel_rfl
def numBody : DenS := dSeq (dSet 3 (dOp aAdd (dOp aMul (dC (.int 10)) (dVar 3)) (dM "str" mSIndex (dC (.str "0123456789")) (dACons (dVar 4) dANil)))) dNil
theorem num_for {a0 a1 a2 : Option D} {S : Sto} : ∀ (f : List Nat) (v : Nat) (s4 : Option D), f.all dig = true →
    ∃ s4', forL (Src.mk (f.map fun c => D.str ⟨#[c]⟩) []).ok (gN 4) numBody (f.map fun c => D.str ⟨#[c]⟩) [a0, a1, a2, some (.int (v : Int)), s4] S = .ok .nx [a0, a1, a2, some (.int ((f.foldl (fun acc c => acc * 10 + (c - 48)) v : Nat) : Int)), s4'] S := by
  have main : ∀ (ok : Sto → Prop), ok S → ∀ (f : List Nat) (v : Nat) (s4 : Option D), f.all dig = true →
    ∃ s4', forL ok (gN 4) numBody (f.map fun c => D.str ⟨#[c]⟩) [a0, a1, a2, some (.int (v : Int)), s4] S = .ok .nx [a0, a1, a2, some (.int ((f.foldl (fun acc c => acc * 10 + (c - 48)) v : Nat) : Int)), s4'] S := by
    intro ok hok f
    induction f with
    | nil =>
      intro v s4 _
      refine ⟨s4, ?_⟩
      show forL ok (gN 4) numBody [] _ S = _
      unfold forL
      exact if_pos hok
    | cons c f ih =>
      intro v s4 h
      rw [List.all_cons, Bool.and_eq_true] at h
      obtain ⟨s4', e⟩ := ih (v * 10 + (c - 48)) (some (.str ⟨#[c]⟩)) h.2
      refine ⟨s4', ?_⟩
      rw [List.map_cons]
      unfold forL
      rw [if_pos hok]
      have e2 : numBody [a0, a1, a2, some (.int (v : Int)), some (.str ⟨#[c]⟩)] S = .ok .nx [a0, a1, a2, some (.int ((v * 10 + (c - 48) : Nat) : Int)), some (.str ⟨#[c]⟩)] S := by
        have e3 : (10 : Int) * (v : Int) + ((c - 48 : Nat) : Int) = ((v * 10 + (c - 48) : Nat) : Int) := by
          rw [Int.natCast_add, Int.natCast_mul, Int.mul_comm]
          rfl
        unfold numBody
        simp [Out.bnd, fig_ix h.1, -Int.natCast_add, -Int.natCast_mul, e3]
      show (match numBody [a0, a1, a2, some (.int (v : Int)), some (.str ⟨#[c]⟩)] S with
        | .ok .nx fr2 S2 => forL ok (gN 4) numBody _ fr2 S2
        | .ok .ct fr2 S2 => forL ok (gN 4) numBody _ fr2 S2
        | .ok .bk fr2 S2 => .ok .nx fr2 S2
        | o => o) = _
      rw [e2]
      exact e
  exact fun f v s4 h => main _ noGuard f v s4 h
theorem lnum_comp {cs f : List Nat} {S : Sto} (hl : f.length ≤ 500) : dComp [4] (dISeq (dVar 1)) (gN 4) (dCmpT aNotIn (dVar 4) (dC (.str "0123456789"))) (dVar 4) [some (.str (tx cs)), some (.str (tx f)), none, none, none] S
    = .ok (((f.filter fun c => !dig c).map fun c => (⟨#[c]⟩ : Str)).map D.str) S := by
  have := comp_signs (i := 4) (j := 1) (tt := dCmpT aNotIn (dVar 4) (dC (.str "0123456789"))) (e := dVar 4) (fr := [some (.str (tx cs)), some (.str (tx f)), none, none, none]) (S := S) (z := tx f) (fun c => !dig c) (fun c => D.str ⟨#[c]⟩) rfl (small_line (by rw [tx_len]; omega)) fun c => by
    refine ⟨?_, fun _ => rfl⟩
    have : aNotIn (.str ⟨#[c]⟩) (.str "0123456789") S = some (.bl (!dig c), S) := by
      show aNotIn (.str ⟨#[c]⟩) (.str figW) S = _
      rw [DL.notIn_one, fig_mem]
    simp only [ev_cmpT, ev_var, ev_c, wipeD, List.set_cons_succ, List.set_cons_zero, List.getElem?_cons_succ, List.getElem?_cons_zero, Out.bnd, this]
  rw [this, tx_cps, List.map_map]
  rfl
theorem lnum_run {k : Nat} {cs : List Nat} {S : Sto} (hl : cs.length ≤ 500) : Phi T G (k + 1) 9 [.str (tx cs)] S = .ok (optD (numZ cs)) S := by
  rw [phi_succ (d := f_law_number) rfl den_law_number]
  have hf := num_figs (cs := cs) (fr := [some (.str (tx cs)), none, none, none, none]) (S := S) rfl hl
  have hfl : (figs cs).length ≤ 500 := by
    unfold figs
    split
    · rw [List.length_drop]; omega
    · exact hl
  have hc := lnum_comp (cs := cs) (f := figs cs) (S := S) hfl
  have hE : (((figs cs).filter fun c => !dig c).map fun c => (⟨#[c]⟩ : Str)).isEmpty = (figs cs).all dig := by rw [isEmpty_map, all_filter dig]
  generalize ((figs cs).filter fun c => !dig c).map (fun c => (⟨#[c]⟩ : Str)) = l at hc hE
  have hne := (eq_new (S := S) (l := l)).2
  rw [hE] at hne
  have hlen : ∀ S', fLen [.str (tx (figs cs))] S' = some (.int (figs cs).length, S') := fun S' => by rw [DL.len_str (small_line (by rw [tx_len]; omega)), tx_len]
  have e0 : (("0" : Str)) = tx [48] := by decide +kernel
  have e1 : (("" : Str)) = tx [] := by decide +kernel
  have e45 : (("-" : Str)) = tx [45] := by decide +kernel
  have hp : (10 : Int) ^ (12 : Int).toNat = 1000000000000 := by decide +kernel
  have s1 := fun S' => sl_one (cs := cs) (S := S') (by omega)
  -- where it ends
  suffices ∃ T', rtOf (b_law_number (Phi T G k) [some (.str (tx cs)), none, none, none, none] S) = some (optD (numZ cs), S ++ T') by
    obtain ⟨T', e⟩ := this
    exact runB_of e (gc_pure (by cases numZ cs <;> rfl))
  unfold b_law_number
  rw [ev_seq, ev_set, hf]
  simp only [ev_tok, List.set_cons_succ, List.set_cons_zero]
  rw [ev_seq, ev_set, ev_keep, hc]
  simp only [Out.bnd, ev_tok, List.set_cons_succ, List.set_cons_zero]
  by_cases h1 : (figs cs) = []
  · have hz : numZ cs = none := if_neg fun z => by
      have := z.1
      unfold numR at this
      rw [h1] at this
      simp at this
    refine ⟨[.lst (l.map D.str)], ?_⟩
    rw [hz]
    simp [Out.bnd, e1, tx_inj, h1, optD]
  · obtain ⟨c, r, er⟩ : ∃ c r, figs cs = c :: r := by
      cases q : figs cs with
      | nil => exact absurd q h1
      | cons c r => exact ⟨c, r, rfl⟩
    by_cases h2 : (figs cs).length ≤ 13
    · have h2' : ¬ (13 : Int) < ((figs cs).length : Int) := by omega
      cases h3 : (figs cs).all dig with
      | false =>
        have hz : numZ cs = none := if_neg fun z => by
          have := z.1
          unfold numR at this
          rw [h3] at this
          simp at this
        rw [h3] at hne
        refine ⟨[.lst (l.map D.str), .lst []], ?_⟩
        rw [hz]
        simp [Out.bnd, e1, tx_inj, h1, hlen, h2', hne, optD]
      | true =>
        rw [h3] at hne
        have hi := fun S' => ix_zero (c := c) (r := r) (S := S') (by rw [← er]; omega)
        rw [← er] at hi
        by_cases h4 : c = 48 ∧ ¬ cs = [48]
        · have hz : numZ cs = none := if_neg fun z => by
            have := z.1
            unfold numR at this
            rw [h3, er, h4.1, decide_eq_false h4.2] at this
            simp at this
          refine ⟨[.lst (l.map D.str), .lst []], ?_⟩
          rw [hz]
          simp [Out.bnd, e0, e1, tx_inj, h1, hlen, h2', hne, hi, h4.1, h4.2, optD]
        · have h6 : (c = 48) = False ∨ (cs = [48]) = True := by
            by_cases q : c = 48
            · exact .inr (eq_true (Classical.byContradiction fun z => h4 ⟨q, z⟩))
            · exact .inl (eq_false q)
          have hR : numR cs = true := by
            unfold numR
            rw [h3, decide_eq_true h2, decide_eq_true (show 1 ≤ (figs cs).length by rw [er, List.length_cons]; omega)]
            rcases h6 with q | q
            · rw [er, decide_eq_false (show ¬ (c :: r).take 1 = [48] from fun z => by simp [q] at z)]
              rfl
            · rw [decide_eq_true (of_eq_true q)]
              simp
          obtain ⟨s4', hfor⟩ := num_for (a0 := some (.str (tx cs))) (a1 := some (.str (tx (figs cs)))) (a2 := some (.ob S.length)) (S := S ++ [.lst (l.map D.str), .lst []]) (figs cs) 0 none h3
          have hfo : dFor (gN 4) (dISeq (dVar 1)) numBody [some (.str (tx cs)), some (.str (tx (figs cs))), some (.ob S.length), some (.int 0), none] (S ++ [.lst (l.map D.str), .lst []]) =
              .ok .nx [some (.str (tx cs)), some (.str (tx (figs cs))), some (.ob S.length), some (.int ((NumText.digitsVal (figs cs) : Nat) : Int)), s4'] (S ++ [.lst (l.map D.str), .lst []]) := by
            have e : dISeq (dVar 1) [some (.str (tx cs)), some (.str (tx (figs cs))), some (.ob S.length), some (.int 0), none] (S ++ [.lst (l.map D.str), .lst []]) = .ok ⟨(figs cs).map fun c => D.str ⟨#[c]⟩, []⟩ (S ++ [.lst (l.map D.str), .lst []]) := by
              show Out.ofS (if (tx (figs cs)).length ≤ sizeLine then some (Src.mk (DL.signs (tx (figs cs))) []) else none) _ = _
              rw [if_pos (small_line (by rw [tx_len]; omega))]
              unfold DL.signs
              rw [tx_cps]
              rfl
            unfold dFor
            rw [e]
            exact hfor
          rw [show (dSeq (dSet 3 (dOp aAdd (dOp aMul (dC (.int 10)) (dVar 3)) (dM "str" mSIndex (dC (.str "0123456789")) (dACons (dVar 4) dANil)))) dNil) = numBody from rfl]
          have hz : optD (numZ cs) = match decide (NumText.digitsVal (figs cs) ≤ 1000000000000) with
            | true => D.int (numV cs)
            | false => .non := by
            unfold numZ
            rw [hR]
            by_cases q : NumText.digitsVal (figs cs) ≤ 1000000000000
            · rw [if_pos ⟨rfl, q⟩, decide_eq_true q]; rfl
            · rw [if_neg fun z => q z.2, decide_eq_false q]; rfl
          refine ⟨[.lst (l.map D.str), .lst []], ?_⟩
          rw [hz]
          have hv : numV cs = if cs.take 1 = [45] then -((NumText.digitsVal (figs cs) : Nat) : Int) else ((NumText.digitsVal (figs cs) : Nat) : Int) := rfl
          generalize NumText.digitsVal (figs cs) = vv at hfo hv
          by_cases q : vv ≤ 1000000000000
          · have q' : ¬ (1000000000000 : Int) < (vv : Int) := by omega
            by_cases hn : cs.take 1 = [45]
            · rw [if_pos hn] at hv
              rcases h6 with h8 | h8
              · simp [Out.bnd, e0, e1, e45, tx_inj, h1, hlen, h2', hne, hi, h8, hfo, hp, q, q', s1, hn, hv]
              · by_cases h9 : c = 48 <;> simp [Out.bnd, e0, e1, e45, tx_inj, h1, hlen, h2', hne, hi, h8, h9, hfo, hp, q, q', s1, hn, hv]
            · rw [if_neg hn] at hv
              rcases h6 with h8 | h8
              · simp [Out.bnd, e0, e1, e45, tx_inj, h1, hlen, h2', hne, hi, h8, hfo, hp, q, q', s1, hn, hv]
              · by_cases h9 : c = 48 <;> simp [Out.bnd, e0, e1, e45, tx_inj, h1, hlen, h2', hne, hi, h8, h9, hfo, hp, q, q', s1, hn, hv]
          · have q' : (1000000000000 : Int) < (vv : Int) := by omega
            rcases h6 with h8 | h8
            · simp [Out.bnd, e0, e1, e45, tx_inj, h1, hlen, h2', hne, hi, h8, hfo, hp, q, q']
            · by_cases h9 : c = 48 <;> simp [Out.bnd, e0, e1, e45, tx_inj, h1, hlen, h2', hne, hi, h8, h9, hfo, hp, q, q']
    · have h2' : (13 : Int) < ((figs cs).length : Int) := by omega
      have hz : numZ cs = none := if_neg fun z => by
        have := z.1
        unfold numR at this
        rw [decide_eq_false h2] at this
        simp at this
      refine ⟨[.lst (l.map D.str)], ?_⟩
      rw [hz]
      simp [Out.bnd, e1, tx_inj, h1, hlen, h2', optD]
theorem same_run {k : Nat} {o : Option Int} {S : Sto} : Phi T G (k + 1) 11 [optD o, optD o] S = .ok (.bl true) S := by
  rw [phi_succ (d := f_law_same) rfl den_law_same]
  cases o with
  | none =>
    refine runB_rt (fr := [some .non, some .non]) (S' := S) ?_ (gc_pure0 rfl)
    show b_law_same _ [some .non, some .non] S = _
    unfold b_law_same
    simp [Out.bnd, isNon]
  | some i =>
    refine runB_rt (fr := [some (.int i), some (.int i)]) (S' := S) ?_ (gc_pure0 rfl)
    show b_law_same _ [some (.int i), some (.int i)] S = _
    unfold b_law_same
    have e1 := isi_ok (d := .int i) (S := S) (a := "int") (b := "int") rfl (by decide)
    have e2 := isi_ok (d := .int i) (S := S) (a := "int") (b := "bool") rfl (by decide)
    simp [Out.bnd, isNon, e1, e2, isTy]
end
end K01
/-! what this law draws -/
namespace K01
open PySem PySem.Spec PyProof.Rows L2 DL
noncomputable section

theorem mix_run (k : Nat) (c j : Int) (S : Sto) (h0 : 0 ≤ j) (h1 : j < 2 ^ 62) : Phi T G (k + 1) 4 [.int c, .int j] S = .ok (.int (mixI c j)) S := by
  rw [phi_succ (d := f_law_mixed) rfl den_law_mixed]
  exact mixed_run (Φ := Phi T G k) h0 h1
theorem nx {b : Nat} {cs : List Int} {s : Ds} (k : Nat) (m : Int) (hd : Dr b cs s) (hb : b < 2 ^ 61) (hm : 0 < m) (hm2 : m < 1073741824) :
    ∃ r s', 0 ≤ r ∧ r < m ∧ Dr (b + 1) cs s' ∧ ∀ R, Phi T G (k + 2) 5 [.ob 2, .int m] (dst cs s R) = .ok (.int r) (dst cs s' R) := by
  obtain ⟨r, s', h1, h2, h3, h4⟩ := next_run (Φ := Phi T G (k + 1)) (mi := 4) (mix_run k) hd hb hm hm2
  refine ⟨r, s', h1, h2, h3, fun R => ?_⟩
  rw [phi_succ (d := f_law_next) rfl den_law_next]
  exact h4 R
/-- signs drawn, one by one -/
theorem comp_dr {b : Nat} {cs : List Int} {s : Ds} (k i : Nat) (e : DenE) (m : Int) {fr : Fr} {n : Int} (hi : i < fr.length) {L : Str} (hL : m ≤ L.length) (hL2 : L.length ≤ 1000) (hm : 0 < m) (hm2 : m < 1073741824)
    (j : Nat) (hj : fr[j]? = some (some (.int n))) (h0 : 0 ≤ n) (hn : n ≤ 1000) (hd : Dr b cs s) (hb : b + 1000 < 2 ^ 61)
    (he : ∀ d S r S', Phi T G (k + 2) 5 [.ob 2, .int m] S = .ok (.int r) S' → e ((wipeD fr [i]).set i (some d)) S = .ofO (aIx (.str L) (.int r) S')) :
    ∃ vs s', vs.length = n.toNat ∧ (∀ v ∈ vs, ∃ c, v = D.str ⟨#[c]⟩) ∧ Dr (b + n.toNat) cs s' ∧ ∀ R, dComp [i] (dIRange1 (dACons (dVar j) dANil)) (gN i) dYes e fr (dst cs s R) = .ok vs (dst cs s' R) := by
  obtain ⟨vs, s', h1, h2, h3, h4⟩ := compL_dr (ok := (Src.mk (upTo 0 n.toNat) []).ok) (t := gN i) (e := e) (fr := wipeD fr [i]) (cs := cs) (P := fun v => ∃ c, v = D.str ⟨#[c]⟩) (c := 1) (B := b + 1000) (fun S => noGuard) (upTo 0 n.toNat) b s (fun d _ b' s1 hd' hb' => by
    obtain ⟨r, s2, q1, q2, q3, q4⟩ := nx k m hd' (by omega) hm hm2
    obtain ⟨c, _, hc⟩ := ix_str (z := L) (r := r) q1 (by omega) hL2
    refine ⟨_, s2, ⟨c, rfl⟩, q3, fun R => ⟨_, rfl, ?_⟩⟩
    rw [he d _ _ _ (q4 R), hc]
    rfl) hd (by rw [upTo_len]; omega)
  rw [upTo_len] at h1 h3
  refine ⟨vs, s', h1, h2, h3.mono (by omega), fun R => ?_⟩
  unfold dComp
  rw [range1 (n := n) (S' := dst cs s R) (by simp [Out.bnd, hj]) h0 hn]
  exact h4 R
theorem text_run {b : Nat} {cs : List Int} {s : Ds} (k : Nat) (hd : Dr b cs s) (hb : b + 2000 < 2 ^ 61) : ∃ z s', Str.length z ≤ 30 ∧ Dr (b + 20) cs s' ∧ ∀ R, Phi T G (k + 3) 6 [.ob 2] (dst cs s R) = .ok (.str z) (dst cs s' R) := by
  obtain ⟨r1, s1, a1, b1, d1, e1⟩ := nx k 11 hd (by omega) (by decide) (by decide)
  have hlow : low.length = 26 := by decide +kernel
  obtain ⟨vs, s2, hv1, hv2, d2, e2⟩ := comp_dr k 6 (dOp aIx (dVar 1) (dCall 2 (Phi T G (k + 2) 5) (dACons (dVar 0) (dACons (dC (.int 26)) dANil)))) 26 (fr := [some (.ob 2), some (.str low), some (.int r1), none, none, none, none]) (n := r1) (Nat.lt_succ_self 6) (L := low) (by rw [hlow]; decide) (by rw [hlow]; decide) (by decide) (by decide) 2 rfl a1 (by omega) d1 (by omega)
    (fun d S r S' q => by simp [Out.bnd, wipeD, q])
  obtain ⟨x, hx, ex⟩ := join_one hv2 (by rw [hv1]; omega)
  obtain ⟨r3, s3, a3, b3, d3, e3⟩ := nx k (r1 + 1) d2 (by omega) (by omega) (by omega)
  obtain ⟨r4, s4, a4, b4, d4, e4⟩ := nx k 10 d3 (by omega) (by decide) (by decide)
  obtain ⟨r5, s5, a5, b5, d5, e5⟩ := nx k 4 d4 (by omega) (by decide) (by decide)
  have hsg : (("A0-_ z.\n9~" : Str)).length = 10 := by decide +kernel
  obtain ⟨c, _, ec⟩ := ix_str (z := "A0-_ z.\n9~") (r := r4) a4 (by rw [hsg]; exact b4) (by rw [hsg]; decide)
  have hxl : x.length ≤ 10 := by rw [hx, hv1]; omega
  obtain ⟨y1, l1, f1⟩ := sl_any (z := x) none (some r3) (by omega)
  obtain ⟨y2, l2, f2⟩ := sl_any (z := x) (some (r3 + 1)) none (by omega)
  have g1 : ∀ S, aAdd (.str y1) (.str ⟨#[c]⟩) S = some (.str (y1 ++ ⟨#[c]⟩), S) := fun S => DL.add_str (by rw [one_len]; omega)
  have g2 : ∀ S, aAdd (.str (y1 ++ ⟨#[c]⟩)) (.str y2) S = some (.str (y1 ++ ⟨#[c]⟩ ++ y2), S) := fun S => DL.add_str (by rw [app_len, one_len]; omega)
  obtain ⟨w, hw, ew⟩ := get_int [D.str x, .str x, .str x, .str (y1 ++ ⟨#[c]⟩ ++ y2)] a5 b5
  have hwz : ∃ z : Str, w = .str z ∧ z.length ≤ 30 := by
    simp only [List.mem_cons, List.not_mem_nil, or_false] at hw
    rcases hw with rfl | rfl | rfl | rfl
    · exact ⟨x, rfl, by omega⟩
    · exact ⟨x, rfl, by omega⟩
    · exact ⟨x, rfl, by omega⟩
    · exact ⟨_, rfl, by rw [app_len, app_len, one_len]; omega⟩
  obtain ⟨z, rfl, hz⟩ := hwz
  refine ⟨z, s5, hz, d5.mono (by omega), fun R => ?_⟩
  rw [phi_succ (d := f_law_text) rfl den_law_text]
  refine runB_of (S' := dst cs s5 (R ++ [.lst [D.str x, .str x, .str x, .str (y1 ++ ⟨#[c]⟩ ++ y2)]])) ?_ (gc_dst rfl)
  show rtOf (b_law_text _ [some (.ob 2), none, none, none, none, none, none] (dst cs s R)) = _
  have hix := ix_lst (S := dst cs s5 (R ++ [.lst [D.str x, .str x, .str x, .str (y1 ++ ⟨#[c]⟩ ++ y2)]])) (j := R.length + 3) (r := r5) (d := .str z) (dst_new 0) a5 ew
  unfold b_law_text
  rw [show (("abcdefghijklmnopqrstuvwxyz" : Str)) = low from rfl]
  simp [Out.bnd, e1, e2, ex, e3, e4, ec, f1, f2, g1, g2, e5, hix]

theorem figs_run {b : Nat} {cs : List Int} {s : Ds} (k : Nat) (hd : Dr b cs s) (hb : b + 2000 < 2 ^ 61) : ∃ z s', Str.length z ≤ 40 ∧ Dr (b + 30) cs s' ∧ ∀ R, Phi T G (k + 3) 7 [.ob 2] (dst cs s R) = .ok (.str z) (dst cs s' R) := by
  obtain ⟨r1, s1, a1, b1, d1, e1⟩ := nx k 7 hd (by omega) (by decide) (by decide)
  obtain ⟨r2, s2, a2, b2, d2, e2⟩ := nx k 15 d1 (by omega) (by decide) (by decide)
  have hfw : figW.length = 10 := by decide +kernel
  obtain ⟨hh, hhm, hh1⟩ := get_int [D.str "", .str "", .str "-", .str "0", .str "+", .str "--", .str "-0"] a1 b1
  have hhz : ∃ z : Str, hh = .str z ∧ z.length ≤ 2 := by
    simp only [List.mem_cons, List.not_mem_nil, or_false] at hhm
    rcases hhm with rfl | rfl | rfl | rfl | rfl | rfl | rfl <;> exact ⟨_, rfl, by decide +kernel⟩
  obtain ⟨h0, rfl, h0l⟩ := hhz
  obtain ⟨vs, s3, hv1, hv2, d3, e3⟩ := comp_dr k 5 (dOp aIx (dC (.str figW)) (dCall 2 (Phi T G (k + 2) 5) (dACons (dVar 0) (dACons (dC (.int 10)) dANil)))) 10 (fr := [some (.ob 2), some (.str h0), some (.int (1 + r2)), none, none, none]) (n := 1 + r2) (Nat.lt_succ_self 5) (L := figW) (by rw [hfw]; decide) (by rw [hfw]; decide) (by decide) (by decide) 2 rfl (by omega) (by omega) d2 (by omega)
    (fun d S r S' q => by simp [Out.bnd, wipeD, q])
  obtain ⟨x, hx, ex⟩ := join_one hv2 (by rw [hv1]; omega)
  have hxl : x.length ≤ 15 := by rw [hx, hv1]; omega
  have hx1 : (("x" : Str)).length = 1 := by decide +kernel
  have gx : ∀ S, aAdd (.str x) (.str "x") S = some (.str (x ++ "x"), S) := fun S => DL.add_str (by omega)
  obtain ⟨r4, s4, a4, b4, d4, e4⟩ := nx k 6 d3 (by omega) (by decide) (by decide)
  obtain ⟨w, hw, ew⟩ := get_int [D.str "1000000000000", .str "1000000000001", .str "999999999999", .str x, .str x, .str (x ++ "x")] a4 b4
  have hwz : ∃ z : Str, w = .str z ∧ z.length ≤ 20 := by
    simp only [List.mem_cons, List.not_mem_nil, or_false] at hw
    rcases hw with rfl | rfl | rfl | rfl | rfl | rfl
    · exact ⟨_, rfl, by decide +kernel⟩
    · exact ⟨_, rfl, by decide +kernel⟩
    · exact ⟨_, rfl, by decide +kernel⟩
    · exact ⟨x, rfl, by omega⟩
    · exact ⟨x, rfl, by omega⟩
    · exact ⟨_, rfl, by
        rw [app_len]
        have : (("x" : Str)).length = 1 := by decide +kernel
        omega⟩
  obtain ⟨z, rfl, hz⟩ := hwz
  have g2 : ∀ S, aAdd (.str h0) (.str z) S = some (.str (h0 ++ z), S) := fun S => DL.add_str (by omega)
  refine ⟨h0 ++ z, s4, by rw [app_len]; omega, d4.mono (by omega), fun R => ?_⟩
  rw [phi_succ (d := f_law_figures) rfl den_law_figures]
  refine runB_of (S' := dst cs s4 (R ++ [.lst [D.str "", .str "", .str "-", .str "0", .str "+", .str "--", .str "-0"], .lst [D.str "1000000000000", .str "1000000000001", .str "999999999999", .str x, .str x, .str (x ++ "x")]])) ?_ (gc_dst rfl)
  show rtOf (b_law_figures _ [some (.ob 2), none, none, none, none, none] (dst cs s R)) = _
  have hix1 := ix_lst (S := dst cs s1 (R ++ [.lst [D.str "", .str "", .str "-", .str "0", .str "+", .str "--", .str "-0"]])) (j := R.length + 3) (r := r1) (d := .str h0) (dst_new 0) a1 hh1
  have hix2 := ix_lst (S := dst cs s4 (R ++ [.lst [D.str "", .str "", .str "-", .str "0", .str "+", .str "--", .str "-0"], .lst [D.str "1000000000000", .str "1000000000001", .str "999999999999", .str x, .str x, .str (x ++ "x")]])) (j := R.length + 4) (r := r4) (d := .str z) (dst_new 1) a4 ew
  unfold b_law_figures
  rw [show (("0123456789" : Str)) = figW from rfl]
  simp [Out.bnd, e1, hix1, e2, e3, ex, gx, e4, g2, hix2]
theorem right_run {b : Nat} {cs : List Int} {s : Ds} (k : Nat) (hd : Dr b cs s) (hb : b + 2000 < 2 ^ 61) : ∃ s', Dr (b + 10) cs s' ∧ ∀ R, Phi T G (k + 3) 10 [.ob 2] (dst cs s R) = .ok (.bl true) (dst cs s' R) := by
  obtain ⟨r1, s1, a1, b1, d1, e1⟩ := nx k 41 hd (by omega) (by decide) (by decide)
  obtain ⟨r2, s2, a2, b2, d2, e2⟩ := nx k 9 d1 (by omega) (by decide) (by decide)
  obtain ⟨r3, s3, a3, b3, d3, e3⟩ := nx k 14 d2 (by omega) (by decide) (by decide)
  refine ⟨s3, d3.mono (by omega), fun R => ?_⟩
  rw [phi_succ (d := f_law_whole_right) rfl den_law_whole_right]
  generalize hl : r1 - 20 = l
  generalize hm : l + r2 - 1 = m
  let xs : List D := [.int l, .int m, .int (l - 1), .int (m + 1), .int 0, .int (10 ^ (30 : Int).toNat), .int (-(10 ^ (30 : Int).toNat)), .non, .bl true, .bl false, .str "1", .ob (R.length + 3), .tup [.int 1], .ob (R.length + 4)]
  obtain ⟨d, hdm, ed⟩ := get_int xs a3 b3
  have hxs : ∃ xs', xs = xs' := ⟨_, rfl⟩
  let S3 := dst cs s3 (R ++ [.lst [.int 1], .dk [], .lst xs])
  have ht : ∃ a, tyD d S3 = some a := by
    have q0 : S3[R.length + 3]? = some (.lst [.int 1]) := dst_new 0
    have q1 : S3[R.length + 4]? = some (.dk []) := dst_new 1
    have w0 : tyD (.ob (R.length + 3)) S3 = some "list" := by
      show (match S3[R.length + 3]? with | some (.lst _) => some "list" | some (.dk _) => some "dict" | _ => none) = _
      rw [q0]
    have w1 : tyD (.ob (R.length + 4)) S3 = some "dict" := by
      show (match S3[R.length + 4]? with | some (.lst _) => some "list" | some (.dk _) => some "dict" | _ => none) = _
      rw [q1]
    simp only [xs, List.mem_cons, List.not_mem_nil, or_false] at hdm
    rcases hdm with rfl | rfl | rfl | rfl | rfl | rfl | rfl | rfl | rfl | rfl | rfl | rfl | rfl | rfl <;> first | exact ⟨_, rfl⟩ | exact ⟨_, w0⟩ | exact ⟨_, w1⟩
  obtain ⟨a, ha⟩ := ht
  have hix := ix_lst (S := S3) (j := R.length + 5) (r := r3) (d := d) (dst_new 2) a3 ed
  have hw := whole_run (k := k + 1) (d := d) (l := l) (m := m) (S := S3) ha
  have hwe := whole_e (fr := [some (.ob 2), some (.int l), some (.int m), some (.ob (R.length + 5)), some d, none, none]) (S := S3) (d := d) (l := l) (m := m) (i := 4) (j := 1) (k := 2) rfl rfl rfl ha
  refine runB_of (S' := S3) ?_ (gc_dst rfl)
  show rtOf (b_law_whole_right _ [some (.ob 2), none, none, none, none, none, none] (dst cs s R)) = _
  have hbo := isi_ok (d := .bl (wholeB d l m)) (S := S3) (a := "bool") (b := "bool") rfl (by decide)
  have e3' := e3 (R ++ [.lst [.int 1], .dk [], .lst xs])
  have hS3 : dst cs s3 (R ++ [.lst [.int 1], .dk [], .lst xs]) = S3 := rfl
  rw [hS3] at e3'
  clear_value S3
  unfold b_law_whole_right
  rw [ev_seq]
  simp only [ev_set, ev_op, ev_call, ev_acons, ev_var, ev_c, ev_anil, Out.bnd, List.getElem?_cons_zero, List.length_cons, List.length_nil, Nat.reduceAdd, if_true, e1, s_sub, ev_of, ev_tok, List.set_cons_succ, List.set_cons_zero, hl]
  rw [ev_seq]
  simp only [ev_set, ev_op, ev_call, ev_acons, ev_var, ev_c, ev_anil, Out.bnd, List.getElem?_cons_zero, List.getElem?_cons_succ, List.length_cons, List.length_nil, Nat.reduceAdd, if_true, e2, s_sub, s_add, ev_of, ev_tok, List.set_cons_succ, List.set_cons_zero, hm]
  rw [ev_seq]
  have hx3 : dSet 3 (dLst (dACons (dVar 1) (dACons (dVar 2) (dACons (dOp aSub (dVar 1) (dC (.int 1))) (dACons (dOp aAdd (dVar 2) (dC (.int 1))) (dACons (dC (.int 0)) (dACons (dOp aPow (dC (.int 10)) (dC (.int 30))) (dACons (dNeg (dOp aPow (dC (.int 10)) (dC (.int 30)))) (dACons (dC .non) (dACons (dC (.bl true)) (dACons (dC (.bl false)) (dACons (dC (.str "1")) (dACons (dLst (dACons (dC (.int 1)) dANil)) (dACons (dTup (dACons (dC (.int 1)) dANil)) (dACons (dDict []) dANil))))))))))))))) [some (.ob 2), some (.int l), some (.int m), none, none, none, none] (dst cs s2 R)
      = .ok .nx [some (.ob 2), some (.int l), some (.int m), some (.ob (R.length + 5)), none, none, none] (dst cs s2 (R ++ [.lst [.int 1], .dk [], .lst xs])) := by
    have p30 : ∀ S, aPow (.int 10) (.int 30) S = some (.int (10 ^ (30 : Int).toNat), S) := fun S => pow_ok (by decide)
    simp only [xs]
    generalize (10 : Int) ^ (30 : Int).toNat = big at p30 ⊢
    simp [Out.bnd, p30]
  rw [hx3]
  dsimp only
  rw [ev_seq]
  simp only [ev_set, ev_op, ev_call, ev_acons, ev_var, ev_c, ev_anil, Out.bnd, List.getElem?_cons_zero, List.getElem?_cons_succ, List.length_cons, List.length_nil, Nat.reduceAdd, if_true, e3', hix, ev_of, ev_tok, List.set_cons_succ, List.set_cons_zero]
  rw [ev_seq, ev_set, hwe]
  simp only [ev_tok, List.set_cons_succ, List.set_cons_zero]
  simp [Out.bnd, hw, hbo, isTy]
end
end K01
/-! the law -/
namespace K01
open PySem PySem.Spec PyProof.Rows L2 DL
noncomputable section

@[simp] theorem ev_par {i j : Nat} {h : DenA} {fr : DL.Fr} {S : Sto} : dPar i j h fr S = (h fr S).thn fr fun ds S' => match ds with
  | [a, b] => .ok .nx ((fr.set i (some a)).set j (some b)) S'
  | _ => .no := by unfold dPar; rfl
def bodyN (Φ : PhT) : DenS := (dSeq (dSet 8 (dCall 1 (Φ 1) (dACons (dVar 6) dANil)))
   (dSeq (dIfS (dTOr (dTNot (dTr (dB fIsi (dACons (dVar 8) (dACons (dC (.ty "bool")) dANil))))) (dCmpT aNe (dVar 8) (dCall 1 (Φ 8) (dACons (dVar 6) dANil)))) (dSeq (dRet (dC (.bl false))) dNil) dNil) dNil))
def bodyZ (Φ : PhT) : DenS := (dSeq (dIfS (dTNot (dTr (dCall 2 (Φ 11) (dACons (dCall 1 (Φ 2) (dACons (dVar 7) dANil)) (dACons (dCall 1 (Φ 9) (dACons (dVar 7) dANil)) dANil))))) (dSeq (dRet (dC (.bl false))) dNil) dNil) dNil)
def tupN : DenE := dTup (dACons (dVar 3) (dACons (dVar 4) (dACons (dVar 5) dANil)))
def tupZ : DenE := dTup (dACons (dVar 4) (dACons (dVar 3) (dACons (dC (.str "")) (dACons (dC (.str "-")) (dACons (dC (.str "0")) (dACons (dC (.str "-0")) (dACons (dC (.str "1000000000000")) (dACons (dC (.str "-1000000000000")) dANil))))))))
theorem iter_tup {f : DenE} {xs : List D} {fr : DL.Fr} {S S' : Sto} (h : f fr S = .ok (.tup xs) S') : dISeq f fr S = .ok ⟨xs, []⟩ S' := by
  unfold dISeq
  rw [h]
  rfl
/-- a plain thing -/
def Pl (S : Sto) (d : D) : Prop := (∃ a, tyD d S = some a) ∧ ∀ z, d = .str z → z.length ≤ 400
theorem turnN (k : Nat) {S : Sto} {a0 a1 a2 a3 a4 a5 a6 a7 a8 a9 : Option D} {d : D} (h : Pl S d) : ∃ a8', bodyN (Phi T G (k + 1)) [a0, a1, a2, a3, a4, a5, some d, a7, a8, a9] S = .ok .nx [a0, a1, a2, a3, a4, a5, some d, a7, a8', a9] S := by
  obtain ⟨a, ha⟩ := h.1
  have h1 := name_run (k := k) ha fun z e => by have := h.2 z e; omega
  have h2 := lname_run (k := k) ha fun z e => by have := h.2 z e; omega
  have hbo := isi_ok (d := .bl (nameB d)) (S := S) (a := "bool") (b := "bool") rfl (by decide)
  refine ⟨some (.bl (nameB d)), ?_⟩
  unfold bodyN
  simp [Out.bnd, h1, h2, hbo, isTy]
theorem turnZ (k : Nat) {S : Sto} {a0 a1 a2 a3 a4 a5 a6 a8 a9 : Option D} {z : Str} (h : z.length ≤ 400) : bodyZ (Phi T G (k + 2)) [a0, a1, a2, a3, a4, a5, a6, some (.str z), a8, a9] S = .ok .nx [a0, a1, a2, a3, a4, a5, a6, some (.str z), a8, a9] S := by
  have hl : z.cps.toList.length ≤ 500 := by rw [← str_len]; omega
  have h1 := num_run (k := k) (cs := z.cps.toList) (S := S) hl
  have h2 := lnum_run (k := k + 1) (cs := z.cps.toList) (S := S) hl
  rw [← tx_of z] at h1 h2
  have h3 := same_run (k := k + 1) (o := numZ z.cps.toList) (S := S)
  unfold bodyZ
  simp [Out.bnd, h1, h2, h3]
def bodyL (Φ : PhT) : DenS := (dSeq (dPar 3 4 (dACons (dCall 1 (Φ 6) (dACons (dVar 1) dANil)) (dACons (dCall 1 (Φ 7) (dACons (dVar 1) dANil)) dANil)))
  (dSeq (dSet 5 (dOp aIx (dLst (dACons (dC .non) (dACons (dC (.int 5)) (dACons (dC (.bl true)) (dACons (dLst (dACons (dC (.str "a")) dANil)) (dACons (dTup (dACons (dC (.str "a")) dANil)) (dACons (dDict []) (dACons (dC (.str "")) (dACons (dC (.str "a")) dANil))))))))) (dCall 2 (Φ 5) (dACons (dVar 1) (dACons (dC (.int 8)) dANil)))))
  (dSeq (dFor (gN 6) (dISeq tupN) (bodyN Φ)) (dSeq (dFor (gN 7) (dISeq tupZ) (bodyZ Φ))
  (dSeq (dIfS (dTNot (dTr (dCall 1 (Φ 10) (dACons (dVar 1) dANil)))) (dSeq (dRet (dC (.bl false))) dNil) dNil) dNil)))))
def Inv1 (cs : List Int) (x : D) (n : Nat) (fr : DL.Fr) (S : Sto) : Prop := ∃ a2 a3 a4 a5 a6 a7 a8 a9 s R, fr = [some x, some (.ob 2), a2, a3, a4, a5, a6, a7, a8, a9] ∧ S = dst cs s R ∧ Dr (n * 200) cs s
theorem turnL (k : Nat) {cs : List Int} {x d : D} {n : Nat} {fr : DL.Fr} {S : Sto} (hn : n ≤ 100000) (h : Inv1 cs x n fr S) : ∃ fr1 fr2 S2, gN 2 d fr S = some fr1 ∧ (bodyL (Phi T G (k + 3)) fr1 S = .ok .nx fr2 S2 ∨ bodyL (Phi T G (k + 3)) fr1 S = .ok .ct fr2 S2) ∧ Inv1 cs x (n + 1) fr2 S2 := by
  obtain ⟨a2, a3, a4, a5, a6, a7, a8, a9, s, R, rfl, rfl, hd⟩ := h
  obtain ⟨z1, s1, l1, d1, e1⟩ := text_run k hd (by omega)
  obtain ⟨z2, s2, l2, d2, e2⟩ := figs_run k d1 (by omega)
  obtain ⟨r, s3, q1, q2, d3, e3⟩ := nx (k + 1) 8 d2 (by omega) (by decide) (by decide)
  obtain ⟨s4, d4, e4⟩ := right_run k d3 (by omega)
  let xs : List D := [.non, .int 5, .bl true, .ob (R.length + 3), .tup [.str "a"], .ob (R.length + 4), .str "", .str "a"]
  obtain ⟨o, om, oe⟩ := get_int xs q1 q2
  let R' : Sto := R ++ [.lst [.str "a"], .dk [], .lst xs]
  have hP : Pl (dst cs s3 R') o := by
    have q0 : (dst cs s3 R')[R.length + 3]? = some (.lst [.str "a"]) := dst_new 0
    have q1 : (dst cs s3 R')[R.length + 4]? = some (.dk []) := dst_new 1
    have w0 : tyD (.ob (R.length + 3)) (dst cs s3 R') = some "list" := by
      show (match (dst cs s3 R')[R.length + 3]? with | some (.lst _) => some "list" | some (.dk _) => some "dict" | _ => none) = _
      rw [q0]
    have w1 : tyD (.ob (R.length + 4)) (dst cs s3 R') = some "dict" := by
      show (match (dst cs s3 R')[R.length + 4]? with | some (.lst _) => some "list" | some (.dk _) => some "dict" | _ => none) = _
      rw [q1]
    simp only [xs, List.mem_cons, List.not_mem_nil, or_false] at om
    rcases om with rfl | rfl | rfl | rfl | rfl | rfl | rfl | rfl
    · exact ⟨⟨_, rfl⟩, fun z e => by cases e⟩
    · exact ⟨⟨_, rfl⟩, fun z e => by cases e⟩
    · exact ⟨⟨_, rfl⟩, fun z e => by cases e⟩
    · exact ⟨⟨_, w0⟩, fun z e => by cases e⟩
    · exact ⟨⟨_, rfl⟩, fun z e => by cases e⟩
    · exact ⟨⟨_, w1⟩, fun z e => by cases e⟩
    · exact ⟨⟨_, rfl⟩, fun z e => by cases e; decide +kernel⟩
    · exact ⟨⟨_, rfl⟩, fun z e => by cases e; decide +kernel⟩
  have hix := ix_lst (S := dst cs s3 R') (j := R.length + 5) (r := r) (d := o) (dst_new 2) q1 oe
  have hset : dSet 5 (dOp aIx (dLst (dACons (dC .non) (dACons (dC (.int 5)) (dACons (dC (.bl true)) (dACons (dLst (dACons (dC (.str "a")) dANil)) (dACons (dTup (dACons (dC (.str "a")) dANil)) (dACons (dDict []) (dACons (dC (.str "")) (dACons (dC (.str "a")) dANil))))))))) (dCall 2 (Phi T G (k + 3) 5) (dACons (dVar 1) (dACons (dC (.int 8)) dANil))))
      [some x, some (.ob 2), some d, some (.str z1), some (.str z2), a5, a6, a7, a8, a9] (dst cs s2 R) = .ok .nx [some x, some (.ob 2), some d, some (.str z1), some (.str z2), some o, a6, a7, a8, a9] (dst cs s3 R') := by
    have e3' := e3 R'
    simp only [R', xs] at hix e3' ⊢
    simp [Out.bnd, e3', hix]
  have hT1 : tupN [some x, some (.ob 2), some d, some (.str z1), some (.str z2), some o, a6, a7, a8, a9] (dst cs s3 R') = .ok (.tup [.str z1, .str z2, o]) (dst cs s3 R') := by
    unfold tupN
    simp [Out.bnd]
  have hf1 : ∃ a6' a8', dFor (gN 6) (dISeq tupN) (bodyN (Phi T G (k + 3))) [some x, some (.ob 2), some d, some (.str z1), some (.str z2), some o, a6, a7, a8, a9] (dst cs s3 R') = .ok .nx [some x, some (.ob 2), some d, some (.str z1), some (.str z2), some o, a6', a7, a8', a9] (dst cs s3 R') := by
    obtain ⟨fr', S', e, a6', a8', rfl, rfl⟩ := forL_nx (ok := (Src.mk [D.str z1, .str z2, o] []).ok) (t := gN 6) (b := bodyN (Phi T G (k + 3))) (fun S => noGuard) 100 (fun _ fr S => ∃ a6 a8, fr = [some x, some (.ob 2), some d, some (.str z1), some (.str z2), some o, a6, a7, a8, a9] ∧ S = dst cs s3 R') [D.str z1, .str z2, o]
      (fun w hw n fr S _ h => by
        obtain ⟨a6, a8, rfl, rfl⟩ := h
        have hw' : Pl (dst cs s3 R') w := by
          simp only [List.mem_cons, List.not_mem_nil, or_false] at hw
          rcases hw with rfl | rfl | rfl
          · exact ⟨⟨_, rfl⟩, fun z e => by cases e; omega⟩
          · exact ⟨⟨_, rfl⟩, fun z e => by cases e; omega⟩
          · exact hP
        obtain ⟨a8', e⟩ := turnN (k + 2) (a0 := some x) (a1 := some (.ob 2)) (a2 := some d) (a3 := some (.str z1)) (a4 := some (.str z2)) (a5 := some o) (a6 := a6) (a7 := a7) (a8 := a8) (a9 := a9) hw'
        exact ⟨_, _, _, rfl, .inl e, _, _, rfl, rfl⟩) 0 [some x, some (.ob 2), some d, some (.str z1), some (.str z2), some o, a6, a7, a8, a9] (dst cs s3 R') (show 0 + 3 ≤ 100 by decide) ⟨_, _, rfl, rfl⟩
    refine ⟨a6', a8', ?_⟩
    unfold dFor
    rw [iter_tup hT1]
    exact e
  obtain ⟨a6', a8', hf1⟩ := hf1
  have hT2 : tupZ [some x, some (.ob 2), some d, some (.str z1), some (.str z2), some o, a6', a7, a8', a9] (dst cs s3 R') = .ok (.tup [.str z2, .str z1, .str "", .str "-", .str "0", .str "-0", .str "1000000000000", .str "-1000000000000"]) (dst cs s3 R') := by
    unfold tupZ
    simp [Out.bnd]
  have hf2 : ∃ a7', dFor (gN 7) (dISeq tupZ) (bodyZ (Phi T G (k + 3))) [some x, some (.ob 2), some d, some (.str z1), some (.str z2), some o, a6', a7, a8', a9] (dst cs s3 R') = .ok .nx [some x, some (.ob 2), some d, some (.str z1), some (.str z2), some o, a6', a7', a8', a9] (dst cs s3 R') := by
    obtain ⟨fr', S', e, a7', rfl, rfl⟩ := forL_nx (ok := (Src.mk [D.str z2, .str z1, .str "", .str "-", .str "0", .str "-0", .str "1000000000000", .str "-1000000000000"] []).ok) (t := gN 7) (b := bodyZ (Phi T G (k + 3))) (fun S => noGuard) 100
      (fun _ fr S => ∃ a7, fr = [some x, some (.ob 2), some d, some (.str z1), some (.str z2), some o, a6', a7, a8', a9] ∧ S = dst cs s3 R') [D.str z2, .str z1, .str "", .str "-", .str "0", .str "-0", .str "1000000000000", .str "-1000000000000"]
      (fun w hw n fr S _ h => by
        obtain ⟨a7, rfl, rfl⟩ := h
        have hw' : ∃ z : Str, w = .str z ∧ z.length ≤ 400 := by
          simp only [List.mem_cons, List.not_mem_nil, or_false] at hw
          rcases hw with rfl | rfl | rfl | rfl | rfl | rfl | rfl | rfl
          · exact ⟨_, rfl, by omega⟩
          · exact ⟨_, rfl, by omega⟩
          all_goals exact ⟨_, rfl, by decide +kernel⟩
        obtain ⟨z, rfl, hz⟩ := hw'
        exact ⟨_, _, _, rfl, .inl (turnZ (k + 1) hz), _, rfl, rfl⟩) 0 [some x, some (.ob 2), some d, some (.str z1), some (.str z2), some o, a6', a7, a8', a9] (dst cs s3 R') (show 0 + 8 ≤ 100 by decide) ⟨_, rfl, rfl⟩
    refine ⟨a7', ?_⟩
    unfold dFor
    rw [iter_tup hT2]
    exact e
  obtain ⟨a7', hf2⟩ := hf2
  refine ⟨_, [some x, some (.ob 2), some d, some (.str z1), some (.str z2), some o, a6', a7', a8', a9], dst cs s4 R', rfl, .inl ?_, _, _, _, _, _, _, _, _, s4, R', rfl, rfl, d4.mono (by omega)⟩
  show bodyL _ [some x, some (.ob 2), some d, a3, a4, a5, a6, a7, a8, a9] (dst cs s R) = _
  have hpar : dPar 3 4 (dACons (dCall 1 (Phi T G (k + 3) 6) (dACons (dVar 1) dANil)) (dACons (dCall 1 (Phi T G (k + 3) 7) (dACons (dVar 1) dANil)) dANil)) [some x, some (.ob 2), some d, a3, a4, a5, a6, a7, a8, a9] (dst cs s R)
      = .ok .nx [some x, some (.ob 2), some d, some (.str z1), some (.str z2), a5, a6, a7, a8, a9] (dst cs s2 R) := by simp [Out.bnd, e1, e2]
  unfold bodyL
  rw [ev_seq, hpar]
  dsimp only
  rw [ev_seq, hset]
  dsimp only
  rw [ev_seq, hf1]
  dsimp only
  rw [ev_seq, hf2]
  simp [Out.bnd, e4 R']

def words : List Str := ["fun", "rec", "call", "let", "if", "op", "pair", "first", "second", "box", "open", "put", "as", "number", "truth", "name", "any", "num"]
theorem split_words : Txt.split ("fun rec call let if op pair first second box open put as number truth name any num") " " = words := by kernel_rfl
theorem law_run {ns : List Int} (h : ns.length ≤ 63) : ∃ S', Phi T G 230 12 [.rl (ns.map D.int)] [] = .ok (.bl true) S' := by
  refine ⟨[], ?_⟩
  rw [show (230 : Nat) = 229 + 1 from rfl, phi_succ (d := f_law) rfl den_law]
  obtain ⟨hb, hd⟩ := begin_run (Φ := Phi T G 228) h
  have e0 : Phi T G 229 3 [.rl (ns.map D.int)] [] = .ok (.ob 2) (dst (ns ++ [0]) ⟨0, 0, 0⟩ []) := by
    rw [show (229 : Nat) = 228 + 1 from rfl, phi_succ (d := f_law_begin) rfl den_law_begin]
    exact hb
  generalize hx : D.rl (ns.map D.int) = x at e0 hb
  have hlen : ∀ S, fLen [x] S = some (.int ns.length, S) := fun S => by
    rw [← hx]
    show some (D.int ((ns.map D.int).length : Nat), S) = _
    rw [List.length_map]
  have hmin : ∀ S, fMin2 [.int 63, .int (ns.length : Int)] S = some (.int ns.length, S) := fun S => by
    show some (D.int (if (ns.length : Int) < 63 then (ns.length : Int) else 63), S) = _
    by_cases q : (ns.length : Int) < 63
    · rw [if_pos q]
    · rw [if_neg q]
      have : (ns.length : Int) = 63 := by omega
      rw [this]
  have hr : ∀ (fr : DL.Fr) (S : Sto), fr[0]? = some (some x) → dIRange1 (dACons (dOp aAdd (dB fMin2 (dACons (dC (.int 63)) (dACons (dB fLen (dACons (dVar 0) dANil)) dANil))) (dC (.int 1))) dANil) fr S = .ok ⟨upTo 0 ((ns.length : Int) + 1).toNat, []⟩ S := fun fr S hf =>
    range1 (by simp [Out.bnd, hf, hlen, hmin]) (by omega) (by omega)
  obtain ⟨fr', S', e, a2, a3, a4, a5, a6, a7, a8, a9, s, R, rfl, rfl, _⟩ := forL_nx (ok := (Src.mk (upTo 0 ((ns.length : Int) + 1).toNat) []).ok) (t := gN 2) (b := bodyL (Phi T G 229)) (fun S => noGuard) 100 (Inv1 (ns ++ [0]) x) (upTo 0 ((ns.length : Int) + 1).toNat)
    (fun d _ n fr S hn hI => turnL 226 (d := d) (n := n) (by omega) hI) 0 [some x, some (.ob 2), none, none, none, none, none, none, none, none] (dst (ns ++ [0]) ⟨0, 0, 0⟩ []) (by rw [upTo_len]; omega) ⟨_, _, _, _, _, _, _, _, _, _, rfl, rfl, hd⟩
  have hfor : dFor (gN 2) (dIRange1 (dACons (dOp aAdd (dB fMin2 (dACons (dC (.int 63)) (dACons (dB fLen (dACons (dVar 0) dANil)) dANil))) (dC (.int 1))) dANil)) (bodyL (Phi T G 229)) [some x, some (.ob 2), none, none, none, none, none, none, none, none] (dst (ns ++ [0]) ⟨0, 0, 0⟩ [])
      = .ok .nx [some x, some (.ob 2), a2, a3, a4, a5, a6, a7, a8, a9] (dst (ns ++ [0]) s R) := by
    unfold dFor
    rw [hr _ _ rfl]
    exact e
  -- the words of the language are names
  let S1 := dst (ns ++ [0]) s (R ++ [.lst (words.map D.str)])
  have hS1 : S1[R.length + 3]? = some (.lst (words.map D.str)) := dst_new 0
  have hsp : mSplit (.str "fun rec call let if op pair first second box open put as number truth name any num") [.str " "] (dst (ns ++ [0]) s R) = some (.ob (R.length + 3), S1) := by
    unfold mSplit
    dsimp only
    rw [split_words, if_pos ⟨by decide +kernel, by rw [sizeLine_eq]; decide +kernel, by rw [sizeLine_eq]; decide +kernel⟩]
    rfl
  have hcomp : dComp [4] (dISeq (dVar 9)) (gN 4) (dCmpT aIsNot (dCall 1 (Phi T G 229 1) (dACons (dVar 4) dANil)) (dC (.bl true))) (dVar 4) [some x, some (.ob 2), a2, a3, a4, a5, a6, a7, a8, some (.ob (R.length + 3))] S1 = .ok [] S1 := by
    have hi : dISeq (dVar 9) [some x, some (.ob 2), a2, a3, a4, a5, a6, a7, a8, some (.ob (R.length + 3))] S1 = .ok ⟨words.map D.str, [(R.length + 3, words.map D.str)]⟩ S1 := by
      show Out.ofS (match S1[R.length + 3]? with
        | some (.lst xs) => some (Src.mk xs [(R.length + 3, xs)])
        | _ => none) S1 = _
      rw [hS1]
      rfl
    unfold dComp
    rw [hi]
    have := compL_ok (ok := (Src.mk (words.map D.str) [(R.length + 3, words.map D.str)]).ok) (t := gN 4) (tt := dCmpT aIsNot (dCall 1 (Phi T G 229 1) (dACons (dVar 4) dANil)) (dC (.bl true))) (e := dVar 4) (fr := wipeD [some x, some (.ob 2), a2, a3, a4, a5, a6, a7, a8, some (.ob (R.length + 3))] [4]) (S := S1)
      D.str (fun _ => false) D.str (fun p hp => by
        rw [List.mem_singleton.mp hp]
        exact hS1) words fun z hz => by
          have hn : nameZ z = true := List.all_eq_true.mp (show words.all nameZ = true by decide +kernel) z hz
          have h1 := name_run (k := 228) (d := .str z) (S := S1) (a := "str") rfl fun z' e => by
            cases e
            have : z.length ≤ 8 := by
              unfold nameZ at hn
              simp only [Bool.and_eq_true, decide_eq_true_eq] at hn
              exact hn.1.2
            omega
          rw [show nameB (.str z) = true from hn] at h1
          refine ⟨_, rfl, ?_, fun q => by cases q⟩
          show dCmpT aIsNot (dCall 1 (Phi T G 229 1) (dACons (dVar 4) dANil)) (dC (.bl true)) [some x, some (.ob 2), a2, a3, some (.str z), a5, a6, a7, a8, some (.ob (R.length + 3))] S1 = _
          simp [Out.bnd, h1]
    rw [List.filter_eq_nil_iff.mpr fun _ _ => Bool.false_ne_true] at this
    exact this
  have heq := (eq_new (S := S1) (l := [])).1
  refine runB_of (S' := S1 ++ [.lst [], .lst []]) ?_ (gc_pure (S := []) (T := S1 ++ [.lst [], .lst []]) rfl)
  show rtOf (b_law _ [some x, none, none, none, none, none, none, none, none, none] []) = _
  have hb0 : b_law (Phi T G 229) = dSeq (dSet 1 (dCall 1 (Phi T G 229 3) (dACons (dVar 0) dANil))) (dSeq (dFor (gN 2) (dIRange1 (dACons (dOp aAdd (dB fMin2 (dACons (dC (.int 63)) (dACons (dB fLen (dACons (dVar 0) dANil)) dANil))) (dC (.int 1))) dANil)) (bodyL (Phi T G 229)))
    (dSeq (dSet 9 (dM "str" mSplit (dC (.str "fun rec call let if op pair first second box open put as number truth name any num")) (dACons (dC (.str " ")) dANil)))
    (dSeq (dRet (dOp aEq (dKeep (dComp [4] (dISeq (dVar 9)) (gN 4) (dCmpT aIsNot (dCall 1 (Phi T G 229 1) (dACons (dVar 4) dANil)) (dC (.bl true))) (dVar 4))) (dLst dANil))) dNil))) := rfl
  have hset : dSet 1 (dCall 1 (Phi T G 229 3) (dACons (dVar 0) dANil)) [some x, none, none, none, none, none, none, none, none, none] [] = .ok .nx [some x, some (.ob 2), none, none, none, none, none, none, none, none] (dst (ns ++ [0]) ⟨0, 0, 0⟩ []) := by
    simp [Out.bnd, e0]
  have hset9 : dSet 9 (dM "str" mSplit (dC (.str "fun rec call let if op pair first second box open put as number truth name any num")) (dACons (dC (.str " ")) dANil)) [some x, some (.ob 2), a2, a3, a4, a5, a6, a7, a8, a9] (dst (ns ++ [0]) s R) = .ok .nx [some x, some (.ob 2), a2, a3, a4, a5, a6, a7, a8, some (.ob (R.length + 3))] S1 := by
    clear_value S1
    simp [Out.bnd, hsp]
  rw [hb0, ev_seq, hset]
  dsimp only
  rw [ev_seq, hfor]
  dsimp only
  rw [ev_seq, hset9]
  clear_value S1
  have heq : aEq (.ob S1.length) (.ob (S1.length + 1)) (S1 ++ [.lst [], .lst []]) = some (.bl true, S1 ++ [.lst [], .lst []]) := heq
  simp [Out.bnd, hcomp, heq]
end
end K01

theorem PySem.Challenge.cw_borderkin_k01_names_and_numbers_holds : PySem.Challenge.rw_borderkin_k01_names_and_numbers.Holds := by
  exact K01.head fun _ h => K01.law_run h
