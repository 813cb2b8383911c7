import PyProof.Rows.All
import Wide.All
import OpenK.AllK
import Wide.FinOn
import HandS.ForMost
import HandS.More
import HandS.Exc
import HandS.ExcOwn
import HandS.TryOnly
import HandS.CallSlots
import HandS.IsInst
import HandS.WordsExc
import HandS.Wide
import HandS.Defaults
import HandS.HeadEnd
import HandS.Deep
import HandS.TupAny
import KE.DataEq
import HandS.TupMul
import HandS.TupLe
import HandS.Text
import HandS.Replace
import HandS.Style
import HandS.Flow
import HandS.WordsDict
import HandS.StrMore
import HandS.Zip
import HandS.SortKw
import PyProof.ReprRoads
import PyProof.CallFns
import KE.KExcIs
import KE.KIsAll
import HandS.ExcInit
import HandS.ExcField
import HandS.Small
import HandS.ExcValue
import HandS.HeadHook1
import HandS.HeadHook2
import HandS.List
import KE.KStateDown
import HandS.Head0
import HandS.Head1
import HandS.Head2
import HandS.HeadHook3
import KE.KxText
import KE.IntTextLaws
import PySem.Challenge.RW_borderkin_k02_refusals_by_hand
set_option Elab.async false
set_option linter.all false
set_option maxRecDepth 100000
set_option maxHeartbeats 0
/-! DL, part a: data without addresses, and how it lies in the hand layer's abstract heap. -/
namespace DL
open PySem PySem.Spec PyProof.Rows L2

abbrev St := L2.St
/-- data: what a value is, its tuples opened; ob n is the n-th tracked object, gl x what the module's name x holds, rl a list that is read alone, xo an exception of an own class that was kept -/
inductive D where
  | non | bl (b : Bool) | int (i : Int) | str (x : Str) | tup (xs : List D) | ob (n : Nat) | ty (n : String) | gl (x : Str) | rl (xs : List D) | kd (ks : List Str) (vs : List D)
  | xo (c : Str) (ks : List Str) (vs : List D)
instance : Inhabited D := ⟨.non⟩
/-- an exception: its class, its own fields -/
structure Ex where
  cls : D
  fs : Option (List (Str × D))
/-- a tracked object -/
inductive O where
  | lst (xs : List D)
  | dk (kvs : List (Key × D))
  | ins (c : Str) (fs : List (Str × D))
abbrev Sto := List O
abbrev Fr := List (Option D)
/-- what comes of an expression -/
inductive Out (α : Type) where
  | ok (a : α) (S : Sto)
  | ex (e : Ex) (S : Sto)
  | no
@[reducible] def Out.bnd {α β : Type} (x : Out α) (f : α → Sto → Out β) : Out β := match x with
  | .ok a S => f a S
  | .ex e S => .ex e S
  | .no => .no
/-- what comes of a statement -/
inductive Fl where
  | nx | rt (d : D) | bk | ct
inductive OutS where
  | ok (f : Fl) (fr : Fr) (S : Sto)
  | ex (e : Ex) (fr : Fr) (S : Sto)
  | no

/-- the ground -/
structure Gnd where
  K : PySem.W.Frag
  mg : Str → Option Value
  w : World
/-- where the tracked objects lie -/
structure Wd where
  m : Nat → Addr
  n : Nat
  H : Hp

/-- a list that nobody writes: the script, or a list of the module -/
def SqF (K : PySem.W.Frag) (H : Hp) (a : Addr) (xs : List V) : Prop := (∃ o, H a = some (.frz o (.lst xs))) ∨
  ∃ (o : Obj) (its : Array Value) (n : Nat), K.lookup a = some o ∧ o.cls = .type "list" ∧ o.dict = none ∧ o.data = .seq its n ∧ its.size ≤ sizeLine ∧ Vals xs its.toList
theorem SqF.sql {K : PySem.W.Frag} {H : Hp} {a : Addr} {xs : List V} (h : SqF K H a xs) : SqL K H a xs := by
  rcases h with ⟨o, h⟩ | h
  · exact .inl (.inr ⟨o, h⟩)
  · exact .inr h
/-- an object that stands and is never written -/
def AtE (a : Addr) (oe : Obj) : Heap → Prop := fun h => h.get? a = some oe
mutual
inductive Rep (g : Gnd) (w : Wd) : D → V → Prop
  | non : Rep g w .non .non
  | bl (b : Bool) : Rep g w (.bl b) (.bl b)
  | int (i : Int) : Rep g w (.int i) (.int i)
  | str (x : Str) : Rep g w (.str x) (.str x)
  | ty (n : String) : Rep g w (.ty n) (.ty n)
  | tup {a : Addr} {vs : List V} {ds : List D} : SqT g.K w.H a vs → ds.length ≤ sizeLine → Reps g w ds vs → Rep g w (.tup ds) (.ref a)
  | rl {a : Addr} {vs : List V} {ds : List D} : SqF g.K w.H a vs → ds.length ≤ sizeLine → Reps g w ds vs → Rep g w (.rl ds) (.ref a)
  | ob {n : Nat} : n < w.n → Rep g w (.ob n) (.ref (w.m n))
  | kd {a : Addr} {es : Array DictEntry} {n : Nat} {ks : List Str} {ws : List Value} {us : List V} {vs : List D} : KDict g.K g.w a es n → (∀ z, PySem.W.nsIn g.K a z = some ((ks.zip ws).lookup z)) → Vals us ws → Reps g w vs us → Rep g w (.kd ks vs) (.ref a)
  | gl {x : Str} {a : Addr} : g.mg x = some (.ref a) → Rep g w (.gl x) (.ref a)
  | xo0 {c : Str} {C a : Addr} {oe : Obj} : g.mg c = some (.ref C) → w.H a = some (.frz oe (.ext (AtE a oe))) → Zc (.ref C) none oe → (∃ vs, oe.data = .fields vs) → Rep g w (.xo c [] []) (.ref a)
  | xo1 {c : Str} {C a dd : Addr} {oe : Obj} {us : List (Str × V)} {vs : List D} : g.mg c = some (.ref C) → w.H a = some (.frz oe (.ext (AtE a oe))) → Zc (.ref C) (some dd) oe → (∃ vs, oe.data = .fields vs) → w.H dd = some (.xd us) → Reps g w vs (us.map (·.2)) → Rep g w (.xo c (us.map (·.1)) vs) (.ref a)
inductive Reps (g : Gnd) (w : Wd) : List D → List V → Prop
  | nil : Reps g w [] []
  | cons {d : D} {ds : List D} {v : V} {vs : List V} : Rep g w d v → Reps g w ds vs → Reps g w (d :: ds) (v :: vs)
end
inductive RepO (g : Gnd) (w : Wd) : O → HO → Prop
  | lst {ds : List D} {vs : List V} : ds.length ≤ sizeLine → Reps g w ds vs → RepO g w (.lst ds) (.lst vs)
  | dk {kvs : List (Key × D)} {kus : List (Key × V)} : kvs.length ≤ sizeLine → kvs.map (·.1) = kus.map (·.1) → Reps g w (kvs.map (·.2)) (kus.map (·.2)) → RepO g w (.dk kvs) (.dK kus)
  | ins {c : Str} {C dx : Addr} {fs : List (Str × D)} {us : List (Str × V)} : g.mg c = some (.ref C) → fs.map (·.1) = us.map (·.1) → Reps g w (fs.map (·.2)) (us.map (·.2)) → RepO g w (.ins c fs) (.ins C dx us)
/-- an exception's class and fields -/
structure RepX (g : Gnd) (w : Wd) (e : Ex) (c : Value) (dx : Option Addr) : Prop where
  cls : ∃ v, Rep g w e.cls v ∧ RelV v c
  fs : match e.fs with
    | none => dx = none
    | some fs => ∃ d us, dx = some d ∧ w.H d = some (.xd us) ∧ (∀ i, i < w.n → w.m i ≠ d) ∧ fs.map (·.1) = us.map (·.1) ∧ Reps g w (fs.map (·.2)) (us.map (·.2))
structure SOk (g : Gnd) (w : Wd) (S : Sto) : Prop where
  len : w.n = S.length
  ob : ∀ (i : Nat) (o : O), S[i]? = some o → ∃ h, w.H (w.m i) = some h ∧ RepO g w o h
  inj : ∀ i j, i < w.n → j < w.n → w.m i = w.m j → i = j
structure FrOk (g : Gnd) (w : Wd) (fr : Fr) (σ : St) : Prop where
  len : fr.length = σ.length
  at_ : ∀ (i : Nat) (d : D), fr[i]? = some (some d) → ∃ v, σ[i]? = some (some v) ∧ Rep g w d v
/-- what data leans on is kept -/
structure Mono (w w' : Wd) : Prop where
  le : w.n ≤ w'.n
  ag : ∀ i, i < w.n → w'.m i = w.m i
  tp : ∀ a xs, w.H a = some (.tup xs) → w'.H a = some (.tup xs)
  fz : ∀ a o u, w.H a = some (.frz o u) → w'.H a = some (.frz o u)
  xd : ∀ a us, w.H a = some (.xd us) → w'.H a = some (.xd us)
/-- all that is not tracked is kept -/
structure Step (w w' : Wd) : Prop extends Mono w w' where
  kp : ∀ a o, w.H a = some o → (∀ i, i < w.n → w.m i ≠ a) → w'.H a = some o
  fr : ∀ i, w.n ≤ i → i < w'.n → w.H (w'.m i) = none
  al : ∀ i, i < w'.n → ∃ o, w'.H (w'.m i) = some o

section
variable {g : Gnd} {w w' w2 : Wd} {S : Sto}
theorem Mono.refl (w : Wd) : Mono w w := ⟨Nat.le_refl _, fun _ _ => rfl, fun _ _ h => h, fun _ _ _ h => h, fun _ _ h => h⟩
theorem Mono.trans (a : Mono w w') (b : Mono w' w2) : Mono w w2 :=
  ⟨Nat.le_trans a.le b.le, fun i h => (b.ag i (Nat.lt_of_lt_of_le h a.le)).trans (a.ag i h), fun c xs h => b.tp c xs (a.tp c xs h), fun c o u h => b.fz c o u (a.fz c o u h), fun c us h => b.xd c us (a.xd c us h)⟩
theorem Mono.sqt (a : Mono w w') {K : PySem.W.Frag} {b : Addr} {vs : List V} (h : SqT K w.H b vs) : SqT K w'.H b vs := by
  rcases h with (h | ⟨o, h⟩) | h
  · exact .inl (.inl (a.tp _ _ h))
  · exact .inl (.inr ⟨o, a.fz _ _ _ h⟩)
  · exact .inr h
theorem Mono.sqf (a : Mono w w') {K : PySem.W.Frag} {b : Addr} {vs : List V} (h : SqF K w.H b vs) : SqF K w'.H b vs := by
  rcases h with ⟨o, h⟩ | h
  · exact .inl ⟨o, a.fz _ _ _ h⟩
  · exact .inr h
mutual
theorem Rep.mono (s : Mono w w') : ∀ (d : D) (v : V), Rep g w d v → Rep g w' d v
  | .non, _, h => by cases h; exact .non
  | .bl _, _, h => by cases h; exact .bl _
  | .int _, _, h => by cases h; exact .int _
  | .str _, _, h => by cases h; exact .str _
  | .ty _, _, h => by cases h; exact .ty _
  | .gl _, _, h => by cases h with | gl e => exact .gl e
  | .xo c ks vs, _, h => by
    cases h with
    | xo0 e1 e2 e3 e4 => exact .xo0 e1 (s.fz _ _ _ e2) e3 e4
    | xo1 e1 e2 e3 e4 e5 r => exact .xo1 e1 (s.fz _ _ _ e2) e3 e4 (s.xd _ _ e5) (Reps.mono s vs _ r)
  | .ob i, _, h => by
    cases h with
    | ob e =>
      have := s.ag i e
      rw [← this]
      exact .ob (Nat.lt_of_lt_of_le e s.le)
  | .tup ds, _, h => by
    cases h with
    | tup e l r => exact .tup (s.sqt e) l (Reps.mono s ds _ r)
  | .rl ds, _, h => by
    cases h with
    | rl e l r => exact .rl (s.sqf e) l (Reps.mono s ds _ r)
  | .kd ks vs, _, h => by
    cases h with
    | kd k e l r => exact .kd k e l (Reps.mono s vs _ r)
theorem Reps.mono (s : Mono w w') : ∀ (ds : List D) (vs : List V), Reps g w ds vs → Reps g w' ds vs
  | [], _, h => by cases h; exact .nil
  | d :: ds, _, h => by
    cases h with
    | cons a b => exact .cons (Rep.mono s d _ a) (Reps.mono s ds _ b)
end
theorem RepO.mono (s : Mono w w') {o : O} {h : HO} (r : RepO g w o h) : RepO g w' o h := by
  cases r with
  | lst l r => exact .lst l (Reps.mono s _ _ r)
  | dk l e r => exact .dk l e (Reps.mono s _ _ r)
  | ins e e2 r => exact .ins e e2 (Reps.mono s _ _ r)
theorem FrOk.mono (s : Mono w w') {fr : Fr} {σ : St} (f : FrOk g w fr σ) : FrOk g w' fr σ :=
  ⟨f.len, fun i d h => let ⟨v, e, r⟩ := f.at_ i d h; ⟨v, e, Rep.mono s d v r⟩⟩
theorem Reps.length : ∀ {ds : List D} {vs : List V}, Reps g w ds vs → ds.length = vs.length
  | [], _, h => by cases h; rfl
  | d :: ds, _, h => by
    cases h with
    | cons a b => rw [List.length_cons, List.length_cons, Reps.length b]
theorem Reps.get : ∀ {ds : List D} {vs : List V} {i : Nat} {d : D}, Reps g w ds vs → ds[i]? = some d → ∃ v, vs[i]? = some v ∧ Rep g w d v
  | _, _, _, _, .nil, e => by simp at e
  | _, _, 0, _, .cons r _, e => by simp at e; subst e; exact ⟨_, rfl, r⟩
  | _, _, i + 1, _, .cons _ t, e => by
    obtain ⟨v, h1, h2⟩ := Reps.get (i := i) t (by simpa using e)
    exact ⟨v, by simpa using h1, h2⟩
theorem Reps.getV : ∀ {ds : List D} {vs : List V} {i : Nat} {v : V}, Reps g w ds vs → vs[i]? = some v → ∃ d, ds[i]? = some d ∧ Rep g w d v
  | _, _, _, _, .nil, e => by simp at e
  | _, _, 0, _, .cons r _, e => by simp at e; subst e; exact ⟨_, rfl, r⟩
  | _, _, i + 1, _, .cons _ t, e => by
    obtain ⟨v, h1, h2⟩ := Reps.getV (i := i) t (by simpa using e)
    exact ⟨v, by simpa using h1, h2⟩
theorem Reps.append : ∀ {ds es : List D} {vs us : List V}, Reps g w ds vs → Reps g w es us → Reps g w (ds ++ es) (vs ++ us)
  | _, _, _, _, .nil, s => s
  | _, _, _, _, .cons r t, s => .cons r (Reps.append t s)
theorem Reps.set {x : D} {u : V} (r : Rep g w x u) : ∀ {ds : List D} {vs : List V} (i : Nat), Reps g w ds vs → Reps g w (ds.set i x) (vs.set i u)
  | _, _, _, .nil => .nil
  | _, _, 0, .cons _ t => .cons r t
  | _, _, i + 1, .cons q t => .cons q (Reps.set r i t)
theorem Reps.take : ∀ {ds : List D} {vs : List V} (n : Nat), Reps g w ds vs → Reps g w (ds.take n) (vs.take n)
  | _, _, 0, _ => .nil
  | _, _, _ + 1, .nil => .nil
  | _, _, n + 1, .cons r t => .cons r (Reps.take n t)
theorem Reps.drop : ∀ {ds : List D} {vs : List V} (n : Nat), Reps g w ds vs → Reps g w (ds.drop n) (vs.drop n)
  | _, _, 0, r => r
  | _, _, _ + 1, .nil => .nil
  | _, _, n + 1, .cons _ t => Reps.drop n t
theorem Reps.ints : ∀ {ns : List Int} {vs : List V}, Reps g w (ns.map D.int) vs → vs = ns.map V.int
  | [], _, h => by cases h; rfl
  | n :: ns, _, h => by
    cases h with
    | cons a b => cases a; rw [Reps.ints b]; rfl
theorem Reps.of_ints : ∀ (ns : List Int), Reps g w (ns.map D.int) (ns.map V.int)
  | [] => .nil
  | n :: ns => .cons (.int n) (Reps.of_ints ns)
theorem Reps.bls : ∀ {ns : List Bool} {vs : List V}, Reps g w (ns.map D.bl) vs → vs = ns.map V.bl
  | [], _, h => by cases h; rfl
  | n :: ns, _, h => by
    cases h with
    | cons a b => cases a; rw [Reps.bls b]; rfl
theorem Reps.strs : ∀ {ns : List Str} {vs : List V}, Reps g w (ns.map D.str) vs → vs = ns.map V.str
  | [], _, h => by cases h; rfl
  | n :: ns, _, h => by
    cases h with
    | cons a b => cases a; rw [Reps.strs b]; rfl
theorem Reps.of_strs : ∀ (ns : List Str), Reps g w (ns.map D.str) (ns.map V.str)
  | [] => .nil
  | n :: ns => .cons (.str n) (Reps.of_strs ns)

theorem RepO.notTup {o : O} {h : HO} (r : RepO g w o h) : (∀ xs, h ≠ .tup xs) ∧ (∀ a u, h ≠ .frz a u) ∧ ∀ us, h ≠ .xd us := by
  cases r <;> exact ⟨fun _ z => (by cases z), fun _ _ z => (by cases z), fun _ z => (by cases z)⟩
theorem SOk.al (s : SOk g w S) : ∀ i, i < w.n → ∃ o, w.H (w.m i) = some o := fun i h => by
  have h' : i < S.length := by rw [← s.len]; exact h
  obtain ⟨ho, e, _⟩ := s.ob i S[i] (List.getElem?_eq_getElem h')
  exact ⟨ho, e⟩
theorem SOk.at_ (s : SOk g w S) {i : Nat} (h : i < w.n) : ∃ o ho, S[i]? = some o ∧ w.H (w.m i) = some ho ∧ RepO g w o ho := by
  have h' : i < S.length := by rw [← s.len]; exact h
  obtain ⟨ho, e, r⟩ := s.ob i S[i] (List.getElem?_eq_getElem h')
  exact ⟨_, ho, List.getElem?_eq_getElem h', e, r⟩
/-- tracked objects are no tuples -/
theorem SOk.tupNe (s : SOk g w S) {a : Addr} {xs : List V} (h : w.H a = some (.tup xs)) : ∀ i, i < w.n → w.m i ≠ a := fun i hi e => by
  obtain ⟨o, ho, _, e2, r⟩ := s.at_ hi
  rw [e, h] at e2
  cases e2
  exact r.notTup.1 _ rfl
theorem SOk.frzNe (s : SOk g w S) {a : Addr} {o : Obj} {u : HO} (h : w.H a = some (.frz o u)) : ∀ i, i < w.n → w.m i ≠ a := fun i hi e => by
  obtain ⟨o, ho, _, e2, r⟩ := s.at_ hi
  rw [e, h] at e2
  cases e2
  exact r.notTup.2.1 _ _ rfl
theorem SOk.xdNe (s : SOk g w S) {a : Addr} {us : List (Str × V)} (h : w.H a = some (.xd us)) : ∀ i, i < w.n → w.m i ≠ a := fun i hi e => by
  obtain ⟨o, ho, _, e2, r⟩ := s.at_ hi
  rw [e, h] at e2
  cases e2
  exact r.notTup.2.2 _ rfl
theorem Step.refl (s : SOk g w S) : Step w w := ⟨Mono.refl w, fun _ _ h _ => h, fun i h1 h2 => absurd h2 (Nat.not_lt.mpr h1), s.al⟩
theorem Step.trans (a : Step w w') (b : Step w' w2) : Step w w2 := by
  refine ⟨a.toMono.trans b.toMono, fun c o h hn => b.kp c o (a.kp c o h hn) fun i hi e => ?_, fun i h1 h2 => ?_, b.al⟩
  · by_cases hi' : i < w.n
    · exact hn i hi' ((a.ag i hi').symm.trans e)
    · have z := a.fr i (Nat.not_lt.mp hi') hi
      rw [e, h] at z
      cases z
  · by_cases hi' : i < w'.n
    · rw [b.ag i hi']
      exact a.fr i h1 hi'
    · have z := b.fr i (Nat.not_lt.mp hi') h2
      cases q : w.H (w2.m i) with
      | none => rfl
      | some o =>
        by_cases hx : ∃ j, j < w.n ∧ w.m j = w2.m i
        · obtain ⟨j, hj, e⟩ := hx
          obtain ⟨o', e'⟩ := a.al j (Nat.lt_of_lt_of_le hj a.le)
          rw [a.ag j hj, e, z] at e'
          cases e'
        · have := a.kp _ o q fun j hj e => hx ⟨j, hj, e⟩
          rw [z] at this
          cases this
/-- what stands untracked stays so -/
theorem Step.untracked (a : Step w w') {p : Addr} {o : HO} (h : w.H p = some o) (hn : ∀ i, i < w.n → w.m i ≠ p) : w'.H p = some o ∧ ∀ i, i < w'.n → w'.m i ≠ p := by
  refine ⟨a.kp p o h hn, fun i hi e => ?_⟩
  by_cases hi' : i < w.n
  · exact hn i hi' ((a.ag i hi').symm.trans e)
  · have z := a.fr i (Nat.not_lt.mp hi') hi
    rw [e, h] at z
    cases z
theorem Step.back (a : Step w w') {p : Addr} (h : w'.H p = none) : w.H p = none := by
  cases q : w.H p with
  | none => rfl
  | some o =>
    by_cases hx : ∃ j, j < w.n ∧ w.m j = p
    · obtain ⟨j, hj, e⟩ := hx
      obtain ⟨o', e'⟩ := a.al j (Nat.lt_of_lt_of_le hj a.le)
      rw [a.ag j hj, e, h] at e'
      cases e'
    · have := a.kp _ o q fun j hj e => hx ⟨j, hj, e⟩
      rw [h] at this
      cases this
theorem SOk.mono {w' : Wd} (s : SOk g w S) (a : Mono w w') (hn : w'.n = w.n) (hk : ∀ i, i < w.n → w'.H (w.m i) = w.H (w.m i)) : SOk g w' S := by
  refine ⟨hn.trans s.len, fun i o e => ?_, fun i j hi hj e => ?_⟩
  · obtain ⟨h, e2, r⟩ := s.ob i o e
    have hi : i < w.n := by rw [s.len]; exact (List.getElem?_eq_some_iff.mp e).1
    exact ⟨h, by rw [a.ag i hi, hk i hi]; exact e2, r.mono a⟩
  · rw [hn] at hi hj
    rw [a.ag i hi, a.ag j hj] at e
    exact s.inj i j hi hj e
/-- a new untracked object is laid -/
def Wd.put (w : Wd) (p : Addr) (o : HO) : Wd := ⟨w.m, w.n, upd w.H p o⟩
theorem Step.put (s : SOk g w S) {p : Addr} (hp : w.H p = none) (o : HO) : Step w (w.put p o) ∧ SOk g (w.put p o) S ∧ ∀ i, i < w.n → w.m i ≠ p := by
  have hne : ∀ i, i < w.n → w.m i ≠ p := fun i hi e => by
    obtain ⟨o', e'⟩ := s.al i hi
    rw [e, hp] at e'
    cases e'
  have hk : ∀ b u, w.H b = some u → (upd w.H p o) b = some u := fun b u e => by
    rw [upd_ne (ne_of_none e hp)]
    exact e
  have mo : Mono w (w.put p o) := ⟨Nat.le_refl _, fun _ _ => rfl, fun a xs e => hk _ _ e, fun a ob u e => hk _ _ e, fun a us e => hk _ _ e⟩
  refine ⟨⟨mo, fun a u e _ => hk _ _ e, fun i h1 h2 => absurd h2 (Nat.not_lt.mpr h1), fun i hi => ?_⟩, s.mono mo rfl fun i hi => ?_, hne⟩
  · obtain ⟨o', e'⟩ := s.al i hi
    exact ⟨o', hk _ _ e'⟩
  · show upd w.H p o (w.m i) = _
    rw [upd_ne (hne i hi)]
/-- a new tracked object is laid -/
def Wd.new (w : Wd) (p : Addr) (o : HO) : Wd := ⟨fun i => if i = w.n then p else w.m i, w.n + 1, upd w.H p o⟩
theorem Step.new (s : SOk g w S) {p : Addr} (hp : w.H p = none) {o : O} {ho : HO} (r : RepO g w o ho) :
    Step w (w.new p ho) ∧ SOk g (w.new p ho) (S ++ [o]) ∧ Rep g (w.new p ho) (.ob S.length) (.ref p) := by
  have hne : ∀ i, i < w.n → w.m i ≠ p := fun i hi e => by
    obtain ⟨o', e'⟩ := s.al i hi
    rw [e, hp] at e'
    cases e'
  have hk : ∀ b u, w.H b = some u → (upd w.H p ho) b = some u := fun b u e => by
    rw [upd_ne (ne_of_none e hp)]
    exact e
  have hm : ∀ i, i < w.n → (w.new p ho).m i = w.m i := fun i hi => if_neg (Nat.ne_of_lt hi)
  have hmn : (w.new p ho).m w.n = p := if_pos rfl
  have mo : Mono w (w.new p ho) := ⟨Nat.le_succ _, hm, fun a xs e => hk _ _ e, fun a ob u e => hk _ _ e, fun a us e => hk _ _ e⟩
  have alw : ∀ i, i < w.n + 1 → ∃ o', (w.new p ho).H ((w.new p ho).m i) = some o' := fun i hi => by
    by_cases e : i = w.n
    · subst e
      rw [hmn]
      exact ⟨ho, upd_same⟩
    · have hi' : i < w.n := Nat.lt_of_le_of_ne (Nat.le_of_lt_succ hi) e
      rw [hm i hi']
      obtain ⟨o', e'⟩ := s.al i hi'
      exact ⟨o', hk _ _ e'⟩
  refine ⟨⟨mo, fun a u e _ => hk _ _ e, fun i h1 h2 => ?_, alw⟩, ⟨?_, fun i u e => ?_, fun i j hi hj e => ?_⟩, ?_⟩
  rotate_right
  · have q : Rep g (w.new p ho) (.ob w.n) (.ref ((w.new p ho).m w.n)) := .ob (show w.n < w.n + 1 from Nat.lt_succ_self _)
    rw [hmn, s.len] at q
    exact q
  · have e : i = w.n := Nat.le_antisymm (Nat.le_of_lt_succ h2) h1
    subst e
    rw [hmn]
    exact hp
  · show w.n + 1 = _
    rw [List.length_append, s.len]
    rfl
  · by_cases hi : i < S.length
    · rw [List.getElem?_append_left hi] at e
      obtain ⟨h, e2, r2⟩ := s.ob i u e
      have hi' : i < w.n := by rw [s.len]; exact hi
      exact ⟨h, by rw [hm i hi']; exact hk _ _ e2, r2.mono mo⟩
    · rw [List.getElem?_append_right (Nat.not_lt.mp hi)] at e
      have hz : i - S.length = 0 := by
        have := (List.getElem?_eq_some_iff.mp e).1
        simp at this
        omega
      rw [hz] at e
      cases e
      have hi2 : i = w.n := by rw [s.len]; omega
      subst hi2
      exact ⟨ho, by rw [hmn]; exact upd_same, r.mono mo⟩
  · have hi : i < w.n + 1 := hi
    have hj : j < w.n + 1 := hj
    by_cases e1 : i = w.n
    · by_cases e2 : j = w.n
      · rw [e1, e2]
      · have hj' : j < w.n := Nat.lt_of_le_of_ne (Nat.le_of_lt_succ hj) e2
        rw [e1, hmn, hm j hj'] at e
        exact absurd e.symm (hne j hj')
    · have hi' : i < w.n := Nat.lt_of_le_of_ne (Nat.le_of_lt_succ hi) e1
      by_cases e2 : j = w.n
      · rw [e2, hmn, hm i hi'] at e
        exact absurd e (hne i hi')
      · have hj' : j < w.n := Nat.lt_of_le_of_ne (Nat.le_of_lt_succ hj) e2
        rw [hm i hi', hm j hj'] at e
        exact s.inj i j hi' hj' e
/-- a tracked object is written -/
theorem Step.write (s : SOk g w S) {i : Nat} (hi : i < w.n) {o : O} {ho : HO} (r : RepO g w o ho) : Step w (w.put (w.m i) ho) ∧ SOk g (w.put (w.m i) ho) (S.set i o) := by
  obtain ⟨ho', e0⟩ := s.al i hi
  have hk : ∀ b, b ≠ w.m i → (upd w.H (w.m i) ho) b = w.H b := fun b e => upd_ne e
  have mo : Mono w (w.put (w.m i) ho) := ⟨Nat.le_refl _, fun _ _ => rfl, fun a xs e => by
    show upd w.H (w.m i) ho a = _
    rw [hk a (s.tupNe e i hi).symm]; exact e, fun a ob u e => by
    show upd w.H (w.m i) ho a = _
    rw [hk a (s.frzNe e i hi).symm]; exact e, fun a us e => by
    show upd w.H (w.m i) ho a = _
    rw [hk a (s.xdNe e i hi).symm]; exact e⟩
  refine ⟨⟨mo, fun a u e hn => ?_, fun j h1 h2 => absurd h2 (Nat.not_lt.mpr h1), fun j hj => ?_⟩, ⟨by rw [List.length_set]; exact s.len, fun j u e => ?_, s.inj⟩⟩
  · show upd w.H (w.m i) ho a = _
    rw [hk a (hn i hi).symm]; exact e
  · show ∃ o', upd w.H (w.m i) ho (w.m j) = some o'
    by_cases e : w.m j = w.m i
    · rw [e]; exact ⟨ho, upd_same⟩
    · rw [hk _ e]; exact s.al j hj
  · show ∃ h, upd w.H (w.m i) ho (w.m j) = some h ∧ _
    by_cases hj : j = i
    · subst hj
      have hl : j < S.length := by rw [← s.len]; exact hi
      rw [List.getElem?_set_self hl] at e
      cases e
      exact ⟨ho, upd_same, r.mono mo⟩
    · rw [List.getElem?_set_ne (Ne.symm hj)] at e
      obtain ⟨h, e2, r2⟩ := s.ob j u e
      have hjl : j < w.n := by rw [s.len]; exact (List.getElem?_eq_some_iff.mp e).1
      refine ⟨h, ?_, r2.mono mo⟩
      rw [hk _ fun z => hj (s.inj j i hjl hi z)]
      exact e2

/-! ### readings -/
/-- what is asked of an outcome: R says how a result lies -/
def Post {α β : Type} (g : Gnd) (w : Wd) (R : Wd → α → β → Prop) (out : Out α) (Q : β → Hp → Prop) (E : XK) : Prop := match out with
  | .ok a S => ∀ w' b, Step w w' → SOk g w' S → R w' a b → Q b w'.H
  | .ex e S => ∀ w' c dx, Step w w' → SOk g w' S → RepX g w' e c dx → E c dx w'.H
  | .no => False
theorem Post.step {α β : Type} {R : Wd → α → β → Prop} {out : Out α} {Q : β → Hp → Prop} {E : XK} (a : Step w w') (p : Post g w R out Q E) : Post g w' R out Q E := by
  cases out with
  | ok x S => exact fun w2 b s o r => p w2 b (a.trans s) o r
  | ex e S => exact fun w2 c dx s o r => p w2 c dx (a.trans s) o r
  | no => exact p
def tG {α β : Type} (g : Gnd) (W : WX) (R : Wd → α → β → Prop) (f : Fr → Sto → Out α) : St → Hp → (β → Hp → Prop) → Prop := fun σ H Q =>
  ∃ w S fr, w.H = H ∧ SOk g w S ∧ FrOk g w fr σ ∧ Post g w R (f fr S) Q (fun c d H' => W c d σ H')
abbrev tE (g : Gnd) (W : WX) (f : Fr → Sto → Out D) : TE := tG g W (Rep g) f
abbrev tT (g : Gnd) (W : WX) (f : Fr → Sto → Out Bool) : TT := tG g W (fun _ a b => a = b) f
abbrev tA (g : Gnd) (W : WX) (f : Fr → Sto → Out (List D)) : TA := tG g W (Reps g) f
/-- a list that was just made and that nothing else holds -/
def RepT (g : Gnd) (w : Wd) (xs : List D) (v : V) : Prop := ∃ p vs, v = .ref p ∧ w.H p = some (.lst vs) ∧ (∀ i, i < w.n → w.m i ≠ p) ∧ xs.length ≤ sizeLine ∧ Reps g w xs vs
def PostL (g : Gnd) (w : Wd) (out : Out (List D)) (Q : VK) (E : XK) : Prop := match out with
  | .ok xs S => ∀ w' p, Step w w' → SOk g w' S → w.H p = none → RepT g w' xs (.ref p) → Q (.ref p) w'.H
  | .ex e S => ∀ w' c dx, Step w w' → SOk g w' S → RepX g w' e c dx → E c dx w'.H
  | .no => False
def tL (g : Gnd) (W : WX) (f : Fr → Sto → Out (List D)) : TE := fun σ H Q =>
  ∃ w S fr, w.H = H ∧ SOk g w S ∧ FrOk g w fr σ ∧ PostL g w (f fr S) Q (fun c d H' => W c d σ H')
theorem RepT.step (a : Step w w') {xs : List D} {v : V} (r : RepT g w xs v) : RepT g w' xs v := by
  obtain ⟨p, vs, rfl, e, hn, l, q⟩ := r
  obtain ⟨e', hn'⟩ := a.untracked e hn
  exact ⟨p, vs, rfl, e', hn', l, Reps.mono a.toMono _ _ q⟩
end
theorem PE.weaken {X : Cx} {e : Expr} {t t' : TE} (h : PE X e t) (k : ∀ σ H Q, t' σ H Q → t σ H Q) : PE X e t' := ⟨fun pins s σ H Q I hw => h.run pins s σ H Q I (k σ H Q hw)⟩
theorem PT.weaken {X : Cx} {e : Expr} {t t' : TT} (h : PT X e t) (k : ∀ σ H Q, t' σ H Q → t σ H Q) : PT X e t' := ⟨fun pins s σ H Q I hw => h.run pins s σ H Q I (k σ H Q hw)⟩
theorem PW.weaken {X : Cx} {e : Expr} {t t' : TT} (h : PW X e t) (k : ∀ σ H Q, t' σ H Q → t σ H Q) : PW X e t' := ⟨fun whole pins s σ H Q I hw => h.run whole pins s σ H Q I (k σ H Q hw)⟩
theorem PA.weaken {X : Cx} {es : List Expr} {t t' : TA} (h : PA X es t) (k : ∀ σ H Q, t' σ H Q → t σ H Q) : PA X es t' := ⟨fun pos pins s σ H Q I hw => h.run pos pins s σ H Q I (k σ H Q hw)⟩
theorem PS.weaken {X : Cx} {st : Stmt} {t t' : TS} (h : PS X st t) (k : ∀ D σ H, t' D σ H → t D σ H) : PS X st t' := ⟨fun pins s σ H D I hw => h.run pins s σ H D I (k D σ H hw)⟩
theorem PSs.weaken {X : Cx} {st : List Stmt} {t t' : TS} (h : PSs X st t) (k : ∀ D σ H, t' D σ H → t D σ H) : PSs X st t' := ⟨fun pins s σ H D I hw => h.run pins s σ H D I (k D σ H hw)⟩
theorem PG.weaken {X : Cx} {e : Expr} {t t' : TG} (h : PG X e t) (k : ∀ v σ H Q, t' v σ H Q → t v σ H Q) : PG X e t' := ⟨fun pins s σ H v u Q I r hw => h.run pins s σ H v u Q I r (k v σ H Q hw)⟩
theorem PI.weaken {X : Cx} {tg e : Expr} {t t' : TI} (h : PI X tg e t) (k : ∀ σ H Q, t' σ H Q → t σ H Q) : PI X tg e t' := ⟨fun pins s σ H Q I hw => h.run pins s σ H Q I (k σ H Q hw)⟩
end DL
/-! DM, part b: defs called where no repr is under way (guards known to be none). -/
namespace DL
open PySem PySem.Spec PyProof.Rows L2
/-- the def at f keeps sp, wherever no guard stands around -/
structure FnG (P : Program) (w0 : World) (K : PySem.W.Frag) (mg : Str → Option Value) (base : Heap) (C : CXT) (k : Nat) (f : Addr) (fd : FuncData) (ps : List Str) (sp : Sp) : Prop where
  len : ∀ vs H Q E, sp vs H Q E → vs.length = ps.length
  run : ∀ (A : Around) (out : List Env) (s : Shared) (H : Hp) (args : Args) (us : List Value) (vs : List V) (Q : VK) (E : XK), Room k A → A.guards = some [] → Env0 P w0 K mg base A out s H → BindsTo s fd args (ps.zip us) → Vals vs us → sp vs H Q E →
    codeAny (model P w0) A (.call (.ref f) args) (CR C out P w0 H s Q E) s
section
variable {P : Program} {w0 : World} {K : PySem.W.Frag} {mg : Str → Option Value} {base : Heap} {C : CXT}
theorem FnG.ctx {C' : CXT} {k : Nat} {f : Addr} {fd : FuncData} {ps : List Str} {sp : Sp} (F : FnG P w0 K mg base C k f fd ps sp) (h : ∀ a b c d e f, C a b c d e f → C' a b c d e f) : FnG P w0 K mg base C' k f fd ps sp :=
  ⟨F.len, fun A out s H args us vs Q E hr hg he hb hv hs => codeAny_mono (F.run A out s H args us vs Q E hr hg he hb hv hs) fun r s' q => by
    cases r with
    | ok fl => cases fl <;> first | exact q | exact q.elim
    | error e => exact h _ _ _ _ _ _ q⟩
/-- from a def's text to its promise -/
theorem FunD.okG {x qual : Str} {params : Arguments} {body : List Stmt} {scope : Scope} {dvs : List V} {kws : List (Str × V)} {f : Addr} {fd : FuncData} {N ps : List Str} {k : Nat} {sp : Sp} (F : FunD K x qual params body scope dvs kws f fd) (sc : FnScope N ps scope)
    (len : ∀ vs H Q E, sp vs H Q E → vs.length = ps.length)
    (walk : ∀ (cdv : Value) (A : Around) (out : List Env) (s : Shared) (H : Hp) (vs : List V) (Q : VK) (E : XK), Room k (A.deeper (envOfC qual scope s.heap.objs.size f cdv)) → A.guards = some [] → sp vs H Q E →
      ∃ t, PSs (cxOf C P w0 K mg base N qual scope f cdv A out s H E) body t ∧ t { nx := fun _ H' => Q .non H', rt := Q } (start N vs) H) : FnG P w0 K mg base C (k + 1) f fd ps sp := by
  obtain ⟨oc, od, dV, kV, doc, pm, an, cdv, ct, osl, rfl, lk, hcd, _, _⟩ := F.ex
  refine ⟨len, fun A out s H args us vs Q E hr hg he hb hv hs => ?_⟩
  have hK := he.mod.kin.keeps fun b o e => (he.bs b o e).1
  have hL := he.mod.nolimit.keeps fun b o e => (he.bs b o e).1
  refine codeAny_call_function hr.depth (hK _ _ lk) rfl sc.co sc.gen rfl (PySem.W.codeRec_of hK hcd) (hb _ _ _ _ (wpAny_newFunctionEnv_cells sc.kind ?slots fun env he1 s1 x1 => ?_))
  case slots =>
    rintro ⟨n, v⟩ hy
    rcases sc.par n (List.of_mem_zip hy).1 with q | q
    · exact .inl q
    · exact .inr ⟨q, PySem.W.cellsFrom_some _ _ _ (.inl q)⟩
  subst he1
  obtain ⟨t, ht, hq⟩ := walk cdv A out s H vs Q E (hr.deeper _) hg hs
  have J := inv_start (CX := C) (P := P) (w := w0) (N := N) (qual := qual) (E := E) sc hr.hd he (len _ _ _ _ hs) hv x1
  refine ⟨hL.keeps x1.toInCall.keep, codeAny_func (wpAny_mono (ht.run [] s1 (start N vs) H _ J hq) (fun fl s' z => ?_) fun e s' z => z)⟩
  cases fl with
  | ret u =>
    obtain ⟨v, σ', H', J', rv, z⟩ := z
    exact ⟨v, H', J'.os, J'.bare, J'.base, J'.hok, rv, z⟩
  | next =>
    obtain ⟨σ', H', J', z⟩ := z
    exact ⟨.non, H', J'.os, J'.bare, J'.base, J'.hok, rfl, z⟩
  | brk => obtain ⟨_, _, _, z⟩ := z; exact z.elim
  | cont => obtain ⟨_, _, _, z⟩ := z; exact z.elim
end
section
variable {X : Cx} {W : WX} {k : Nat} {f : Addr} {fd : FuncData} {ps : List Str} {sp : Sp}
/-- the call, its arguments being there -/
theorem run_fnG {pins : List (Addr × Obj)} {σ : L2.St} {H : Hp} {s : Shared} {Q : VK} {us : List Value} {vs : List V} (F : FnG X.prog X.w X.K X.mg X.base (L2.CX X.prog X.w) k f fd ps sp) (hr : Room k X.A) (hg : X.A.guards = some []) (hb : Binds X.K fd ps []) (tk : Takes X W)
    (I : Inv X pins σ H s) (r : Vals vs us) (h : sp vs H Q (WE W σ)) : wpAny (model X.prog X.w) X.A (call (.ref f) us) (EP X pins σ Q) X.xe s := by
  have hl : (us ++ []).length = ps.length := by rw [List.append_nil, ← r.length]; exact F.len _ _ _ _ h
  have hB := hb s us I.kIn hl
  rw [List.append_nil] at hB
  refine wpAny_call (codeAny_mono (F.run X.A X.stack s H ⟨us, []⟩ us vs Q (WE W σ) hr hg I.env0 hB r h) fun z s' hq => ?_)
  cases z with
  | error e => exact passAt tk σ pins H s e s' I hq
  | ok fl =>
    cases fl with
    | ret u => exact I.after hq
    | next => exact False.elim hq
    | brk => exact False.elim hq
    | cont => exact False.elim hq
/-- what is asked of a call -/
def tCallG (sp : Sp) (W : WX) (t : TA) : TE := fun σ H Q => t σ H fun vs H1 => sp vs H1 Q (WE W σ)
theorem pe_callG {x : Str} {p pos : Pos} {e : Expr} {es : List Expr} {t : TA} (F : FnG X.prog X.w X.K X.mg X.base (L2.CX X.prog X.w) k f fd ps sp) (hr : Room k X.A) (hgd : X.A.guards = some []) (hg : Gl X x) (hm : X.mg x = some (.ref f)) (hk : PySem.W.keepIn X.K (.ref f) = true)
    (hb : Binds X.K fd ps []) (tk : Takes X W) (ha : PA X (e :: es) t) (hdb : (x == ("__debug__" : Str)) = false) (he : starEach (e :: es) X.env = (false, eval e X.env) :: starEach es X.env) (hpl : (backTo pos (starEach es X.env)).any (·.1) = false) :
    PE X (.Call (.Name x p) (e :: es) [] pos) (tCallG sp W t) :=
  ⟨fun pins s σ H Q I h => wpAny_Call_Name_kw (ld_glob I hg hm (PySem.W.callWith_K (h₀ := X.base) I.ok.mod.kin hk
    (thn (ha.run pos pins s σ H _ I h) fun us s1 ⟨vs, H1, I1, r, q⟩ => ⟨I1.kIn, run_fnG F hr hgd hb tk I1 r q⟩) he hpl) hdb)⟩
theorem pe_callG0 {x : Str} {p pos : Pos} (F : FnG X.prog X.w X.K X.mg X.base (L2.CX X.prog X.w) k f fd ps sp) (hr : Room k X.A) (hgd : X.A.guards = some []) (hg : Gl X x) (hm : X.mg x = some (.ref f)) (hk : PySem.W.keepIn X.K (.ref f) = true)
    (hb : Binds X.K fd ps []) (tk : Takes X W) (hdb : (x == ("__debug__" : Str)) = false) : PE X (.Call (.Name x p) [] [] pos) (tCallG sp W tNil) :=
  ⟨fun pins s σ H Q I h => wpAny_Call_Name_kw (ld_glob I hg hm (PySem.W.callWith_K0 I.kIn hk (run_fnG (us := []) (vs := []) F hr hgd hb tk I .nil h)) hdb)⟩
end

/-! ### the law's own call, from outside -/
/-- no tracked thing but the script -/
def scr (a : Addr) (o : Obj) (ns : List Int) : Hp := fun b => if b = a then some (.frz o (.lst (ns.map V.int))) else none
theorem entry {P : Program} {w0 : World} {K : PySem.W.Frag} {mg mb : Str → Option Value} {C : CXT} {k : Nat} {fa a : Addr} {fd : FuncData} {x : Str} {sp : Sp} {s : Shared} {vs : List Value}
    (KX : K.In s.heap) (hns : s.heap.Ns mainGlobals mg) (hb : s.heap.Ns builtinsNs mb) (hbb : ∀ x : Str, x ≠ "__name__" → mb x = bootBuiltins x) (hlim : s.heap.NoLimit) (hg : s.gens = #[])
    (ha : s.heap.get? a = some { cls := .type "list", data := .seq vs.toArray }) (hr : Room k callerA)
    (F : ∀ base : Heap, K.In base → base.Ns mainGlobals mg → FnG P w0 K mg base C k fa fd [x] sp) (hbind : ∀ (s : Shared) (u : Value), BindsTo s fd ⟨[u], []⟩ [(x, u)])
    (H : Hp) (hO : Only H) (hok : HOk P w0 H s.heap) (hA : ∀ b, H b ≠ none → b = a) (hK : H a ≠ none → K.lookup a = none)
    (hsp : sp [.ref a] H (fun v _ => v = .bl true) fun _ _ _ => False) (hC : ∀ e s', C [] H s (fun _ _ _ => False) e s' → False) :
    codeAny (model P w0) callerA (.call (.ref fa) ⟨[.ref a], []⟩) (fun r s' => r = .ok (.ret (.bool true)) ∧ OldK s.heap s'.heap ∧ s'.os = s.os ∧ AllBare s'.gens) s := by
  -- an object that is no list stands outside H
  have free : ∀ {b : Addr} {o : Obj}, s.heap.get? b = some o → (∀ n, o.data ≠ .seq vs.toArray n) → H b = none := fun {b o} e hd => by
    by_cases q : H b = none
    · exact q
    · have e1 := hA b q
      rw [e1, ha] at e
      cases e
      exact absurd rfl (hd _)
  have nsOf : ∀ {b : Addr} {m : Str → Option Value}, s.heap.Ns b m → (hidT s.heap H).Ns b m := fun {b m} ⟨o, es, ep, e, d, r⟩ => ⟨o, es, ep, hidT_get e (free e fun n z => by rw [d] at z; cases z), d, r⟩
  have kOf : K.In (hidT s.heap H) := fun b o e => by
    refine hidT_get (KX b o e) (Classical.byContradiction fun q => ?_)
    have e1 := hA b q
    rw [e1] at e q
    rw [hK q] at e
    cases e
  have env : Env0 P w0 K mg (hidT s.heap H) callerA [] s H :=
    { frames := rfl, mod := ⟨kOf, nsOf hns, ⟨mb, nsOf hb, hbb⟩, let ⟨mc, h1, h2⟩ := hlim; ⟨mc, nsOf h1, h2⟩⟩, bs := fun b o e => of_hidT e, bsz := Nat.le_of_eq (hidT_size _ _), funs := trivial, frf := fun b hb => (nomatch hb), hok := hok, bare := .of_eq hg }
  refine codeAny_mono ((F _ kOf (nsOf hns)).run callerA [] s H ⟨[.ref a], []⟩ [.ref a] [.ref a] _ _ hr rfl env (hbind s (.ref a)) (.cons rfl .nil) hsp) fun r s' h => ?_
  cases r with
  | error e => exact (hC e s' h).elim
  | ok fl =>
    cases fl with
    | ret u =>
      obtain ⟨v, H', os, bare, un, hok', r', q⟩ := h
      obtain rfl : v = .bl true := q
      obtain rfl : u = Value.bool true := r'
      refine ⟨rfl, OldK.of_keep fun b o e => ?_, os, bare⟩
      rcases hO b with z | ⟨ob, xs, z⟩
      · exact un.keep b o e z (fun y => (nomatch y)) (fun y => (nomatch y))
      · obtain ⟨e1, _⟩ := hok b _ z
        rw [e] at e1
        cases e1
        exact (hok' b _ (un.frzs b o _ z)).1
    | next => exact False.elim h
    | brk => exact False.elim h
    | cont => exact False.elim h
/-- the end of a law's row -/
theorem walk_G {l : PySem.W.OpenLaw} {n k : Nat} {q : Program} {loose : List Str} {XP : (Str → Option Value) → Heap → Prop} {YP : World → Heap → Prop} {d : DefRec} {C : CXT} {x : Str}
    (hn : l.most = some n) (hn2 : n ≤ sizeLine) (hdf : d.params.defaults = []) (hr : Room k callerA)
    (F : ∀ (w0 : World) (mg : Str → Option Value) (fa : Addr) (h : Heap), YP w0 h → h.Ns mainGlobals mg → mg d.name = some (.ref fa) →
      ∃ (K : PySem.W.Frag) (fd : FuncData) (sp : Sp), K.In h ∧ (∀ (s : Shared) (u : Value), BindsTo s fd ⟨[u], []⟩ [(x, u)]) ∧
        (∀ (H : Hp) (a : Addr) (ns : List Int), ns.length ≤ n → Only H → SqL K H a (ns.map V.int) → sp [.ref a] H (fun v _ => v = .bl true) fun _ _ _ => False) ∧
        ∀ base : Heap, K.In base → base.Ns mainGlobals mg → FnG l.prog w0 K mg base C k fa fd [x] sp)
    (hC : ∀ (H : Hp) (s : Shared) (e : Value) (s' : Shared), C [] H s (fun _ _ _ => False) e s' → False) : PySem.W.WalkO q loose XP YP l.row.toRowW d [] (fun f vs => PySem.call f vs) := by
  refine Att.attach_call hn hdf fun w0 s₀ s mg mb fa o pm cd doc a vs ns G Y ho hd hcd hmg hobj hints hlen hg => ?_
  obtain ⟨K, fd, sp, KX, hb, hsp, hF⟩ := F w0 mg fa _ Y G.T.g hmg
  have rv := vals_ints hints
  have hz : ns.length ≤ sizeLine := Nat.le_trans hlen hn2
  have lenV := hints.length
  cases hk : K.lookup a with
  | some ob =>
    have e := KX a ob hk
    rw [hobj] at e
    cases e
    have hO : Only fun _ => none := fun _ => .inl rfl
    exact entry KX G.T.g G.T.b G.T.builtins G.T.nolimit hg hobj hr hF hb (fun _ => none) hO (fun b u z => (nomatch z)) (fun b z => absurd rfl z) (fun z => absurd rfl z)
      (hsp _ a ns hlen hO (.inr ⟨_, vs.toArray, _, hk, rfl, rfl, rfl, by rw [List.size_toArray, lenV]; exact hz, by simpa using rv⟩)) (hC _ s)
  | none =>
    have here : scr a { cls := .type "list", data := .seq vs.toArray } ns a = some (.frz { cls := .type "list", data := .seq vs.toArray } (.lst (ns.map V.int))) := if_pos rfl
    have off : ∀ b, b ≠ a → scr a { cls := .type "list", data := .seq vs.toArray } ns b = none := fun b hb => if_neg hb
    have hO : Only (scr a { cls := .type "list", data := .seq vs.toArray } ns) := fun b => by
      by_cases hb : b = a
      · rw [hb]; exact .inr ⟨_, _, here⟩
      · exact .inl (off b hb)
    refine entry KX G.T.g G.T.b G.T.builtins G.T.nolimit hg hobj hr hF hb _ hO (fun b u z => ?_) (fun b z => Classical.byContradiction fun hb => z (off b hb)) (fun _ => hk) (hsp _ a ns hlen hO (.inl (.inr ⟨_, here⟩))) (hC _ s)
    by_cases hb : b = a
    · subst hb
      rw [here] at z
      cases z
      exact ⟨hobj, by rw [List.length_map]; exact hz, vs, _, rv, hobj⟩
    · rw [off b hb] at z
      cases z
end DL
/-! DN, part a: an exception that is caught and kept: try: .. except X as n: suite; what was caught lies frozen behind it. -/
namespace DL
open PySem PySem.Spec PyProof.Rows L2

/-- the heap with a caught exception at a -/
noncomputable def frozen (H : Hp) (a : Addr) (oe : Obj) : Hp := upd H a (.frz oe (.ext (AtE a oe)))
/-- what a try asks of an exception that leaves its body -/
def wFrz (K : PySem.W.Frag) (c : Value) (i : Nat) (ts : Addr → Value → Option Addr → TS) (Wout : WX) (D : Ends) : WX := fun cls d σ H =>
  ∃ b, PySem.W.exmOne K cls c = some b ∧
    (b = true → ∀ (a : Addr) (oe : Obj), H a = none → Zc cls d oe → (∃ vs, oe.data = .fields vs) →
      ts a cls d { nx := fun σ' H' => D.nx (σ'.set i none) (frozen H' a oe), rt := fun _ _ => False } (σ.set i (some (.ref a))) H) ∧
    (b = false → Wout cls d σ H)
/-- an entry more -/
theorem inv_upd {X : Cx} {pins : List (Addr × Obj)} {σ : L2.St} {H : Hp} {s : Shared} {p : Addr} {o : HO} (J : L2.Inv X pins σ H s) (ho : ObjOk X.prog X.w (upd H p o) s.heap p o)
    (hp : H p = none ∧ X.s_0.heap.get? p = none ∧ p ≠ X.env.locals ∧ (∀ (x : Str) (c : Addr), X.env.cells.lookup x = some c → c ≠ p) ∧ ∀ q ∈ X.pn ++ pins, q.1 ≠ p) : L2.Inv X pins σ (upd H p o) s := by
  obtain ⟨hp, hn, nL, nc, np⟩ := hp
  have h1 : ∀ b u, H b = some u → upd H p o b = some u := fun b u e => by
    rw [upd_ne fun z => by rw [z, hp] at e; cases e]
    exact e
  have h2 : ∀ b, H b = none → b ≠ p → upd H p o b = none := fun b e hb => by rw [upd_ne hb]; exact e
  refine ⟨J.ok, J.os, J.bare, ⟨J.base.keep, J.base.slot, fun b u e hb hx => ?_, J.base.there, fun b xs e => h1 b _ (J.base.tups b xs e), fun b u v e => h1 b _ (J.base.frzs b u v e), fun b ps e => ?_⟩, J.loc, J.cell, h2 _ J.free nL.symm,
    fun x c e => h2 _ (J.freeC x c e) (nc x c e), fun q hq => ?_, fun b u e => ?_, J.len⟩
  · exact h2 b (J.base.free b u e hb hx) fun y => by rw [y, hn] at e; cases e
  · obtain ⟨more, z⟩ := J.base.tbls b ps e
    exact ⟨more, h1 b _ z⟩
  · obtain ⟨q1, q2, q3, q4, q5⟩ := J.pin q hq
    exact ⟨q1, h2 _ q2 (np q hq), q3, q4, q5⟩
  · by_cases y : b = p
    · subst y
      rw [upd_same] at e
      cases e
      exact ho
    · rw [upd_ne y] at e
      exact (J.hok b u e).stay (fun _ _ _ e => e) (fun c e => h1 c _ e) (fun c xs e => h1 c _ e)
theorem frozen_ok {X : Cx} {pins : List (Addr × Obj)} {σ : L2.St} {H : Hp} {s : Shared} {a : Addr} {oe : Obj} (J : L2.Inv X pins σ H s) (he : s.heap.get? a = some oe) (hn : X.s_0.heap.get? a = none) (na : H a = none)
    (nL : a ≠ X.env.locals) (nc : ∀ (x : Str) (c : Addr), X.env.cells.lookup x = some c → c ≠ a) (np : ∀ p ∈ X.pn ++ pins, p.1 ≠ a) : L2.Inv X pins σ (frozen H a oe) s := by
  refine inv_upd J ?_ ⟨na, hn, nL, nc, np⟩
  unfold ObjOk
  refine ⟨he, ?_⟩
  unfold ObjOk
  exact ⟨he, ⟨oe, he⟩, fun h1 h2 z k => k _ z⟩
theorem ps_try_frz {X : Cx} {x n : Str} {c : Value} {i : Nat} {body suite : List Stmt} {b₀ : Stmt} {np pos pos' : Pos} {tb : WX → TS} {ts : Addr → Value → Option Addr → TS} {Wout : WX}
    (hs : X.stack = X.env :: X.outer) (hf : X.env.frame = some X.env.locals) (hex : X.ex = []) (hN : X.N.Nodup) (hi : X.N[i]? = some n) (hln : X.env.kindOf n = some .local) (hc : Names X x c) (tk : Takes X Wout)
    (hb : ∀ (W : WX) (pn : List (Addr × Obj)) (xe : Value → Shared → Prop), Takes (X.tr pn xe) W → PassesOwn (model X.prog X.w) X.A X.env xe → PSs (X.tr pn xe) body (tb W))
    (hsu : ∀ (a : Addr) (oe : Obj) (cls : Value) (d : Option Addr) (pn : List (Addr × Obj)), Zc cls d oe → (∃ vs, oe.data = .fields vs) → PSs (X.suite a ((a, oe) :: pn)) (b₀ :: suite) (ts a cls d)) :
    PS X (.Try body [.ExceptHandler (some (.Name x np)) (some n) (b₀ :: suite) pos'] [] [] pos) (fun D σ H => tb (wFrz X.K c i ts Wout D) D σ H) := ⟨fun pins s σ H D I h => by
  have ok := I.ok
  have hfr : X.A.frames = some (X.env :: X.outer) := by rw [ok.frames, hs]
  have hloc : L2.Loc X.env.scope n := .inl hln
  refine wpAny_Try_except (wpAny_mono ((hb (wFrz X.K c i ts Wout D) (X.pn ++ pins) (fun e s₁ => wpAny (model X.prog X.w) X.A (noteFrame e X.env) (fun _ s₂ => wpAny (model X.prog X.w) X.A (setFlight e none)
    (fun _ s₃ => wpAny (model X.prog X.w) X.A (handleBy e X.env [.ExceptHandler (some (.Name x np)) (some n) (b₀ :: suite) pos']) (SP X pins D) X.xe s₃) X.xe s₂) X.xe s₁) (fun u s' xx => ?_) PassesOwn.looking).run [] s σ H D (I.toTry _) h) (fun f s1 hsp => ?_) fun e s1 he => he)
  · obtain ⟨a, B, sI, pins', σ', H', cls, d, rfl, J', nb, up, sky, na, os, ag, b, hb1, hyes, hno⟩ := xx
    have J : L2.Inv X pins σ' H' sI := J'.ofTry ok
    have sky' : Sky B (X.env :: X.outer) a (Zc cls d) X.env.locals s'.heap := by rw [← hs]; exact sky
    refine Sky.land Zc.steady hfr hf sky' fun h3 fl3 up3 => ?_
    have J3 := J.landed (s' := { s' with heap := h3 }) nb fl3.1 (up.trans up3) os ag
    obtain ⟨oe3, vs3, he3, hz3, hd3⟩ := fl3.there
    have nfr : a ∉ frs (X.env :: X.outer) := fun hm => by
      obtain ⟨_, o', e', hnf⟩ := fl3.2.2.1.mem hm
      rw [he3] at e'
      cases e'
      exact hnf _ hd3
    have nL : a ≠ X.env.locals := fun z => nfr (List.mem_filterMap.mpr ⟨X.env, List.mem_cons_self, by rw [hf, z]⟩)
    have nF : a ∉ X.fs := fun hm => by
      obtain ⟨e, he, q⟩ := List.mem_filterMap.mp hm
      exact nfr (List.mem_filterMap.mpr ⟨e, List.mem_cons_of_mem _ he, q⟩)
    have S3 := J3.suite he3 hd3 na nL nF
    have nI : sI.heap.get? a = none := by
      cases e : sI.heap.get? a with
      | none => rfl
      | some o =>
        have z := nb a o e (by rw [hs]; exact nfr)
        rw [fl3.2.1] at z
        cases z
    have n0 : X.s_0.heap.get? a = none := by
      cases e : X.s_0.heap.get? a with
      | none => rfl
      | some o =>
        obtain ⟨o', z⟩ := J.base.there a o e (by rw [hex]; intro z; cases z)
        rw [nI] at z
        cases z
    have nc : ∀ (x : Str) (c : Addr), X.env.cells.lookup x = some c → c ≠ a := fun x c e z => by
      obtain ⟨v, o, q, _⟩ := J.cell x c e
      rw [z, nI] at q
      cases q
    have npn : ∀ p ∈ X.pn ++ pins, p.1 ≠ a := fun p hp z => by
      have q := (J.pin p hp).1
      rw [z, nI] at q
      cases q
    refine wpAny_handleBy_cons (codeAny_handlers_test ?_) (fun q => by cases q)
    have LM := PySem.W.exm_one (M := model X.prog X.w) (c := c) (cls := cls) (e := a) (b := b) J3.kIn (fun A Q E s k q => wpAny_typeOf_ref (k a oe3 he3) (by rw [hz3.1]; exact q)) hb1
    have test : ∀ {Q : Value → Shared → Prop} {E : Value → Shared → Prop}, Q c { s' with heap := h3 } → wpAny (model X.prog X.w) (X.A.mark (some (.ref a))) (eval (.Name x np) X.env) Q E { s' with heap := h3 } := fun {Q E} q => by
      obtain ⟨hg, hdbg, hm | ⟨hm, hv, hnn⟩⟩ := hc
      · exact ld_glob S3 hg hm q hdbg
      · exact ld_blt S3 hg hm hv q hnn hdbg
    refine test (LM.here ?_)
    cases b with
    | false =>
      refine wpAny_handleBy_nil ?_
      obtain ⟨k1, k2, k3, oe, vs, T, oT, ts', he, hz, hd, h1, hr⟩ := id fl3
      refine wpAny_bind (wpAny_field he hd h1 ?_)
      rw [if_neg (by simp)]
      refine wpAny_bind ?_
      rw [hf]
      refine HandSPX.setFlight_upZ fl3 fun h4 hh4 up4 => wpAny_throw (tk _ _ ⟨a, B, sI, pins, σ', H', cls, d, rfl, J, nb, (up.trans up3).trans up4, .inr (.inr (by rw [hs]; exact hh4)), na, os, ag, hno rfl⟩)
    | true =>
      refine codeAny_handlers_suite_as (HandSPX.lands_againZ fl3 fun h4 fl4 up4 => ?_)
      have J4 := J.landed (s' := { s' with heap := h4 }) nb fl4.1 ((up.trans up3).trans up4) os ag
      obtain ⟨oe4, vs4, he4, hz4, hd4⟩ := fl4.there
      have S4 := J4.suite he4 hd4 na nL nF
      refine store_ok (X := X.suite a ((a, oe4) :: (X.pn ++ pins))) (v := .ref a) S4 hN hi hloc rfl (fun s5 S5 => ?_) (.inr hln)
      refine wpAny_mono ((hsu a oe4 cls d (X.pn ++ pins) hz4 ⟨vs4, hd4⟩).run [] s5 _ H' _ S5 (hyes rfl a oe4 na hz4 ⟨vs4, hd4⟩)) (fun f s6 hsp => ?_) (fun _ _ z => z.elim)
      cases f with
      | next =>
        obtain ⟨σ6, H6, S6, q6⟩ := hsp
        have pin := S6.pin (a, oe4) (by simp)
        have J6 := frozen_ok (S6.unsuite ok) pin.1 n0 pin.2.1 nL nc npn
        exact gone_ok J6 hN hi hln fun s7 J7 => ⟨_, _, J7, q6⟩
      | brk => obtain ⟨σ6, H6, S6, q6⟩ := hsp; exact q6.elim
      | cont => obtain ⟨σ6, H6, S6, q6⟩ := hsp; exact q6.elim
      | ret u => obtain ⟨v6, σ6, H6, S6, r6, q6⟩ := hsp; exact q6.elim
  · cases f with
    | next =>
      obtain ⟨σ', H', J', q⟩ := hsp
      exact wpAny_execs_nil ⟨σ', H', J'.ofTry ok, q⟩
    | brk => obtain ⟨σ', H', J', q⟩ := hsp; exact ⟨σ', H', J'.ofTry ok, q⟩
    | cont => obtain ⟨σ', H', J', q⟩ := hsp; exact ⟨σ', H', J'.ofTry ok, q⟩
    | ret u => obtain ⟨v, σ', H', J', r, q⟩ := hsp; exact ⟨v, σ', H', J'.ofTry ok, r, q⟩⟩
end DL
/-! DL, part b: expressions: names, constants, operators, comparisons, tests. -/
namespace DL
open PySem PySem.Spec PyProof.Rows L2

def Out.ofO {α : Type} : Option (α × Sto) → Out α
  | some (a, S) => .ok a S
  | none => .no
abbrev DenE := Fr → Sto → Out D
abbrev DenT := Fr → Sto → Out Bool
abbrev DenA := Fr → Sto → Out (List D)
abbrev DenS := Fr → Sto → OutS

section
variable {g : Gnd} {W : WX} {σ : St} {H : Hp}
/-- a value of R1 has come, k goes on -/
def K1 {α β γ δ : Type} (g : Gnd) (W : WX) (R1 : Wd → α → β → Prop) (R : Wd → γ → δ → Prop) (σ : St) (k : α → Fr → Sto → Out γ) (Q : δ → Hp → Prop) (x : β) (H1 : Hp) : Prop :=
  ∃ w S fr a, w.H = H1 ∧ SOk g w S ∧ FrOk g w fr σ ∧ R1 w a x ∧ Post g w R (k a fr S) Q (fun c d H' => W c d σ H')
theorem tG_mono {α β : Type} {R : Wd → α → β → Prop} {f : Fr → Sto → Out α} {Q Q' : β → Hp → Prop} (h : tG g W R f σ H Q) (k : ∀ b H', Q b H' → Q' b H') : tG g W R f σ H Q' := by
  obtain ⟨w, S, fr, e, so, fo, p⟩ := h
  refine ⟨w, S, fr, e, so, fo, ?_⟩
  cases q : f fr S with
  | ok a S1 =>
    rw [q] at p
    exact fun w1 b st so1 r => k _ _ (p w1 b st so1 r)
  | ex e S1 =>
    rw [q] at p
    exact p
  | no =>
    rw [q] at p
    exact p
theorem lift1 {α β γ δ : Type} {R1 : Wd → α → β → Prop} {R : Wd → γ → δ → Prop} {f : Fr → Sto → Out α} {k : α → Fr → Sto → Out γ} {Q : δ → Hp → Prop}
    (h : tG g W R (fun fr S => (f fr S).bnd fun a S' => k a fr S') σ H Q) : tG g W R1 f σ H (K1 g W R1 R σ k Q) := by
  obtain ⟨w, S, fr, e, so, fo, p⟩ := h
  refine ⟨w, S, fr, e, so, fo, ?_⟩
  have p : Post g w R ((f fr S).bnd fun a S' => k a fr S') Q (fun c d H' => W c d σ H') := p
  cases q : f fr S with
  | ok a S1 =>
    rw [q] at p
    intro w1 b st so1 r
    exact ⟨w1, S1, fr, a, rfl, so1, fo.mono st.toMono, r, Post.step st p⟩
  | ex e S1 =>
    rw [q] at p
    exact p
  | no =>
    rw [q] at p
    exact p
theorem lift1L {γ δ : Type} {R : Wd → γ → δ → Prop} {f : Fr → Sto → Out (List D)} {k : List D → Fr → Sto → Out γ} {Q : δ → Hp → Prop}
    (h : tG g W R (fun fr S => (f fr S).bnd fun a S' => k a fr S') σ H Q) (Q' : VK) (hq : ∀ v H', K1 g W (RepT g) R σ k Q v H' → Q' v H') : tL g W f σ H Q' := by
  obtain ⟨w, S, fr, e, so, fo, p⟩ := h
  refine ⟨w, S, fr, e, so, fo, ?_⟩
  have p : Post g w R ((f fr S).bnd fun a S' => k a fr S') Q (fun c d H' => W c d σ H') := p
  cases q : f fr S with
  | ok a S1 =>
    rw [q] at p
    intro w1 b st so1 _ r
    exact hq _ _ ⟨w1, S1, fr, a, rfl, so1, fo.mono st.toMono, r, Post.step st p⟩
  | ex e S1 =>
    rw [q] at p
    exact p
  | no =>
    rw [q] at p
    exact p
/-- what was evaluated stays known -/
abbrev Stays {α β : Type} (R1 : Wd → α → β → Prop) : Prop := ∀ w w' a x, Step w w' → R1 w a x → R1 w' a x
def K2 {α β α' β' γ δ : Type} (g : Gnd) (W : WX) (R1 : Wd → α → β → Prop) (R2 : Wd → α' → β' → Prop) (R : Wd → γ → δ → Prop) (σ : St) (k : α → α' → Fr → Sto → Out γ) (Q : δ → Hp → Prop) (x : β) (y : β') (H1 : Hp) : Prop :=
  K1 g W (fun w (p : α × α') (q : β × β') => R1 w p.1 q.1 ∧ R2 w p.2 q.2) R σ (fun p => k p.1 p.2) Q (x, y) H1
theorem next1 {α β α' β' γ δ : Type} {R1 : Wd → α → β → Prop} {R2 : Wd → α' → β' → Prop} {R : Wd → γ → δ → Prop} {f' : Fr → Sto → Out α'} {k : α → α' → Fr → Sto → Out γ} {Q : δ → Hp → Prop} (hm : Stays R1) {x : β}
    (h : K1 g W R1 R σ (fun a fr S => (f' fr S).bnd fun b S' => k a b fr S') Q x H) : tG g W R2 f' σ H fun y H2 => K2 g W R1 R2 R σ k Q x y H2 := by
  obtain ⟨w, S, fr, a, e, so, fo, r1, p⟩ := h
  refine ⟨w, S, fr, e, so, fo, ?_⟩
  cases q : f' fr S with
  | ok b S1 =>
    have p : Post g w R ((f' fr S).bnd fun b S' => k a b fr S') Q (fun c d H' => W c d σ H') := p
    rw [q] at p
    intro w1 y st so1 r
    exact ⟨w1, S1, fr, (a, b), rfl, so1, fo.mono st.toMono, ⟨hm _ _ _ _ st r1, r⟩, Post.step st p⟩
  | ex e S1 =>
    have p : Post g w R ((f' fr S).bnd fun b S' => k a b fr S') Q (fun c d H' => W c d σ H') := p
    rw [q] at p
    exact p
  | no =>
    have p : Post g w R ((f' fr S).bnd fun b S' => k a b fr S') Q (fun c d H' => W c d σ H') := p
    rw [q] at p
    exact p
theorem Stays.and {α β α' β' : Type} {R1 : Wd → α → β → Prop} {R2 : Wd → α' → β' → Prop} (h1 : Stays R1) (h2 : Stays R2) : Stays (fun w (p : α × α') (q : β × β') => R1 w p.1 q.1 ∧ R2 w p.2 q.2) :=
  fun w w' a x st r => ⟨h1 _ _ _ _ st r.1, h2 _ _ _ _ st r.2⟩
theorem lift2 {α β α' β' γ δ : Type} {R1 : Wd → α → β → Prop} {R2 : Wd → α' → β' → Prop} {R : Wd → γ → δ → Prop} {f : Fr → Sto → Out α} {f' : Fr → Sto → Out α'} {k : α → α' → Fr → Sto → Out γ} {Q : δ → Hp → Prop}
    (hm : Stays R1) (h : tG g W R (fun fr S => (f fr S).bnd fun a S' => (f' fr S').bnd fun b S'' => k a b fr S'') σ H Q) :
    tG g W R1 f σ H fun x H1 => tG g W R2 f' σ H1 fun y H2 => K2 g W R1 R2 R σ k Q x y H2 := tG_mono (lift1 h) fun x H1 q => next1 hm q
theorem rmono {w w' : Wd} {a : D} {x : V} (s : Step w w') (r : Rep g w a x) : Rep g w' a x := Rep.mono s.toMono _ _ r
theorem Post.ofO {α β : Type} {w : Wd} {R : Wd → α → β → Prop} {o : Option (α × Sto)} {Q : β → Hp → Prop} {E E' : XK} (p : Post g w R (.ofO o) Q E) : Post g w R (.ofO o) Q E' := by
  cases o with
  | none => exact p
  | some q => exact p
/-- one more reading -/
theorem PE_or {X : Cx} {e : Expr} {t t' : TE} (h : PE X e t) (h' : PE X e t') : PE X e (fun σ H Q => t σ H Q ∨ t' σ H Q) :=
  ⟨fun pins s σ H Q I q => q.elim (h.run pins s σ H Q I) (h'.run pins s σ H Q I)⟩
theorem PS_or {X : Cx} {e : Stmt} {t t' : TS} (h : PS X e t) (h' : PS X e t') : PS X e (fun D σ H => t D σ H ∨ t' D σ H) :=
  ⟨fun pins s σ H D I q => q.elim (h.run pins s σ H D I) (h'.run pins s σ H D I)⟩
theorem PI_or {X : Cx} {tg e : Expr} {t t' : TI} (h : PI X tg e t) (h' : PI X tg e t') : PI X tg e (fun σ H Q => t σ H Q ∨ t' σ H Q) :=
  ⟨fun pins s σ H Q I q => q.elim (h.run pins s σ H Q I) (h'.run pins s σ H Q I)⟩
end

/-! ### names and constants -/
def dVar (i : Nat) : DenE := fun fr S => match fr[i]? with
  | some (some d) => .ok d S
  | _ => .no
def dC (d : D) : DenE := fun _ S => .ok d S
section
variable {X : Cx} {W : WX} {g : Gnd}
theorem de_var {i : Nat} {e : Expr} (h : PE X e (tVar i)) : PE X e (tE g W (dVar i)) := by
  refine PE.weaken h fun σ H Q q => ?_
  obtain ⟨w, S, fr, rfl, so, fo, p⟩ := q
  unfold dVar at p
  split at p
  · rename_i d e
    obtain ⟨v, e1, r⟩ := fo.at_ i d e
    exact ⟨v, e1, p w v (Step.refl so) so r⟩
  · exact p.elim
/-- a value that hangs on nothing -/
theorem de_con {d : D} {v : V} {e : Expr} (hr : ∀ w, Rep g w d v) (h : PE X e (tC v)) : PE X e (tE g W (dC d)) := by
  refine PE.weaken h fun σ H Q q => ?_
  obtain ⟨w, S, fr, rfl, so, fo, p⟩ := q
  exact p w v (Step.refl so) so (hr w)
end

/-! ### two-place operators -/
abbrev F2 := D → D → Sto → Option (D × Sto)
def dOp (f : F2) (a b : DenE) : DenE := fun fr S => (a fr S).bnd fun x S' => (b fr S').bnd fun y S'' => .ofO (f x y S'')
/-- f, by values -/
def r2 (g : Gnd) (f : F2) : R2 := fun x y H Q => ∃ w S a b, w.H = H ∧ SOk g w S ∧ Rep g w a x ∧ Rep g w b y ∧ Post g w (Rep g) (.ofO (f a b S)) Q (fun _ _ _ => False)
section
variable {X : Cx} {W : WX} {g : Gnd} {a b : Expr} {fa fb : DenE} {f : F2} {pos : Pos}
theorem lift_op {σ : St} {H : Hp} {Q : VK} (h : tE g W (dOp f fa fb) σ H Q) : tOp (r2 g f) (tE g W fa) (tE g W fb) σ H Q := by
  refine tG_mono (lift2 (R1 := Rep g) (R2 := Rep g) (R := Rep g) (k := fun x y fr S => .ofO (f x y S)) (fun _ _ _ _ s r => rmono s r) h) fun x H1 h1 => tG_mono h1 fun y H2 h2 => ?_
  obtain ⟨w, S, fr, p, e, so, fo, ⟨rx, ry⟩, q⟩ := h2
  exact ⟨w, S, p.1, p.2, e, so, rx, ry, Post.ofO q⟩
theorem de_op {op : Operator} (ho : OpR X (binaryOp op) (r2 g f)) (ha : PE X a (tE g W fa)) (hb : PE X b (tE g W fb)) : PE X (.BinOp a op b pos) (tE g W (dOp f fa fb)) :=
  PE.weaken (pe_op ho ha hb) fun _ _ _ h => lift_op h
theorem de_cmp {op : CmpOp} (ho : OpR X (compareOp op) (r2 g f)) (ha : PE X a (tE g W fa)) (hb : PE X b (tE g W fb)) (hm : behindInMarks op b = false) : PE X (.Compare a [op] [b] pos) (tE g W (dOp f fa fb)) :=
  PE.weaken (pe_cmpR ho ha hb hm) fun _ _ _ h => lift_op h
end
end DL
/-! DM, part d: tuple * int, list * int. -/
namespace DMd
open PySem PySem.Spec PyProof.Rows L2
section
variable (l : Addr) (items : Array Value) (n : Nat) (dd : Option Addr) (sl : Array (Option Value)) (u : Tok)
theorem once (hne : items.isEmpty = false) : Meets (Builtin.«tuple.__mul__» ⟨[.ref l, .int 1 u], []⟩) (fun _ R s => s.heap.get? l = some { cls := .type "tuple", dict := dd, data := .seq items n, slots := sl } ∧ R (.ok (.ret (.ref l))) s) :=
  .of_wp fun prog w A R s h => by
    obtain ⟨hp, g, d, tk, os⟩ := s
    obtain ⟨hl, h⟩ := h
    have f1 := AutoSeq1.idx_int
    wp_walk using wpAny_loadPart' hl
    repeat (first
      | (refine wpAny_ite_false (decide_eq_false (by simp)) ?_; wp_walk using wpAny_loadPart' hl)
      | (refine wpAny_ite_true (decide_eq_true (by simp)) ?_; wp_walk using wpAny_loadPart' hl))
    exact ⟨_, rfl, h⟩
theorem none_ (x : Int) (hx : -(2 ^ 63) ≤ x) (h0 : x ≤ 0) (hne : items.isEmpty = false) : Meets (Builtin.«tuple.__mul__» ⟨[.ref l, .int x u], []⟩) (fun _ R s => s.heap.get? l = some { cls := .type "tuple", dict := dd, data := .seq items n, slots := sl } ∧
      R (.ok (.ret (.ref s.heap.objs.size))) { s with heap := s.heap.push { cls := Value.type "tuple", data := Data.seq #[] }, toks := s.toks }) :=
  .of_wp fun prog w A R s h => by
    obtain ⟨hp, g, d, tk, os⟩ := s
    obtain ⟨hl, h⟩ := h
    have f1 := AutoSeq1.idx_int
    have c0 : (decide (x < -(2 ^ 63)) || decide (x ≥ 2 ^ 63)) = false := by
      rw [decide_eq_false (by omega), decide_eq_false (by omega)]; rfl
    have c1 : (items.isEmpty || x == 1) = false := by
      rw [hne, Bool.false_or]
      exact beq_eq_false_iff_ne.mpr (by omega)
    have c2 : (decide (x ≤ 0) || items.isEmpty) = true := by rw [decide_eq_true h0]; rfl
    wp_walk using wpAny_loadPart' hl
    repeat (first
      | (refine wpAny_ite_false (decide_eq_false (by rw [c0]; exact Bool.false_ne_true)) ?_; wp_walk using wpAny_loadPart' hl)
      | (refine wpAny_ite_false (decide_eq_false (by rw [c1]; exact Bool.false_ne_true)) ?_; wp_walk using wpAny_loadPart' hl)
      | (refine wpAny_ite_true (decide_eq_true c2) ?_; wp_walk using wpAny_loadPart' hl))
    exact ⟨_, rfl, h⟩
end
/-- tuple * k, k not negative -/
def rMulT (K : PySem.W.Frag) : R2 := fun x y H Q => ∃ l k xs, x = .ref l ∧ y = .int k ∧ SqT K H l xs ∧ xs ≠ [] ∧ 0 ≤ k ∧ k ≤ 1000 ∧ xs.length ≤ 1000 ∧ (k = 1 → Q (.ref l) H) ∧ (k ≠ 1 → ∀ p, H p = none → Q (.ref p) (upd H p (.tup (List.replicate k.toNat xs).flatten)))
theorem op_mulT {X : Cx} : OpR X (binaryOp .Mult) (rMulT X.K) := by
  intro pins s σ H x y v u Q I rx ry h
  obtain ⟨l, k, xs, rfl, rfl, hT, hne, h1, h2, hz, q1, q2⟩ := h
  by_cases hk : 2 ≤ k
  · exact op_repT pins s σ H _ _ v u Q I rx ry ⟨l, k, xs, rfl, rfl, hT, hne, hk, h2, hz, q2 (by omega)⟩
  · cases rx
    obtain ⟨t, rfl⟩ := ry
    obtain ⟨its, r, ⟨⟨cls, dd, data, sl⟩, ho, hc, n, hd⟩, hs⟩ := I.tuple hT
    simp only at hc hd
    subst hc hd
    have hi : its.toArray.isEmpty = false := by
      cases r with
      | nil => exact absurd rfl hne
      | cons a b => rfl
    by_cases hk1 : k = 1
    · subst hk1
      exact wpAny_binaryOp_repeat_ref (T := "tuple") (U := "int") (by decide) ⟨_, ho, rfl⟩ (fun s' => typeIs_int s' 1 t) noFill_tuple_mul F.fills_int_mul F.slot_int_rmul repeat_tuple F.slot_int_index.lookup
        (call_meets F.slot_int_rmul (typeIs_int s 1 t) F.entry_int_rmul (F.args_int_rmul_2 _ _) (int_rmul_tuple 1 t l its.toArray n dd sl)
          ⟨ho, rfl, ⟨_, ho, rfl⟩, call_meets F.slot_tuple_mul ⟨_, ho, rfl⟩ F.entry_tuple_mul (F.args_tuple_mul_2 _ _) (once l its.toArray n dd sl t hi) ⟨ho, ⟨.ref l, _, I, rfl, q1 rfl⟩⟩⟩)
    · obtain rfl : k = 0 := by omega
      refine wpAny_binaryOp_repeat_ref (T := "tuple") (U := "int") (by decide) ⟨_, ho, rfl⟩ (fun s' => typeIs_int s' 0 t) noFill_tuple_mul F.fills_int_mul F.slot_int_rmul repeat_tuple F.slot_int_index.lookup
        (call_meets F.slot_int_rmul (typeIs_int s 0 t) F.entry_int_rmul (F.args_int_rmul_2 _ _) (int_rmul_tuple 0 t l its.toArray n dd sl)
          ⟨ho, rfl, ⟨_, ho, rfl⟩, call_meets F.slot_tuple_mul ⟨_, ho, rfl⟩ F.entry_tuple_mul (F.args_tuple_mul_2 _ _) (none_ l its.toArray n dd sl t 0 (by decide) (by decide) hi) ⟨ho, ?_⟩⟩)
      exact ⟨.ref s.heap.objs.size, _, I.laid (t' := s.toks) (o := .tup []) (fun b ob q => Heap.get?_push_of_some _ q) (Nat.le_refl _) ⟨Nat.zero_le _, [], .nil, IsTup.new _ _⟩, rfl, q2 (by decide) _ (I.hok.fresh (Nat.le_refl _))⟩
end DMd
/-! DL, part c: the operators by data. -/
namespace DL
open PySem PySem.Spec PyProof.Rows L2

/-! ### + -/
def aAdd : F2 := fun a b S => match a, b with
  | .int i, .int j => some (.int (i + j), S)
  | .int i, .bl k => some (.int (i + b2i k), S)
  | .str x, .str y => if x.length + y.length ≤ sizeLine then some (.str (x ++ y), S) else none
  | .tup xs, .tup ys => if xs.length + ys.length ≤ sizeLine then some (.tup (xs ++ ys), S) else none
  | .ob i, .ob j => match S[i]?, S[j]? with
    | some (.lst xs), some (.lst ys) => if xs.length + ys.length ≤ sizeLine then some (.ob S.length, S ++ [.lst (xs ++ ys)]) else none
    | _, _ => none
  | .rl xs, .ob j => match S[j]? with
    | some (.lst ys) => if xs.length + ys.length ≤ sizeLine then some (.ob S.length, S ++ [.lst (xs ++ ys)]) else none
    | _ => none
  | _, _ => none
section
variable {X : Cx} {g : Gnd}
/-- a list that is read, whatever it is -/
theorem lst_exact {pins : List (Addr × Obj)} {σ : St} {H : Hp} {s : Shared} {a : Addr} {xs : List V} (I : Inv X pins σ H s) (h : SqL X.K H a xs) :
    ∃ (its : List Value) (n : Nat) (dd : Option Addr) (sl : Array (Option Value)), Vals xs its ∧ s.heap.get? a = some ⟨.type "list", dd, .seq its.toArray n, sl⟩ ∧ xs.length ≤ sizeLine := by
  obtain ⟨its, r, ⟨⟨c, d, dt, sl⟩, n, e, h1, h2, h3⟩, z⟩ := I.list h
  simp only at h1 h2 h3
  subst h1 h2 h3
  exact ⟨its, n, _, sl, r, e, z⟩
def rCatL (K : PySem.W.Frag) : R2 := fun x y H Q => ∃ l b xs zs, x = .ref l ∧ y = .ref b ∧ SqL K H l xs ∧ SqL K H b zs ∧ xs.length + zs.length ≤ sizeLine ∧ ∀ p, H p = none → Q (.ref p) (upd H p (.lst (xs ++ zs)))
theorem op_catL : OpR X (binaryOp .Add) (rCatL X.K) := by
  intro pins s σ H x y v u Q I rx ry h
  obtain ⟨l, b, xs, zs, rfl, rfl, hH, hB, hz, q⟩ := h
  obtain rfl : v = .ref l := rx
  obtain rfl : u = .ref b := ry
  obtain ⟨its, n, dd, sl, r, e, z⟩ := lst_exact I hH
  obtain ⟨its2, n2, dd2, sl2, r2, e2, z2⟩ := lst_exact I hB
  have h1 := r.length
  have h2 := r2.length
  have gives := list_addW l b its.toArray its2.toArray n n2 dd dd2 sl sl2 (by rw [List.size_toArray, List.size_toArray]; omega)
  refine concat_meets (T := "list") ⟨_, e, rfl⟩ ⟨_, e2, rfl⟩ noFill_list_add seq_list_add PySem.F.slot_list_add
    PySem.F.entry_list_add (PySem.F.args_list_add_2 _ _) gives ⟨e, e2, ?_⟩
  have ea : its.toArray ++ its2.toArray = (its ++ its2).toArray := by simp
  rw [ea]
  exact ⟨.ref _, _, I.lnew (t' := s.toks) (r.append r2) (by rw [List.length_append]; omega), rfl, q _ I.fresh⟩
theorem SOk.sql {w : Wd} {S : Sto} (so : SOk g w S) {i : Nat} {xs : List D} (e : S[i]? = some (.lst xs)) : ∃ vs, w.H (w.m i) = some (.lst vs) ∧ Reps g w xs vs ∧ xs.length ≤ sizeLine := by
  obtain ⟨h, e2, r⟩ := so.ob i _ e
  cases r with
  | lst l r => exact ⟨_, e2, r, l⟩
theorem opr_add : OpR X (binaryOp .Add) (r2 ⟨X.K, X.mg, X.w⟩ aAdd) := by
  intro pins s σ H x y v u Q I rx ry h
  obtain ⟨w, S, a, b, rfl, so, ra, rb, p⟩ := h
  have stp := Step.refl so
  unfold aAdd at p
  split at p
  · cases ra; cases rb
    exact op_add pins s σ _ _ _ v u Q I rx ry ⟨_, _, rfl, rfl, p w _ stp so (.int _)⟩
  · cases ra; cases rb
    exact op_add_ib pins s σ _ _ _ v u Q I rx ry ⟨_, _, rfl, rfl, p w _ stp so (.int _)⟩
  · cases ra; cases rb
    split at p
    · rename_i hl
      exact op_add_str pins s σ _ _ _ v u Q I rx ry ⟨_, _, rfl, rfl, hl, p w _ stp so (.str _)⟩
    · exact p.elim
  · cases ra with
    | tup ta la ra =>
      cases rb with
      | tup tb lb rb =>
        split at p
        · rename_i hl
          have l1 := ra.length
          have l2 := rb.length
          refine op_catA pins s σ _ _ _ v u Q I rx ry ⟨_, _, _, _, rfl, rfl, ta, tb, by omega, fun e => ?_, fun _ e => ?_, fun _ _ q hq => ?_⟩
          · subst e
            cases ra
            exact p w _ stp so (.tup tb lb rb)
          · subst e
            cases rb
            rw [List.append_nil] at p
            exact p w _ stp so (.tup ta la ra)
          · obtain ⟨st, so', _⟩ := Step.put so hq (.tup _)
            exact p _ _ st so' (.tup (SqT.of upd_same) (by rw [List.length_append]; exact hl) (Reps.mono st.toMono _ _ (ra.append rb)))
        · exact p.elim
  · cases ra; cases rb
    split at p
    · rename_i ea eb
      obtain ⟨vs, h1, r1, _⟩ := so.sql ea
      obtain ⟨us, h2, r2, _⟩ := so.sql eb
      split at p
      · rename_i hl
        have l1 := r1.length
        have l2 := r2.length
        refine op_catL pins s σ _ _ _ v u Q I rx ry ⟨_, _, _, _, rfl, rfl, SqL.of h1, SqL.of h2, by omega, fun q hq => ?_⟩
        obtain ⟨st, so', em⟩ := Step.new so hq (.lst (by rw [List.length_append]; exact hl) (r1.append r2))
        exact p _ _ st so' em
      · exact p.elim
    · exact p.elim
  · cases ra with
    | rl ta la ra =>
      cases rb
      split at p
      · rename_i eb
        obtain ⟨us, h2, r2, _⟩ := so.sql eb
        split at p
        · rename_i hl
          have l1 := ra.length
          have l2 := r2.length
          refine op_catL pins s σ _ _ _ v u Q I rx ry ⟨_, _, _, _, rfl, rfl, ta.sql, SqL.of h2, by omega, fun q hq => ?_⟩
          obtain ⟨st, so', em⟩ := Step.new so hq (.lst (by rw [List.length_append]; exact hl) (ra.append r2))
          exact p _ _ st so' em
        · exact p.elim
      · exact p.elim
  · exact p.elim
end

/-! ### ints -/
/-- two ints in, a value out -/
def iOp (f : Int → Int → Option D) : F2 := fun a b S => match a, b with
  | .int i, .int j => (f i j).map fun d => (d, S)
  | _, _ => none
instance (i j : Int) : Decidable (CMul i j) := inferInstanceAs (Decidable (_ ∨ _))
instance (i j : Int) : Decidable (CDivN i j) := inferInstanceAs (Decidable (_ ∧ _))
instance (i j : Int) : Decidable (CPow i j) := inferInstanceAs (Decidable (_ ∧ _))
def aSub : F2 := iOp fun i j => some (.int (i - j))
def aMul : F2 := fun a b S => match a, b with
  | .int i, .int j => if CMul i j then some (.int (i * j), S) else none
  | .tup xs, .int k => if xs.isEmpty = false ∧ 0 ≤ k ∧ k ≤ 1000 ∧ xs.length ≤ 1000 then some (.tup (List.replicate k.toNat xs).flatten, S) else none
  | .ob n, .int k => match S[n]? with
    | some (.lst xs) => if 0 ≤ k ∧ k ≤ 1000 ∧ xs.length ≤ 1000 then some (.ob S.length, S ++ [.lst (List.replicate k.toNat xs).flatten]) else none
    | _ => none
  | _, _ => none
def aMod : F2 := iOp fun i j => if j ≠ 0 then some (.int (i.fmod j)) else none
/-- a divisor that the layer takes -/
def DivOk (i j : Int) : Prop := CDivN i j ∨ (0 < j ∧ j.natAbs < 2 ^ 100)
instance (i j : Int) : Decidable (DivOk i j) := inferInstanceAs (Decidable (_ ∨ _))
def aFDiv : F2 := iOp fun i j => if DivOk i j then some (.int (i.fdiv j)) else none
def aPow : F2 := iOp fun i j => if CPow i j then some (.int (i ^ j.toNat)) else none
def aShl : F2 := iOp fun i j => if CPow i j then some (.int (i * 2 ^ j.toNat)) else none
section
variable {X : Cx} {g : Gnd}
theorem opr_int {f : Value → Value → Sem Value} {C : Int → Int → Prop} {k : Int → Int → Int} {q : Int → Int → Option D} (ho : OpR X f (rI C fun i j => .int (k i j))) (hq : ∀ i j d, q i j = some d → C i j ∧ d = .int (k i j)) :
    OpR X f (r2 ⟨X.K, X.mg, X.w⟩ (iOp q)) := by
  intro pins s σ H x y v u Q I rx ry h
  obtain ⟨w, S, a, b, rfl, so, ra, rb, p⟩ := h
  unfold iOp at p
  split at p
  · rename_i i j
    cases ra; cases rb
    cases e : q i j with
    | none => rw [e] at p; exact p.elim
    | some d =>
      rw [e] at p
      obtain ⟨c, rfl⟩ := hq i j d e
      exact ho pins s σ _ _ _ v u Q I rx ry ⟨i, j, rfl, rfl, c, p w _ (Step.refl so) so (.int _)⟩
  · exact p.elim
theorem opr_sub : OpR X (binaryOp .Sub) (r2 ⟨X.K, X.mg, X.w⟩ aSub) := by
  refine opr_int (C := fun _ _ => True) (k := fun i j => i - j) (fun pins s σ H x y v u Q I rx ry h => ?_) fun i j d e => ⟨trivial, (Option.some.inj e).symm⟩
  obtain ⟨i, j, e1, e2, _, q⟩ := h
  exact op_sub pins s σ H x y v u Q I rx ry ⟨i, j, e1, e2, q⟩
theorem opt_if {c : Prop} [Decidable c] {d e : D} (h : (if c then some d else none) = some e) : c ∧ e = d := by
  by_cases q : c
  · rw [if_pos q] at h
    exact ⟨q, (Option.some.inj h).symm⟩
  · rw [if_neg q] at h
    cases h
theorem Reps.rep {g : Gnd} {w : Wd} {xs : List D} {vs : List V} (r : Reps g w xs vs) : ∀ k : Nat, Reps g w (List.replicate k xs).flatten (List.replicate k vs).flatten
  | 0 => .nil
  | k + 1 => by
    rw [List.replicate_succ, List.replicate_succ, List.flatten_cons, List.flatten_cons]
    exact r.append (Reps.rep r k)
theorem rep_len {α : Type} (xs : List α) : ∀ k : Nat, (List.replicate k xs).flatten.length = k * xs.length
  | 0 => by simp
  | k + 1 => by rw [List.replicate_succ, List.flatten_cons, List.length_append, rep_len xs k, Nat.succ_mul, Nat.add_comm]
theorem opr_mul : OpR X (binaryOp .Mult) (r2 ⟨X.K, X.mg, X.w⟩ aMul) := by
  intro pins s σ H x y v u Q I rx ry h
  obtain ⟨w, S, a, b, rfl, so, ra, rb, p⟩ := h
  have stp := Step.refl so
  have small : ∀ {k : Int} {n : Nat}, 0 ≤ k → k ≤ 1000 → n ≤ 1000 → k.toNat * n ≤ sizeLine := fun {k n} h1 h2 h3 => by
    have a1 : k.toNat * n ≤ 1000 * 1000 := Nat.mul_le_mul (by omega) h3
    rw [sizeLine_eq]
    omega
  unfold aMul at p
  split at p
  · cases ra; cases rb
    split at p
    · rename_i hc
      exact op_mul pins s σ _ _ _ v u Q I rx ry ⟨_, _, rfl, rfl, hc, p w _ stp so (.int _)⟩
    · exact p.elim
  · rename_i xs k
    cases ra with
    | tup ta la ra =>
      cases rb
      split at p
      · rename_i hc
        obtain ⟨h1, h2, h3, h4⟩ := hc
        have el := ra.length
        refine DMd.op_mulT pins s σ _ _ _ v u Q I rx ry ⟨_, _, _, rfl, rfl, ta, fun e => ?_, h2, h3, by omega, fun e => ?_, fun _ q hq => ?_⟩
        · subst e
          cases ra
          cases h1
        · subst e
          have e1 : (List.replicate (Int.toNat 1) xs).flatten = xs := by simp
          rw [e1] at p
          exact p w _ stp so (.tup ta la ra)
        · obtain ⟨st, so', _⟩ := Step.put so hq (.tup _)
          exact p _ _ st so' (.tup (SqT.of upd_same) (by rw [rep_len]; exact small h2 h3 h4) (Reps.mono st.toMono _ _ (ra.rep _)))
      · exact p.elim
  · cases ra; cases rb
    split at p
    · rename_i ea
      obtain ⟨vs, h1, r1, _⟩ := so.sql ea
      split at p
      · rename_i hc
        obtain ⟨h2, h3, h4⟩ := hc
        have el := r1.length
        refine op_rep pins s σ _ _ _ v u Q I rx ry ⟨_, _, _, rfl, rfl, h1, by omega, by omega, by rw [← el, Nat.mul_comm]; exact small h2 h3 h4, fun q hq => ?_⟩
        obtain ⟨st, so', em⟩ := Step.new so hq (.lst (by rw [rep_len]; exact small h2 h3 h4) (r1.rep _))
        exact p _ _ st so' em
      · exact p.elim
    · exact p.elim
  · exact p.elim
theorem opr_mod : OpR X (binaryOp .Mod) (r2 ⟨X.K, X.mg, X.w⟩ aMod) := opr_int op_modN fun _ _ _ e => opt_if e
theorem op_fdivB : OpR X (binaryOp .FloorDiv) (rI DivOk fun i j => .int (i.fdiv j)) := by
  intro pins s σ H x y v u Q I rx ry h
  obtain ⟨i, j, rfl, rfl, hc, q⟩ := h
  rcases hc with hc | ⟨h0, h1⟩
  · exact op_fdivN pins s σ H _ _ v u Q I rx ry ⟨i, j, rfl, rfl, hc, q⟩
  · refine op_fdivW pins s σ H _ _ v u Q I rx ry ⟨i, j, rfl, rfl, wide_div h0 h1 (by decide) (by decide), ?_⟩
    have e : i.fdiv j = i / j := Int.fdiv_eq_ediv_of_nonneg i (by omega)
    show Q (.int (i / j)) H
    rw [← e]
    exact q
theorem opr_fdiv : OpR X (binaryOp .FloorDiv) (r2 ⟨X.K, X.mg, X.w⟩ aFDiv) := opr_int op_fdivB fun _ _ _ e => opt_if e
theorem opr_pow : OpR X (binaryOp .Pow) (r2 ⟨X.K, X.mg, X.w⟩ aPow) := opr_int op_pow fun _ _ _ e => opt_if e
theorem opr_shl : OpR X (binaryOp .LShift) (r2 ⟨X.K, X.mg, X.w⟩ aShl) := opr_int op_shl fun _ _ _ e => opt_if e
end
end DL
/-! DL, part d: comparisons, truth. -/
namespace DL
open PySem PySem.Spec PyProof.Rows L2

/-! ### order -/
def oOp (p : Int → Int → Bool) (q : List Nat → List Nat → Bool) : F2 := fun a b S => match a, b with
  | .int i, .int j => some (.bl (p i j), S)
  | .str x, .str y => some (.bl (q x.cps.toList y.cps.toList), S)
  | _, _ => none
def aLt : F2 := oOp (fun i j => decide (i < j)) fun x y => decide (x < y)
def aLe : F2 := oOp (fun i j => decide (i ≤ j)) fun x y => !decide (y < x)
def aGt : F2 := oOp (fun i j => decide (j < i)) fun x y => decide (y < x)
def aGe : F2 := oOp (fun i j => decide (j ≤ i)) fun x y => !decide (x < y)
section
variable {X : Cx}
theorem opr_ord {f : Value → Value → Sem Value} {p : Int → Int → Bool} {q : List Nat → List Nat → Bool} (h1 : OpR X f (rI0 fun i j => .bl (p i j)))
    (h2 : OpR X f (fun x y H Q => ∃ i j, x = .str i ∧ y = .str j ∧ Q (.bl (q i.cps.toList j.cps.toList)) H)) : OpR X f (r2 ⟨X.K, X.mg, X.w⟩ (oOp p q)) := by
  intro pins s σ H x y v u Q I rx ry h
  obtain ⟨w, S, a, b, rfl, so, ra, rb, k⟩ := h
  unfold oOp at k
  split at k
  · cases ra; cases rb
    exact h1 pins s σ _ _ _ v u Q I rx ry ⟨_, _, rfl, rfl, k w _ (Step.refl so) so (.bl _)⟩
  · cases ra; cases rb
    exact h2 pins s σ _ _ _ v u Q I rx ry ⟨_, _, rfl, rfl, k w _ (Step.refl so) so (.bl _)⟩
  · exact k.elim
theorem opr_lt : OpR X (compareOp .Lt) (r2 ⟨X.K, X.mg, X.w⟩ aLt) := opr_ord op_lt op_lt_str
theorem opr_le : OpR X (compareOp .LtE) (r2 ⟨X.K, X.mg, X.w⟩ aLe) := opr_ord op_le op_le_str
theorem opr_gt : OpR X (compareOp .Gt) (r2 ⟨X.K, X.mg, X.w⟩ aGt) := opr_ord op_gt op_gt_str
theorem opr_ge : OpR X (compareOp .GtE) (r2 ⟨X.K, X.mg, X.w⟩ aGe) := opr_ord op_ge op_ge_str
end

/-! ### data as the library's data -/
mutual
def toP (f : Nat → Option PyData) : D → Option PyData
  | .non => some .none
  | .bl b => some (.bool b)
  | .int i => some (.int i)
  | .str x => some (.str x)
  | .tup xs => (toPs f xs).map .tuple
  | .rl xs => (toPs f xs).map .list
  | .ob n => f n
  | .ty _ => none
  | .gl _ => none
  | .kd _ _ => none
  | .xo _ _ _ => none
def toPs (f : Nat → Option PyData) : List D → Option (List PyData)
  | [] => some []
  | d :: ds => match toP f d, toPs f ds with
    | some p, some ps => some (p :: ps)
    | _, _ => none
end
def obP : Nat → Sto → Nat → Option PyData
  | 0, _, _ => none
  | k + 1, S, n => match S[n]? with
    | some (.lst xs) => (toPs (obP k S) xs).map .list
    | _ => none
/-- what == sees -/
def dP (S : Sto) (d : D) : Option PyData := toP (obP 12 S) d
section
variable {g : Gnd} {w : Wd} {S : Sto}
mutual
theorem toP_ok {f : Nat → Option PyData} (hf : ∀ n p, f n = some p → n < w.n → Dp g.K w.H (.ref (w.m n)) p ∧ p.plain = true) : ∀ (d : D) (v : V) (p : PyData), Rep g w d v → toP f d = some p → Dp g.K w.H v p ∧ p.plain = true
  | .non, _, _, r, e => by cases r; cases e; exact ⟨.non, rfl⟩
  | .bl b, _, _, r, e => by cases r; cases e; exact ⟨.bl b, rfl⟩
  | .int i, _, _, r, e => by cases r; cases e; exact ⟨.int i, rfl⟩
  | .str x, _, _, r, e => by cases r; cases e; exact ⟨.str x, rfl⟩
  | .ob n, _, p, r, e => by
    cases r with
    | ob h => exact hf n p e h
  | .ty _, _, _, _, e => by cases e
  | .gl _, _, _, _, e => by cases e
  | .kd _ _, _, _, _, e => by cases e
  | .xo _ _ _, _, _, _, e => by cases e
  | .tup xs, _, _, r, e => by
    cases r with
    | tup t l r =>
      unfold toP at e
      cases q : toPs f xs with
      | none => rw [q] at e; cases e
      | some ps =>
        rw [q] at e
        cases e
        obtain ⟨h1, h2⟩ := toPs_ok hf xs _ ps r q
        exact ⟨.tup t h1, by unfold PyData.plain; exact h2⟩
  | .rl xs, _, _, r, e => by
    cases r with
    | rl t l r =>
      unfold toP at e
      cases q : toPs f xs with
      | none => rw [q] at e; cases e
      | some ps =>
        rw [q] at e
        cases e
        obtain ⟨h1, h2⟩ := toPs_ok hf xs _ ps r q
        exact ⟨.lst t.sql h1, by unfold PyData.plain; exact h2⟩
theorem toPs_ok {f : Nat → Option PyData} (hf : ∀ n p, f n = some p → n < w.n → Dp g.K w.H (.ref (w.m n)) p ∧ p.plain = true) : ∀ (ds : List D) (vs : List V) (ps : List PyData), Reps g w ds vs → toPs f ds = some ps → DpAll g.K w.H vs ps ∧ PyData.plainAll ps = true
  | [], _, _, r, e => by cases r; cases e; exact ⟨.nil, rfl⟩
  | d :: ds, _, _, r, e => by
    cases r with
    | cons r1 r2 =>
      unfold toPs at e
      split at e
      · rename_i p ps e1 e2
        cases e
        obtain ⟨a, b⟩ := toP_ok hf d _ p r1 e1
        obtain ⟨c, dd⟩ := toPs_ok hf ds _ ps r2 e2
        refine ⟨.cons a c, ?_⟩
        unfold PyData.plainAll
        rw [b, dd]
        rfl
      · cases e
end
theorem obP_ok (so : SOk g w S) : ∀ (k n : Nat) (p : PyData), obP k S n = some p → n < w.n → Dp g.K w.H (.ref (w.m n)) p ∧ p.plain = true
  | 0, _, _, e, _ => by cases e
  | k + 1, n, p, e, h => by
    unfold obP at e
    split at e
    · rename_i xs q
      obtain ⟨vs, hv, rv, l⟩ := so.sql q
      cases e2 : toPs (obP k S) xs with
      | none => rw [e2] at e; cases e
      | some ps =>
        rw [e2] at e
        cases e
        obtain ⟨h1, h2⟩ := toPs_ok (fun n p => obP_ok so k n p) xs _ ps rv e2
        exact ⟨.lst (SqL.of hv) h1, by unfold PyData.plain; exact h2⟩
    · cases e
theorem dP_ok (so : SOk g w S) {d : D} {v : V} {p : PyData} (r : Rep g w d v) (e : dP S d = some p) : Dp g.K w.H v p ∧ p.plain = true := toP_ok (fun n p => obP_ok so 12 n p) d v p r e
end
/-- == by data -/
def eqP (neg : Bool) : F2 := fun a b S => match dP S a, dP S b with
  | some p, some q => if min p.depth q.depth ≤ 100 then some (.bl (if neg then !PyData.eqv p q else PyData.eqv p q), S) else none
  | _, _ => match neg, a, b with
    | false, .tup xs, .tup [] => some (.bl xs.isEmpty, S)
    | neg, .ob n, .ob m => (match S[n]?, S[m]? with
      | some (.lst xs), some (.lst ys) => if xs.length ≠ ys.length then some (.bl neg, S) else none
      | _, _ => none)
    | _, _, _ => none
abbrev aEq : F2 := eqP false
abbrev aNe : F2 := eqP true
section
variable {X : Cx}
theorem plainL_list {h : Heap} {a : Addr} {vs : Array Value} (p : PlainL h a vs) : h.IsList a vs := let ⟨o, n, h1, h2, _, h4⟩ := p; ⟨o, h1, h2, n, h4⟩
theorem two_lists {pins : List (Addr × Obj)} {σ : L2.St} {s : Shared} {w : Wd} {S : Sto} {n m : Nat} {x y : V} {v u : Value} {xs ys : List D} (so : SOk ⟨X.K, X.mg, X.w⟩ w S) (I : Inv X pins σ w.H s) (ra : Rep ⟨X.K, X.mg, X.w⟩ w (.ob n) x) (rb : Rep ⟨X.K, X.mg, X.w⟩ w (.ob m) y) (rx : RelV x v) (ry : RelV y u)
    (e1 : S[n]? = some (.lst xs)) (e2 : S[m]? = some (.lst ys)) : ∃ (l b : Addr) (i1 i2 : Array Value) (_ : True), v = .ref l ∧ u = .ref b ∧ s.heap.IsList l i1 ∧ s.heap.IsList b i2 ∧ xs.length = i1.size ∧ ys.length = i2.size := by
  cases ra with
  | ob h1 =>
    cases rb with
    | ob h2 =>
      obtain rfl : v = .ref _ := rx
      obtain rfl : u = .ref _ := ry
      obtain ⟨vs, hv, rv, _⟩ := so.sql e1
      obtain ⟨us, hu, ru, _⟩ := so.sql e2
      obtain ⟨i1, q1, q2, _⟩ := I.list (SqL.of hv)
      obtain ⟨i2, q3, q4, _⟩ := I.list (SqL.of hu)
      exact ⟨_, _, i1.toArray, i2.toArray, trivial, rfl, rfl, plainL_list q2, plainL_list q4, by rw [rv.length]; simpa using q1.length, by rw [ru.length]; simpa using q3.length⟩
theorem opr_eq (hu : X.A.units + 200 < cLine) : OpR X (compareOp .Eq) (r2 ⟨X.K, X.mg, X.w⟩ aEq) := by
  intro pins s σ H x y v u Q I rx ry h
  obtain ⟨w, S, a, b, rfl, so, ra, rb, k⟩ := h
  unfold aEq eqP at k
  split at k
  · rename_i p q ep eq
    split at k
    · rename_i hd
      obtain ⟨d1, p1⟩ := dP_ok so ra ep
      obtain ⟨d2, p2⟩ := dP_ok so rb eq
      obtain ⟨as, r1⟩ := Dp.reads I p x v d1 rx
      obtain ⟨bs, r2⟩ := Dp.reads I q y u d2 ry
      exact SeqAt.eq_plain r1 r2 p1 p2 (by omega) ⟨.bl _, _, I, rfl, k w _ (Step.refl so) so (.bl _)⟩
    · exact k.elim
  · split at k
    · rename_i xs _ hh
      cases ra with
      | tup ha la rsa =>
        cases rb with
        | tup hb lb rsb =>
          cases rsb
          obtain rfl : v = .ref _ := rx
          obtain rfl : u = .ref _ := ry
          obtain ⟨its, hv, ht, _⟩ := I.tuple ha
          obtain ⟨its2, hv2, ht2, _⟩ := I.tuple hb
          cases hv2
          refine SeqAt.eq_tupleAt (e := fun _ => true) ht ht2 (by omega) (fun j h1 h2 => absurd h2 (by simp)) ⟨.bl xs.isEmpty, _, I, ?_, k w _ (Step.refl so) so (.bl _)⟩
          show Value.bool _ = Value.bool _
          congr 1
          have l1 : xs.length = its.length := by rw [rsa.length]; exact hv.length
          cases xs <;> cases its <;> simp_all
    · rename_i n m _ hh _
      split at k
      · rename_i xs ys e1 e2
        split at k
        · rename_i hl
          obtain ⟨l1, l2, z1, z2, _, rfl, rfl, q1, q2, q3⟩ := two_lists so I ra rb rx ry e1 e2
          exact SeqAt.eq_list_lengthsAt q1 q2 (by rw [bne_iff_ne]; rw [← q3.1, ← q3.2]; exact hl) (by omega) ⟨.bl _, _, I, rfl, k w _ (Step.refl so) so (.bl _)⟩
        · exact k.elim
      · exact k.elim
    · exact k.elim
theorem opr_ne (hu : X.A.units + 200 < cLine) : OpR X (compareOp .NotEq) (r2 ⟨X.K, X.mg, X.w⟩ aNe) := by
  intro pins s σ H x y v u Q I rx ry h
  obtain ⟨w, S, a, b, rfl, so, ra, rb, k⟩ := h
  unfold aNe eqP at k
  split at k
  · rename_i p q ep eq
    split at k
    · rename_i hd
      obtain ⟨d1, p1⟩ := dP_ok so ra ep
      obtain ⟨d2, p2⟩ := dP_ok so rb eq
      obtain ⟨as, r1⟩ := Dp.reads I p x v d1 rx
      obtain ⟨bs, r2⟩ := Dp.reads I q y u d2 ry
      exact SeqAt.ne_plain r1 r2 p1 p2 (by omega) ⟨.bl _, _, I, rfl, k w _ (Step.refl so) so (.bl _)⟩
    · exact k.elim
  · split at k
    · rename_i h _
      cases h
    · rename_i n m _ hh _
      split at k
      · rename_i xs ys e1 e2
        split at k
        · rename_i hl
          obtain ⟨l1, l2, z1, z2, _, rfl, rfl, q1, q2, q3⟩ := two_lists so I ra rb rx ry e1 e2
          exact SeqAt.RcNeAt.lists_lengths q1 q2 (by rw [bne_iff_ne]; rw [← q3.1, ← q3.2]; exact hl) (by omega) X.prog X.w X.xe _ ⟨.bl _, _, I, rfl, k w _ (Step.refl so) so (.bl _)⟩
        · exact k.elim
      · exact k.elim
    · exact k.elim
end

/-! ### in -/
def keyD : D → Option Key
  | .int i => some (.inl i)
  | .str x => some (.inr x)
  | _ => none
def valD (kvs : List (Key × D)) (k : Key) : Option D := (kvs.find? fun kv => decide (kv.1 = k)).map (·.2)
theorem keyD_ok {g : Gnd} {w : Wd} {d : D} {v : V} {k : Key} (r : Rep g w d v) (e : keyD d = some k) : v = kV k := by
  cases r <;> cases e <;> rfl
theorem valD_ok {g : Gnd} {w : Wd} {k : Key} : ∀ {kvs : List (Key × D)} {kus : List (Key × V)}, kvs.map (·.1) = kus.map (·.1) → Reps g w (kvs.map (·.2)) (kus.map (·.2)) →
    (∀ d, valD kvs k = some d → ∃ v, valV kus k = some v ∧ Rep g w d v) ∧ (valD kvs k = none → valV kus k = none)
  | [], [], _, _ => ⟨fun d e => (by cases e), fun _ => rfl⟩
  | [], _ :: _, e, _ => by cases e
  | _ :: _, [], e, _ => by cases e
  | (a, d) :: kvs, (b, v) :: kus, e, r => by
    simp only [List.map_cons, List.cons.injEq] at e
    obtain ⟨e1, e2⟩ := e
    subst e1
    cases r with
    | cons r1 r2 =>
      obtain ⟨h1, h2⟩ := valD_ok (k := k) e2 r2
      unfold valD valV
      simp only [List.find?_cons]
      by_cases q : a = k
      · simp only [q, decide_true, Option.map_some]
        exact ⟨fun d' e => by cases e; exact ⟨v, rfl, r1⟩, fun e => by cases e⟩
      · simp only [q, decide_false]
        exact ⟨h1, h2⟩
theorem valD_isSome {g : Gnd} {w : Wd} {k : Key} {kvs : List (Key × D)} {kus : List (Key × V)} (e : kvs.map (·.1) = kus.map (·.1)) (r : Reps g w (kvs.map (·.2)) (kus.map (·.2))) : (valV kus k).isSome = (valD kvs k).isSome := by
  obtain ⟨q1, q2⟩ := valD_ok (k := k) e r
  cases z : valD kvs k with
  | none => rw [q2 z]; rfl
  | some d =>
    obtain ⟨v', ev, _⟩ := q1 d z
    rw [ev]
    rfl
theorem SOk.dka {g : Gnd} {w : Wd} {S : Sto} (so : SOk g w S) {i : Nat} {kvs : List (Key × D)} (e : S[i]? = some (.dk kvs)) :
    ∃ kus, w.H (w.m i) = some (.dK kus) ∧ kvs.length ≤ sizeLine ∧ kvs.map (·.1) = kus.map (·.1) ∧ Reps g w (kvs.map (·.2)) (kus.map (·.2)) := by
  obtain ⟨h, e2, r⟩ := so.ob i _ e
  cases r with
  | dk l e r => exact ⟨_, e2, l, e, r⟩
/-- a written dict, read -/
def kdGet (ks : List Str) (vs : List D) (x : Str) : Option D := (ks.zip vs).lookup x
theorem kd_look {g : Gnd} {w : Wd} {z : Str} : ∀ {ks : List Str} {ws : List Value} {us : List V} {vs : List D}, Vals us ws → Reps g w vs us →
    (∀ d, kdGet ks vs z = some d → ∃ u v, (ks.zip ws).lookup z = some u ∧ RelV v u ∧ Rep g w d v) ∧ (kdGet ks vs z = none → (ks.zip ws).lookup z = none)
  | [], _, _, _, _, _ => ⟨fun d e => (by cases e), fun _ => rfl⟩
  | k :: ks, _, _, _, .nil, .nil => ⟨fun d e => (by cases e), fun _ => rfl⟩
  | k :: ks, _, _, _, .cons r1 t1, .cons r2 t2 => by
    obtain ⟨h1, h2⟩ := kd_look (z := z) (ks := ks) t1 t2
    unfold kdGet
    simp only [List.zip_cons_cons, List.lookup_cons]
    by_cases q : z == k
    · rw [q]
      exact ⟨fun d e => by cases e; exact ⟨_, _, rfl, r1, r2⟩, fun e => by cases e⟩
    · rw [Bool.not_eq_true] at q
      rw [q]
      exact ⟨h1, h2⟩
theorem kd_some {g : Gnd} {w : Wd} {z : Str} {ks : List Str} {ws : List Value} {us : List V} {vs : List D} (h1 : Vals us ws) (h2 : Reps g w vs us) : ((ks.zip ws).lookup z).isSome = (kdGet ks vs z).isSome := by
  obtain ⟨q1, q2⟩ := kd_look (z := z) (ks := ks) h1 h2
  cases e : kdGet ks vs z with
  | none => rw [q2 e]; rfl
  | some d =>
    obtain ⟨u, v, e2, _⟩ := q1 d e
    rw [e2]
    rfl
/-- one sign, or a text, within a text -/
def subS (x y : Str) : Bool := match x.cps.toList with
  | [c] => decide (c ∈ y.cps.toList)
  | _ => !(Builtin.Str.occurrences y x 0 y.length 1).isEmpty
def inP (neg : Bool) : F2 := fun a b S => match b with
  | .str y => match a with
    | .str x => some (.bl (if neg then !subS x y else subS x y), S)
    | _ => none
  | .kd ks vs => match a with
    | .str x => some (.bl (if neg then !(kdGet ks vs x).isSome else (kdGet ks vs x).isSome), S)
    | _ => none
  | _ => match (match b with | .ob n => S[n]? | _ => none) with
    | some (.dk kvs) => match keyD a with
      | some k => some (.bl (if neg then !(valD kvs k).isSome else (valD kvs k).isSome), S)
      | none => none
    | _ => match dP S a, dP S b with
      | some p, some (.list qs) => if PyData.depthAll qs ≤ 100 then some (.bl (if neg then !(qs.any fun z => PyData.eqv z p) else qs.any fun z => PyData.eqv z p), S) else none
      | some p, some (.tuple qs) => if PyData.depthAll qs ≤ 100 then some (.bl (if neg then !(qs.any fun z => PyData.eqv z p) else qs.any fun z => PyData.eqv z p), S) else none
      | _, _ => none
abbrev aIn : F2 := inP false
abbrev aNotIn : F2 := inP true
theorem str_one {x : Str} {c : Nat} (h : x.cps.toList = [c]) : x = ⟨#[c]⟩ := by
  obtain ⟨a⟩ := x
  have : a = #[c] := by
    apply Array.toList_inj.mp
    exact h
  rw [this]
section
variable {X : Cx}
theorem opr_in (hu : X.A.units + 200 < cLine) : OpR X (compareOp .In) (r2 ⟨X.K, X.mg, X.w⟩ aIn) := by
  intro pins s σ H x y v u Q I rx ry h
  obtain ⟨w, S, a, b, rfl, so, ra, rb, k⟩ := h
  have stp := Step.refl so
  unfold aIn inP at k
  split at k
  · rename_i y0
    split at k
    · rename_i x0
      cases ra; cases rb
      replace k := k w _ stp so (.bl _)
      simp only [Bool.false_eq_true, if_false] at k
      unfold subS at k
      split at k
      · rename_i c e
        have e := str_one e
        subst e
        exact op_in_sign pins s σ _ _ _ v u Q I rx ry ⟨c, y0, rfl, rfl, k⟩
      · exact op_in_str pins s σ _ _ _ v u Q I rx ry ⟨x0, y0, rfl, rfl, k⟩
    · exact k.elim
  · split at k
    · cases ra
      cases rb with
      | kd kk ke kl kr =>
        replace k := k w _ stp so (.bl _)
        simp only [Bool.false_eq_true, if_false] at k
        rw [← kd_some kl kr] at k
        exact op_in_kd kk pins s σ _ _ _ v u Q I rx ry ⟨_, _, rfl, rfl, ke _, k⟩
    · exact k.elim
  · split at k
    · rename_i kvs e
      split at k
      · rename_i kk ek
        have e1 := keyD_ok ra ek
        subst e1
        cases b with
        | ob n =>
          obtain ⟨kus, eh, l, e2, r2⟩ := so.dka e
          cases rb
          obtain rfl : u = .ref (w.m n) := ry
          refine d_in (by omega) I (DGet.k (k := kk) eh) rx fun s3 I3 => ⟨.bl _, _, I3, rfl, ?_⟩
          have k := k w _ stp so (.bl _)
          simp only [Bool.false_eq_true, if_false] at k
          rw [valD_isSome e2 r2]
          exact k
        | _ => cases e
      · exact k.elim
    · split at k
      · rename_i p qs ep eq
        split at k
        · rename_i hd
          obtain ⟨d1, p1⟩ := dP_ok so ra ep
          obtain ⟨d2, p2⟩ := dP_ok so rb eq
          obtain ⟨as, r1⟩ := Dp.reads I p x v d1 rx
          obtain ⟨bs, r2⟩ := Dp.reads I _ y u d2 ry
          have k := k w _ stp so (.bl _)
          simp only [Bool.false_eq_true, if_false] at k
          exact SeqAt.in_list_data r2 r1 (by unfold PyData.plain at p2; exact p2) p1 (by omega) ⟨.bl _, _, I, rfl, k⟩
        · exact k.elim
      · rename_i p qs ep eq
        split at k
        · rename_i hd
          obtain ⟨d1, p1⟩ := dP_ok so ra ep
          obtain ⟨d2, p2⟩ := dP_ok so rb eq
          obtain ⟨as, r1⟩ := Dp.reads I p x v d1 rx
          obtain ⟨bs, r2⟩ := Dp.reads I _ y u d2 ry
          have k := k w _ stp so (.bl _)
          simp only [Bool.false_eq_true, if_false] at k
          exact SeqAt.in_tuple_data r2 r1 (by unfold PyData.plain at p2; exact p2) p1 (by omega) ⟨.bl _, _, I, rfl, k⟩
        · exact k.elim
      · exact k.elim
theorem opr_notIn (hu : X.A.units + 200 < cLine) : OpR X (compareOp .NotIn) (r2 ⟨X.K, X.mg, X.w⟩ aNotIn) := by
  intro pins s σ H x y v u Q I rx ry h
  obtain ⟨w, S, a, b, rfl, so, ra, rb, k⟩ := h
  have stp := Step.refl so
  unfold aNotIn inP at k
  split at k
  · rename_i y0
    split at k
    · rename_i x0
      cases ra; cases rb
      replace k := k w _ stp so (.bl _)
      simp only [if_true] at k
      unfold subS at k
      split at k
      · rename_i c e
        have e := str_one e
        subst e
        exact op_notIn_sign pins s σ _ _ _ v u Q I rx ry ⟨c, y0, rfl, rfl, k⟩
      · exact op_notIn_str pins s σ _ _ _ v u Q I rx ry ⟨x0, y0, rfl, rfl, k⟩
    · exact k.elim
  · split at k
    · cases ra
      cases rb with
      | kd kk ke kl kr =>
        replace k := k w _ stp so (.bl _)
        simp only [if_true] at k
        rw [← kd_some kl kr] at k
        exact op_notIn_kd kk pins s σ _ _ _ v u Q I rx ry ⟨_, _, rfl, rfl, ke _, k⟩
    · exact k.elim
  · split at k
    · rename_i kvs e
      split at k
      · rename_i kk ek
        have e1 := keyD_ok ra ek
        subst e1
        cases b with
        | ob n =>
          obtain ⟨kus, eh, l, e2, r2⟩ := so.dka e
          cases rb
          obtain rfl : u = .ref (w.m n) := ry
          refine d_notIn (by omega) I (DGet.k (k := kk) eh) rx fun s3 I3 => ⟨.bl _, _, I3, rfl, ?_⟩
          have k := k w _ stp so (.bl _)
          simp only [if_true] at k
          rw [valD_isSome e2 r2]
          exact k
        | _ => cases e
      · exact k.elim
    · split at k
      · rename_i p qs ep eq
        split at k
        · rename_i hd
          obtain ⟨d1, p1⟩ := dP_ok so ra ep
          obtain ⟨d2, p2⟩ := dP_ok so rb eq
          obtain ⟨as, r1⟩ := Dp.reads I p x v d1 rx
          obtain ⟨bs, r2⟩ := Dp.reads I _ y u d2 ry
          have k := k w _ stp so (.bl _)
          simp only [if_true] at k
          exact SeqAt.notIn_list_data r2 r1 (by unfold PyData.plain at p2; exact p2) p1 (by omega) ⟨.bl _, _, I, rfl, k⟩
        · exact k.elim
      · rename_i p qs ep eq
        split at k
        · rename_i hd
          obtain ⟨d1, p1⟩ := dP_ok so ra ep
          obtain ⟨d2, p2⟩ := dP_ok so rb eq
          obtain ⟨as, r1⟩ := Dp.reads I p x v d1 rx
          obtain ⟨bs, r2⟩ := Dp.reads I _ y u d2 ry
          have k := k w _ stp so (.bl _)
          simp only [if_true] at k
          exact SeqAt.notIn_tuple_data r2 r1 (by unfold PyData.plain at p2; exact p2) p1 (by omega) ⟨.bl _, _, I, rfl, k⟩
        · exact k.elim
      · exact k.elim
end

/-! ### is None, is True -/
def isNon : D → Bool
  | .non => true
  | _ => false
def isP (neg : Bool) : F2 := fun a b S => match b with
  | .non => some (.bl (if neg then !isNon a else isNon a), S)
  | .bl k => match a with
    | .bl j => some (.bl (if neg then !decide (j = k) else decide (j = k)), S)
    | _ => none
  | _ => none
abbrev aIs : F2 := isP false
abbrev aIsNot : F2 := isP true
theorem isNon_ok {g : Gnd} {w : Wd} {d : D} {v : V} (r : Rep g w d v) : decide (v = .non) = isNon d := by
  cases r <;> simp [isNon]
section
variable {X : Cx}
theorem opr_is : OpR X (compareOp .Is) (r2 ⟨X.K, X.mg, X.w⟩ aIs) := by
  intro pins s σ H x y v u Q I rx ry h
  obtain ⟨w, S, a, b, rfl, so, ra, rb, k⟩ := h
  have stp := Step.refl so
  unfold aIs isP at k
  split at k
  · cases rb
    have k := k w _ stp so (.bl _)
    simp only [Bool.false_eq_true, if_false] at k
    exact op_isN pins s σ _ _ _ v u Q I rx ry ⟨rfl, by rw [isNon_ok ra]; exact k⟩
  · split at k
    · cases ra; cases rb
      have k := k w _ stp so (.bl _)
      simp only [Bool.false_eq_true, if_false] at k
      exact op_isBl pins s σ _ _ _ v u Q I rx ry ⟨_, _, rfl, rfl, k⟩
    · exact k.elim
  · exact k.elim
theorem opr_isNot : OpR X (compareOp .IsNot) (r2 ⟨X.K, X.mg, X.w⟩ aIsNot) := by
  intro pins s σ H x y v u Q I rx ry h
  obtain ⟨w, S, a, b, rfl, so, ra, rb, k⟩ := h
  have stp := Step.refl so
  unfold aIsNot isP at k
  split at k
  · cases rb
    have k := k w _ stp so (.bl _)
    simp only [if_true] at k
    exact op_notN pins s σ _ _ _ v u Q I rx ry ⟨rfl, by rw [isNon_ok ra]; exact k⟩
  · split at k
    · cases ra; cases rb
      have k := k w _ stp so (.bl _)
      simp only [if_true] at k
      exact op_notBl pins s σ _ _ _ v u Q I rx ry ⟨_, _, rfl, rfl, k⟩
    · exact k.elim
  · exact k.elim
end

/-! ### truth -/
def truD (d : D) (S : Sto) : Option Bool := match d with
  | .non => some false
  | .bl b => some b
  | .int i => some (i != 0)
  | .str x => if x.length ≤ sizeLine then some ((x.length : Int) != 0) else none
  | .tup xs => some (!xs.isEmpty)
  | .rl xs => some (!xs.isEmpty)
  | .ob n => match S[n]? with
    | some (.lst xs) => some (!xs.isEmpty)
    | some (.dk kvs) => some (!kvs.isEmpty)
    | _ => none
  | _ => none
theorem Reps.empty {g : Gnd} {w : Wd} {ds : List D} {vs : List V} (r : Reps g w ds vs) : ds.isEmpty = vs.isEmpty := by
  cases r <;> rfl
theorem truD_ok {g : Gnd} {w : Wd} {S : Sto} (so : SOk g w S) {d : D} {v : V} {b : Bool} (r : Rep g w d v) (e : truD d S = some b) : TruV g.K v w.H b := by
  unfold truD at e
  split at e
  · cases r; cases e; exact rfl
  · cases r; cases e; exact rfl
  · cases r; cases e; exact rfl
  · cases r
    split at e
    · cases e; exact ⟨by assumption, rfl⟩
    · cases e
  · cases r with
    | tup t l r =>
      cases e
      exact .inr (.inl ⟨_, t, by rw [r.empty]⟩)
  · cases r with
    | rl t l r =>
      cases e
      exact .inl ⟨_, t.sql, by rw [r.empty]⟩
  · cases r
    split at e
    · rename_i q
      obtain ⟨vs, hv, rv, l⟩ := so.sql q
      cases e
      exact .inl ⟨_, SqL.of hv, by rw [rv.empty]⟩
    · rename_i kvs q
      obtain ⟨h, eh, rh⟩ := so.ob _ _ q
      cases rh with
      | dk l e2 r2 =>
        cases e
        refine .inr (.inr ⟨_, eh, ?_⟩)
        have := congrArg List.length e2
        rw [List.length_map, List.length_map] at this
        rename_i kus
        cases kvs <;> cases kus <;> first | rfl | (simp at this)
    · cases e
  · cases e
end DL
/-! DL, part e: tests, and or not, displays, subscripts, slices, built-in functions. -/
namespace DL
open PySem PySem.Spec PyProof.Rows L2

/-! ### tests -/
def dTr (f : DenE) : DenT := fun fr S => (f fr S).bnd fun d S' => match truD d S' with
  | some b => .ok b S'
  | none => .no
def dTAnd (t u : DenT) : DenT := fun fr S => (t fr S).bnd fun b S' => match b with
  | true => u fr S'
  | false => .ok false S'
def dTOr (t u : DenT) : DenT := fun fr S => (t fr S).bnd fun b S' => match b with
  | true => .ok true S'
  | false => u fr S'
def dTNot (t : DenT) : DenT := fun fr S => (t fr S).bnd fun b S' => .ok (!b) S'
def dIf {α : Type} (t : DenT) (f h : Fr → Sto → Out α) : Fr → Sto → Out α := fun fr S => (t fr S).bnd fun b S' => match b with
  | true => f fr S'
  | false => h fr S'
def dAndV (f h : DenE) : DenE := fun fr S => (f fr S).bnd fun d S' => match truD d S' with
  | some true => h fr S'
  | some false => .ok d S'
  | none => .no
def dOrV (f h : DenE) : DenE := fun fr S => (f fr S).bnd fun d S' => match truD d S' with
  | some true => .ok d S'
  | some false => h fr S'
  | none => .no
def dNotV (f : DenE) : DenE := fun fr S => (f fr S).bnd fun d S' => match truD d S' with
  | some b => .ok (.bl (!b)) S'
  | none => .no
section
variable {X : Cx} {W : WX} {a b : Expr} {pos : Pos} {fa fb : DenE} {ft fu : DenT} {rest : List Expr}
theorem dt_truth (ha : PE X a (tE ⟨X.K, X.mg, X.w⟩ W fa)) (he : ∀ whole, isTrue a X.env whole = (do let v ← whole; standAt a.pos; holding [v] (truthy v))) : PT X a (tT ⟨X.K, X.mg, X.w⟩ W (dTr fa)) := by
  refine PT.weaken (pt_truth ha he) fun σ H Q h => tG_mono (lift1 h) fun x H1 q => ?_
  obtain ⟨w, S, fr, d, rfl, so, fo, r, p⟩ := q
  dsimp only at p
  cases e : truD d S with
  | none => rw [e] at p; exact p.elim
  | some k =>
    rw [e] at p
    exact ⟨k, truD_ok so r e, p w k (Step.refl so) so rfl⟩
theorem dt_not (ha : PT X a (tT ⟨X.K, X.mg, X.w⟩ W ft)) : PT X (.UnaryOp .Not a pos) (tT ⟨X.K, X.mg, X.w⟩ W (dTNot ft)) := by
  refine PT.weaken (pt_not ha) fun σ H Q h => tG_mono (lift1 h) fun x H1 q => ?_
  obtain ⟨w, S, fr, d, rfl, so, fo, rfl, p⟩ := q
  exact p w _ (Step.refl so) so rfl
theorem dw_and (ha : PT X a (tT ⟨X.K, X.mg, X.w⟩ W ft)) (hb : PW X (.BoolOp .And (b :: rest) pos) (tT ⟨X.K, X.mg, X.w⟩ W fu)) : PW X (.BoolOp .And (a :: b :: rest) pos) (tT ⟨X.K, X.mg, X.w⟩ W (dTAnd ft fu)) := by
  refine PW.weaken (pw_and ha hb) fun σ H Q h => tG_mono (lift1 h) fun x H1 q => ?_
  obtain ⟨w, S, fr, d, rfl, so, fo, rfl, p⟩ := q
  cases d with
  | true => exact iteT ⟨w, S, fr, rfl, so, fo, p⟩
  | false => exact iteF (p w _ (Step.refl so) so rfl)
theorem dw_or (ha : PT X a (tT ⟨X.K, X.mg, X.w⟩ W ft)) (hb : PW X (.BoolOp .Or (b :: rest) pos) (tT ⟨X.K, X.mg, X.w⟩ W fu)) : PW X (.BoolOp .Or (a :: b :: rest) pos) (tT ⟨X.K, X.mg, X.w⟩ W (dTOr ft fu)) := by
  refine PW.weaken (pw_or ha hb) fun σ H Q h => tG_mono (lift1 h) fun x H1 q => ?_
  obtain ⟨w, S, fr, d, rfl, so, fo, rfl, p⟩ := q
  cases d with
  | true => exact iteT (p w _ (Step.refl so) so rfl)
  | false => exact iteF ⟨w, S, fr, rfl, so, fo, p⟩
theorem de_if {c : Expr} (hc : PT X c (tT ⟨X.K, X.mg, X.w⟩ W ft)) (ha : PE X a (tE ⟨X.K, X.mg, X.w⟩ W fa)) (hb : PE X b (tE ⟨X.K, X.mg, X.w⟩ W fb)) : PE X (.IfExp c a b pos) (tE ⟨X.K, X.mg, X.w⟩ W (dIf ft fa fb)) := by
  refine PE.weaken (pe_ifExp hc ha hb) fun σ H Q h => tG_mono (lift1 h) fun x H1 q => ?_
  obtain ⟨w, S, fr, d, rfl, so, fo, rfl, p⟩ := q
  cases d with
  | true => exact iteT ⟨w, S, fr, rfl, so, fo, p⟩
  | false => exact iteF ⟨w, S, fr, rfl, so, fo, p⟩
theorem de_and (ha : PE X a (tE ⟨X.K, X.mg, X.w⟩ W fa)) (hb : PE X (.BoolOp .And (b :: rest) pos) (tE ⟨X.K, X.mg, X.w⟩ W fb)) : PE X (.BoolOp .And (a :: b :: rest) pos) (tE ⟨X.K, X.mg, X.w⟩ W (dAndV fa fb)) := by
  refine PE.weaken (pe_andT ha hb) fun σ H Q h => tG_mono (lift1 h) fun x H1 q => ?_
  obtain ⟨w, S, fr, d, rfl, so, fo, r, p⟩ := q
  dsimp only at p
  cases e : truD d S with
  | none => rw [e] at p; exact p.elim
  | some k =>
    rw [e] at p
    refine ⟨k, truD_ok so r e, ?_⟩
    cases k with
    | true => exact iteT ⟨w, S, fr, rfl, so, fo, p⟩
    | false => exact iteF (p w _ (Step.refl so) so r)
theorem de_or (ha : PE X a (tE ⟨X.K, X.mg, X.w⟩ W fa)) (hb : PE X (.BoolOp .Or (b :: rest) pos) (tE ⟨X.K, X.mg, X.w⟩ W fb)) : PE X (.BoolOp .Or (a :: b :: rest) pos) (tE ⟨X.K, X.mg, X.w⟩ W (dOrV fa fb)) := by
  refine PE.weaken (pe_orT ha hb) fun σ H Q h => tG_mono (lift1 h) fun x H1 q => ?_
  obtain ⟨w, S, fr, d, rfl, so, fo, r, p⟩ := q
  dsimp only at p
  cases e : truD d S with
  | none => rw [e] at p; exact p.elim
  | some k =>
    rw [e] at p
    refine ⟨k, truD_ok so r e, ?_⟩
    cases k with
    | true => exact iteT (p w _ (Step.refl so) so r)
    | false => exact iteF ⟨w, S, fr, rfl, so, fo, p⟩
theorem de_not (ha : PE X a (tE ⟨X.K, X.mg, X.w⟩ W fa)) : PE X (.UnaryOp .Not a pos) (tE ⟨X.K, X.mg, X.w⟩ W (dNotV fa)) := by
  refine PE.weaken (pe_notT ha) fun σ H Q h => tG_mono (lift1 h) fun x H1 q => ?_
  obtain ⟨w, S, fr, d, rfl, so, fo, r, p⟩ := q
  dsimp only at p
  cases e : truD d S with
  | none => rw [e] at p; exact p.elim
  | some k =>
    rw [e] at p
    exact ⟨k, truD_ok so r e, p w _ (Step.refl so) so (.bl _)⟩
end

/-! ### a comparison as a test; a < b < c -/
def dCmpT (f : F2) (a b : DenE) : DenT := fun fr S => (a fr S).bnd fun x S' => (b fr S').bnd fun y S'' => match f x y S'' with
  | some (.bl k, S3) => .ok k S3
  | _ => .no
def dChain (f f' : F2) (a b c : DenE) : DenE := fun fr S => (a fr S).bnd fun x S' => (b fr S').bnd fun y S'' => match f x y S'' with
  | some (.bl true, S3) => (c fr S3).bnd fun z S4 => .ofO (f' y z S4)
  | some (.bl false, S3) => .ok (.bl false) S3
  | _ => .no
def dChainT (f f' : F2) (a b c : DenE) : DenT := fun fr S => (dChain f f' a b c fr S).bnd fun d S' => match d with
  | .bl k => .ok k S'
  | _ => .no
section
variable {X : Cx} {W : WX} {a b c : Expr} {pos : Pos} {fa fb fc : DenE} {f f' : F2} {op op' : CmpOp}
theorem tB_of {e : Expr} {t : TE} {fe : DenE} {ft : DenT} (h : PT X e (tTest t)) (hk : ∀ σ H Q, tE ⟨X.K, X.mg, X.w⟩ W fe σ H Q → t σ H Q)
    (hf : ∀ fr S, ft fr S = (fe fr S).bnd fun d S' => match d with | .bl k => .ok k S' | _ => .no) : PT X e (tT ⟨X.K, X.mg, X.w⟩ W ft) := by
  refine PT.weaken h fun σ H Q q => hk σ H _ ?_
  obtain ⟨w, S, fr, e, so, fo, p⟩ := q
  rw [hf] at p
  refine tG_mono (lift1 (R1 := Rep _) (R := fun _ (a b : Bool) => a = b) (k := fun d fr S' => match d with | .bl k => .ok k S' | _ => .no) ⟨w, S, fr, e, so, fo, p⟩) fun x H1 z => ?_
  obtain ⟨w, S, fr, d, rfl, so, fo, r, p⟩ := z
  dsimp only at p
  cases r with
  | bl k => exact ⟨k, rfl, p w k (Step.refl so) so rfl⟩
  | _ => exact p.elim
theorem dt_cmp (ho : OpR X (compareOp op) (r2 ⟨X.K, X.mg, X.w⟩ f)) (ha : PE X a (tE ⟨X.K, X.mg, X.w⟩ W fa)) (hb : PE X b (tE ⟨X.K, X.mg, X.w⟩ W fb)) (hm : behindInMarks op b = false) : PT X (.Compare a [op] [b] pos) (tT ⟨X.K, X.mg, X.w⟩ W (dCmpT f fa fb)) := by
  refine tB_of (fe := dOp f fa fb) (pt_cmpR ho ha hb hm) (fun _ _ _ h => lift_op h) fun fr S => ?_
  unfold dCmpT dOp
  cases fa fr S with
  | no => rfl
  | ex e S' => rfl
  | ok x S' =>
    dsimp only [Out.bnd]
    cases fb fr S' with
    | no => rfl
    | ex e S' => rfl
    | ok y S2 =>
      dsimp only
      cases f x y S2 with
      | none => rfl
      | some q =>
        obtain ⟨d, S3⟩ := q
        cases d <;> rfl
theorem lift_chain {σ : L2.St} {H : Hp} {Q : VK} {g : Gnd} (h : tE g W (dChain f f' fa fb fc) σ H Q) : tChain (r2 g f) (r2 g f') (tE g W fa) (tE g W fb) (tE g W fc) σ H Q := by
  refine tG_mono (lift2 (R1 := Rep g) (R2 := Rep g) (R := Rep g) (k := fun x y fr S => match f x y S with
    | some (.bl true, S3) => (fc fr S3).bnd fun z S4 => .ofO (f' y z S4)
    | some (.bl false, S3) => .ok (.bl false) S3
    | _ => .no) (fun _ _ _ _ s r => rmono s r) h) fun x H1 h1 => tG_mono h1 fun y H2 h2 => ?_
  obtain ⟨w, S, fr, q, e, so, fo, ⟨rx, ry⟩, p⟩ := h2
  obtain ⟨x0, y0⟩ := q
  have p : Post g w (Rep g) (match f x0 y0 S with
    | some (.bl true, S3) => (fc fr S3).bnd fun z S4 => .ofO (f' y0 z S4)
    | some (.bl false, S3) => .ok (.bl false) S3
    | _ => .no) Q (fun c d H' => W c d σ H') := p
  refine ⟨w, S, x0, y0, e, so, rx, ry, ?_⟩
  cases ef : f x0 y0 S with
  | none => rw [ef] at p; exact p.elim
  | some q =>
    obtain ⟨d, S3⟩ := q
    rw [ef] at p
    intro w1 v st so1 r
    cases d with
    | bl k =>
      cases r
      refine ⟨k, rfl, ?_⟩
      cases k with
      | false => exact iteF (p w1 _ st so1 (.bl _))
      | true =>
        refine iteT ?_
        have ry1 := rmono st ry
        refine tG_mono (next1 (R1 := Rep g) (R2 := Rep g) (R := Rep g) (x := y) (f' := fc) (k := fun y0 z fr S4 => .ofO (f' y0 z S4)) (fun _ _ _ _ s r => rmono s r) ⟨w1, S3, fr, y0, rfl, so1, fo.mono st.toMono, ry1, Post.step st p⟩) fun z H4 h4 => ?_
        obtain ⟨w4, S4, fr4, q4, e4, so4, fo4, ⟨r41, r42⟩, p4⟩ := h4
        exact ⟨w4, S4, q4.1, q4.2, e4, so4, r41, r42, Post.ofO p4⟩
    | _ => exact p.elim
theorem de_chain (ho : OpR X (compareOp op) (r2 ⟨X.K, X.mg, X.w⟩ f)) (ho' : OpR X (compareOp op') (r2 ⟨X.K, X.mg, X.w⟩ f')) (ha : PE X a (tE ⟨X.K, X.mg, X.w⟩ W fa)) (hb : PE X b (tE ⟨X.K, X.mg, X.w⟩ W fb)) (hc : PE X c (tE ⟨X.K, X.mg, X.w⟩ W fc))
    (hm : lastMarks [op, op'] [b, c] = false) : PE X (.Compare a [op, op'] [b, c] pos) (tE ⟨X.K, X.mg, X.w⟩ W (dChain f f' fa fb fc)) := PE.weaken (pe_chain ho ho' ha hb hc hm) fun _ _ _ h => lift_chain h
theorem dt_chain (ho : OpR X (compareOp op) (r2 ⟨X.K, X.mg, X.w⟩ f)) (ho' : OpR X (compareOp op') (r2 ⟨X.K, X.mg, X.w⟩ f')) (ha : PE X a (tE ⟨X.K, X.mg, X.w⟩ W fa)) (hb : PE X b (tE ⟨X.K, X.mg, X.w⟩ W fb)) (hc : PE X c (tE ⟨X.K, X.mg, X.w⟩ W fc))
    (hm : lastMarks [op, op'] [b, c] = false) : PT X (.Compare a [op, op'] [b, c] pos) (tT ⟨X.K, X.mg, X.w⟩ W (dChainT f f' fa fb fc)) :=
  tB_of (fe := dChain f f' fa fb fc) (pt_chain ho ho' ha hb hc hm) (fun _ _ _ h => lift_chain h) fun fr S => rfl
end

/-! ### argument lists, displays -/
def dANil : DenA := fun _ S => .ok [] S
def dACons (f : DenE) (h : DenA) : DenA := fun fr S => (f fr S).bnd fun d S' => (h fr S').bnd fun ds S'' => .ok (d :: ds) S''
def dTup (h : DenA) : DenE := fun fr S => (h fr S).bnd fun ds S' => if ds.length ≤ sizeLine then .ok (.tup ds) S' else .no
def dLst (h : DenA) : DenE := fun fr S => (h fr S).bnd fun ds S' => if ds.length ≤ sizeLine then .ok (.ob S'.length) (S' ++ [.lst ds]) else .no
/-- a list that is used at once and by nobody else -/
def dLstT (h : DenA) : DenA := fun fr S => (h fr S).bnd fun ds S' => if ds.length ≤ sizeLine then .ok ds S' else .no
/-- such a list kept -/
def dKeep (h : DenA) : DenE := fun fr S => (h fr S).bnd fun ds S' => .ok (.ob S'.length) (S' ++ [.lst ds])
section
variable {X : Cx} {W : WX} {e : Expr} {es : List Expr} {pos : Pos} {f : DenE} {h : DenA}
theorem da_nil : PA X [] (tA ⟨X.K, X.mg, X.w⟩ W dANil) := by
  refine PA.weaken pa_nil fun σ H Q q => ?_
  obtain ⟨w, S, fr, rfl, so, fo, p⟩ := q
  exact p w _ (Step.refl so) so .nil
theorem da_cons (he : PE X e (tE ⟨X.K, X.mg, X.w⟩ W f)) (hr : PA X es (tA ⟨X.K, X.mg, X.w⟩ W h)) (hs : starEach (e :: es) X.env = (false, eval e X.env) :: starEach es X.env) : PA X (e :: es) (tA ⟨X.K, X.mg, X.w⟩ W (dACons f h)) := by
  refine PA.weaken (pa_cons he hr hs) fun σ H Q q => ?_
  refine tG_mono (lift2 (R1 := Rep _) (R2 := Reps _) (k := fun d ds fr S => .ok (d :: ds) S) (fun _ _ _ _ s r => rmono s r) q) fun x H1 h1 => tG_mono h1 fun y H2 h2 => ?_
  obtain ⟨w, S, fr, q, rfl, so, fo, ⟨rx, ry⟩, p⟩ := h2
  exact p w _ (Step.refl so) so (.cons rx ry)
theorem de_tup {k : Nat} (ha : PA X es (tA ⟨X.K, X.mg, X.w⟩ W h)) : PE X (.Tuple es k pos) (tE ⟨X.K, X.mg, X.w⟩ W (dTup h)) := by
  refine PE.weaken (pe_tup ha) fun σ H Q q => tG_mono (lift1 q) fun x H1 h1 => ?_
  obtain ⟨w, S, fr, d, rfl, so, fo, r, p⟩ := h1
  have l := r.length
  dsimp only at p
  split at p
  · rename_i hl
    refine ⟨by omega, fun a ha => ?_⟩
    obtain ⟨st, so', _⟩ := Step.put so ha (.tup x)
    exact p _ _ st so' (.tup (SqT.of upd_same) hl (Reps.mono st.toMono _ _ r))
  · exact p.elim
theorem de_lst (ha : PA X es (tA ⟨X.K, X.mg, X.w⟩ W h)) : PE X (.List es pos) (tE ⟨X.K, X.mg, X.w⟩ W (dLst h)) := by
  refine PE.weaken (pe_lst ha) fun σ H Q q => tG_mono (lift1 q) fun x H1 h1 => ?_
  obtain ⟨w, S, fr, d, rfl, so, fo, r, p⟩ := h1
  have l := r.length
  dsimp only at p
  split at p
  · rename_i hl
    refine ⟨by omega, fun a ha => ?_⟩
    obtain ⟨st, so', rr⟩ := Step.new so ha (.lst hl r)
    exact p _ _ st so' rr
  · exact p.elim
theorem dl_lst (ha : PA X es (tA ⟨X.K, X.mg, X.w⟩ W h)) : PE X (.List es pos) (tL ⟨X.K, X.mg, X.w⟩ W (dLstT h)) := by
  refine PE.weaken (pe_lst ha) fun σ H Q q => ?_
  obtain ⟨w, S, fr, e, so, fo, p⟩ := q
  refine ⟨w, S, fr, e, so, fo, ?_⟩
  have p : PostL _ w ((h fr S).bnd fun ds S' => if ds.length ≤ sizeLine then .ok ds S' else .no) Q (fun c d H' => W c d σ H') := p
  cases q : h fr S with
  | no => rw [q] at p; exact p
  | ex e S1 => rw [q] at p; exact p
  | ok ds S1 =>
    rw [q] at p
    intro w1 vs st so1 r
    have l := r.length
    have p : PostL _ w (if ds.length ≤ sizeLine then .ok ds S1 else .no) Q (fun c d H' => W c d σ H') := p
    split at p
    · rename_i hl
      refine ⟨by omega, fun a ha => ?_⟩
      obtain ⟨st2, so2, hn⟩ := Step.put so1 ha (.lst vs)
      exact p _ a (st.trans st2) so2 (st.back ha) ⟨a, vs, rfl, upd_same, hn, hl, Reps.mono st2.toMono _ _ r⟩
    · exact p.elim
/-- a list that nothing else holds is tracked from here on -/
def Wd.adopt (w : Wd) (p : Addr) : Wd := ⟨fun i => if i = w.n then p else w.m i, w.n + 1, w.H⟩
theorem Step.adoptO {g : Gnd} {w : Wd} {S : Sto} (s : SOk g w S) {p : Addr} {ob : O} {ho : HO} (hp : w.H p = some ho) (hne : ∀ i, i < w.n → w.m i ≠ p) (r : RepO g w ob ho) :
    SOk g (w.adopt p) (S ++ [ob]) ∧ Mono w (w.adopt p) ∧ Rep g (w.adopt p) (.ob S.length) (.ref p) := by
  have hm : ∀ i, i < w.n → (w.adopt p).m i = w.m i := fun i hi => if_neg (Nat.ne_of_lt hi)
  have hmn : (w.adopt p).m w.n = p := if_pos rfl
  have mo : Mono w (w.adopt p) := ⟨Nat.le_succ _, hm, fun a xs e => e, fun a ob u e => e, fun a us e => e⟩
  refine ⟨⟨?_, fun i u e => ?_, fun i j hi hj e => ?_⟩, mo, ?_⟩
  · show w.n + 1 = _
    rw [List.length_append, s.len]
    rfl
  · by_cases hi : i < S.length
    · rw [List.getElem?_append_left hi] at e
      obtain ⟨h, e2, r2⟩ := s.ob i u e
      have hi' : i < w.n := by rw [s.len]; exact hi
      exact ⟨h, by rw [hm i hi']; exact e2, r2.mono mo⟩
    · rw [List.getElem?_append_right (Nat.not_lt.mp hi)] at e
      have hz : i - S.length = 0 := by
        have := (List.getElem?_eq_some_iff.mp e).1
        simp at this
        omega
      rw [hz] at e
      cases e
      have hi2 : i = w.n := by rw [s.len]; omega
      subst hi2
      exact ⟨_, by rw [hmn]; exact hp, r.mono mo⟩
  · have hi : i < w.n + 1 := hi
    have hj : j < w.n + 1 := hj
    by_cases e1 : i = w.n
    · by_cases e2 : j = w.n
      · rw [e1, e2]
      · have hj' : j < w.n := Nat.lt_of_le_of_ne (Nat.le_of_lt_succ hj) e2
        rw [e1, hmn, hm j hj'] at e
        exact absurd e.symm (hne j hj')
    · have hi' : i < w.n := Nat.lt_of_le_of_ne (Nat.le_of_lt_succ hi) e1
      by_cases e2 : j = w.n
      · rw [e2, hmn, hm i hi'] at e
        exact absurd e (hne i hi')
      · have hj' : j < w.n := Nat.lt_of_le_of_ne (Nat.le_of_lt_succ hj) e2
        rw [hm i hi', hm j hj'] at e
        exact s.inj i j hi' hj' e
  · have q : Rep g (w.adopt p) (.ob w.n) (.ref ((w.adopt p).m w.n)) := .ob (show w.n < w.n + 1 from Nat.lt_succ_self _)
    rw [hmn, s.len] at q
    exact q
theorem Step.adopt {g : Gnd} {w : Wd} {S : Sto} (s : SOk g w S) {p : Addr} {vs : List V} {ds : List D} (hp : w.H p = some (.lst vs)) (hne : ∀ i, i < w.n → w.m i ≠ p) (hl : ds.length ≤ sizeLine) (r : Reps g w ds vs) :
    SOk g (w.adopt p) (S ++ [.lst ds]) ∧ Mono w (w.adopt p) ∧ Rep g (w.adopt p) (.ob S.length) (.ref p) := Step.adoptO s hp hne (.lst hl r)
theorem de_keep (he : PE X e (tL ⟨X.K, X.mg, X.w⟩ W h)) : PE X e (tE ⟨X.K, X.mg, X.w⟩ W (dKeep h)) := by
  refine PE.weaken he fun σ H Q q => ?_
  obtain ⟨w, S, fr, e, so, fo, p⟩ := q
  refine ⟨w, S, fr, e, so, fo, ?_⟩
  have p : Post _ w (Rep _) ((h fr S).bnd fun ds S' => .ok (.ob S'.length) (S' ++ [.lst ds])) Q (fun c d H' => W c d σ H') := p
  cases q : h fr S with
  | no => rw [q] at p; exact p
  | ex e S1 => rw [q] at p; exact p
  | ok ds S1 =>
    rw [q] at p
    intro w1 a st so1 fresh r
    obtain ⟨a', vs, ea, ha, hn, hl, rv⟩ := r
    cases ea
    obtain ⟨so2, mo, rr⟩ := Step.adopt so1 ha hn hl rv
    refine p (w1.adopt a) _ ⟨st.toMono.trans mo, fun b o hb hx => st.kp b o hb hx, fun i h1 h2 => ?_, fun i hi => so2.al i hi⟩ so2 rr
    have h2 : i < w1.n + 1 := h2
    by_cases e : i = w1.n
    · show w.H (if i = w1.n then a else w1.m i) = none
      rw [if_pos e]
      exact fresh
    · show w.H (if i = w1.n then a else w1.m i) = none
      rw [if_neg e]
      exact st.fr i h1 (by omega)
end
end DL
/-! DL, part f: subscripts, slices, built-in functions and methods by data. -/
namespace DL
open PySem PySem.Spec PyProof.Rows L2

/-! ### subscripts -/
/-- the items of a list or a tuple -/
def seqD (d : D) (S : Sto) : Option (List D) := match d with
  | .tup xs => some xs
  | .rl xs => some xs
  | .ob n => match S[n]? with
    | some (.lst xs) => some xs
    | _ => none
  | _ => none
theorem seqD_ok {g : Gnd} {w : Wd} {S : Sto} (so : SOk g w S) {d : D} {v : V} {xs : List D} (r : Rep g w d v) (e : seqD d S = some xs) :
    ∃ a vs, v = .ref a ∧ (SqL g.K w.H a vs ∨ SqT g.K w.H a vs) ∧ Reps g w xs vs ∧ xs.length ≤ sizeLine := by
  unfold seqD at e
  split at e
  · cases e
    cases r with
    | tup t l r => exact ⟨_, _, rfl, .inr t, r, l⟩
  · cases e
    cases r with
    | rl t l r => exact ⟨_, _, rfl, .inl t.sql, r, l⟩
  · cases r
    split at e
    · rename_i q
      cases e
      obtain ⟨vs, hv, rv, l⟩ := so.sql q
      exact ⟨_, _, rfl, .inl (SqL.of hv), rv, l⟩
    · cases e
  · cases e
theorem seqL_ok {g : Gnd} {w : Wd} {S : Sto} (so : SOk g w S) {d : D} {v : V} {xs : List D} (r : Rep g w d v) (e : seqD d S = some xs) (hn : ∀ ys, d ≠ .tup ys) :
    ∃ a vs, v = .ref a ∧ SqL g.K w.H a vs ∧ Reps g w xs vs ∧ xs.length ≤ sizeLine := by
  unfold seqD at e
  split at e
  · exact (hn _ rfl).elim
  · cases e
    cases r with
    | rl t l r => exact ⟨_, _, rfl, t.sql, r, l⟩
  · cases r
    split at e
    · rename_i q
      cases e
      obtain ⟨vs, hv, rv, l⟩ := so.sql q
      exact ⟨_, _, rfl, SqL.of hv, rv, l⟩
    · cases e
  · cases e
def aIx : F2 := fun a b S => match a with
  | .str z => match b with
    | .int i => if z.length ≤ sizeLine then (atI z.cps.toList i).map fun c => (.str ⟨#[c]⟩, S) else none
    | _ => none
  | .kd ks vs => match b with
    | .str x => (kdGet ks vs x).map fun d => (d, S)
    | _ => none
  | _ => match seqD a S with
    | some xs => match b with
      | .int i => (atI xs i).map fun d => (d, S)
      | _ => none
    | none => match a with
      | .ob n => match S[n]? with
        | some (.dk kvs) => match keyD b with
          | some k => (valD kvs k).map fun d => (d, S)
          | none => none
        | _ => none
      | _ => none
theorem Reps.atI {g : Gnd} {w : Wd} {xs : List D} {vs : List V} {i : Int} {d : D} (r : Reps g w xs vs) (e : L2.atI xs i = some d) : ∃ v, L2.atI vs i = some v ∧ Rep g w d v := by
  unfold L2.atI at e ⊢
  rw [← r.length]
  cases q : ixN xs.length i with
  | none => rw [q] at e; cases e
  | some j =>
    rw [q] at e
    exact r.get e
section
variable {X : Cx}
def rIxD : R2 := fun x y H Q => ∃ a v, x = .ref a ∧ DGet H a y (some v) ∧ Q v H
theorem ix_dict (hu : X.A.units + 200 < cLine) : IxR X rIxD := by
  intro value slice pins s σ H x y v u Q I rx ry h hs
  obtain ⟨a, z, rfl, gt, q⟩ := h
  obtain rfl : v = .ref a := rx
  exact tail_any (dict_typeIs I gt) PySem.F.slot_dict_getitem.lookup (d_getItem (by omega) I gt ry fun w' s3 I3 rw' => ⟨z, H, I3, rw', q⟩) hs
theorem ixr (hu : X.A.units + 200 < cLine) : IxR X (r2 ⟨X.K, X.mg, X.w⟩ aIx) := by
  intro value slice pins s σ H x y v u Q I rx ry h hs
  obtain ⟨w, S, a, b, rfl, so, ra, rb, k⟩ := h
  have stp := Step.refl so
  unfold aIx at k
  split at k
  · split at k
    · cases ra; cases rb
      split at k
      · rename_i hz
        cases e : atI _ _ with
        | none => rw [e] at k; exact k.elim
        | some c =>
          rw [e] at k
          exact ix_str value slice pins s σ _ _ _ v u Q I rx ry ⟨_, _, c, rfl, rfl, hz, e, k w _ stp so (.str _)⟩ hs
      · exact k.elim
    · exact k.elim
  · split at k
    · rename_i x
      cases rb
      cases ra with
      | kd kk ke kl kr =>
        cases e : kdGet _ _ x with
        | none => rw [e] at k; exact k.elim
        | some d =>
          rw [e] at k
          obtain ⟨u0, v0, e2, r1, r2⟩ := (kd_look kl kr).1 d e
          exact ix_kdict value slice pins s σ _ _ _ v u Q I rx ry ⟨_, _, v0, rfl, rfl, ⟨_, _, u0, kk.at_, kk.lit, by rw [ke, e2], r1⟩, k w _ stp so r2⟩ hs
    · exact k.elim
  · split at k
    · rename_i xs e
      obtain ⟨p, vs, rfl, hq, rv, l⟩ := seqD_ok so ra e
      split at k
      · cases rb
        cases e2 : atI xs _ with
        | none => rw [e2] at k; exact k.elim
        | some d =>
          rw [e2] at k
          obtain ⟨z, ez, rz⟩ := rv.atI e2
          rcases hq with hq | hq
          · exact ix_list value slice pins s σ _ _ _ v u Q I rx ry ⟨_, _, _, z, rfl, rfl, hq, ez, k w _ stp so rz⟩ hs
          · exact ix_tup value slice pins s σ _ _ _ v u Q I rx ry ⟨_, _, _, z, rfl, rfl, hq, ez, k w _ stp so rz⟩ hs
      · exact k.elim
    · split at k
      · split at k
        · rename_i n kvs e
          split at k
          · rename_i kk ek
            have e1 := keyD_ok rb ek
            subst e1
            cases e2 : valD kvs kk with
            | none => rw [e2] at k; exact k.elim
            | some d =>
              rw [e2] at k
              cases ra
              obtain ⟨kus, eh, l, e3, r2⟩ := so.dka e
              obtain ⟨z, ez, rz⟩ := (valD_ok (k := kk) e3 r2).1 d e2
              exact ix_dict hu value slice pins s σ _ _ _ v u Q I rx ry ⟨_, z, rfl, by rw [← ez]; exact DGet.k eh, k w _ stp so rz⟩ hs
          · exact k.elim
        · exact k.elim
      · exact k.elim
variable {W : WX} {a b : Expr} {pos : Pos} {fa fb : DenE} {f : F2}
theorem de_ix (hu : X.A.units + 200 < cLine) (ha : PE X a (tE ⟨X.K, X.mg, X.w⟩ W fa)) (hb : PE X b (tE ⟨X.K, X.mg, X.w⟩ W fb)) (hs : PlainIx b) : PE X (.Subscript a b pos) (tE ⟨X.K, X.mg, X.w⟩ W (dOp aIx fa fb)) :=
  PE.weaken (pe_ix (ixr hu) ha hb hs) fun _ _ _ h => lift_op h
end

/-! ### slices -/
def cutD {α : Type} (xs : List α) (lo hi : Option Int) : List α := (xs.drop (HT.sIx xs.length 0 lo)).take (HT.sIx xs.length xs.length hi - HT.sIx xs.length 0 lo)
def aSl (d : D) (lo hi : Option Int) (S : Sto) : Option (D × Sto) := match d with
  | .str z => if z.length ≤ sizeLine then some (.str (cutS z lo hi), S) else none
  | .tup xs => some (.tup (cutD xs lo hi), S)
  | .ob n => match S[n]? with
    | some (.lst xs) => some (.ob S.length, S ++ [.lst (cutD xs lo hi)])
    | _ => none
  | .rl xs => some (.ob S.length, S ++ [.lst (cutD xs lo hi)])
  | _ => none
def dPart (o : Option DenE) : Fr → Sto → Out (Option Int) := match o with
  | none => fun _ S => .ok none S
  | some f => fun fr S => (f fr S).bnd fun d S' => match d with
    | .int i => .ok (some i) S'
    | _ => .no
def dSl (f : DenE) (lo hi : Option DenE) : DenE := fun fr S => (f fr S).bnd fun d S' => (dPart lo fr S').bnd fun l S2 => (dPart hi fr S2).bnd fun h S3 => .ofO (aSl d l h S3)
section
variable {X : Cx}
def rSl (g : Gnd) : V → Option Int → Option Int → Hp → VK → Prop := fun x lo hi H Q => ∃ w S d, w.H = H ∧ SOk g w S ∧ Rep g w d x ∧ Post g w (Rep g) (.ofO (aSl d lo hi S)) Q (fun _ _ _ => False)
theorem cutD_le {α : Type} (xs : List α) (lo hi : Option Int) : (cutD xs lo hi).length ≤ xs.length := by
  unfold cutD
  rw [List.length_take, List.length_drop]
  omega
theorem Reps.cut {g : Gnd} {w : Wd} {xs : List D} {vs : List V} (r : Reps g w xs vs) (lo hi : Option Int) : Reps g w (cutD xs lo hi) (cutV vs lo hi) := by
  unfold cutD cutV
  rw [← r.length]
  exact (r.drop _).take _
theorem slr : SlR X (rSl ⟨X.K, X.mg, X.w⟩) := by
  intro pins s σ H x v vl vu lo hi sl Q I rx hs pl pu h
  obtain ⟨w, S, d, rfl, so, r, k⟩ := h
  have stp := Step.refl so
  unfold aSl at k
  split at k
  · cases r
    split at k
    · rename_i hz
      exact sl_str pins s σ _ _ v vl vu lo hi sl Q I rx hs pl pu ⟨_, rfl, hz, k w _ stp so (.str _)⟩
    · exact k.elim
  · cases r with
    | tup t l r =>
      have hc := cutD_le ‹List D› lo hi
      refine sl_tupA pins s σ _ _ v vl vu lo hi sl Q I rx hs pl pu ⟨_, _, rfl, t, fun e => ?_, fun _ p hp => ?_⟩
      · refine k w _ stp so (.tup t (by omega) ?_)
        have q := r.cut lo hi
        have e2 : cutV ‹List V› lo hi = ‹List V› := by
          unfold cutV
          rw [e.1, e.2, List.drop_zero, Nat.sub_zero, List.take_length]
        rw [e2] at q
        exact q
      · obtain ⟨st, so', _⟩ := Step.put so hp (.tup (cutV _ lo hi))
        exact k _ _ st so' (.tup (SqT.of upd_same) (by omega) (Reps.mono st.toMono _ _ (r.cut lo hi)))
  · cases r
    split at k
    · rename_i xs q
      obtain ⟨vs, hv, rv, l⟩ := so.sql q
      have hc := cutD_le xs lo hi
      refine sl_list pins s σ _ _ v vl vu lo hi sl Q I rx hs pl pu ⟨_, _, rfl, SqL.of hv, fun p hp => ?_⟩
      obtain ⟨st, so', rr⟩ := Step.new so hp (.lst (by omega) (rv.cut lo hi))
      exact k _ _ st so' rr
    · exact k.elim
  · cases r with
    | rl t l r =>
      have hc := cutD_le ‹List D› lo hi
      refine sl_list pins s σ _ _ v vl vu lo hi sl Q I rx hs pl pu ⟨_, _, rfl, t.sql, fun p hp => ?_⟩
      obtain ⟨st, so', rr⟩ := Step.new so hp (.lst (by omega) (r.cut lo hi))
      exact k _ _ st so' rr
  · exact k.elim
abbrev tO (g : Gnd) (W : WX) (f : Fr → Sto → Out (Option Int)) : TO := tG g W (fun _ a b => a = b) f
variable {W : WX} {e : Expr} {pos p2 : Pos} {f : DenE} {lo hi : Option Expr} {fl fh : Option DenE}
theorem do_none : PO X none (tO ⟨X.K, X.mg, X.w⟩ W (dPart none)) := by
  refine ⟨fun pins s σ H Q I h => po_none.run pins s σ H Q I ?_⟩
  obtain ⟨w, S, fr, rfl, so, fo, p⟩ := h
  exact p w _ (Step.refl so) so rfl
theorem do_some (he : PE X e (tE ⟨X.K, X.mg, X.w⟩ W f)) : PO X (some e) (tO ⟨X.K, X.mg, X.w⟩ W (dPart (some f))) := by
  refine ⟨fun pins s σ H Q I h => (po_some he).run pins s σ H Q I (tG_mono (lift1 h) fun x H1 q => ?_)⟩
  obtain ⟨w, S, fr, d, rfl, so, fo, r, p⟩ := q
  dsimp only at p
  cases r with
  | int i => exact ⟨i, rfl, p w _ (Step.refl so) so rfl⟩
  | _ => exact p.elim
theorem de_sl (he : PE X e (tE ⟨X.K, X.mg, X.w⟩ W f)) (hl : PO X lo (tO ⟨X.K, X.mg, X.w⟩ W (dPart fl))) (hh : PO X hi (tO ⟨X.K, X.mg, X.w⟩ W (dPart fh))) : PE X (.Subscript e (.Slice lo hi none p2) pos) (tE ⟨X.K, X.mg, X.w⟩ W (dSl f fl fh)) := by
  refine PE.weaken (pe_slice slr he hl hh) fun σ H Q h => tG_mono (lift2 (R1 := Rep _) (R2 := fun _ a b => a = b) (k := fun d l fr S2 => (dPart fh fr S2).bnd fun h S3 => .ofO (aSl d l h S3)) (fun _ _ _ _ s r => rmono s r) h) fun x H1 h1 => tG_mono h1 fun y H2 h2 => ?_
  refine tG_mono (next1 (R1 := fun w (p : D × Option Int) (q : V × Option Int) => Rep ⟨X.K, X.mg, X.w⟩ w p.1 q.1 ∧ p.2 = q.2) (R2 := fun _ a b => a = b) (k := fun (p : D × Option Int) h fr S3 => .ofO (aSl p.1 p.2 h S3)) (fun _ _ _ _ s r => ⟨rmono s r.1, r.2⟩) h2) fun z H3 h3 => ?_
  obtain ⟨w, S, fr, q, e, so, fo, ⟨⟨rx, ry⟩, rz⟩, p⟩ := h3
  dsimp only at rx ry rz p
  subst ry rz
  exact ⟨w, S, q.1.1, e, so, rx, Post.ofO p⟩
end

/-! ### xs[::-1] -/
def aRev (d : D) (S : Sto) : Option (D × Sto) := match d with
  | .tup _ => none
  | _ => match seqD d S with
    | some xs => some (.ob S.length, S ++ [.lst xs.reverse])
    | none => none
def dRev (f : DenE) : DenE := fun fr S => (f fr S).bnd fun d S' => .ofO (aRev d S')
theorem Reps.rev {g : Gnd} {w : Wd} : ∀ {xs : List D} {vs : List V}, Reps g w xs vs → Reps g w xs.reverse vs.reverse
  | _, _, .nil => .nil
  | _, _, .cons a b => by
    rw [List.reverse_cons, List.reverse_cons]
    exact (Reps.rev b).append (.cons a .nil)
theorem de_rev {X : Cx} {W : WX} {e : Expr} {f : DenE} {k : Nat} {p1 p2 p3 pos : Pos} (he : PE X e (tE ⟨X.K, X.mg, X.w⟩ W f)) : PE X (.Subscript e (.Slice none none (some (.UnaryOp .USub (.Constant (.int 1) k p1) p2)) p3) pos) (tE ⟨X.K, X.mg, X.w⟩ W (dRev f)) := by
  refine PE.weaken (pe_revL he) fun σ H Q h => tG_mono (lift1 h) fun x H1 q => ?_
  obtain ⟨w, S, fr, d, rfl, so, fo, r, p⟩ := q
  dsimp only at p
  unfold aRev at p
  split at p
  · exact p.elim
  · rename_i hn
    cases e : seqD d S with
    | none => rw [e] at p; exact p.elim
    | some xs =>
      rw [e] at p
      obtain ⟨a, vs, rfl, hq, rv, l⟩ := seqL_ok so r e fun ys z => hn ys z
      refine ⟨a, vs, rfl, hq, fun b hb => ?_⟩
      obtain ⟨st, so', rr⟩ := Step.new so hb (.lst (by rw [List.length_reverse]; exact l) rv.rev)
      exact p _ _ st so' rr

/-! ### built-in functions -/
abbrev FB := List D → Sto → Option (D × Sto)
def dB (f : FB) (h : DenA) : DenE := fun fr S => (h fr S).bnd fun ds S' => .ofO (f ds S')
def rB (g : Gnd) (f : FB) : List V → Hp → VK → Prop := fun vs H Q => ∃ w S ds, w.H = H ∧ SOk g w S ∧ Reps g w ds vs ∧ Post g w (Rep g) (.ofO (f ds S)) Q (fun _ _ _ => False)
/-- on one list that was just made -/
def rBT (g : Gnd) (f : FB) : List V → Hp → VK → Prop := fun vs H Q => ∃ w S xs v, vs = [v] ∧ w.H = H ∧ SOk g w S ∧ RepT g w xs v ∧ Post g w (Rep g) (.ofO (f xs S)) Q (fun _ _ _ => False)
section
variable {X : Cx} {W : WX} {x : Str} {p pos : Pos} {e : Expr} {es : List Expr} {h : DenA} {f : FB} {id T : String}
theorem lift_b {g : Gnd} {σ : L2.St} {H : Hp} {Q : VK} (q : tE g W (dB f h) σ H Q) : tCB (rB g f) (tA g W h) σ H Q := by
  refine tG_mono (lift1 q) fun x H1 h1 => ?_
  obtain ⟨w, S, fr, ds, e, so, fo, r, p⟩ := h1
  exact ⟨w, S, ds, e, so, r, Post.ofO p⟩
theorem de_callB (hc : CallR X (.builtin id) (rB ⟨X.K, X.mg, X.w⟩ f)) (hg : Gl X x) (hm : X.mg x = none) (hv : bootBuiltins x = some (.builtin id)) (ha : PA X (e :: es) (tA ⟨X.K, X.mg, X.w⟩ W h)) (hn : x ≠ "__name__") (hdb : (x == ("__debug__" : Str)) = false)
    (he : starEach (e :: es) X.env = (false, eval e X.env) :: starEach es X.env) (hpl : (backTo pos (starEach es X.env)).any (·.1) = false) : PE X (.Call (.Name x p) (e :: es) [] pos) (tE ⟨X.K, X.mg, X.w⟩ W (dB f h)) :=
  PE.weaken (pe_callB hc hg hm hv ha hn hdb he hpl) fun _ _ _ q => lift_b q
theorem de_callTy (hc : CallR X (.type T) (rB ⟨X.K, X.mg, X.w⟩ f)) (hg : Gl X x) (hm : X.mg x = none) (hv : bootBuiltins x = some (.type T)) (ha : PA X (e :: es) (tA ⟨X.K, X.mg, X.w⟩ W h)) (hn : x ≠ "__name__") (hdb : (x == ("__debug__" : Str)) = false)
    (he : starEach (e :: es) X.env = (false, eval e X.env) :: starEach es X.env) (hpl : (backTo pos (starEach es X.env)).any (·.1) = false) : PE X (.Call (.Name x p) (e :: es) [] pos) (tE ⟨X.K, X.mg, X.w⟩ W (dB f h)) :=
  PE.weaken (pe_callTy hc hg hm hv ha hn hdb he hpl) fun _ _ _ q => lift_b q
theorem lift_bt {g : Gnd} {σ : L2.St} {H : Hp} {Q : VK} (q : tE g W (dB f h) σ H Q) : tCB (rBT g f) (tCons (tL g W h) tNil) σ H Q := by
  refine lift1L q _ fun v H1 h1 => ?_
  obtain ⟨w, S, fr, ds, e, so, fo, r, p⟩ := h1
  exact ⟨w, S, ds, v, rfl, e, so, r, Post.ofO p⟩
theorem de_callBT (hc : CallR X (.builtin id) (rBT ⟨X.K, X.mg, X.w⟩ f)) (hg : Gl X x) (hm : X.mg x = none) (hv : bootBuiltins x = some (.builtin id)) (ha : PE X e (tL ⟨X.K, X.mg, X.w⟩ W h)) (hn : x ≠ "__name__") (hdb : (x == ("__debug__" : Str)) = false)
    (he : starEach [e] X.env = (false, eval e X.env) :: starEach [] X.env) (hpl : (backTo pos (starEach [] X.env)).any (·.1) = false) : PE X (.Call (.Name x p) [e] [] pos) (tE ⟨X.K, X.mg, X.w⟩ W (dB f h)) :=
  PE.weaken (pe_callB hc hg hm hv (pa_cons ha pa_nil he) hn hdb he hpl) fun _ _ _ q => lift_bt q
theorem de_callTyT (hc : CallR X (.type T) (rBT ⟨X.K, X.mg, X.w⟩ f)) (hg : Gl X x) (hm : X.mg x = none) (hv : bootBuiltins x = some (.type T)) (ha : PE X e (tL ⟨X.K, X.mg, X.w⟩ W h)) (hn : x ≠ "__name__") (hdb : (x == ("__debug__" : Str)) = false)
    (he : starEach [e] X.env = (false, eval e X.env) :: starEach [] X.env) (hpl : (backTo pos (starEach [] X.env)).any (·.1) = false) : PE X (.Call (.Name x p) [e] [] pos) (tE ⟨X.K, X.mg, X.w⟩ W (dB f h)) :=
  PE.weaken (pe_callTy hc hg hm hv (pa_cons ha pa_nil he) hn hdb he hpl) fun _ _ _ q => lift_bt q
end
/-- on one list's items -/
def onSeq (f : FB) : FB := fun ds S => match ds with
  | [d] => match seqD d S with
    | some xs => f xs S
    | none => none
  | _ => none
/-- .. of a list, no tuple -/
def onLst (f : FB) : FB := fun ds S => match ds with
  | [.tup _] => none
  | _ => onSeq f ds S
def rLst (g : Gnd) (f : FB) : List V → Hp → VK → Prop := fun vs H Q => ∃ w S xs a us, vs = [.ref a] ∧ w.H = H ∧ SOk g w S ∧ SqL g.K H a us ∧ Reps g w xs us ∧ xs.length ≤ sizeLine ∧ Post g w (Rep g) (.ofO (f xs S)) Q (fun _ _ _ => False)
theorem rLst_T {g : Gnd} {f : FB} {vs : List V} {H : Hp} {Q : VK} (h : rBT g f vs H Q) : rLst g f vs H Q := by
  obtain ⟨w, S, xs, v, rfl, rfl, so, ⟨p, us, rfl, e, hn, l, r⟩, k⟩ := h
  exact ⟨w, S, xs, p, us, rfl, rfl, so, SqL.of e, r, l, k⟩
theorem rLst_D {g : Gnd} {f : FB} {vs : List V} {H : Hp} {Q : VK} (h : rB g (onLst f) vs H Q) : rLst g f vs H Q := by
  obtain ⟨w, S, ds, rfl, so, r, k⟩ := h
  unfold onLst onSeq at k
  split at k
  · exact k.elim
  · rename_i hnt
    split at k
    · rename_i d
      split at k
      · rename_i xs e
        cases r with
        | cons r1 r2 =>
          cases r2
          obtain ⟨a, us, rfl, hq, rv, l⟩ := seqL_ok so r1 e fun ys q => hnt ys (by rw [q])
          exact ⟨w, S, xs, a, us, rfl, rfl, so, hq, rv, l, k⟩
      · exact k.elim
    · exact k.elim
end DL
/-! DL, part g: the built-in functions and methods that are served. -/
namespace DL
open PySem PySem.Spec PyProof.Rows L2

def optAll {α : Type} (f : D → Option α) : List D → Option (List α)
  | [] => some []
  | d :: ds => match f d, optAll f ds with
    | some a, some as => some (a :: as)
    | _, _ => none
def blOf : D → Option Bool
  | .bl b => some b
  | _ => none
def intOf : D → Option Int
  | .int b => some b
  | _ => none
def strOf : D → Option Str
  | .str b => some b
  | _ => none
theorem optAll_map {α : Type} {f : D → Option α} {c : α → D} (hc : ∀ d a, f d = some a → d = c a) : ∀ {ds : List D} {as : List α}, optAll f ds = some as → ds = as.map c
  | [], _, e => by cases e; rfl
  | d :: ds, as, e => by
    unfold optAll at e
    split at e
    · rename_i a as' e1 e2
      cases e
      rw [hc d a e1, optAll_map hc e2]
      rfl
    · cases e
theorem blOf_ok {ds : List D} {bs : List Bool} (e : optAll blOf ds = some bs) : ds = bs.map D.bl := optAll_map (fun d a h => by cases d <;> cases h; rfl) e
theorem intOf_ok {ds : List D} {bs : List Int} (e : optAll intOf ds = some bs) : ds = bs.map D.int := optAll_map (fun d a h => by cases d <;> cases h; rfl) e
theorem strOf_ok {ds : List D} {bs : List Str} (e : optAll strOf ds = some bs) : ds = bs.map D.str := optAll_map (fun d a h => by cases d <;> cases h; rfl) e
theorem optAll_mk {α : Type} {f : D → Option α} {c : α → D} (hc : ∀ a, f (c a) = some a) : ∀ as : List α, optAll f (as.map c) = some as
  | [] => rfl
  | a :: as => by
    show (match f (c a), optAll f (as.map c) with | some a, some as => some (a :: as) | _, _ => none) = _
    rw [hc, optAll_mk hc]

def fAll : FB := fun xs S => (optAll blOf xs).map fun bs => (.bl (bs.all id), S)
def fAny : FB := fun xs S => (optAll blOf xs).map fun bs => (.bl (bs.any id), S)
def fSum : FB := fun xs S => (optAll intOf xs).map fun bs => (.int bs.sum, S)
def maxI : List Int → Int
  | [] => 0
  | n :: ns => ns.foldl max n
def minI : List Int → Int
  | [] => 0
  | n :: ns => ns.foldl min n
def fMax : FB := fun xs S => match optAll intOf xs with
  | some (n :: ns) => some (.int (maxI (n :: ns)), S)
  | _ => none
def fMin : FB := fun xs S => match optAll intOf xs with
  | some (n :: ns) => some (.int (minI (n :: ns)), S)
  | _ => none
def fTup : FB := fun xs S => some (.tup xs, S)
def fList : FB := fun xs S => some (.ob S.length, S ++ [.lst xs])
def fLen : FB := fun ds S => match ds with
  | [.str z] => if z.length ≤ sizeLine then some (.int z.length, S) else none
  | [d] => match seqD d S with
    | some xs => some (.int xs.length, S)
    | none => match d with
      | .ob n => match S[n]? with
        | some (.dk kvs) => some (.int kvs.length, S)
        | _ => none
      | _ => none
  | _ => none
def fAbs : FB := fun ds S => match ds with
  | [.int i] => some (.int (if i < 0 then -i else i), S)
  | _ => none
def fMax2 : FB := fun ds S => match ds with
  | [.int i, .int j] => some (.int (if j > i then j else i), S)
  | _ => none
def fMin2 : FB := fun ds S => match ds with
  | [.int i, .int j] => some (.int (if j < i then j else i), S)
  | _ => none
def fInt : FB := fun ds S => match ds with
  | [.int i] => some (.int i, S)
  | [.bl k] => some (.int (if k then 1 else 0), S)
  | [.str a] => if a.length ≤ 640 then (PySem.intText? a).map fun n => (.int n, S) else none
  | _ => none
def fStr : FB := fun ds S => match ds with
  | [.int i] => if i.natAbs.log2 < 1920 then some (.str (toString i), S) else none
  | _ => none
/-- the type of a thing that is no instance of an own class -/
def tyD (d : D) (S : Sto) : Option String := match d with
  | .non => some "NoneType"
  | .bl _ => some "bool"
  | .int _ => some "int"
  | .str _ => some "str"
  | .tup _ => some "tuple"
  | .rl _ => some "list"
  | .ob n => match S[n]? with
    | some (.lst _) => some "list"
    | some (.dk _) => some "dict"
    | _ => none
  | _ => none
def tyNames : List String := ["NoneType", "bool", "int", "str", "tuple", "list", "dict"]
def isTy (a b : String) : Bool := a == b || (a == "bool" && b == "int")
def fIsi : FB := fun ds S => match ds with
  | [d, .ty b] => match tyD d S with
    | some a => if b ∈ tyNames then some (.bl (isTy a b), S) else none
    | none => none
  | _ => none
section
variable {X : Cx}
theorem lst_bl {f : FB} {id : String} {q : List Bool → Bool} (hc : CallR X (.builtin id) (fun vs H Q => ∃ (a : Addr) (bs : List Bool), vs = [V.ref a] ∧ SqL X.K H a (bs.map V.bl) ∧ Q (.bl (q bs)) H))
    (hf : ∀ xs S, f xs S = (optAll blOf xs).map fun bs => (.bl (q bs), S)) : CallR X (.builtin id) (rLst ⟨X.K, X.mg, X.w⟩ f) := by
  intro pins s σ H xs us Q I r h
  obtain ⟨w, S, ds, a, vs, rfl, rfl, so, hq, rv, l, k⟩ := h
  rw [hf] at k
  cases e : optAll blOf ds with
  | none => rw [e] at k; exact k.elim
  | some bs =>
    rw [e] at k
    have e1 := blOf_ok e
    subst e1
    have e2 := rv.bls
    subst e2
    exact hc pins s σ _ _ us Q I r ⟨a, bs, rfl, hq, k w _ (Step.refl so) so (.bl _)⟩
theorem c_all (hc : X.calm = true) : CallR X (.builtin "all") (rLst ⟨X.K, X.mg, X.w⟩ fAll) := lst_bl (cr_all hc) fun _ _ => rfl
theorem c_any (hc : X.calm = true) : CallR X (.builtin "any") (rLst ⟨X.K, X.mg, X.w⟩ fAny) := lst_bl (cr_any hc) fun _ _ => rfl
theorem c_sum (hc : X.calm = true) : CallR X (.builtin "sum") (rLst ⟨X.K, X.mg, X.w⟩ fSum) := by
  intro pins s σ H xs us Q I r h
  obtain ⟨w, S, ds, a, vs, rfl, rfl, so, hq, rv, l, k⟩ := h
  unfold fSum at k
  cases e : optAll intOf ds with
  | none => rw [e] at k; exact k.elim
  | some bs =>
    rw [e] at k
    have e1 := intOf_ok e
    subst e1
    have e2 := rv.ints
    subst e2
    exact cr_sum hc pins s σ _ _ us Q I r ⟨a, bs, rfl, hq, k w _ (Step.refl so) so (.int _)⟩
theorem maxI_ge : ∀ (ns : List Int) (a : Int), a ≤ ns.foldl max a ∧ (∀ y ∈ ns, y ≤ ns.foldl max a) ∧ (ns.foldl max a = a ∨ ns.foldl max a ∈ ns)
  | [], a => ⟨Int.le_refl _, fun _ h => (nomatch h), .inl rfl⟩
  | n :: ns, a => by
    obtain ⟨h1, h2, h3⟩ := maxI_ge ns (max a n)
    show a ≤ ns.foldl max (max a n) ∧ (∀ y ∈ n :: ns, y ≤ ns.foldl max (max a n)) ∧ (ns.foldl max (max a n) = a ∨ ns.foldl max (max a n) ∈ n :: ns)
    refine ⟨by omega, fun y hy => ?_, ?_⟩
    · rcases List.mem_cons.mp hy with rfl | hy
      · omega
      · exact h2 y hy
    · rcases h3 with h3 | h3
      · by_cases q : n ≤ a
        · exact .inl (by omega)
        · refine .inr (List.mem_cons.mpr (.inl (by omega)))
      · exact .inr (List.mem_cons_of_mem _ h3)
theorem minI_le : ∀ (ns : List Int) (a : Int), ns.foldl min a ≤ a ∧ (∀ y ∈ ns, ns.foldl min a ≤ y) ∧ (ns.foldl min a = a ∨ ns.foldl min a ∈ ns)
  | [], a => ⟨Int.le_refl _, fun _ h => (nomatch h), .inl rfl⟩
  | n :: ns, a => by
    obtain ⟨h1, h2, h3⟩ := minI_le ns (min a n)
    show ns.foldl min (min a n) ≤ a ∧ (∀ y ∈ n :: ns, ns.foldl min (min a n) ≤ y) ∧ (ns.foldl min (min a n) = a ∨ ns.foldl min (min a n) ∈ n :: ns)
    refine ⟨by omega, fun y hy => ?_, ?_⟩
    · rcases List.mem_cons.mp hy with rfl | hy
      · omega
      · exact h2 y hy
    · rcases h3 with h3 | h3
      · by_cases q : a ≤ n
        · exact .inl (by omega)
        · refine .inr (List.mem_cons.mpr (.inl (by omega)))
      · exact .inr (List.mem_cons_of_mem _ h3)
theorem c_max (hc : X.calm = true) : CallR X (.builtin "max") (rLst ⟨X.K, X.mg, X.w⟩ fMax) := by
  intro pins s σ H xs us Q I r h
  obtain ⟨w, S, ds, a, vs, rfl, rfl, so, hq, rv, l, k⟩ := h
  unfold fMax at k
  split at k
  · rename_i n ns e
    have e1 := intOf_ok e
    subst e1
    have e2 := rv.ints
    subst e2
    refine cr_max hc pins s σ _ _ us Q I r ⟨a, _, rfl, hq, by simp, fun m hm hle => ?_⟩
    obtain ⟨h1, h2, h3⟩ := maxI_ge ns n
    have e3 : m = maxI (n :: ns) := by
      show m = ns.foldl max n
      have q1 : ns.foldl max n ≤ m := by
        rcases h3 with h3 | h3
        · rw [h3]; exact hle n List.mem_cons_self
        · exact hle _ (List.mem_cons_of_mem _ h3)
      rcases List.mem_cons.mp hm with z | z
      · omega
      · have := h2 m z
        omega
    rw [e3]
    exact k w _ (Step.refl so) so (.int _)
  · exact k.elim
theorem c_min (hc : X.calm = true) : CallR X (.builtin "min") (rLst ⟨X.K, X.mg, X.w⟩ fMin) := by
  intro pins s σ H xs us Q I r h
  obtain ⟨w, S, ds, a, vs, rfl, rfl, so, hq, rv, l, k⟩ := h
  unfold fMin at k
  split at k
  · rename_i n ns e
    have e1 := intOf_ok e
    subst e1
    have e2 := rv.ints
    subst e2
    refine cr_min hc pins s σ _ _ us Q I r ⟨a, _, rfl, hq, by simp, fun m hm hle => ?_⟩
    obtain ⟨h1, h2, h3⟩ := minI_le ns n
    have e3 : m = minI (n :: ns) := by
      show m = ns.foldl min n
      have q1 : m ≤ ns.foldl min n := by
        rcases h3 with h3 | h3
        · rw [h3]; exact hle n List.mem_cons_self
        · exact hle _ (List.mem_cons_of_mem _ h3)
      rcases List.mem_cons.mp hm with z | z
      · omega
      · have := h2 m z
        omega
    rw [e3]
    exact k w _ (Step.refl so) so (.int _)
  · exact k.elim
theorem CallR.imp {f : Value} {r r' : List V → Hp → VK → Prop} (h : CallR X f r) (k : ∀ vs H Q, r' vs H Q → r vs H Q) : CallR X f r' := fun pins s σ H xs us Q I rv q => h pins s σ H xs us Q I rv (k _ _ _ q)
theorem c_tupT : CallR X (.type "tuple") (rBT ⟨X.K, X.mg, X.w⟩ fTup) := by
  intro pins s σ H xs us Q I r h
  obtain ⟨w, S, ds, v, rfl, rfl, so, ⟨p, vs, rfl, e, hn, l, rv⟩, k⟩ := h
  refine call_tuple_of pins s σ _ _ us Q I r ⟨p, vs, rfl, .inl ⟨SqL.of e, fun q hq => ?_⟩⟩
  obtain ⟨st, so', _⟩ := Step.put so hq (.tup vs)
  exact k _ _ st so' (.tup (SqT.of upd_same) l (Reps.mono st.toMono _ _ rv))
theorem c_tup : CallR X (.type "tuple") (rB ⟨X.K, X.mg, X.w⟩ (onSeq fTup)) := by
  intro pins s σ H xs us Q I r h
  obtain ⟨w, S, ds, rfl, so, rd, k⟩ := h
  unfold onSeq at k
  split at k
  · rename_i d
    split at k
    · rename_i ys e
      cases rd with
      | cons r1 r2 =>
        cases r2
        obtain ⟨a, vs, rfl, hq, rv, l⟩ := seqD_ok so r1 e
        rcases hq with hq | hq
        · refine call_tuple_of pins s σ _ _ us Q I r ⟨a, vs, rfl, .inl ⟨hq, fun q hq => ?_⟩⟩
          obtain ⟨st, so', _⟩ := Step.put so hq (.tup vs)
          exact k _ _ st so' (.tup (SqT.of upd_same) l (Reps.mono st.toMono _ _ rv))
        · exact call_tuple_of pins s σ _ _ us Q I r ⟨a, vs, rfl, .inr ⟨hq, k w _ (Step.refl so) so (.tup hq l rv)⟩⟩
    · exact k.elim
  · exact k.elim
theorem c_list : CallR X (.type "list") (rB ⟨X.K, X.mg, X.w⟩ (onSeq fList)) := by
  intro pins s σ H xs us Q I r h
  obtain ⟨w, S, ds, rfl, so, rd, k⟩ := h
  unfold onSeq at k
  split at k
  · rename_i d
    split at k
    · rename_i ys e
      cases rd with
      | cons r1 r2 =>
        cases r2
        obtain ⟨a, vs, rfl, hq, rv, l⟩ := seqD_ok so r1 e
        refine call_list_of pins s σ _ _ us Q I r ⟨a, vs, rfl, hq, fun q hq => ?_⟩
        obtain ⟨st, so', rr⟩ := Step.new so hq (.lst l rv)
        exact k _ _ st so' rr
    · exact k.elim
  · exact k.elim
theorem c_len : CallR X (.builtin "len") (rB ⟨X.K, X.mg, X.w⟩ fLen) := by
  intro pins s σ H xs us Q I r h
  obtain ⟨w, S, ds, rfl, so, rd, k⟩ := h
  have stp := Step.refl so
  unfold fLen at k
  split at k
  · cases rd with
    | cons r1 r2 =>
      cases r1; cases r2
      split at k
      · rename_i hz
        exact call_len pins s σ _ _ us Q I r ⟨_, _, rfl, ⟨hz, rfl⟩, k w _ stp so (.int _)⟩
      · exact k.elim
  · cases rd with
    | cons r1 r2 =>
      cases r2
      split at k
      · rename_i ys e
        obtain ⟨a, vs, rfl, hq, rv, l⟩ := seqD_ok so r1 e
        have el := rv.length
        refine call_len pins s σ _ _ us Q I r ⟨_, ys.length, rfl, ?_, k w _ stp so (.int _)⟩
        rcases hq with hq | hq
        · exact .inl ⟨vs, hq, el⟩
        · exact .inr ⟨vs, hq, el⟩
      · split at k
        · split at k
          · rename_i kvs e
            cases r1
            obtain ⟨kus, eh, l, e3, r2⟩ := so.dka e
            have el := congrArg List.length e3
            rw [List.length_map, List.length_map] at el
            refine call_lenD pins s σ _ _ us Q I r ⟨_, kus, rfl, eh, ?_⟩
            rw [← el]
            exact k w _ stp so (.int _)
          · exact k.elim
        · exact k.elim
  · exact k.elim
theorem c_abs : CallR X (.builtin "abs") (rB ⟨X.K, X.mg, X.w⟩ fAbs) := by
  intro pins s σ H xs us Q I r h
  obtain ⟨w, S, ds, rfl, so, rd, k⟩ := h
  unfold fAbs at k
  split at k
  · cases rd with
    | cons r1 r2 =>
      cases r1; cases r2
      exact call_abs pins s σ _ _ us Q I r ⟨_, rfl, k w _ (Step.refl so) so (.int _)⟩
  · exact k.elim
theorem c_max2 (hc : X.calm = true) : CallR X (.builtin "max") (rB ⟨X.K, X.mg, X.w⟩ fMax2) := by
  intro pins s σ H xs us Q I r h
  obtain ⟨w, S, ds, rfl, so, rd, k⟩ := h
  unfold fMax2 at k
  split at k
  · cases rd with
    | cons r1 r2 =>
      cases r2 with
      | cons r3 r4 =>
        cases r1; cases r3; cases r4
        exact call_max2 hc pins s σ _ _ us Q I r ⟨_, _, rfl, k w _ (Step.refl so) so (.int _)⟩
  · exact k.elim
theorem c_min2 (hc : X.calm = true) : CallR X (.builtin "min") (rB ⟨X.K, X.mg, X.w⟩ fMin2) := by
  intro pins s σ H xs us Q I r h
  obtain ⟨w, S, ds, rfl, so, rd, k⟩ := h
  unfold fMin2 at k
  split at k
  · cases rd with
    | cons r1 r2 =>
      cases r2 with
      | cons r3 r4 =>
        cases r1; cases r3; cases r4
        exact call_min2 hc pins s σ _ _ us Q I r ⟨_, _, rfl, k w _ (Step.refl so) so (.int _)⟩
  · exact k.elim
theorem c_int : CallR X (.type "int") (rB ⟨X.K, X.mg, X.w⟩ fInt) := by
  intro pins s σ H xs us Q I r h
  obtain ⟨w, S, ds, rfl, so, rd, k⟩ := h
  have stp := Step.refl so
  unfold fInt at k
  split at k
  · cases rd with
    | cons r1 r2 =>
      cases r1; cases r2
      exact call_int1 pins s σ _ _ us Q I r (.inl ⟨_, rfl, k w _ stp so (.int _)⟩)
  · cases rd with
    | cons r1 r2 =>
      cases r1; cases r2
      exact call_int1 pins s σ _ _ us Q I r (.inr ⟨_, rfl, k w _ stp so (.int _)⟩)
  · cases rd with
    | cons r1 r2 =>
      cases r1; cases r2
      split at k
      · rename_i hl
        cases e : PySem.intText? _ with
        | none => rw [e] at k; exact k.elim
        | some n =>
          rw [e] at k
          exact call_int_str pins s σ _ _ us Q I r ⟨_, n, rfl, e, hl, k w _ stp so (.int _)⟩
      · exact k.elim
  · exact k.elim
theorem c_str : CallR X (.type "str") (rB ⟨X.K, X.mg, X.w⟩ fStr) := by
  intro pins s σ H xs us Q I r h
  obtain ⟨w, S, ds, rfl, so, rd, k⟩ := h
  unfold fStr at k
  split at k
  · cases rd with
    | cons r1 r2 =>
      cases r1; cases r2
      split at k
      · rename_i hl
        exact call_str_int pins s σ _ _ us Q I r ⟨_, rfl, hl, k w _ (Step.refl so) so (.str _)⟩
      · exact k.elim
  · exact k.elim
theorem tyD_ok {g : Gnd} {w : Wd} {S : Sto} (so : SOk g w S) {d : D} {v : V} {a : String} (r : Rep g w d v) (e : tyD d S = some a) : TyX g.K w.H v (.type a) ∧ a ∈ tyNames := by
  unfold tyD at e
  split at e
  · cases r; cases e; exact ⟨.base .non, by decide⟩
  · cases r; cases e; exact ⟨.base (.bl _), by decide⟩
  · cases r; cases e; exact ⟨.base (.int _), by decide⟩
  · cases r; cases e; exact ⟨.base (.str _), by decide⟩
  · cases e
    cases r with
    | tup t l r =>
      refine ⟨?_, by decide⟩
      rcases t with (t | ⟨o, t⟩) | ⟨o, its, n, h1, h2, h3⟩
      · exact .base (.tup t)
      · exact .fTuple t
      · exact .kTuple h1 h2
  · cases e
    cases r with
    | rl t l r =>
      refine ⟨?_, by decide⟩
      rcases t with ⟨o, t⟩ | ⟨o, its, n, h1, h2, h3⟩
      · exact .base (.frz t)
      · exact .kList h1 h2
  · cases r
    split at e
    · rename_i q
      cases e
      obtain ⟨vs, hv, rv, l⟩ := so.sql q
      exact ⟨.base (.lst hv), by decide⟩
    · rename_i q
      cases e
      obtain ⟨kus, eh, _⟩ := so.dka q
      exact ⟨.base (.dK eh), by decide⟩
    · cases e
  · cases e
theorem isTy_ok : ∀ a ∈ tyNames, ∀ b ∈ tyNames, kitB a b = some (isTy a b) := by decide +kernel
theorem c_isi : CallR X (.builtin "isinstance") (rB ⟨X.K, X.mg, X.w⟩ fIsi) := by
  intro pins s σ H xs us Q I r h
  obtain ⟨w, S, ds, rfl, so, rd, k⟩ := h
  unfold fIsi at k
  split at k
  · rename_i d b
    cases rd with
    | cons r1 r2 =>
      cases r2 with
      | cons r3 r4 =>
        cases r3; cases r4
        split at k
        · rename_i a e
          split at k
          · rename_i hb
            obtain ⟨t, ha⟩ := tyD_ok so r1 e
            exact call_isi pins s σ _ _ us Q I r ⟨_, _, _, _, _, rfl, .ty b, t, kit_ty (isTy_ok a ha b hb), k w _ (Step.refl so) so (.bl _)⟩
          · exact k.elim
        · exact k.elim
  · exact k.elim
end

/-! ### methods -/
abbrev FM := D → List D → Sto → Option (D × Sto)
/-- the built-in type whose methods a thing has -/
def mtyD (d : D) (S : Sto) : Option String := match d with
  | .str _ => some "str"
  | .rl _ => some "list"
  | .kd _ _ => some "dict"
  | .ob n => match S[n]? with
    | some (.lst _) => some "list"
    | some (.dk _) => some "dict"
    | _ => none
  | _ => none
/-- .. or a written dict -/
def tyW (K : PySem.W.Frag) (w0 : World) (T : String) (x : V) (H : Hp) : Prop := tyV K T x H ∨ ∃ a es n, x = .ref a ∧ T = "dict" ∧ KDict K w0 a es n
theorem tyW_is {X : Cx} {pins : List (Addr × Obj)} {σ : L2.St} {H : Hp} {s : Shared} {T : String} {x : V} {v : Value} (I : Inv X pins σ H s) (r : RelV x v) (ty : tyW X.K X.w T x H) :
    s.TypeIs v T ∧ ∀ a, v = .ref a → ∃ ob, s.heap.get? a = some ob ∧ ob.dict = none := by
  rcases ty with ty | ⟨a, es, n, rfl, rfl, kd⟩
  · exact tyV_is I r ty
  · obtain rfl : v = .ref a := r
    refine ⟨kd_type kd I, fun b e => ?_⟩
    cases e
    exact ⟨_, I.kIn _ _ kd.at_, rfl⟩
def tWM0 (K : PySem.W.Frag) (w0 : World) (T : String) (r : V → List V → Hp → VK → Prop) (to : TE) : TE := fun σ H Q => to σ H fun x H1 => tyW K w0 T x H1 ∧ r x [] H1 Q
def tWM (K : PySem.W.Frag) (w0 : World) (T : String) (r : V → List V → Hp → VK → Prop) (to : TE) (t : TA) : TE := fun σ H Q => to σ H fun x H1 => tyW K w0 T x H1 ∧ t σ H1 fun xs H2 => r x xs H2 Q
section
variable {X : Cx} {o e : Expr} {es : List Expr} {to : TE} {t : TA} {name : Str} {apos cpos : Pos} {T id : String} {r : V → List V → Hp → VK → Prop}
theorem pw_bm0 (pa : PlainAttrs T) (slot : Slot T name id) (hty : typeOf (.builtin id) = pure (.type "method_descriptor")) (hm : MtR X id r) (ho : PE X o to)
    (hbase : attributeBase o name X.env (eval o X.env) = eval o X.env) (hline : (apos.endLine == cpos.line) = true) : PE X (.Call (.Attribute o name apos) [] [] cpos) (tWM0 X.K X.w T r to) :=
  ⟨fun pins s σ H Q I h => wpAny_Call_method0_late hbase hline (thn (ho.run pins s σ H _ I h) fun v s1 ⟨x, H1, I1, r1, ty, q1⟩ =>
    ⟨T, id, pa, slot, hty, (tyW_is I1 r1 ty).1, (tyW_is I1 r1 ty).2, Calls.callWith_builtin rfl (PySem.evalArgs_none (hm pins s1 σ H1 x [] v [] Q I1 r1 .nil q1))⟩)⟩
theorem pw_bm (pa : PlainAttrs T) (slot : Slot T name id) (hty : typeOf (.builtin id) = pure (.type "method_descriptor")) (hm : MtR X id r) (ho : PE X o to) (ha : PA X (e :: es) t)
    (hbase : attributeBase o name X.env (eval o X.env) = eval o X.env)
    (hfew : ((backTo cpos (starEach (e :: es) X.env)).all (fun x => !x.1) && (backToKw cpos (keywordEach [] X.env)).all (fun x => x.1.isSome)
      && decide ((e :: es).length + ([] : List Keyword).length + (if ([] : List Keyword).isEmpty then 0 else 1) < 30)) = true)
    (hline : (apos.endLine == cpos.line) = true) (hs : starEach (e :: es) X.env = (false, eval e X.env) :: starEach es X.env) (hplain : (backTo cpos (starEach es X.env)).any (·.1) = false) :
    PE X (.Call (.Attribute o name apos) (e :: es) [] cpos) (tWM X.K X.w T r to t) := by
  refine ⟨fun pins s σ H Q I h => wpAny_Call_method_late hbase hfew hline rfl (thn (ho.run pins s σ H _ I h) fun v s1 ⟨x, H1, I1, r1, ty, q1⟩ => ?_)⟩
  refine ⟨T, id, pa, slot, hty, (tyW_is I1 r1 ty).1, (tyW_is I1 r1 ty).2, ?_⟩
  have hA := ha.run cpos pins s1 σ H1 _ I1 q1
  rw [hs] at hA ⊢
  refine Calls.callWith_builtin (by show (false || (backTo cpos (starEach es X.env)).any (·.1)) = false; rw [hplain] <;> rfl) (Calls.evalArgs_plain ?_)
  exact thn hA fun us s2 ⟨vs, H2, I2, r2, q2⟩ => hm pins s2 σ H2 x vs v us Q I2 r1 r2 q2
end
def dM (T : String) (f : FM) (o : DenE) (h : DenA) : DenE := fun fr S => (o fr S).bnd fun d S' => if mtyD d S' = some T then (h fr S').bnd fun ds S2 => .ofO (f d ds S2) else .no
def rM (g : Gnd) (f : FM) : V → List V → Hp → VK → Prop := fun x vs H Q => ∃ w S d ds, w.H = H ∧ SOk g w S ∧ Rep g w d x ∧ Reps g w ds vs ∧ Post g w (Rep g) (.ofO (f d ds S)) Q (fun _ _ _ => False)
/-- the argument a list that was just made -/
def rMT (g : Gnd) (f : FM) : V → List V → Hp → VK → Prop := fun x vs H Q => ∃ w S d xs v, vs = [v] ∧ w.H = H ∧ SOk g w S ∧ Rep g w d x ∧ RepT g w xs v ∧ Post g w (Rep g) (.ofO (f d xs S)) Q (fun _ _ _ => False)
theorem mtyD_ok {g : Gnd} {w : Wd} {S : Sto} (so : SOk g w S) {d : D} {v : V} {T : String} (r : Rep g w d v) (e : mtyD d S = some T) : tyW g.K g.w T v w.H := by
  unfold mtyD at e
  split at e
  · cases r; cases e; exact .inl rfl
  · cases e
    cases r with
    | rl t l r => exact .inl (.inl ⟨rfl, _, t.sql⟩)
  · cases e
    cases r with
    | kd kk ke kl kr => exact .inr ⟨_, _, _, rfl, rfl, kk⟩
  · cases r
    split at e
    · rename_i q
      cases e
      obtain ⟨vs, hv, rv, l⟩ := so.sql q
      exact .inl (.inl ⟨rfl, vs, SqL.of hv⟩)
    · rename_i q
      cases e
      obtain ⟨kus, eh, _⟩ := so.dka q
      exact .inl (.inr (.inr (.inl ⟨rfl, .inl ⟨kus, eh⟩⟩)))
    · cases e
  · cases e
section
variable {X : Cx} {W : WX} {o e : Expr} {es : List Expr} {fo : DenE} {h : DenA} {f : FM} {name : Str} {apos cpos : Pos} {T id : String}
theorem lift_m {g : Gnd} {σ : L2.St} {H : Hp} {Q : VK} (q : tE g W (dM T f fo h) σ H Q) : tWM g.K g.w T (rM g f) (tE g W fo) (tA g W h) σ H Q := by
  refine tG_mono (lift1 q) fun x H1 h1 => ?_
  obtain ⟨w, S, fr, d, rfl, so, fo', r, p⟩ := h1
  dsimp only at p
  split at p
  · rename_i ht
    refine ⟨mtyD_ok so r ht, ?_⟩
    refine tG_mono (next1 (R1 := Rep g) (R2 := Reps g) (R := Rep g) (x := x) (f' := h) (k := fun d ds fr S2 => .ofO (f d ds S2)) (fun _ _ _ _ s r => rmono s r) ⟨w, S, fr, d, rfl, so, fo', r, p⟩) fun vs H2 h2 => ?_
    obtain ⟨w2, S2, fr2, q2, e2, so2, fo2, ⟨r1, r2⟩, p2⟩ := h2
    exact ⟨w2, S2, q2.1, q2.2, e2, so2, r1, r2, Post.ofO p2⟩
  · exact p.elim
theorem lift_m0 {g : Gnd} {σ : L2.St} {H : Hp} {Q : VK} (q : tE g W (dM T f fo dANil) σ H Q) : tWM0 g.K g.w T (rM g f) (tE g W fo) σ H Q := by
  refine tG_mono (lift1 q) fun x H1 h1 => ?_
  obtain ⟨w, S, fr, d, rfl, so, fo', r, p⟩ := h1
  dsimp only at p
  split at p
  · rename_i ht
    exact ⟨mtyD_ok so r ht, w, S, d, [], rfl, so, r, .nil, Post.ofO p⟩
  · exact p.elim
theorem lift_mt {g : Gnd} {σ : L2.St} {H : Hp} {Q : VK} (q : tE g W (dM T f fo h) σ H Q) : tWM g.K g.w T (rMT g f) (tE g W fo) (tCons (tL g W h) tNil) σ H Q := by
  refine tG_mono (lift1 q) fun x H1 h1 => ?_
  obtain ⟨w, S, fr, d, rfl, so, fo', r, p⟩ := h1
  dsimp only at p
  split at p
  · rename_i ht
    refine ⟨mtyD_ok so r ht, ?_⟩
    refine ⟨w, S, fr, rfl, so, fo', ?_⟩
    cases q : h fr S with
    | no => rw [q] at p; exact p
    | ex e S1 => rw [q] at p; exact p
    | ok ds S1 =>
      rw [q] at p
      intro w1 b st so1 _ r1
      exact ⟨w1, S1, d, ds, _, rfl, rfl, so1, rmono st r, r1, Post.ofO (Post.step st p)⟩
  · exact p.elim
theorem de_m (pa : PlainAttrs T) (slot : Slot T name id) (hty : typeOf (.builtin id) = pure (.type "method_descriptor")) (hm : MtR X id (rM ⟨X.K, X.mg, X.w⟩ f)) (ho : PE X o (tE ⟨X.K, X.mg, X.w⟩ W fo)) (ha : PA X (e :: es) (tA ⟨X.K, X.mg, X.w⟩ W h))
    (hbase : attributeBase o name X.env (eval o X.env) = eval o X.env)
    (hfew : ((backTo cpos (starEach (e :: es) X.env)).all (fun x => !x.1) && (backToKw cpos (keywordEach [] X.env)).all (fun x => x.1.isSome)
      && decide ((e :: es).length + ([] : List Keyword).length + (if ([] : List Keyword).isEmpty then 0 else 1) < 30)) = true)
    (hline : (apos.endLine == cpos.line) = true) (hs : starEach (e :: es) X.env = (false, eval e X.env) :: starEach es X.env) (hplain : (backTo cpos (starEach es X.env)).any (·.1) = false) :
    PE X (.Call (.Attribute o name apos) (e :: es) [] cpos) (tE ⟨X.K, X.mg, X.w⟩ W (dM T f fo h)) :=
  PE.weaken (pw_bm pa slot hty hm ho ha hbase hfew hline hs hplain) fun _ _ _ q => lift_m q
theorem de_m0 (pa : PlainAttrs T) (slot : Slot T name id) (hty : typeOf (.builtin id) = pure (.type "method_descriptor")) (hm : MtR X id (rM ⟨X.K, X.mg, X.w⟩ f)) (ho : PE X o (tE ⟨X.K, X.mg, X.w⟩ W fo))
    (hbase : attributeBase o name X.env (eval o X.env) = eval o X.env) (hline : (apos.endLine == cpos.line) = true) : PE X (.Call (.Attribute o name apos) [] [] cpos) (tE ⟨X.K, X.mg, X.w⟩ W (dM T f fo dANil)) :=
  PE.weaken (pw_bm0 pa slot hty hm ho hbase hline) fun _ _ _ q => lift_m0 q
theorem de_mt (pa : PlainAttrs T) (slot : Slot T name id) (hty : typeOf (.builtin id) = pure (.type "method_descriptor")) (hm : MtR X id (rMT ⟨X.K, X.mg, X.w⟩ f)) (ho : PE X o (tE ⟨X.K, X.mg, X.w⟩ W fo)) (ha : PE X e (tL ⟨X.K, X.mg, X.w⟩ W h))
    (hbase : attributeBase o name X.env (eval o X.env) = eval o X.env)
    (hfew : ((backTo cpos (starEach [e] X.env)).all (fun x => !x.1) && (backToKw cpos (keywordEach [] X.env)).all (fun x => x.1.isSome)
      && decide ([e].length + ([] : List Keyword).length + (if ([] : List Keyword).isEmpty then 0 else 1) < 30)) = true)
    (hline : (apos.endLine == cpos.line) = true) (hs : starEach [e] X.env = (false, eval e X.env) :: starEach [] X.env) (hplain : (backTo cpos (starEach [] X.env)).any (·.1) = false) :
    PE X (.Call (.Attribute o name apos) [e] [] cpos) (tE ⟨X.K, X.mg, X.w⟩ W (dM T f fo h)) :=
  PE.weaken (pw_bm pa slot hty hm ho (pa_cons ha pa_nil hs) hbase hfew hline hs hplain) fun _ _ _ q => lift_mt q
/-- the same name, of two types -/
def dM2 (T T' : String) (f f' : FM) (o : DenE) (h : DenA) : DenE := fun fr S => (o fr S).bnd fun d S' => if mtyD d S' = some T then (h fr S').bnd fun ds S2 => .ofO (f d ds S2) else
  if mtyD d S' = some T' then (h fr S').bnd fun ds S2 => .ofO (f' d ds S2) else .no
theorem de_m2 {T' : String} {f' : FM} {q : Expr} (h1 : PE X q (tE ⟨X.K, X.mg, X.w⟩ W (dM T f fo h))) (h2 : PE X q (tE ⟨X.K, X.mg, X.w⟩ W (dM T' f' fo h))) : PE X q (tE ⟨X.K, X.mg, X.w⟩ W (dM2 T T' f f' fo h)) := by
  refine PE.weaken (PE_or h1 h2) fun σ H Q q => ?_
  obtain ⟨w, S, fr, e, so, fo', p⟩ := q
  unfold dM2 at p
  by_cases hT : ∃ d S', fo fr S = .ok d S' ∧ mtyD d S' = some T
  · obtain ⟨d, S', e1, e2⟩ := hT
    refine .inl ⟨w, S, fr, e, so, fo', ?_⟩
    unfold dM
    rw [e1] at p ⊢
    dsimp only [Out.bnd] at p ⊢
    rw [if_pos e2] at p ⊢
    exact p
  · refine .inr ⟨w, S, fr, e, so, fo', ?_⟩
    unfold dM
    cases z : fo fr S with
    | no => rw [z] at p; exact p
    | ex e S1 => rw [z] at p; exact p
    | ok d S' =>
      rw [z] at p
      dsimp only [Out.bnd] at p ⊢
      rw [if_neg fun q => hT ⟨d, S', z, q⟩] at p
      exact p
end
end DL
/-! DL, part h: methods of lists, texts, dicts. -/
namespace DL
open PySem PySem.Spec PyProof.Rows L2

def mAppend : FM := fun d ds S => match d, ds with
  | .ob n, [x] => match S[n]? with
    | some (.lst xs) => if xs.length < sizeLine then some (.non, S.set n (.lst (xs ++ [x]))) else none
    | _ => none
  | _, _ => none
/-- extend by items -/
def mExtendT : FM := fun d ys S => match d with
  | .ob n => match S[n]? with
    | some (.lst xs) => if xs.length + ys.length ≤ sizeLine then some (.non, S.set n (.lst (xs ++ ys))) else none
    | _ => none
  | _ => none
def mExtend : FM := fun d ds S => match ds with
  | [.ob j] => match S[j]? with
    | some (.lst ys) => mExtendT d ys S
    | _ => none
  | _ => none
def mPop : FM := fun d ds S => match d, ds with
  | .ob n, [] => match S[n]? with
    | some (.lst xs) => match xs[xs.length - 1]? with
      | some y => some (y, S.set n (.lst xs.dropLast))
      | none => none
    | _ => none
  | .ob n, [.int i] => match S[n]? with
    | some (.lst xs) => if -(2 ^ 63) ≤ i ∧ i < 2 ^ 63 then match seqIndex? i xs.length with
      | some k => match xs[k]? with
        | some y => some (y, S.set n (.lst (xs.eraseIdx k)))
        | none => none
      | none => none else none
    | _ => none
  | _, _ => none
def mClear : FM := fun d ds S => match d, ds with
  | .ob n, [] => match S[n]? with
    | some (.lst _) => some (.non, S.set n (.lst []))
    | _ => none
  | _, _ => none
/-- the first place of an equal one -/
def idxP (p : PyData) : List PyData → Nat → Option Nat
  | [], _ => none
  | z :: zs, j => if PyData.eqv z p then some j else idxP p zs (j + 1)
def joinOk (a : Str) (ys : List Str) : Prop := (ys.map (·.length)).sum + ys.length * a.length ≤ 16777216
instance (a : Str) (ys : List Str) : Decidable (joinOk a ys) := inferInstanceAs (Decidable (_ ≤ _))
def mJoinT : FM := fun d xs S => match d with
  | .str a => match optAll strOf xs with
    | some ys => if joinOk a ys then some (.str (Txt.join a ys), S) else none
    | none => none
  | _ => none
def mJoin : FM := fun d ds S => match ds with
  | [x] => match seqD x S with
    | some xs => mJoinT d xs S
    | none => none
  | _ => none
def mSplit : FM := fun d ds S => match d, ds with
  | .str a, [.str b] => if (b.length == 0) = false ∧ a.length + 2 ≤ sizeLine ∧ (Txt.split a b).length ≤ sizeLine then some (.ob S.length, S ++ [.lst ((Txt.split a b).map D.str)]) else none
  | _, _ => none
def mSIndex : FM := fun d ds S => match d, ds with
  | .str a, [.str b] => match Builtin.Str.occurrences a b 0 a.length 1 with
    | i :: _ => some (.int (i : Nat), S)
    | [] => none
  | _, _ => none
def mGet : FM := fun d ds S => match d, ds with
  | .ob n, [k, x] => match S[n]? with
    | some (.dk kvs) => (keyD k).map fun kk => ((valD kvs kk).getD x, S)
    | _ => none
  | .ob n, [k] => match S[n]? with
    | some (.dk kvs) => (keyD k).map fun kk => ((valD kvs kk).getD .non, S)
    | _ => none
  | .kd ks vs, [.str z, x] => some ((kdGet ks vs z).getD x, S)
  | _, _ => none
section
variable {X : Cx}
theorem Reps.one {g : Gnd} {w : Wd} {d : D} {vs : List V} (r : Reps g w [d] vs) : ∃ v, vs = [v] ∧ Rep g w d v := by
  cases r with
  | cons a b => cases b; exact ⟨_, rfl, a⟩
theorem Reps.two {g : Gnd} {w : Wd} {d e : D} {vs : List V} (r : Reps g w [d, e] vs) : ∃ v u, vs = [v, u] ∧ Rep g w d v ∧ Rep g w e u := by
  cases r with
  | cons a b =>
    obtain ⟨u, rfl, c⟩ := b.one
    exact ⟨_, u, rfl, a, c⟩
theorem Reps.zero {g : Gnd} {w : Wd} {vs : List V} (r : Reps g w [] vs) : vs = [] := by
  cases r; rfl
theorem SOk.lt {g : Gnd} {w : Wd} {S : Sto} (so : SOk g w S) {i : Nat} {o : O} (e : S[i]? = some o) : i < w.n := by
  rw [so.len]
  exact (List.getElem?_eq_some_iff.mp e).1
theorem m_append : MtR X "list.append" (rM ⟨X.K, X.mg, X.w⟩ mAppend) := by
  intro pins s σ H x xs v us Q I rx rs h
  obtain ⟨w, S, d, ds, rfl, so, r, rd, k⟩ := h
  unfold mAppend at k
  split at k
  · rename_i n y
    split at k
    · rename_i zs q
      split at k
      · rename_i hl
        obtain ⟨vs, hv, rv, l⟩ := so.sql q
        obtain ⟨u, rfl, ru⟩ := rd.one
        cases r
        have el := rv.length
        obtain ⟨st, so'⟩ := Step.write so (so.lt q) (o := .lst (zs ++ [y])) (ho := .lst (vs ++ [u])) (.lst (by rw [List.length_append]; exact hl) (rv.append (.cons ru .nil)))
        exact mt_append pins s σ _ _ _ v us Q I rx rs ⟨_, vs, u, rfl, rfl, hv, by omega, k _ _ st so' .non⟩
      · exact k.elim
    · exact k.elim
  · exact k.elim
theorem m_extendT : MtR X "list.extend" (rMT ⟨X.K, X.mg, X.w⟩ mExtendT) := by
  intro pins s σ H x xs v us Q I rx rs h
  obtain ⟨w, S, d, ys, b, rfl, rfl, so, r, ⟨p, vb, rfl, hb, hn, lb, rb⟩, k⟩ := h
  unfold mExtendT at k
  split at k
  · split at k
    · rename_i n zs q
      split at k
      · rename_i hl
        obtain ⟨vs, hv, rv, l⟩ := so.sql q
        cases r
        have e1 := rv.length
        have e2 := rb.length
        obtain ⟨st, so'⟩ := Step.write so (so.lt q) (o := .lst (zs ++ ys)) (ho := .lst (vs ++ vb)) (.lst (by rw [List.length_append]; exact hl) (rv.append rb))
        exact mt_extend pins s σ _ _ _ v us Q I rx rs ⟨_, p, vs, vb, rfl, rfl, hv, hb, by omega, k _ _ st so' .non⟩
      · exact k.elim
    · exact k.elim
  · exact k.elim
theorem m_extend : MtR X "list.extend" (rM ⟨X.K, X.mg, X.w⟩ mExtend) := by
  intro pins s σ H x xs v us Q I rx rs h
  obtain ⟨w, S, d, ds, rfl, so, r, rd, k⟩ := h
  unfold mExtend at k
  split at k
  · split at k
    · rename_i j ys qb
      obtain ⟨u, rfl, ru⟩ := rd.one
      cases ru
      obtain ⟨vb, hb, rb, lb⟩ := so.sql qb
      unfold mExtendT at k
      split at k
      · split at k
        · rename_i n zs q
          split at k
          · rename_i hl
            obtain ⟨vs, hv, rv, l⟩ := so.sql q
            cases r
            have e1 := rv.length
            have e2 := rb.length
            obtain ⟨st, so'⟩ := Step.write so (so.lt q) (o := .lst (zs ++ ys)) (ho := .lst (vs ++ vb)) (.lst (by rw [List.length_append]; exact hl) (rv.append rb))
            exact mt_extend pins s σ _ _ _ v us Q I rx rs ⟨_, _, vs, vb, rfl, rfl, hv, hb, by omega, k _ _ st so' .non⟩
          · exact k.elim
        · exact k.elim
      · exact k.elim
    · exact k.elim
  · exact k.elim
theorem Reps.dropLast {g : Gnd} {w : Wd} {ds : List D} {vs : List V} (r : Reps g w ds vs) : Reps g w ds.dropLast vs.dropLast := by
  rw [List.dropLast_eq_take, List.dropLast_eq_take, r.length]
  exact r.take _
theorem Reps.eraseIdx {g : Gnd} {w : Wd} : ∀ {ds : List D} {vs : List V} (i : Nat), Reps g w ds vs → Reps g w (ds.eraseIdx i) (vs.eraseIdx i)
  | _, _, _, .nil => .nil
  | _, _, 0, .cons _ t => t
  | _, _, i + 1, .cons r t => .cons r (Reps.eraseIdx i t)
theorem m_pop : MtR X "list.pop" (rM ⟨X.K, X.mg, X.w⟩ mPop) := by
  intro pins s σ H x xs v us Q I rx rs h
  obtain ⟨w, S, d, ds, rfl, so, r, rd, k⟩ := h
  unfold mPop at k
  split at k
  · split at k
    · rename_i n zs q
      split at k
      · rename_i y ey
        obtain ⟨vs, hv, rv, l⟩ := so.sql q
        cases rd.zero
        cases r
        obtain ⟨u, eu, ru⟩ := rv.get ey
        obtain ⟨st, so'⟩ := Step.write so (so.lt q) (o := .lst zs.dropLast) (ho := .lst vs.dropLast) (.lst (by rw [List.length_dropLast]; omega) rv.dropLast)
        exact mt_pop pins s σ _ _ _ v us Q I rx rs ⟨_, vs, u, rfl, rfl, hv, by rw [← rv.length]; exact eu, k _ _ st so' (Rep.mono st.toMono _ _ ru)⟩
      · exact k.elim
    · exact k.elim
  · rename_i n i
    split at k
    · rename_i zs q
      split at k
      · rename_i hi
        split at k
        · rename_i j ej
          split at k
          · rename_i y ey
            obtain ⟨vs, hv, rv, l⟩ := so.sql q
            obtain ⟨u0, rfl, ru0⟩ := rd.one
            cases ru0
            cases r
            obtain ⟨u, eu, ru⟩ := rv.get ey
            obtain ⟨st, so'⟩ := Step.write so (so.lt q) (o := .lst (zs.eraseIdx j)) (ho := .lst (vs.eraseIdx j)) (.lst (Nat.le_trans (len_erase _ _) l) (rv.eraseIdx j))
            exact mt_popAt pins s σ _ _ _ v us Q I rx rs ⟨_, vs, i, j, u, rfl, rfl, hv, hi.1, hi.2, by rw [← rv.length]; exact ej, eu, k _ _ st so' (Rep.mono st.toMono _ _ ru)⟩
          · exact k.elim
        · exact k.elim
      · exact k.elim
    · exact k.elim
  · exact k.elim
theorem m_clear : MtR X "list.clear" (rM ⟨X.K, X.mg, X.w⟩ mClear) := by
  intro pins s σ H x xs v us Q I rx rs h
  obtain ⟨w, S, d, ds, rfl, so, r, rd, k⟩ := h
  unfold mClear at k
  split at k
  · split at k
    · rename_i n zs q
      obtain ⟨vs, hv, rv, l⟩ := so.sql q
      cases rd.zero
      cases r
      obtain ⟨st, so'⟩ := Step.write so (so.lt q) (o := .lst []) (ho := .lst []) (.lst (Nat.zero_le _) .nil)
      exact mt_clear pins s σ _ _ _ v us Q I rx rs ⟨_, vs, rfl, rfl, hv, k _ _ st so' .non⟩
    · exact k.elim
  · exact k.elim
theorem join_any {pins : List (Addr × Obj)} {σ : L2.St} {s : Shared} {w : Wd} {S : Sto} {d : D} {xs : List D} {x : V} {vs : List V} {a : Addr} {v : Value} {us : List Value} {Q : VK} (I : Inv X pins σ w.H s) (so : SOk ⟨X.K, X.mg, X.w⟩ w S) (rx : RelV x v) (rs : Vals [.ref a] us)
    (r : Rep ⟨X.K, X.mg, X.w⟩ w d x) (hq : SqL X.K w.H a vs ∨ SqT X.K w.H a vs) (rv : Reps ⟨X.K, X.mg, X.w⟩ w xs vs) (k : Post ⟨X.K, X.mg, X.w⟩ w (Rep ⟨X.K, X.mg, X.w⟩) (.ofO (mJoinT d xs S)) Q fun _ _ _ => False) :
    wpAny (model X.prog X.w) X.A (call (.builtin "str.join") (v :: us)) (EP X pins σ Q) X.xe s := by
  unfold mJoinT at k
  split at k
  · split at k
    · rename_i ys e
      have e1 := strOf_ok e
      subst e1
      have e2 := rv.strs
      subst e2
      split at k
      · rename_i hj
        cases r
        exact mt_join pins s σ _ _ _ v us Q I rx rs ⟨_, a, ys, rfl, rfl, hq, hj, k w _ (Step.refl so) so (.str _)⟩
      · exact k.elim
    · exact k.elim
  · exact k.elim
theorem m_joinT : MtR X "str.join" (rMT ⟨X.K, X.mg, X.w⟩ mJoinT) := by
  intro pins s σ H x xs v us Q I rx rs h
  obtain ⟨w, S, d, ys, b, rfl, rfl, so, r, ⟨p, vb, rfl, hb, hn, lb, rb⟩, k⟩ := h
  exact join_any I so rx rs r (.inl (SqL.of hb)) rb k
theorem m_join : MtR X "str.join" (rM ⟨X.K, X.mg, X.w⟩ mJoin) := by
  intro pins s σ H x xs v us Q I rx rs h
  obtain ⟨w, S, d, ds, rfl, so, r, rd, k⟩ := h
  unfold mJoin at k
  split at k
  · split at k
    · rename_i ys e
      obtain ⟨u0, rfl, ru0⟩ := rd.one
      obtain ⟨a, vs, rfl, hq, rv, l⟩ := seqD_ok so ru0 e
      exact join_any I so rx rs r hq rv k
    · exact k.elim
  · exact k.elim
theorem m_split : MtR X "str.split" (rM ⟨X.K, X.mg, X.w⟩ mSplit) := by
  intro pins s σ H x xs v us Q I rx rs h
  obtain ⟨w, S, d, ds, rfl, so, r, rd, k⟩ := h
  unfold mSplit at k
  split at k
  · split at k
    · rename_i hc
      obtain ⟨u0, rfl, ru0⟩ := rd.one
      cases ru0
      cases r
      refine mt_split pins s σ _ _ _ v us Q I rx rs ⟨_, _, rfl, rfl, hc.1, hc.2.1, fun p hp => ?_⟩
      obtain ⟨st, so', rr⟩ := Step.new so hp (o := .lst ((Txt.split _ _).map D.str)) (.lst (by rw [List.length_map]; exact hc.2.2) (Reps.of_strs _))
      exact k _ _ st so' rr
    · exact k.elim
  · exact k.elim
theorem m_sindex : MtR X "str.index" (rM ⟨X.K, X.mg, X.w⟩ mSIndex) := by
  intro pins s σ H x xs v us Q I rx rs h
  obtain ⟨w, S, d, ds, rfl, so, r, rd, k⟩ := h
  unfold mSIndex at k
  split at k
  · split at k
    · rename_i i rest e
      obtain ⟨u0, rfl, ru0⟩ := rd.one
      cases ru0
      cases r
      exact mt_sindex pins s σ _ _ _ v us Q I rx rs ⟨_, _, i, rest, rfl, rfl, e, k w _ (Step.refl so) so (.int _)⟩
    · exact k.elim
  · exact k.elim
theorem valD_getD {g : Gnd} {w : Wd} {k : Key} {kvs : List (Key × D)} {kus : List (Key × V)} {x : D} {u : V} (e : kvs.map (·.1) = kus.map (·.1)) (r : Reps g w (kvs.map (·.2)) (kus.map (·.2))) (rx : Rep g w x u) : Rep g w ((valD kvs k).getD x) ((valV kus k).getD u) := by
  obtain ⟨q1, q2⟩ := valD_ok (k := k) e r
  cases z : valD kvs k with
  | none => rw [q2 z]; exact rx
  | some d =>
    obtain ⟨v', ev, r'⟩ := q1 d z
    rw [ev]
    exact r'
theorem m_get (hu : X.A.units + 200 < cLine) : MtR X "dict.get" (rM ⟨X.K, X.mg, X.w⟩ mGet) := by
  intro pins s σ H x xs v us Q I rx rs h
  obtain ⟨w, S, d, ds, rfl, so, r, rd, k⟩ := h
  unfold mGet at k
  split at k
  · rename_i n k0 x0
    split at k
    · rename_i kvs q
      cases ek : keyD k0 with
      | none => rw [ek] at k; exact k.elim
      | some kk =>
        rw [ek] at k
        obtain ⟨u1, u2, rfl, r1, r2⟩ := rd.two
        obtain ⟨kus, eh, l, e3, rk⟩ := so.dka q
        have e1 := keyD_ok r1 ek
        subst e1
        obtain ⟨w1, w2, rfl, q1, q2⟩ := rs.two
        cases r
        obtain rfl : v = .ref (w.m n) := rx
        exact d_get2 (by omega) I (DGet.k (k := kk) eh) q1 q2 fun w' s3 I3 rw' => ⟨_, _, I3, rw', k w _ (Step.refl so) so (valD_getD e3 rk r2)⟩
    · exact k.elim
  · rename_i n k0
    split at k
    · rename_i kvs q
      cases ek : keyD k0 with
      | none => rw [ek] at k; exact k.elim
      | some kk =>
        rw [ek] at k
        obtain ⟨u1, rfl, r1⟩ := rd.one
        obtain ⟨kus, eh, l, e3, rk⟩ := so.dka q
        have e1 := keyD_ok r1 ek
        subst e1
        obtain ⟨w1, rfl, q1⟩ := rs.one
        cases r
        obtain rfl : v = .ref (w.m n) := rx
        exact d_get1 (by omega) I (DGet.k (k := kk) eh) q1 fun w' s3 I3 rw' => ⟨_, _, I3, rw', k w _ (Step.refl so) so (valD_getD e3 rk .non)⟩
    · exact k.elim
  · obtain ⟨u1, u2, rfl, r1, r2⟩ := rd.two
    obtain ⟨w1, w2, rfl, q1, q2⟩ := rs.two
    cases r1
    cases r with
    | kd kk ke kl kr =>
      rename_i ks vs z x ad es n ws us'
      obtain rfl : v = .ref ad := rx
      obtain ⟨t, rfl⟩ := q1
      refine call_meetsIn PySem.F.slot_dict_get (kd_type kk I) PySem.F.entry_dict_get (PySem.F.args_dict_get_3 _ _ _)
        (meets_dict_get_default (PySem.strKind X.prog X.w) ad (PySem.strKind_is X.prog X.w z t) kk.low w2) ⟨_, PySem.W.mapOf_K (prog := X.prog) I.kIn kk.at_ kk.lit, ?_⟩
      rw [PySem.W.find_K kk.at_ (ke z)]
      obtain ⟨h1, h2⟩ := kd_look (z := z) (ks := ks) kl kr
      cases e : kdGet ks vs z with
      | none =>
        rw [e] at k
        rw [h2 e]
        exact ⟨u2, _, I.tok _, q2, k w _ (Step.refl so) so r2⟩
      | some d =>
        rw [e] at k
        obtain ⟨u0, v0, e2, r3, r4⟩ := h1 d e
        rw [e2]
        exact ⟨v0, _, I.tok _, r3, k w _ (Step.refl so) so r4⟩
  · exact k.elim
end
end DL
/-! DL, part i: statements. -/
namespace DL
open PySem PySem.Spec PyProof.Rows L2

def PostS (g : Gnd) (w : Wd) (out : OutS) (D : Ends) (W : WX) : Prop := match out with
  | .ok .nx fr S => ∀ w' σ', Step w w' → SOk g w' S → FrOk g w' fr σ' → D.nx σ' w'.H
  | .ok .bk fr S => ∀ w' σ', Step w w' → SOk g w' S → FrOk g w' fr σ' → D.bk σ' w'.H
  | .ok .ct fr S => ∀ w' σ', Step w w' → SOk g w' S → FrOk g w' fr σ' → D.ct σ' w'.H
  | .ok (.rt d) _ S => ∀ w' v, Step w w' → SOk g w' S → Rep g w' d v → D.rt v w'.H
  | .ex e fr S => ∀ w' σ' c dx, Step w w' → SOk g w' S → FrOk g w' fr σ' → RepX g w' e c dx → W c dx σ' w'.H
  | .no => False
def tS (g : Gnd) (W : WX) (f : DenS) : TS := fun D σ H => ∃ w S fr, w.H = H ∧ SOk g w S ∧ FrOk g w fr σ ∧ PostS g w (f fr S) D W
theorem PostS.step {g : Gnd} {w w' : Wd} {out : OutS} {D : Ends} {W : WX} (a : Step w w') (p : PostS g w out D W) : PostS g w' out D W := by
  cases out with
  | ok f fr S =>
    cases f with
    | nx => exact fun w2 σ' s so fo => p w2 σ' (a.trans s) so fo
    | bk => exact fun w2 σ' s so fo => p w2 σ' (a.trans s) so fo
    | ct => exact fun w2 σ' s so fo => p w2 σ' (a.trans s) so fo
    | rt d => exact fun w2 v s so r => p w2 v (a.trans s) so r
  | ex e fr S => exact fun w2 σ' c dx s so fo rx => p w2 σ' c dx (a.trans s) so fo rx
  | no => exact p
theorem FrOk.set {g : Gnd} {w : Wd} {fr : Fr} {σ : L2.St} {d : D} {v : V} (f : FrOk g w fr σ) (i : Nat) (r : Rep g w d v) : FrOk g w (fr.set i (some d)) (σ.set i (some v)) := by
  refine ⟨by rw [List.length_set, List.length_set]; exact f.len, fun j e h => ?_⟩
  by_cases hj : j = i
  · subst hj
    have hl : j < fr.length := by
      have := (List.getElem?_eq_some_iff.mp h).1
      rw [List.length_set] at this
      exact this
    rw [List.getElem?_set_self hl] at h
    cases h
    exact ⟨v, List.getElem?_set_self (by rw [← f.len]; exact hl), r⟩
  · rw [List.getElem?_set_ne (Ne.symm hj)] at h ⊢
    exact f.at_ j e h
theorem FrOk.unset {g : Gnd} {w : Wd} {fr : Fr} {σ : L2.St} (f : FrOk g w fr σ) (i : Nat) (o : Option V) : FrOk g w (fr.set i none) (σ.set i o) := by
  refine ⟨by rw [List.length_set, List.length_set]; exact f.len, fun j e h => ?_⟩
  by_cases hj : j = i
  · subst hj
    have hl : j < fr.length := by
      have := (List.getElem?_eq_some_iff.mp h).1
      rw [List.length_set] at this
      exact this
    rw [List.getElem?_set_self hl] at h
    cases h
  · rw [List.getElem?_set_ne (Ne.symm hj)] at h ⊢
    exact f.at_ j e h

/-! ### blocks, small statements -/
/-- an expression, then a statement -/
def Out.thn {α : Type} (o : Out α) (fr : Fr) (f : α → Sto → OutS) : OutS := match o with
  | .ok a S => f a S
  | .ex e S => .ex e fr S
  | .no => .no
def dNil : DenS := fun fr S => .ok .nx fr S
def dSeq (a b : DenS) : DenS := fun fr S => match a fr S with
  | .ok .nx fr' S' => b fr' S'
  | o => o
def dBreak : DenS := fun fr S => .ok .bk fr S
def dCont : DenS := fun fr S => .ok .ct fr S
def dExpr (f : DenE) : DenS := fun fr S => (f fr S).thn fr fun _ S' => .ok .nx fr S'
def dRet (f : DenE) : DenS := fun fr S => (f fr S).thn fr fun d S' => .ok (.rt d) fr S'
def dRetN : DenS := fun fr S => .ok (.rt .non) fr S
def dIfS (t : DenT) (a b : DenS) : DenS := fun fr S => (t fr S).thn fr fun c S' => match c with
  | true => a fr S'
  | false => b fr S'
def dSet (i : Nat) (f : DenE) : DenS := fun fr S => (f fr S).thn fr fun d S' => .ok .nx (fr.set i (some d)) S'
section
variable {X : Cx} {W : WX} {g : Gnd} {st : Stmt} {rest : List Stmt} {a b : DenS} {e : Expr} {f : DenE} {pos : Pos} {t : DenT}
/-- the reading of an expression, what follows it a statement's end -/
theorem liftS {α β : Type} {R : Wd → α → β → Prop} {fe : Fr → Sto → Out α} {k : α → Fr → Sto → OutS} {D : Ends} {σ : L2.St} {H : Hp} {Q : β → Hp → Prop}
    (h : tS g W (fun fr S => (fe fr S).thn fr fun a S' => k a fr S') D σ H)
    (hq : ∀ w S fr a b, SOk g w S → FrOk g w fr σ → R w a b → PostS g w (k a fr S) D W → Q b w.H) : tG g W R fe σ H Q := by
  obtain ⟨w, S, fr, e, so, fo, p⟩ := h
  refine ⟨w, S, fr, e, so, fo, ?_⟩
  have p : PostS g w ((fe fr S).thn fr fun a S' => k a fr S') D W := p
  cases q : fe fr S with
  | ok a S1 =>
    rw [q] at p
    intro w1 x st so1 r
    exact hq w1 S1 fr a x so1 (fo.mono st.toMono) r (PostS.step st p)
  | ex e S1 =>
    rw [q] at p
    intro w1 c dx st so1 rx
    exact p w1 σ c dx st so1 (fo.mono st.toMono) rx
  | no =>
    rw [q] at p
    exact p
theorem nextS {α β α' β' : Type} {R1 : Wd → α → β → Prop} {R2 : Wd → α' → β' → Prop} (hm : Stays R1) {f' : Fr → Sto → Out α'} {k : α' → Sto → OutS} {D : Ends} {σ : L2.St} {Q : β' → Hp → Prop} {w : Wd} {S : Sto} {fr : Fr} {a : α} {x : β}
    (so : SOk g w S) (fo : FrOk g w fr σ) (r1 : R1 w a x) (p : PostS g w ((f' fr S).thn fr k) D W)
    (hq : ∀ w S b y, SOk g w S → FrOk g w fr σ → R1 w a x → R2 w b y → PostS g w (k b S) D W → Q y w.H) : tG g W R2 f' σ w.H Q := by
  refine ⟨w, S, fr, rfl, so, fo, ?_⟩
  cases q : f' fr S with
  | ok b S1 =>
    rw [q] at p
    intro w1 y st so1 r
    exact hq w1 S1 b y so1 (fo.mono st.toMono) (hm _ _ _ _ st r1) r (PostS.step st p)
  | ex e S1 =>
    rw [q] at p
    intro w1 c dx st so1 rx
    exact p w1 σ c dx st so1 (fo.mono st.toMono) rx
  | no =>
    rw [q] at p
    exact p
theorem ds_nil : PSs X [] (tS ⟨X.K, X.mg, X.w⟩ W dNil) := by
  refine PSs.weaken pss_nil fun D σ H q => ?_
  obtain ⟨w, S, fr, rfl, so, fo, p⟩ := q
  exact p w σ (Step.refl so) so fo
theorem ds_seq (h1 : PS X st (tS ⟨X.K, X.mg, X.w⟩ W a)) (h2 : PSs X rest (tS ⟨X.K, X.mg, X.w⟩ W b)) : PSs X (st :: rest) (tS ⟨X.K, X.mg, X.w⟩ W (dSeq a b)) := by
  refine PSs.weaken (pss_cons h1 h2) fun D σ H q => ?_
  obtain ⟨w, S, fr, e, so, fo, p⟩ := q
  refine ⟨w, S, fr, e, so, fo, ?_⟩
  unfold dSeq at p
  cases q : a fr S with
  | ok f fr1 S1 =>
    rw [q] at p
    cases f with
    | nx => exact fun w1 σ1 st so1 fo1 => ⟨w1, S1, fr1, rfl, so1, fo1, PostS.step st p⟩
    | bk => exact p
    | ct => exact p
    | rt d => exact p
  | ex e fr1 S1 => rw [q] at p; exact p
  | no => rw [q] at p; exact p
theorem ds_pass : PS X (.Pass pos) (tS ⟨X.K, X.mg, X.w⟩ W dNil) := by
  refine PS.weaken ps_pass fun D σ H q => ?_
  obtain ⟨w, S, fr, rfl, so, fo, p⟩ := q
  exact p w σ (Step.refl so) so fo
theorem ds_doc {x : Str} {j : Nat} {pos' : Pos} : PS X (.Expr (.Constant (.str x) j pos) pos') (tS ⟨X.K, X.mg, X.w⟩ W dNil) := by
  refine PS.weaken ps_doc fun D σ H q => ?_
  obtain ⟨w, S, fr, rfl, so, fo, p⟩ := q
  exact p w σ (Step.refl so) so fo
theorem ds_break : PS X (.Break pos) (tS ⟨X.K, X.mg, X.w⟩ W dBreak) := by
  refine PS.weaken ps_break fun D σ H q => ?_
  obtain ⟨w, S, fr, rfl, so, fo, p⟩ := q
  exact p w σ (Step.refl so) so fo
theorem ds_cont : PS X (.Continue pos) (tS ⟨X.K, X.mg, X.w⟩ W dCont) := by
  refine PS.weaken ps_continue fun D σ H q => ?_
  obtain ⟨w, S, fr, rfl, so, fo, p⟩ := q
  exact p w σ (Step.refl so) so fo
theorem ds_retN : PS X (.Return none pos) (tS ⟨X.K, X.mg, X.w⟩ W dRetN) := by
  refine PS.weaken ps_retN fun D σ H q => ?_
  obtain ⟨w, S, fr, rfl, so, fo, p⟩ := q
  exact p w _ (Step.refl so) so .non
theorem ds_ret (he : PE X e (tE ⟨X.K, X.mg, X.w⟩ W f)) : PS X (.Return (some e) pos) (tS ⟨X.K, X.mg, X.w⟩ W (dRet f)) :=
  PS.weaken (ps_ret he) fun D σ H q => liftS q fun w S fr d v so fo r p => p w v (Step.refl so) so r
theorem ds_expr (he : PE X e (tE ⟨X.K, X.mg, X.w⟩ W f)) (hs : swapsWith e none pos.line X.env = pure false) : PS X (.Expr e pos) (tS ⟨X.K, X.mg, X.w⟩ W (dExpr f)) :=
  PS.weaken (ps_expr he hs) fun D σ H q => liftS q fun w S fr d v so fo r p => p w σ (Step.refl so) so fo
theorem ds_if {c : Expr} {xs ys : List Stmt} (hc : PT X c (tT ⟨X.K, X.mg, X.w⟩ W t)) (ha : PSs X xs (tS ⟨X.K, X.mg, X.w⟩ W a)) (hb : PSs X ys (tS ⟨X.K, X.mg, X.w⟩ W b)) : PS X (.If c xs ys pos) (tS ⟨X.K, X.mg, X.w⟩ W (dIfS t a b)) :=
  PS.weaken (ps_if hc ha hb) fun D σ H q => liftS q fun w S fr d v so fo r p => by
    subst r
    cases d with
    | true => exact iteT ⟨w, S, fr, rfl, so, fo, p⟩
    | false => exact iteF ⟨w, S, fr, rfl, so, fo, p⟩
theorem ds_set {i : Nat} {x : Str} {pos' : Pos} (hN : X.N.Nodup) (hi : X.N[i]? = some x) (hx : Loc X.env.scope x) (he : PE X e (tE ⟨X.K, X.mg, X.w⟩ W f)) (hs : swapsWith e (some (.Name x pos')) pos.line X.env = pure false)
    (hf : X.fn x = true ∨ X.env.scope.names.lookup x = some .local) : PS X (.Assign [.Name x pos'] e pos) (tS ⟨X.K, X.mg, X.w⟩ W (dSet i f)) :=
  PS.weaken (ps_set hN hi hx he hs hf) fun D σ H q => liftS q fun w S fr d v so fo r p => p w _ (Step.refl so) so (fo.set i r)
end

/-! ### targets -/
abbrev DTg := D → Fr → Sto → Option Fr
abbrev DTgs := List D → Fr → Sto → Option Fr
def gN (i : Nat) : DTg := fun d fr _ => some (fr.set i (some d))
def gsNil : DTgs := fun ds fr _ => match ds with
  | [] => some fr
  | _ => none
def gsCons (t : DTg) (u : DTgs) : DTgs := fun ds fr S => match ds with
  | d :: r => match t d fr S with
    | some fr' => u r fr' S
    | none => none
  | [] => none
def gT (n : Nat) (t : DTgs) : DTg := fun d fr S => match seqD d S with
  | some xs => if xs.length = n then t xs fr S else none
  | none => none
/-- is: the slots that it may write -/
def tGt (g : Gnd) (is : List Nat) (f : DTg) : TG := fun v σ H Q => ∃ w S fr d, w.H = H ∧ SOk g w S ∧ FrOk g w fr σ ∧ Rep g w d v ∧ match f d fr S with
  | some fr' => ∀ σ', FrOk g w fr' σ' → wipe σ' is = wipe σ is → Q σ' H
  | none => False
def tGts (g : Gnd) (is : List Nat) (f : DTgs) : TGs := fun vs σ H Q => ∃ w S fr ds, w.H = H ∧ SOk g w S ∧ FrOk g w fr σ ∧ Reps g w ds vs ∧ match f ds fr S with
  | some fr' => ∀ σ', FrOk g w fr' σ' → wipe σ' is = wipe σ is → Q σ' H
  | none => False
theorem wipe_at : ∀ (is : List Nat) (σ : L2.St) (j : Nat), (wipe σ is)[j]? = if j ∈ is then (if j < σ.length then some none else none) else σ[j]?
  | [], σ, j => by simp [wipe]
  | i :: is, σ, j => by
    unfold wipe
    rw [List.getElem?_set, wipe_length, wipe_at is σ j]
    by_cases e : i = j
    · subst e
      simp
    · have e' : ¬ j = i := fun q => e q.symm
      simp [e, e']
theorem wipe_set {is : List Nat} {σ : L2.St} {i : Nat} {o : Option V} (h : i ∈ is) : wipe (σ.set i o) is = wipe σ is := by
  refine List.ext_getElem? fun j => ?_
  rw [wipe_at, wipe_at, List.length_set]
  by_cases hj : j ∈ is
  · rw [if_pos hj, if_pos hj]
  · rw [if_neg hj, if_neg hj, List.getElem?_set_ne (fun e : i = j => hj (by rw [← e]; exact h))]
theorem wipe_wipe (σ : L2.St) (is : List Nat) : wipe (wipe σ is) is = wipe σ is := by
  refine List.ext_getElem? fun j => ?_
  rw [wipe_at, wipe_at is σ, wipe_length]
  by_cases hj : j ∈ is
  · rw [if_pos hj, if_pos hj]
  · rw [if_neg hj, if_neg hj]
section
variable {X : Cx} {W : WX} {e : Expr} {es : List Expr} {pos : Pos} {t : DTg} {u : DTgs} {is : List Nat}
theorem dg_name {i : Nat} {x : Str} (hN : X.N.Nodup) (hi : X.N[i]? = some x) (hx : Loc X.env.scope x) (hf : X.fn x = true ∨ X.env.scope.names.lookup x = some .local) (hm : i ∈ is) : PG X (.Name x pos) (tGt ⟨X.K, X.mg, X.w⟩ is (gN i)) := by
  refine PG.weaken (pg_name hN hi hx hf) fun v σ H Q q => ?_
  obtain ⟨w, S, fr, d, rfl, so, fo, r, p⟩ := q
  exact p _ (fo.set i r) (wipe_set hm)
theorem PGs.weaken {t t' : TGs} (h : PGs X es t) (k : ∀ vs σ H Q, t' vs σ H Q → t vs σ H Q) : PGs X es t' := ⟨fun pins s σ H vs us Q I r hw => h.run pins s σ H vs us Q I r (k vs σ H Q hw)⟩
theorem dgs_nil : PGs X [] (tGts ⟨X.K, X.mg, X.w⟩ is gsNil) := by
  refine PGs.weaken pgs_nil fun vs σ H Q q => ?_
  obtain ⟨w, S, fr, ds, rfl, so, fo, r, p⟩ := q
  unfold gsNil at p
  split at p
  · rename_i e
    split at e
    · cases e
      exact ⟨r.zero, p _ fo rfl⟩
    · cases e
  · exact p.elim
theorem dgs_cons (h1 : PG X e (tGt ⟨X.K, X.mg, X.w⟩ is t)) (h2 : PGs X es (tGts ⟨X.K, X.mg, X.w⟩ is u)) (hs : (assignEach (e :: es) X.env).map (·.2) = assign e X.env :: (assignEach es X.env).map (·.2)) : PGs X (e :: es) (tGts ⟨X.K, X.mg, X.w⟩ is (gsCons t u)) := by
  refine PGs.weaken (pgs_cons h1 h2 hs) fun vs σ H Q q => ?_
  obtain ⟨w, S, fr, ds, rfl, so, fo, r, p⟩ := q
  cases r with
  | nil => exact p.elim
  | @cons d ds' v vs' r1 r2 =>
    refine ⟨v, vs', rfl, w, S, fr, d, rfl, so, fo, r1, ?_⟩
    have p : match (match t d fr S with | some fr' => u ds' fr' S | none => none) with
      | some fr' => ∀ σ', FrOk ⟨X.K, X.mg, X.w⟩ w fr' σ' → wipe σ' is = wipe σ is → Q σ' w.H
      | none => False := p
    cases q : t d fr S with
    | none => rw [q] at p; exact p.elim
    | some fr1 =>
      rw [q] at p
      refine fun σ1 fo1 e1 => ⟨w, S, fr1, ds', rfl, so, fo1, r2, ?_⟩
      dsimp only at p
      cases q2 : u ds' fr1 S with
      | none => rw [q2] at p; exact p.elim
      | some fr2 =>
        rw [q2] at p
        exact fun σ2 fo2 e2 => p σ2 fo2 (e2.trans e1)
theorem PG_or {t t' : TG} (h : PG X e t) (h' : PG X e t') : PG X e (fun v σ H Q => t v σ H Q ∨ t' v σ H Q) := ⟨fun pins s σ H v u Q I r q => q.elim (h.run pins s σ H v u Q I r) (h'.run pins s σ H v u Q I r)⟩
theorem dg_tup {k n : Nat} (hc : X.calm = true) (h : PGs X es (tGts ⟨X.K, X.mg, X.w⟩ is u)) (hn : (assignEach es X.env).length = n) (hst : (assignEach es X.env).findIdx? (·.1) = none) : PG X (.Tuple es k pos) (tGt ⟨X.K, X.mg, X.w⟩ is (gT n u)) := by
  refine PG.weaken (PG_or (pg_tup hc h hn hst) (pg_lst hc h hn hst)) fun v σ H Q q => ?_
  obtain ⟨w, S, fr, d, rfl, so, fo, r, p⟩ := q
  unfold gT at p
  cases q : seqD d S with
  | none => rw [q] at p; exact p.elim
  | some xs =>
    rw [q] at p
    dsimp only at p
    by_cases hl : xs.length = n
    · rw [if_pos hl] at p
      obtain ⟨a, vs, rfl, hq, rv, l⟩ := seqD_ok so r q
      rcases hq with hq | hq
      · exact .inr ⟨a, vs, rfl, hq, by rw [← rv.length]; exact hl, w, S, fr, xs, rfl, so, fo, rv, p⟩
      · exact .inl ⟨a, vs, rfl, hq, by rw [← rv.length]; exact hl, w, S, fr, xs, rfl, so, fo, rv, p⟩
    · rw [if_neg hl] at p
      exact p.elim
/-- target = value -/
def dAsg (t : DTg) (f : DenE) : DenS := fun fr S => (f fr S).thn fr fun d S' => match t d fr S' with
  | some fr' => .ok .nx fr' S'
  | none => .no
theorem ds_asg {tg : Expr} {f : DenE} (he : PE X e (tE ⟨X.K, X.mg, X.w⟩ W f)) (hg : PG X tg (tGt ⟨X.K, X.mg, X.w⟩ is t)) (hs : swapsWithSole [tg] e pos.line X.env = pure false) (hw : swappedStores [tg] e X.env = pure none)
    (h1 : (assignEach [tg] X.env).map (·.2) = [assign tg X.env]) : PS X (.Assign [tg] e pos) (tS ⟨X.K, X.mg, X.w⟩ W (dAsg t f)) := by
  refine PS.weaken (ps_asg he hg hs hw h1) fun D σ H q => liftS q fun w S fr d v so fo r p => ⟨w, S, fr, d, rfl, so, fo, r, ?_⟩
  cases q : t d fr S with
  | none => rw [q] at p; exact p.elim
  | some fr1 =>
    rw [q] at p
    exact fun σ1 fo1 _ => p w σ1 (Step.refl so) so fo1
/-- a, b = x, y -/
def dPar (i j : Nat) (h : DenA) : DenS := fun fr S => (h fr S).thn fr fun ds S' => match ds with
  | [d, e] => .ok .nx ((fr.set i (some d)).set j (some e)) S'
  | _ => .no
theorem ds_par {i j : Nat} {x y : Str} {a b : Expr} {h : DenA} {px py pt : Pos} {kt k2 : Nat} {pt2 : Pos} (hc : X.calm = true) (hN : X.N.Nodup) (hi : X.N[i]? = some x) (hj : X.N[j]? = some y) (hij : i ≠ j)
    (hx : X.env.scope.names.lookup x = some .local) (hy : X.env.scope.names.lookup y = some .local) (ha : PA X [a, b] (tA ⟨X.K, X.mg, X.w⟩ W h))
    (hw : swappedStores [.Tuple [.Name x px, .Name y py] kt pt] (.Tuple [a, b] k2 pt2) X.env = pure (some [x, y]))
    (hs : swapsWithSole [.Tuple [.Name x px, .Name y py] kt pt] (.Tuple [a, b] k2 pt2) pos.line X.env = pure false) :
    PS X (.Assign [.Tuple [.Name x px, .Name y py] kt pt] (.Tuple [a, b] k2 pt2) pos) (tS ⟨X.K, X.mg, X.w⟩ W (dPar i j h)) := by
  refine PS.weaken (ps_par hc hN hi hj hij hx hy ha hw hs) fun D σ H q => liftS q fun w S fr ds vs so fo r p => ?_
  split at p
  · obtain ⟨v, u, rfl, r1, r2⟩ := r.two
    exact ⟨v, u, rfl, p w _ (Step.refl so) so ((fo.set i r1).set j r2)⟩
  · exact p.elim
end

/-! ### o[i] = e -/
def putD (kvs : List (Key × D)) (k : Key) (v : D) : List (Key × D) :=
  if (kvs.any fun kv => decide (kv.1 = k)) = true then kvs.map (fun kv => if kv.1 = k then (kv.1, v) else kv) else kvs ++ [(k, v)]
def aSet (o i v : D) (S : Sto) : Option Sto := match o with
  | .ob n => match S[n]? with
    | some (.lst xs) => match i with
      | .int k => (ixN xs.length k).map fun j => S.set n (.lst (xs.set j v))
      | _ => none
    | some (.dk kvs) => match keyD i with
      | some k => if kvs.length < sizeLine then some (S.set n (.dk (putD kvs k v))) else none
      | none => none
    | _ => none
  | _ => none
def dSetIx (o i e : DenE) : DenS := fun fr S => (e fr S).thn fr fun v S1 => (o fr S1).thn fr fun x S2 => (i fr S2).thn fr fun y S3 => match aSet x y v S3 with
  | some S4 => .ok .nx fr S4
  | none => .no
def r3 (g : Gnd) (f : D → D → D → Sto → Option Sto) : TSet := fun o i v H Q => ∃ w S od id vd, w.H = H ∧ SOk g w S ∧ Rep g w od o ∧ Rep g w id i ∧ Rep g w vd v ∧ match f od id vd S with
  | some S' => ∀ w', Step w w' → SOk g w' S' → Q w'.H
  | none => False
theorem putD_ok {g : Gnd} {w : Wd} {k : Key} {x : D} {v : V} (rx : Rep g w x v) {kvs : List (Key × D)} {kus : List (Key × V)} (e : kvs.map (·.1) = kus.map (·.1)) (r : Reps g w (kvs.map (·.2)) (kus.map (·.2))) :
    (putD kvs k x).map (·.1) = (putK kus k v).map (·.1) ∧ Reps g w ((putD kvs k x).map (·.2)) ((putK kus k v).map (·.2)) ∧ (putD kvs k x).length ≤ kvs.length + 1 := by
  have hany : ∀ {kvs : List (Key × D)} {kus : List (Key × V)}, kvs.map (·.1) = kus.map (·.1) → (kvs.any fun kv => decide (kv.1 = k)) = (kus.any fun kv => decide (kv.1 = k)) := by
    intro kvs
    induction kvs with
    | nil => intro kus e; cases kus with | nil => rfl | cons _ _ => cases e
    | cons p r ih =>
      intro kus e
      cases kus with
      | nil => cases e
      | cons q s =>
        simp only [List.map_cons, List.cons.injEq] at e
        simp only [List.any_cons, e.1, ih e.2]
  have hmap : ∀ {kvs : List (Key × D)} {kus : List (Key × V)}, kvs.map (·.1) = kus.map (·.1) → Reps g w (kvs.map (·.2)) (kus.map (·.2)) →
      (kvs.map fun kv => if kv.1 = k then (kv.1, x) else kv).map (·.1) = (kus.map fun kv => if kv.1 = k then (kv.1, v) else kv).map (·.1) ∧
      Reps g w ((kvs.map fun kv => if kv.1 = k then (kv.1, x) else kv).map (·.2)) ((kus.map fun kv => if kv.1 = k then (kv.1, v) else kv).map (·.2)) := by
    intro kvs
    induction kvs with
    | nil => intro kus e r; cases kus with | nil => exact ⟨rfl, .nil⟩ | cons _ _ => cases e
    | cons p t ih =>
      intro kus e r
      cases kus with
      | nil => cases e
      | cons q s =>
        obtain ⟨a, b⟩ := p
        obtain ⟨c, dd⟩ := q
        simp only [List.map_cons, List.cons.injEq] at e
        obtain ⟨e1, e2⟩ := e
        subst e1
        cases r with
        | cons r1 r2 =>
          obtain ⟨h1, h2⟩ := ih e2 r2
          simp only [List.map_cons]
          by_cases q : a = k
          · subst q
            simp only [if_true]
            exact ⟨by rw [h1], .cons rx h2⟩
          · simp only [if_neg q]
            exact ⟨by rw [h1], .cons r1 h2⟩
  unfold putD putK
  rw [hany e]
  split
  · refine ⟨(hmap e r).1, (hmap e r).2, ?_⟩
    rw [List.length_map]
    omega
  · refine ⟨by rw [List.map_append, List.map_append, e]; rfl, ?_, by rw [List.length_append]; exact Nat.le_refl _⟩
    rw [List.map_append, List.map_append]
    exact r.append (.cons rx .nil)
section
variable {X : Cx} {W : WX}
theorem setr (hu : X.A.units + 200 < cLine) : PSet X (r3 ⟨X.K, X.mg, X.w⟩ aSet) := by
  intro pins s σ H o i v ov iv u Q I ro ri rv h
  obtain ⟨w, S, od, id, vd, rfl, so, r1, r2, r3, k⟩ := h
  unfold aSet at k
  cases od with
  | ob n =>
    cases r1
    dsimp only at k
    cases q : S[n]? with
    | none => rw [q] at k; exact k.elim
    | some ob =>
      rw [q] at k
      cases ob with
      | lst xs =>
        obtain ⟨vs, hv, rv', l⟩ := so.sql q
        cases id with
        | int kk =>
          cases r2
          dsimp only at k
          cases e : ixN xs.length kk with
          | none => rw [e] at k; exact k.elim
          | some j =>
            rw [e] at k
            obtain ⟨st, so'⟩ := Step.write so (so.lt q) (o := .lst (xs.set j vd)) (ho := .lst (vs.set j v)) (.lst (by rw [List.length_set]; exact l) (rv'.set r3 j))
            exact set_list pins s σ _ _ _ v ov iv u Q I ro ri rv ⟨_, vs, kk, j, rfl, rfl, hv, by rw [← rv'.length]; exact e, k _ st so'⟩
        | _ => exact k.elim
      | dk kvs =>
        dsimp only at k
        cases ek : keyD id with
        | none => rw [ek] at k; exact k.elim
        | some kk =>
          rw [ek] at k
          dsimp only at k
          by_cases hl : kvs.length < sizeLine
          · rw [if_pos hl] at k
            have e1 := keyD_ok r2 ek
            subst e1
            obtain ⟨kus, eh, l, e3, rk⟩ := so.dka q
            obtain ⟨p1, p2, p3⟩ := putD_ok (k := kk) r3 e3 rk
            have el := congrArg List.length e3
            rw [List.length_map, List.length_map] at el
            obtain ⟨st, so'⟩ := Step.write so (so.lt q) (o := .dk (putD kvs kk vd)) (ho := .dK (putK kus kk v)) (.dk (by omega) p1 p2)
            obtain rfl : ov = .ref (w.m n) := ro
            exact d_setItem (by omega) I (DPut.k (k := kk) eh (by omega)) ri rv fun s4 I4 => ⟨_, I4, k _ st so'⟩
          · rw [if_neg hl] at k
            exact k.elim
      | ins c fs => exact k.elim
  | _ => exact k.elim
theorem ds_setIx {o i e : Expr} {fo fi fe : DenE} {pos tpos : Pos} (hu : X.A.units + 200 < cLine) (he : PE X e (tE ⟨X.K, X.mg, X.w⟩ W fe)) (ho : PE X o (tE ⟨X.K, X.mg, X.w⟩ W fo)) (hi : PE X i (tE ⟨X.K, X.mg, X.w⟩ W fi))
    (ha : ∀ v, assign (.Subscript o i tpos) X.env v = (do
      let ov ← holding [v] (eval o X.env)
      let iv ← holding [v, ov] (eval i X.env)
      standAt tpos
      holding [v, ov, iv] (setItem ov iv v)
      release [v, ov, iv] []))
    (hs : swapsWithSole [.Subscript o i tpos] e pos.line X.env = pure false) (hw : swappedStores [.Subscript o i tpos] e X.env = pure none)
    (h1 : (assignEach [.Subscript o i tpos] X.env).map (·.2) = [assign (.Subscript o i tpos) X.env]) : PS X (.Assign [.Subscript o i tpos] e pos) (tS ⟨X.K, X.mg, X.w⟩ W (dSetIx fo fi fe)) := by
  refine PS.weaken (ps_asg he (pg_sub ho hi (setr hu) ha) hs hw h1) fun D σ H q => liftS q fun w S fr v x so fo1 r p => ?_
  refine nextS (R1 := Rep _) (R2 := Rep _) (fun _ _ _ _ s r => rmono s r) so fo1 r p fun w2 S2 od o2 so2 fo2 r2 ro p2 => ?_
  refine nextS (R1 := fun w (p : DL.D × DL.D) (q : V × V) => Rep _ w p.1 q.1 ∧ Rep _ w p.2 q.2) (a := (v, od)) (x := (x, o2)) (R2 := Rep _) (fun _ _ _ _ s r => ⟨rmono s r.1, rmono s r.2⟩) so2 fo2 ⟨r2, ro⟩ p2 fun w3 S3 id i3 so3 fo3 r3 ri p3 => ?_
  refine ⟨w3, S3, od, id, v, rfl, so3, r3.2, ri, r3.1, ?_⟩
  cases q : aSet od id v S3 with
  | none => rw [q] at p3; exact p3.elim
  | some S4 =>
    rw [q] at p3
    exact fun w4 st4 so4 => p3 w4 σ st4 so4 (fo3.mono st4.toMono)
end
end DL
/-! DL, part j: augmented assignment, while, for, comprehensions. -/
namespace DL
open PySem PySem.Spec PyProof.Rows L2

/-! ### name op= e -/
def aIAdd : F2 := fun a b S => match a, b with
  | .int i, .int j => some (.int (i + j), S)
  | .str x, .str y => if x.length + y.length ≤ sizeLine then some (.str (x ++ y), S) else none
  | .ob i, .ob j => match S[i]?, S[j]? with
    | some (.lst xs), some (.lst ys) => if xs.length + ys.length ≤ sizeLine then some (.ob i, S.set i (.lst (xs ++ ys))) else none
    | _, _ => none
  | _, _ => none
def dAug (i : Nat) (f : F2) (e : DenE) : DenS := fun fr S => match fr[i]? with
  | some (some x) => (e fr S).thn fr fun y S' => match f x y S' with
    | some (z, S2) => .ok .nx (fr.set i (some z)) S2
    | none => .no
  | _ => .no
section
variable {X : Cx} {W : WX} {g : Gnd} {e : Expr} {pos : Pos}
theorem ipr_add : PIp X .Add (r2 ⟨X.K, X.mg, X.w⟩ aIAdd) := by
  intro pins s σ H x y v u Q I rx ry h
  obtain ⟨w, S, a, b, rfl, so, ra, rb, p⟩ := h
  have stp := Step.refl so
  unfold aIAdd at p
  split at p
  · cases ra; cases rb
    exact iop_add pins s σ _ _ _ v u Q I rx ry ⟨_, _, rfl, rfl, p w _ stp so (.int _)⟩
  · cases ra; cases rb
    split at p
    · rename_i hl
      exact iop_add_str pins s σ _ _ _ v u Q I rx ry ⟨_, _, rfl, rfl, hl, p w _ stp so (.str _)⟩
    · exact p.elim
  · split at p
    · rename_i i j xs ys ea eb
      cases ra with
      | ob hi =>
        cases rb
        obtain ⟨vs, h1, r1, _⟩ := so.sql ea
        obtain ⟨us, h2, r2, _⟩ := so.sql eb
        split at p
        · rename_i hl
          have l1 := r1.length
          have l2 := r2.length
          obtain ⟨st, so'⟩ := Step.write so hi (o := .lst (xs ++ ys)) (ho := .lst (vs ++ us)) (.lst (by rw [List.length_append]; exact hl) (r1.append r2))
          exact iop_ext pins s σ _ _ _ v u Q I rx ry ⟨_, _, vs, us, rfl, rfl, h1, h2, by omega, p _ _ st so' (.ob hi)⟩
        · exact p.elim
    · exact p.elim
  · exact p.elim
theorem ipr_sub : PIp X .Sub (r2 ⟨X.K, X.mg, X.w⟩ aSub) := by
  intro pins s σ H x y v u Q I rx ry h
  obtain ⟨w, S, a, b, rfl, so, ra, rb, p⟩ := h
  unfold aSub iOp at p
  split at p
  · cases ra; cases rb
    exact ip_sub pins s σ _ _ _ v u Q I rx ry ⟨_, _, rfl, rfl, p w _ (Step.refl so) so (.int _)⟩
  · exact p.elim
theorem ds_aug {i : Nat} {x : Str} {op : Operator} {f : F2} {fe : DenE} {pos' : Pos} (hN : X.N.Nodup) (hi : X.N[i]? = some x) (hx : Loc X.env.scope x) (he : PE X e (tE ⟨X.K, X.mg, X.w⟩ W fe)) (ho : PIp X op (r2 ⟨X.K, X.mg, X.w⟩ f))
    (hf : X.fn x = true ∨ X.env.scope.names.lookup x = some .local) : PS X (.AugAssign (.Name x pos') op e pos) (tS ⟨X.K, X.mg, X.w⟩ W (dAug i f fe)) := by
  refine PS.weaken (ps_aug hN hi hx he ho hf) fun D σ H q => ?_
  obtain ⟨w, S, fr, rfl, so, fo, p⟩ := q
  unfold dAug at p
  split at p
  · rename_i d ed
    obtain ⟨v, ev, rv⟩ := fo.at_ i d ed
    refine ⟨v, ev, nextS (R1 := Rep _) (R2 := Rep _) (fun _ _ _ _ s r => rmono s r) so fo rv p fun w2 S2 b y so2 fo2 r2 rb p2 => ?_⟩
    refine ⟨w2, S2, d, b, rfl, so2, r2, rb, ?_⟩
    cases q : f d b S2 with
    | none => rw [q] at p2; exact p2.elim
    | some z =>
      obtain ⟨z, S3⟩ := z
      rw [q] at p2
      exact fun w3 u st so3 r3 => p2 w3 _ st so3 ((fo2.mono st.toMono).set i r3)
  · exact p.elim
end

/-! ### while -/
def whileN (t : DenT) (b : DenS) : Nat → DenS
  | 0 => fun _ _ => .no
  | n + 1 => fun fr S => (t fr S).thn fr fun c S' => match c with
    | false => .ok .nx fr S'
    | true => match b fr S' with
      | .ok .nx fr2 S2 => whileN t b n fr2 S2
      | .ok .ct fr2 S2 => whileN t b n fr2 S2
      | .ok .bk fr2 S2 => .ok .nx fr2 S2
      | o => o
def whileK (t : DenT) (b : DenS) (n : Nat) (c : Bool) (fr : Fr) (S' : Sto) : OutS := match c with
  | false => .ok .nx fr S'
  | true => match b fr S' with
    | .ok .nx fr2 S2 => whileN t b n fr2 S2
    | .ok .ct fr2 S2 => whileN t b n fr2 S2
    | .ok .bk fr2 S2 => .ok .nx fr2 S2
    | o => o
/-- more turns than any loop has -/
def turns : Nat := 10 ^ 12
def dWhile (t : DenT) (b : DenS) : DenS := whileN t b turns
section
variable {X : Cx} {W : WX} {pos : Pos}
theorem ds_while {c : Expr} {body : List Stmt} {t : DenT} {b : DenS} (hp : PassesOwn (model X.prog X.w) X.A X.env X.xe) (hc : PT X c (tT ⟨X.K, X.mg, X.w⟩ W t)) (hb : PSs X body (tS ⟨X.K, X.mg, X.w⟩ W b)) :
    PS X (.While c body [] pos) (tS ⟨X.K, X.mg, X.w⟩ W (dWhile t b)) := by
  refine PS.weaken (ps_while hp hc hb) fun D σ H q => ?_
  obtain ⟨w, S, fr, rfl, so, fo, p⟩ := q
  refine ⟨fun n σ H => ∃ w S fr, w.H = H ∧ SOk ⟨X.K, X.mg, X.w⟩ w S ∧ FrOk ⟨X.K, X.mg, X.w⟩ w fr σ ∧ PostS ⟨X.K, X.mg, X.w⟩ w (whileN t b n fr S) D W, ⟨turns, w, S, fr, rfl, so, fo, p⟩, ?_⟩
  rintro n σ H ⟨w, S, fr, rfl, so, fo, p⟩
  cases n with
  | zero => exact p.elim
  | succ n =>
    have h : tS ⟨X.K, X.mg, X.w⟩ W (fun fr S => (t fr S).thn fr fun c S' => whileK t b n c fr S') D σ w.H := ⟨w, S, fr, rfl, so, fo, p⟩
    refine liftS (D := D) (R := fun _ a b => a = b) (k := whileK t b n) h fun w1 S1 fr1 c c' so1 fo1 ec p1 => ?_
    subst ec
    cases c with
    | false => exact iteF (p1 w1 σ (Step.refl so1) so1 fo1)
    | true =>
      refine iteT ⟨fun σ H => ∃ w S fr, w.H = H ∧ SOk ⟨X.K, X.mg, X.w⟩ w S ∧ FrOk ⟨X.K, X.mg, X.w⟩ w fr σ ∧ PostS ⟨X.K, X.mg, X.w⟩ w (whileN t b n fr S) D W, fun σ' H' h => ⟨n, Nat.lt_succ_self n, h⟩, w1, S1, fr1, rfl, so1, fo1, ?_⟩
      unfold whileK at p1
      dsimp only at p1
      cases q : b fr1 S1 with
      | ok f fr2 S2 =>
        rw [q] at p1
        cases f with
        | nx => exact fun w2 σ2 st so2 fo2 => ⟨w2, S2, fr2, rfl, so2, fo2, PostS.step st p1⟩
        | ct => exact fun w2 σ2 st so2 fo2 => ⟨w2, S2, fr2, rfl, so2, fo2, PostS.step st p1⟩
        | bk => exact p1
        | rt d => exact p1
      | ex e fr2 S2 => rw [q] at p1; exact p1
      | no => rw [q] at p1; exact p1
end

/-! ### what is walked -/
structure Src where
  items : List D
  guard : List (Nat × List D)
/-- the walked lists stand as they were -/
def Src.ok (s : Src) (S : Sto) : Prop := ∀ p ∈ s.guard, S[p.1]? = some (.lst p.2)
structure Walks (g : Gnd) (w : Wd) (src : Src) (J : It) : Prop where
  len : src.items.length ≤ sizeLine
  go : ∀ w1 S1, Step w w1 → SOk g w1 S1 → src.ok S1 → ∀ (i : Nat) d, src.items[i]? = some d → J.go i w1.H ∧ ∀ v H2, J.yld i w1.H v H2 → ∃ w2, w2.H = H2 ∧ Step w1 w2 ∧ SOk g w2 S1 ∧ Rep g w2 d v
  stop : ∀ w1 S1, Step w w1 → SOk g w1 S1 → src.ok S1 → J.stop src.items.length w1.H
abbrev tI (g : Gnd) (W : WX) (f : Fr → Sto → Out Src) : TI := tG g W (Walks g) f
open Classical in
noncomputable def forL (ok : Sto → Prop) (t : DTg) (b : DenS) : List D → DenS
  | [], fr, S => if ok S then .ok .nx fr S else .no
  | x :: xs, fr, S => if ok S then (match t x fr S with
    | none => .no
    | some fr1 => match b fr1 S with
      | .ok .nx fr2 S2 => forL ok t b xs fr2 S2
      | .ok .ct fr2 S2 => forL ok t b xs fr2 S2
      | .ok .bk fr2 S2 => .ok .nx fr2 S2
      | o => o) else .no
noncomputable def dFor (t : DTg) (fi : Fr → Sto → Out Src) (b : DenS) : DenS := fun fr S => (fi fr S).thn fr fun src S' => forL src.ok t b src.items fr S'
open Classical in
noncomputable def compL (ok : Sto → Prop) (t : DTg) (tt : DenT) (e : DenE) (fr : Fr) : List D → Sto → Out (List D)
  | [], S => if ok S then .ok [] S else .no
  | x :: xs, S => if ok S then (match t x fr S with
    | none => .no
    | some fr1 => match tt fr1 S with
      | .ok false S2 => compL ok t tt e fr xs S2
      | .ok true S2 => match e fr1 S2 with
        | .ok d S3 => (compL ok t tt e fr xs S3).bnd fun ds S4 => .ok (d :: ds) S4
        | _ => .no
      | _ => .no) else .no
def wipeD (fr : Fr) : List Nat → Fr
  | [] => fr
  | v :: vs => (wipeD fr vs).set v none
noncomputable def dComp (is : List Nat) (fi : Fr → Sto → Out Src) (t : DTg) (tt : DenT) (e : DenE) : DenA := fun fr S => (fi fr S).bnd fun src S' => compL src.ok t tt e (wipeD fr is) src.items S'
def dYes : DenT := fun _ S => .ok true S
section
variable {X : Cx} {W : WX} {pos : Pos} {is : List Nat}
theorem ds_for {tg iter : Expr} {body : List Stmt} {fi : Fr → Sto → Out Src} {t : DTg} {b : DenS} (hp : PassesOwn (model X.prog X.w) X.A X.env X.xe) (hc : X.calm = true) (hi : PI X tg iter (tI ⟨X.K, X.mg, X.w⟩ W fi)) (hg : PG X tg (tGt ⟨X.K, X.mg, X.w⟩ is t))
    (hb : PSs X body (tS ⟨X.K, X.mg, X.w⟩ W b)) (hs : ∀ x, foldedSetIterable iter X.env x = pure x) : PS X (.For tg iter body [] pos) (tS ⟨X.K, X.mg, X.w⟩ W (dFor t fi b)) := by
  refine PS.weaken (ps_for hp hc hi hg hb hs) fun D σ H q => liftS q fun w S fr src J so fo wk p => ?_
  refine ⟨fun i m σ' H' => m = src.items.length - i ∧ i ≤ src.items.length ∧ ∃ w1 S1 fr1, w1.H = H' ∧ Step w w1 ∧ SOk ⟨X.K, X.mg, X.w⟩ w1 S1 ∧ FrOk ⟨X.K, X.mg, X.w⟩ w1 fr1 σ' ∧ PostS ⟨X.K, X.mg, X.w⟩ w1 (forL src.ok t b (src.items.drop i) fr1 S1) D W,
    ⟨_, rfl, Nat.zero_le _, w, S, fr, rfl, Step.refl so, so, fo, p⟩, ?_⟩
  rintro i m σ' H' ⟨rfl, hil, w1, S1, fr1, rfl, st1, so1, fo1, p1⟩
  by_cases hlt : i < src.items.length
  · have ed : src.items.drop i = src.items[i] :: src.items.drop (i + 1) := List.drop_eq_getElem_cons hlt
    rw [ed] at p1
    unfold forL at p1
    by_cases hok : src.ok S1
    · rw [if_pos hok] at p1
      obtain ⟨hgo, hy⟩ := wk.go w1 S1 st1 so1 hok i _ (List.getElem?_eq_getElem hlt)
      refine .inr ⟨hgo, fun σ' H' => ∃ w1 S1 fr1, w1.H = H' ∧ Step w w1 ∧ SOk ⟨X.K, X.mg, X.w⟩ w1 S1 ∧ FrOk ⟨X.K, X.mg, X.w⟩ w1 fr1 σ' ∧ PostS ⟨X.K, X.mg, X.w⟩ w1 (forL src.ok t b (src.items.drop (i + 1)) fr1 S1) D W, fun σ2 H2 h => ⟨src.items.length - (i + 1), by omega, rfl, hlt, h⟩, fun x H2 y => ?_⟩
      obtain ⟨w2, rfl, st2, so2, r2⟩ := hy x H2 y
      refine ⟨w2, S1, fr1, _, rfl, so2, fo1.mono st2.toMono, r2, ?_⟩
      cases q : t src.items[i] fr1 S1 with
      | none => rw [q] at p1; exact p1.elim
      | some fr2 =>
        rw [q] at p1
        dsimp only at p1 ⊢
        refine fun σ3 fo3 _ => ⟨w2, S1, fr2, rfl, so2, fo3, ?_⟩
        cases q2 : b fr2 S1 with
        | ok f fr4 S4 =>
          rw [q2] at p1
          cases f with
          | nx => exact fun w4 σ4 st4 so4 fo4 => ⟨w4, S4, fr4, rfl, st1.trans (st2.trans st4), so4, fo4, PostS.step (st2.trans st4) p1⟩
          | ct => exact fun w4 σ4 st4 so4 fo4 => ⟨w4, S4, fr4, rfl, st1.trans (st2.trans st4), so4, fo4, PostS.step (st2.trans st4) p1⟩
          | bk => exact fun w4 σ4 st4 so4 fo4 => p1 w4 σ4 (st2.trans st4) so4 fo4
          | rt d => exact fun w4 v st4 so4 r4 => p1 w4 v (st2.trans st4) so4 r4
        | ex e fr4 S4 =>
          rw [q2] at p1
          exact fun w4 σ4 c dx st4 so4 fo4 rx => p1 w4 σ4 c dx (st2.trans st4) so4 fo4 rx
        | no => rw [q2] at p1; exact p1
    · rw [if_neg hok] at p1
      exact p1.elim
  · have e : i = src.items.length := by omega
    subst e
    rw [List.drop_length] at p1
    unfold forL at p1
    by_cases hok : src.ok S1
    · rw [if_pos hok] at p1
      exact .inl ⟨wk.stop w1 S1 st1 so1 hok, p1 w1 σ' (Step.refl so1) so1 fo1⟩
    · rw [if_neg hok] at p1
      exact p1.elim
theorem wipeD_ok {g : Gnd} {w : Wd} {fr : Fr} {σ : L2.St} (f : FrOk g w fr σ) : ∀ is : List Nat, FrOk g w (wipeD fr is) (wipe σ is)
  | [] => f
  | v :: vs => (wipeD_ok f vs).unset v none
/-- the new list D stands apart from what is tracked -/
theorem SOk.side {g : Gnd} {w : Wd} {S : Sto} (so : SOk g w S) {p : Addr} {ys : List V} (hp : w.H p = some (.lst ys)) (hne : ∀ i, i < w.n → w.m i ≠ p) (zs : List V) : SOk g (w.put p (.lst zs)) S ∧ Mono w (w.put p (.lst zs)) := by
  have hk : ∀ b, b ≠ p → (upd w.H p (.lst zs)) b = w.H b := fun b e => upd_ne e
  have mo : Mono w (w.put p (.lst zs)) := by
    refine ⟨Nat.le_refl _, fun _ _ => rfl, fun a xs e => ?_, fun a ob u e => ?_, fun a us e => ?_⟩
    · show upd w.H p (.lst zs) a = _
      rw [hk a (ne_of e hp (by intro z; cases z))]
      exact e
    · show upd w.H p (.lst zs) a = _
      rw [hk a (ne_of e hp (by intro z; cases z))]
      exact e
    · show upd w.H p (.lst zs) a = _
      rw [hk a (ne_of e hp (by intro z; cases z))]
      exact e
  refine ⟨so.mono mo rfl fun i hi => ?_, mo⟩
  show upd w.H p (.lst zs) (w.m i) = _
  rw [hk _ (hne i hi)]
theorem lift_comp {fi : Fr → Sto → Out Src} {t : DTg} {tt : DenT} {fe : DenE} {g : Gnd} {σ : L2.St} {H : Hp} {Q : VK} (h : tL g W (dComp is fi t tt fe) σ H Q) :
    tLc (tI g W fi) (tGt g is t) (tT g (fun _ _ _ _ => False) tt) (tE g (fun _ _ _ _ => False) fe) is σ H Q := by
  obtain ⟨w0, S0, fr0, rfl, so0, fo0, p⟩ := h
  refine ⟨w0, S0, fr0, rfl, so0, fo0, ?_⟩
  have p : PostL g w0 ((fi fr0 S0).bnd fun src S' => compL src.ok t tt fe (wipeD fr0 is) src.items S') Q (fun c d H' => W c d σ H') := p
  cases q0 : fi fr0 S0 with
  | no => rw [q0] at p; exact p
  | ex e S => rw [q0] at p; exact p
  | ok src S =>
    rw [q0] at p
    intro w J st so wk p0 hp0
    have p : PostL g w0 (compL src.ok t tt fe (wipeD fr0 is) src.items S) Q (fun c d H' => W c d σ H') := p
    -- what remains, given what stands
    let rem (acc : List D) (o : Out (List D)) : Out (List D) := o.bnd fun ds S => .ok (acc ++ ds) S
    have hp0' : w0.H p0 = none := st.back hp0
    refine ⟨fun i m H' => m = src.items.length - i ∧ i ≤ src.items.length ∧ ∃ w1 S1 acc vs, w1.H = H' ∧ Step w w1 ∧ SOk g w1 S1 ∧ w1.H p0 = some (.lst vs) ∧ (∀ j, j < w1.n → w1.m j ≠ p0) ∧ Reps g w1 acc vs ∧ acc.length ≤ i ∧
      PostL g w0 (rem acc (compL src.ok t tt fe (wipeD fr0 is) (src.items.drop i) S1)) Q (fun c d H' => W c d σ H'), ?_, ?_⟩
    · obtain ⟨st1, so1, hn1⟩ := Step.put so hp0 (.lst [])
      refine ⟨_, rfl, Nat.zero_le _, w.put p0 (.lst []), S, [], [], rfl, st1, so1, upd_same, hn1, .nil, Nat.zero_le _, ?_⟩
      show PostL g w0 (rem [] (compL src.ok t tt fe (wipeD fr0 is) src.items S)) Q _
      cases q : compL src.ok t tt fe (wipeD fr0 is) src.items S with
      | no => rw [q] at p; exact p
      | ex e S => rw [q] at p; exact p
      | ok ds S => rw [q] at p; exact p
    · rintro i m H' ⟨rfl, hil, w1, S1, acc, vs, rfl, st1, so1, hD, hnD, ra, la, p1⟩
      by_cases hlt : i < src.items.length
      · have ed : src.items.drop i = src.items[i] :: src.items.drop (i + 1) := List.drop_eq_getElem_cons hlt
        rw [ed] at p1
        unfold compL at p1
        by_cases hok : src.ok S1
        · rw [if_pos hok] at p1
          obtain ⟨hgo, hy⟩ := wk.go w1 S1 st1 so1 hok i _ (List.getElem?_eq_getElem hlt)
          refine .inr ⟨hgo, fun H' => ∃ w1 S1 acc vs, w1.H = H' ∧ Step w w1 ∧ SOk g w1 S1 ∧ w1.H p0 = some (.lst vs) ∧ (∀ j, j < w1.n → w1.m j ≠ p0) ∧ Reps g w1 acc vs ∧ acc.length ≤ i + 1 ∧
            PostL g w0 (rem acc (compL src.ok t tt fe (wipeD fr0 is) (src.items.drop (i + 1)) S1)) Q (fun c d H' => W c d σ H'), fun H2 h => ⟨src.items.length - (i + 1), by omega, rfl, hlt, h⟩, fun x H2 y => ?_⟩
          obtain ⟨w2, rfl, st2, so2, r2⟩ := hy x H2 y
          have fo2 : FrOk g w2 (wipeD fr0 is) (wipe σ is) := wipeD_ok (fo0.mono (st.trans (st1.trans st2)).toMono) is
          refine ⟨w2, S1, wipeD fr0 is, _, rfl, so2, fo2, r2, ?_⟩
          cases q : t src.items[i] (wipeD fr0 is) S1 with
          | none => rw [q] at p1; exact p1.elim
          | some fr2 =>
            rw [q] at p1
            dsimp only at p1 ⊢
            refine fun σ3 fo3 ew => ⟨by rw [ew, wipe_wipe], w2, S1, fr2, rfl, so2, fo3, ?_⟩
            cases q2 : tt fr2 S1 with
            | no => rw [q2] at p1; exact p1.elim
            | ex e S4 => rw [q2] at p1; exact p1.elim
            | ok c S4 =>
              rw [q2] at p1
              intro w4 c' st4 so4 ec
              subst ec
              have hD4 := (st2.trans st4).untracked hD hnD
              have ra4 := Reps.mono (st2.trans st4).toMono _ _ ra
              cases c with
              | false => exact iteF ⟨w4, S4, acc, vs, rfl, st1.trans (st2.trans st4), so4, hD4.1, hD4.2, ra4, by omega, p1⟩
              | true =>
                refine iteT ⟨w4, S4, fr2, rfl, so4, fo3.mono st4.toMono, ?_⟩
                dsimp only at p1
                cases q3 : fe fr2 S4 with
                | no => rw [q3] at p1; exact p1.elim
                | ex e S5 => rw [q3] at p1; exact p1.elim
                | ok d S5 =>
                  rw [q3] at p1
                  intro w5 v st5 so5 rv
                  have hD5 := st5.untracked hD4.1 hD4.2
                  have ra5 := Reps.mono st5.toMono _ _ ra4
                  have le := ra5.length
                  have hlen := wk.len
                  refine ⟨vs, hD5.1, by omega, ?_⟩
                  obtain ⟨so6, mo6⟩ := so5.side hD5.1 hD5.2 (vs ++ [v])
                  have st15 := st1.trans (st2.trans (st4.trans st5))
                  refine ⟨w5.put p0 (.lst (vs ++ [v])), S5, acc ++ [d], vs ++ [v], rfl, ⟨st15.toMono.trans mo6, fun b o hb hx => ?_, fun j h1 h2 => st15.fr j h1 h2, fun j hj => so6.al j hj⟩, so6, upd_same, hD5.2, Reps.mono mo6 _ _ (ra5.append (.cons rv .nil)), by rw [List.length_append]; show acc.length + 1 ≤ i + 1; omega, ?_⟩
                  · show upd w5.H p0 (.lst (vs ++ [v])) b = _
                    rw [upd_ne (ne_of_none hb hp0)]
                    exact st15.kp b o hb hx
                  · dsimp only at p1
                    cases q6 : compL src.ok t tt fe (wipeD fr0 is) (src.items.drop (i + 1)) S5 with
                    | no => rw [q6] at p1; exact p1
                    | ex e S6 => rw [q6] at p1; exact p1
                    | ok ds S6 =>
                      rw [q6] at p1
                      show PostL g w0 (.ok ((acc ++ [d]) ++ ds) S6) Q _
                      rw [List.append_assoc]
                      exact p1
        · rw [if_neg hok] at p1
          exact p1.elim
      · have e : i = src.items.length := by omega
        subst e
        rw [List.drop_length] at p1
        unfold compL at p1
        by_cases hok : src.ok S1
        · rw [if_pos hok] at p1
          have p1 : PostL g w0 (.ok (acc ++ []) S1) Q _ := p1
          rw [List.append_nil] at p1
          have hlen := wk.len
          exact .inl ⟨wk.stop w1 S1 st1 so1 hok, p1 w1 p0 (st.trans st1) so1 hp0' ⟨p0, vs, rfl, hD, hnD, by omega, ra⟩⟩
        · rw [if_neg hok] at p1
          exact p1.elim
end
end DL
/-! DL, part k: what is walked, comprehensions, calls of defs. -/
namespace DL
open PySem PySem.Spec PyProof.Rows L2

def signs (z : Str) : List D := z.cps.toList.map fun c => .str ⟨#[c]⟩
def srcOf (d : D) (S : Sto) : Option Src := match d with
  | .tup xs => some ⟨xs, []⟩
  | .rl xs => some ⟨xs, []⟩
  | .str z => if z.length ≤ sizeLine then some ⟨signs z, []⟩ else none
  | .ob n => match S[n]? with
    | some (.lst xs) => some ⟨xs, [(n, xs)]⟩
    | _ => none
  | _ => none
def Out.ofS {α : Type} (o : Option α) (S : Sto) : Out α := match o with
  | some a => .ok a S
  | none => .no
def dISeq (f : DenE) : Fr → Sto → Out Src := fun fr S => (f fr S).bnd fun d S' => .ofS (srcOf d S') S'
def dIT (h : DenA) : Fr → Sto → Out Src := fun fr S => (h fr S).bnd fun xs S' => .ok ⟨xs, []⟩ S'
def upTo (lo : Int) (n : Nat) : List D := (List.range n).map fun (i : Nat) => D.int (lo + (i : Int))
def dIRange1 (h : DenA) : Fr → Sto → Out Src := fun fr S => (h fr S).bnd fun ds S' => match ds with
  | [.int j] => if -(2 ^ 62) ≤ j ∧ j ≤ 16777216 then .ok ⟨upTo 0 j.toNat, []⟩ S' else .no
  | _ => .no
def dIRange2 (h : DenA) : Fr → Sto → Out Src := fun fr S => (h fr S).bnd fun ds S' => match ds with
  | [.int i, .int j] => if (-(2 ^ 62) ≤ i ∧ i < 2 ^ 62 ∧ -(2 ^ 62) ≤ j ∧ j < 2 ^ 62) ∧ j - i ≤ 16777216 then .ok ⟨upTo i (j - i).toNat, []⟩ S' else .no
  | _ => .no
def zipD : List D → List D → List D
  | a :: as, b :: bs => .tup [a, b] :: zipD as bs
  | _, _ => []
def isTup : D → Bool
  | .tup _ => true
  | _ => false
def dIZip (h : DenA) : Fr → Sto → Out Src := fun fr S => (h fr S).bnd fun ds S' => match ds with
  | [a, b] => if isTup a = isTup b then (match srcOf a S', srcOf b S' with
    | some p, some q => match a, b with
      | .str _, _ => .no
      | _, .str _ => .no
      | _, _ => .ok ⟨zipD p.items q.items, p.guard ++ q.guard⟩ S'
    | _, _ => .no) else .no
  | _ => .no
def enumD (xs : List D) : Nat → List D
  | i => match xs with
    | [] => []
    | x :: r => .tup [.int (i : Int), x] :: enumD r (i + 1)
def dIEnum (h : DenA) : Fr → Sto → Out Src := fun fr S => (h fr S).bnd fun ds S' => match ds with
  | [.rl xs] => .ok ⟨enumD xs 0, []⟩ S'
  | [.ob n] => match S'[n]? with
    | some (.lst xs) => .ok ⟨enumD xs 0, [(n, xs)]⟩ S'
    | _ => .no
  | _ => .no
def dIEnumT (h : DenA) : Fr → Sto → Out Src := fun fr S => (h fr S).bnd fun xs S' => .ok ⟨enumD xs 0, []⟩ S'
section
variable {X : Cx} {W : WX} {g : Gnd} {tg e : Expr}
theorem walks_list {w : Wd} {src : Src} {a : Addr} (hl : src.items.length ≤ sizeLine) (hs : ∀ w1 S1, Step w w1 → SOk g w1 S1 → src.ok S1 → ∃ vs, SqL g.K w1.H a vs ∧ Reps g w1 src.items vs) : Walks g w src (Itl g.K a) := by
  refine ⟨hl, fun w1 S1 st so ok i d e => ?_, fun w1 S1 st so ok => ?_⟩
  · obtain ⟨vs, hq, rv⟩ := hs w1 S1 st so ok
    obtain ⟨v, ev, r⟩ := rv.get e
    refine ⟨⟨vs, v, hq, ev⟩, fun u H2 y => ?_⟩
    obtain ⟨rfl, y⟩ := y
    have := y vs hq
    rw [ev] at this
    cases this
    exact ⟨w1, rfl, Step.refl so, so, r⟩
  · obtain ⟨vs, hq, rv⟩ := hs w1 S1 st so ok
    exact ⟨vs, hq, Nat.le_of_eq rv.length.symm⟩
theorem walks_tup {w : Wd} {src : Src} {a : Addr} {vs : List V} (hl : src.items.length ≤ sizeLine) (hq : SqT g.K w.H a vs) (rv : Reps g w src.items vs) : Walks g w src (Itt g.K a) := by
  refine ⟨hl, fun w1 S1 st so ok i d e => ?_, fun w1 S1 st so ok => ?_⟩
  · have hq1 := st.sqt (K := g.K) hq
    obtain ⟨v, ev, r⟩ := (Reps.mono st.toMono _ _ rv).get e
    refine ⟨⟨vs, v, hq1, ev⟩, fun u H2 y => ?_⟩
    obtain ⟨rfl, y⟩ := y
    have := y vs hq1
    rw [ev] at this
    cases this
    exact ⟨w1, rfl, Step.refl so, so, r⟩
  · exact ⟨vs, st.sqt hq, Nat.le_of_eq rv.length.symm⟩
theorem walks_str {w : Wd} {z : Str} (hl : z.length ≤ sizeLine) : Walks g w ⟨signs z, []⟩ (Its z) := by
  have hz : (signs z).length = z.length := by unfold signs; rw [List.length_map]; simp [Str.length]
  refine ⟨by show (signs z).length ≤ _; omega, fun w1 S1 st so ok i d e => ?_, fun w1 S1 st so ok => ?_⟩
  · have e : (signs z)[i]? = some d := e
    unfold signs at e
    rw [List.getElem?_map, Array.getElem?_toList] at e
    cases q : z.cps[i]? with
    | none => rw [q] at e; cases e
    | some c =>
      rw [q] at e
      cases e
      refine ⟨(Array.getElem?_eq_some_iff.mp q).1, fun v H2 y => ?_⟩
      obtain ⟨rfl, c', ec, rfl⟩ := y
      rw [q] at ec
      cases ec
      exact ⟨w1, rfl, Step.refl so, so, .str _⟩
  · show z.cps.size ≤ (signs z).length
    rw [hz]
    exact Nat.le_refl _
theorem walks_range {w : Wd} {lo : Int} {n : Nat} (hl : n ≤ sizeLine) : Walks g w ⟨upTo lo n, []⟩ (Itr lo n) := by
  have hz : (upTo lo n).length = n := by unfold upTo; rw [List.length_map, List.length_range]
  refine ⟨by show (upTo lo n).length ≤ _; omega, fun w1 S1 st so ok i d e => ?_, fun w1 S1 st so ok => ?_⟩
  · have e : (upTo lo n)[i]? = some d := e
    have hi : i < n := by
      have := (List.getElem?_eq_some_iff.mp e).1
      omega
    unfold upTo at e
    rw [List.getElem?_map, List.getElem?_range hi] at e
    cases e
    refine ⟨hi, fun v H2 y => ?_⟩
    obtain ⟨rfl, rfl⟩ := y
    exact ⟨w1, rfl, Step.refl so, so, .int _⟩
  · show n ≤ (upTo lo n).length
    rw [hz]
    exact Nat.le_refl _
theorem di_seq {fe : DenE} (he : PE X e (tE ⟨X.K, X.mg, X.w⟩ W fe)) : PI X tg e (tI ⟨X.K, X.mg, X.w⟩ W (dISeq fe)) := by
  refine PI.weaken (PI_or (PI_or (pi_list he) (pi_tup he)) (pi_str he)) fun σ H R q => ?_
  have q0 := q
  obtain ⟨w, S, fr, eH, so, fo, p⟩ := q
  replace p : Post ⟨X.K, X.mg, X.w⟩ w (Walks ⟨X.K, X.mg, X.w⟩) ((fe fr S).bnd fun d S' => .ofS (srcOf d S') S') R (fun c d H' => W c d σ H') := p
  cases q1 : fe fr S with
  | no => rw [q1] at p; exact p.elim
  | ex e S1 =>
    rw [q1] at p
    refine .inr ⟨w, S, fr, eH, so, fo, ?_⟩
    rw [q1]
    exact p
  | ok d S1 =>
    rw [q1] at p
    replace p : Post ⟨X.K, X.mg, X.w⟩ w (Walks ⟨X.K, X.mg, X.w⟩) (.ofS (srcOf d S1) S1) R (fun c d H' => W c d σ H') := p
    unfold srcOf at p
    split at p
    · refine .inl (.inr ⟨w, S, fr, eH, so, fo, ?_⟩)
      rw [q1]
      intro w1 v st so1 r
      cases r with
      | tup t l r => exact ⟨_, rfl, ⟨_, t⟩, p w1 _ st so1 (walks_tup (src := ⟨_, []⟩) l t r)⟩
    · refine .inl (.inl ⟨w, S, fr, eH, so, fo, ?_⟩)
      rw [q1]
      intro w1 v st so1 r
      cases r with
      | rl t l r => exact ⟨_, rfl, ⟨_, t.sql⟩, p w1 _ st so1 (walks_list (src := ⟨_, []⟩) l fun w2 S2 st2 so2 _ => ⟨_, (st2.sqf t).sql, Reps.mono st2.toMono _ _ r⟩)⟩
    · split at p
      · rename_i hz
        refine .inr ⟨w, S, fr, eH, so, fo, ?_⟩
        rw [q1]
        intro w1 v st so1 r
        cases r
        exact ⟨_, rfl, p w1 _ st so1 (walks_str hz)⟩
      · exact p.elim
    · rename_i n
      split at p
      · rename_i xs e1
        refine .inl (.inl ⟨w, S, fr, eH, so, fo, ?_⟩)
        rw [q1]
        intro w1 v st so1 r
        cases r with
        | ob hi =>
          obtain ⟨vs, hv, rv, l⟩ := so1.sql e1
          refine ⟨_, rfl, ⟨_, SqL.of hv⟩, p w1 _ st so1 (walks_list (src := ⟨xs, [(n, xs)]⟩) l fun w2 S2 st2 so2 ok => ?_)⟩
          obtain ⟨vs2, hv2, rv2, _⟩ := so2.sql (ok (n, xs) (List.mem_singleton.mpr rfl))
          rw [st2.ag n hi] at hv2
          exact ⟨vs2, SqL.of hv2, rv2⟩
      · exact p.elim
    · exact p.elim
theorem di_t {h : DenA} (he : PE X e (tL ⟨X.K, X.mg, X.w⟩ W h)) : PI X tg e (tI ⟨X.K, X.mg, X.w⟩ W (dIT h)) := by
  refine PI.weaken (pi_list he) fun σ H R q => lift1L q _ fun v H1 h1 => ?_
  obtain ⟨w, S, fr, xs, rfl, so, fo, ⟨p0, vs, rfl, hv, hn, l, rv⟩, p⟩ := h1
  refine ⟨p0, rfl, ⟨_, SqL.of hv⟩, p w _ (Step.refl so) so (walks_list (src := ⟨xs, []⟩) l fun w2 S2 st2 so2 _ => ?_)⟩
  exact ⟨vs, SqL.of (st2.untracked hv hn).1, Reps.mono st2.toMono _ _ rv⟩
theorem di_range1 {a : Expr} {h : DenA} {p pos : Pos} (hg : Gl X "range") (hm : X.mg "range" = none) (ha : PA X [a] (tA ⟨X.K, X.mg, X.w⟩ W h)) (hs : starEach [a] X.env = [(false, eval a X.env)]) :
    PI X tg (.Call (.Name "range" p) [a] [] pos) (tI ⟨X.K, X.mg, X.w⟩ W (dIRange1 h)) := by
  refine PI.weaken (pi_range1 hg hm ha hs) fun σ H R q => tG_mono (lift1 q) fun vs H1 h1 => ?_
  obtain ⟨w, S, fr, ds, rfl, so, fo, r, p⟩ := h1
  dsimp only at p
  split at p
  · obtain ⟨v, rfl, rv⟩ := r.one
    cases rv
    split at p
    · rename_i hj
      exact ⟨_, rfl, hj.1, by omega, p w _ (Step.refl so) so (walks_range (by rw [sizeLine_eq]; omega))⟩
    · exact p.elim
  · exact p.elim
theorem di_range2 {a b : Expr} {h : DenA} {p pos : Pos} (hg : Gl X "range") (hm : X.mg "range" = none) (ha : PA X [a, b] (tA ⟨X.K, X.mg, X.w⟩ W h)) (hs : starEach [a, b] X.env = [(false, eval a X.env), (false, eval b X.env)]) (hs2 : starEach [b] X.env = [(false, eval b X.env)]) :
    PI X tg (.Call (.Name "range" p) [a, b] [] pos) (tI ⟨X.K, X.mg, X.w⟩ W (dIRange2 h)) := by
  refine PI.weaken (pi_range2 hg hm ha hs hs2) fun σ H R q => tG_mono (lift1 q) fun vs H1 h1 => ?_
  obtain ⟨w, S, fr, ds, rfl, so, fo, r, p⟩ := h1
  dsimp only at p
  split at p
  · obtain ⟨v, u, rfl, rv, ru⟩ := r.two
    cases rv
    cases ru
    split at p
    · rename_i hj
      exact ⟨_, _, rfl, hj.1, p w _ (Step.refl so) so (walks_range (by rw [sizeLine_eq]; omega))⟩
    · exact p.elim
  · exact p.elim
theorem zipD_get : ∀ (xs ys : List D) (i : Nat) (d : D), (zipD xs ys)[i]? = some d → ∃ x y, xs[i]? = some x ∧ ys[i]? = some y ∧ d = .tup [x, y]
  | [], _, _, _, e => by cases e
  | _ :: _, [], _, _, e => by cases e
  | x :: xs, y :: ys, 0, d, e => by cases e; exact ⟨x, y, rfl, rfl, rfl⟩
  | x :: xs, y :: ys, i + 1, d, e => zipD_get xs ys i d e
theorem zipD_len : ∀ xs ys : List D, (zipD xs ys).length ≤ xs.length ∧ (xs.length ≤ (zipD xs ys).length ∨ ys.length ≤ (zipD xs ys).length)
  | [], _ => ⟨Nat.le_refl _, .inl (Nat.le_refl _)⟩
  | _ :: _, [] => ⟨Nat.zero_le _, .inr (Nat.le_refl _)⟩
  | x :: xs, y :: ys => by
    obtain ⟨h1, h2⟩ := zipD_len xs ys
    show (zipD xs ys).length + 1 ≤ xs.length + 1 ∧ (xs.length + 1 ≤ (zipD xs ys).length + 1 ∨ ys.length + 1 ≤ (zipD xs ys).length + 1)
    omega
theorem Step.newTup (so : SOk g w S) {p : Addr} (hp : w.H p = none) {ds : List D} {vs : List V} (hl : ds.length ≤ sizeLine) (r : Reps g w ds vs) :
    Step w (w.put p (.tup vs)) ∧ SOk g (w.put p (.tup vs)) S ∧ Rep g (w.put p (.tup vs)) (.tup ds) (.ref p) := by
  obtain ⟨st, so', _⟩ := Step.put so hp (.tup vs)
  exact ⟨st, so', .tup (SqT.of upd_same) hl (Reps.mono st.toMono _ _ r)⟩
theorem two_line : (2 : Nat) ≤ sizeLine := by decide
theorem walks_zip {w : Wd} {src : Src} {xs ys : List D} {a b : Addr} (es : src.items = zipD xs ys) (hl : xs.length ≤ sizeLine)
    (hs : ∀ w1 S1, Step w w1 → SOk g w1 S1 → src.ok S1 → (∃ vs, SqL g.K w1.H a vs ∧ Reps g w1 xs vs) ∧ ∃ us, SqL g.K w1.H b us ∧ Reps g w1 ys us) : Walks g w src (Itz g.K a b) := by
  obtain ⟨z1, z2⟩ := zipD_len xs ys
  refine ⟨by rw [es]; omega, fun w1 S1 st so ok i d e => ?_, fun w1 S1 st so ok => ?_⟩
  · obtain ⟨⟨vs, hq, rv⟩, us, hq2, rv2⟩ := hs w1 S1 st so ok
    rw [es] at e
    obtain ⟨x, y, ex, ey, rfl⟩ := zipD_get _ _ _ _ e
    obtain ⟨v, ev, r1⟩ := rv.get ex
    obtain ⟨u, eu, r2⟩ := rv2.get ey
    refine ⟨⟨vs, us, v, u, hq, hq2, ev, eu⟩, fun t H2 q => ?_⟩
    obtain ⟨T, x', y', rfl, hT, rfl, qx, qy⟩ := q
    have e1 := qx vs hq
    have e2 := qy us hq2
    rw [ev] at e1
    rw [eu] at e2
    cases e1
    cases e2
    obtain ⟨st2, so2, r⟩ := Step.newTup so hT (ds := [x, y]) two_line (.cons r1 (.cons r2 .nil))
    exact ⟨_, rfl, st2, so2, r⟩
  · obtain ⟨⟨vs, hq, rv⟩, us, hq2, rv2⟩ := hs w1 S1 st so ok
    have e1 := rv.length
    have e2 := rv2.length
    refine ⟨vs, us, hq, hq2, ?_⟩
    rw [es]
    omega
theorem walks_zipT {w : Wd} {src : Src} {xs ys : List D} {a b : Addr} {vs us : List V} (es : src.items = zipD xs ys) (hl : xs.length ≤ sizeLine) (hq : SqT g.K w.H a vs) (rv : Reps g w xs vs) (hq2 : SqT g.K w.H b us) (rv2 : Reps g w ys us) :
    Walks g w src (RZ.ItzT g.K a b) := by
  obtain ⟨z1, z2⟩ := zipD_len xs ys
  refine ⟨by rw [es]; omega, fun w1 S1 st so ok i d e => ?_, fun w1 S1 st so ok => ?_⟩
  · rw [es] at e
    obtain ⟨x, y, ex, ey, rfl⟩ := zipD_get _ _ _ _ e
    obtain ⟨v, ev, r1⟩ := (Reps.mono st.toMono _ _ rv).get ex
    obtain ⟨u, eu, r2⟩ := (Reps.mono st.toMono _ _ rv2).get ey
    refine ⟨⟨vs, us, v, u, st.sqt hq, st.sqt hq2, ev, eu⟩, fun t H2 q => ?_⟩
    obtain ⟨T, x', y', rfl, hT, rfl, qx, qy⟩ := q
    have e1 := qx vs (st.sqt hq)
    have e2 := qy us (st.sqt hq2)
    rw [ev] at e1
    rw [eu] at e2
    cases e1
    cases e2
    obtain ⟨st2, so2, r⟩ := Step.newTup so hT (ds := [x, y]) two_line (.cons r1 (.cons r2 .nil))
    exact ⟨_, rfl, st2, so2, r⟩
  · have e1 := rv.length
    have e2 := rv2.length
    refine ⟨vs, us, st.sqt hq, st.sqt hq2, ?_⟩
    rw [es]
    omega
/-- a list by its source -/
theorem src_list {w : Wd} {S : Sto} {d : D} {v : V} {src : Src} (so : SOk g w S) (r : Rep g w d v) (e : srcOf d S = some src) (h1 : isTup d = false) (h2 : ∀ z, d ≠ .str z) :
    ∃ a, v = .ref a ∧ src.items.length ≤ sizeLine ∧ (∃ vs, SqL g.K w.H a vs) ∧ ∀ w1 S1, Step w w1 → SOk g w1 S1 → src.ok S1 → ∃ vs, SqL g.K w1.H a vs ∧ Reps g w1 src.items vs := by
  unfold srcOf at e
  split at e
  · cases h1
  · cases e
    cases r with
    | rl t l r => exact ⟨_, rfl, l, ⟨_, t.sql⟩, fun w1 S1 st so1 _ => ⟨_, (st.sqf t).sql, Reps.mono st.toMono _ _ r⟩⟩
  · exact (h2 _ rfl).elim
  · rename_i n
    split at e
    · rename_i xs q
      cases e
      cases r with
      | ob hi =>
        obtain ⟨vs, hv, rv, l⟩ := so.sql q
        refine ⟨_, rfl, l, ⟨vs, SqL.of hv⟩, fun w1 S1 st so1 ok => ?_⟩
        obtain ⟨vs2, hv2, rv2, _⟩ := so1.sql (ok (n, xs) (List.mem_singleton.mpr rfl))
        rw [st.ag n hi] at hv2
        exact ⟨vs2, SqL.of hv2, rv2⟩
    · cases e
  · cases e
theorem di_zip {e e2 : Expr} {h : DenA} {p pos tpos : Pos} {elts : List Expr} {kk : Nat} (hg : Gl X "zip") (hm : X.mg "zip" = none) (ha : PA X [e, e2] (tA ⟨X.K, X.mg, X.w⟩ W h))
    (hs : starEach [e, e2] X.env = (false, eval e X.env) :: starEach [e2] X.env) (hpl : (backTo pos (starEach [e2] X.env)).any (·.1) = false) :
    PI X (.Tuple elts kk tpos) (.Call (.Name "zip" p) [e, e2] [] pos) (tI ⟨X.K, X.mg, X.w⟩ W (dIZip h)) := by
  refine PI.weaken (RZ.pi_zipA hg hm ha hs hpl) fun σ H R q => tG_mono (lift1 q) fun vs H1 h1 => ?_
  obtain ⟨w, S, fr, ds, rfl, so, fo, r, p⟩ := h1
  dsimp only at p
  split at p
  · rename_i a b
    obtain ⟨va, vb, rfl, ra, rb⟩ := r.two
    split at p
    · rename_i ht
      split at p
      · rename_i s1 s2 e1 e2
        have okL : ∀ {S1 : Sto}, (Src.mk (zipD s1.items s2.items) (s1.guard ++ s2.guard)).ok S1 → s1.ok S1 ∧ s2.ok S1 := fun ok => ⟨fun q hq => ok q (List.mem_append_left _ hq), fun q hq => ok q (List.mem_append_right _ hq)⟩
        split at p
        · exact p.elim
        · exact p.elim
        · rename_i n1 n2
          cases hx : isTup a with
          | false =>
            rw [hx] at ht
            obtain ⟨a1, rfl, l1, ⟨us1, q1⟩, k1⟩ := src_list so ra e1 hx fun z hz => n1 z hz
            obtain ⟨a2, rfl, l2, ⟨us2, q2⟩, k2⟩ := src_list so rb e2 ht.symm fun z hz => n2 z hz
            refine ⟨a1, a2, us1, us2, rfl, .inl ⟨q1, q2, p w _ (Step.refl so) so (walks_zip rfl l1 fun w1 S1 st so1 ok => ?_)⟩⟩
            exact ⟨k1 w1 S1 st so1 (okL ok).1, k2 w1 S1 st so1 (okL ok).2⟩
          | true =>
            rw [hx] at ht
            cases ra with
            | tup t1 l1 r1 =>
              cases rb with
              | tup t2 l2 r2 =>
                cases e1
                cases e2
                exact ⟨_, _, _, _, rfl, .inr ⟨t1, t2, p w _ (Step.refl so) so (walks_zipT rfl l1 t1 r1 t2 r2)⟩⟩
              | _ => cases ht
            | _ => cases hx
      · exact p.elim
    · exact p.elim
  · exact p.elim
theorem enumD_get : ∀ (xs : List D) (k i : Nat) (d : D), (enumD xs k)[i]? = some d → ∃ x, xs[i]? = some x ∧ d = .tup [.int ((k + i : Nat) : Int), x]
  | [], _, _, _, e => by cases e
  | x :: xs, k, 0, d, e => by cases e; exact ⟨x, rfl, rfl⟩
  | x :: xs, k, i + 1, d, e => by
    obtain ⟨y, h1, h2⟩ := enumD_get xs (k + 1) i d e
    refine ⟨y, h1, ?_⟩
    rw [h2]
    have : k + 1 + i = k + (i + 1) := by omega
    rw [this]
theorem enumD_len : ∀ (xs : List D) (k : Nat), (enumD xs k).length = xs.length
  | [], _ => rfl
  | x :: xs, k => by
    show (enumD xs (k + 1)).length + 1 = xs.length + 1
    rw [enumD_len]
theorem walks_enum {w : Wd} {src : Src} {xs : List D} {a : Addr} (es : src.items = enumD xs 0) (hl : xs.length ≤ sizeLine)
    (hs : ∀ w1 S1, Step w w1 → SOk g w1 S1 → src.ok S1 → ∃ vs, SqL g.K w1.H a vs ∧ Reps g w1 xs vs) : Walks g w src (Ite g.K a) := by
  have el := enumD_len xs 0
  refine ⟨by rw [es]; omega, fun w1 S1 st so ok i d e => ?_, fun w1 S1 st so ok => ?_⟩
  · obtain ⟨vs, hq, rv⟩ := hs w1 S1 st so ok
    rw [es] at e
    obtain ⟨x, ex, rfl⟩ := enumD_get _ _ _ _ e
    obtain ⟨v, ev, r1⟩ := rv.get ex
    refine ⟨⟨vs, v, hq, ev⟩, fun t H2 q => ?_⟩
    obtain ⟨T, x', rfl, hT, rfl, qx⟩ := q
    have e1 := qx vs hq
    rw [ev] at e1
    cases e1
    rw [Nat.zero_add]
    obtain ⟨st2, so2, r⟩ := Step.newTup so hT (ds := [.int ((i : Nat) : Int), x]) two_line (.cons (.int _) (.cons r1 .nil))
    exact ⟨_, rfl, st2, so2, r⟩
  · obtain ⟨vs, hq, rv⟩ := hs w1 S1 st so ok
    have e1 := rv.length
    refine ⟨vs, hq, ?_⟩
    rw [es]
    omega
theorem di_enum {e : Expr} {h : DenA} {p pos tpos : Pos} {elts : List Expr} {kk : Nat} (hg : Gl X "enumerate") (hm : X.mg "enumerate" = none) (ha : PA X [e] (tA ⟨X.K, X.mg, X.w⟩ W h)) (hs : starEach [e] X.env = [(false, eval e X.env)]) :
    PI X (.Tuple elts kk tpos) (.Call (.Name "enumerate" p) [e] [] pos) (tI ⟨X.K, X.mg, X.w⟩ W (dIEnum h)) := by
  refine PI.weaken (pi_enum hg hm ha hs) fun σ H R q => tG_mono (lift1 q) fun vs H1 h1 => ?_
  obtain ⟨w, S, fr, ds, rfl, so, fo, r, p⟩ := h1
  dsimp only at p
  split at p
  · obtain ⟨v, rfl, rv⟩ := r.one
    cases rv with
    | rl t l r5 => exact ⟨_, _, rfl, t.sql, p w _ (Step.refl so) so (walks_enum rfl l fun w1 S1 st so1 _ => ⟨_, (st.sqf t).sql, Reps.mono st.toMono _ _ r5⟩)⟩
  · rename_i n
    obtain ⟨v, rfl, rv⟩ := r.one
    split at p
    · rename_i xs q
      cases rv with
      | ob hi =>
        obtain ⟨vs, hv, rv, l⟩ := so.sql q
        refine ⟨_, _, rfl, SqL.of hv, p w _ (Step.refl so) so (walks_enum rfl l fun w1 S1 st so1 ok => ?_)⟩
        obtain ⟨vs2, hv2, rv2, _⟩ := so1.sql (ok (n, xs) (List.mem_singleton.mpr rfl))
        rw [st.ag n hi] at hv2
        exact ⟨vs2, SqL.of hv2, rv2⟩
    · exact p.elim
  · exact p.elim
theorem di_enumT {e : Expr} {h : DenA} {p pos tpos : Pos} {elts : List Expr} {kk : Nat} (hg : Gl X "enumerate") (hm : X.mg "enumerate" = none) (ha : PE X e (tL ⟨X.K, X.mg, X.w⟩ W h)) (hs : starEach [e] X.env = [(false, eval e X.env)]) :
    PI X (.Tuple elts kk tpos) (.Call (.Name "enumerate" p) [e] [] pos) (tI ⟨X.K, X.mg, X.w⟩ W (dIEnumT h)) := by
  refine PI.weaken (pi_enum hg hm (pa_cons ha pa_nil hs) hs) fun σ H R q => lift1L q _ fun v H1 h1 => ?_
  obtain ⟨w, S, fr, xs, rfl, so, fo, ⟨p0, vs, rfl, hv, hn, l, rv⟩, p⟩ := h1
  exact ⟨p0, vs, rfl, SqL.of hv, p w _ (Step.refl so) so (walks_enum rfl l fun w1 S1 st so1 _ => ⟨vs, SqL.of (st.untracked hv hn).1, Reps.mono st.toMono _ _ rv⟩)⟩
end

/-! ### comprehensions -/
section
variable {X : Cx} {W : WX}
theorem dts_nil : PTs X [] (tT ⟨X.K, X.mg, X.w⟩ W dYes) := by
  refine ⟨fun pins s σ H Q I h => pts_nil.run pins s σ H Q I ?_⟩
  obtain ⟨w, S, fr, rfl, so, fo, p⟩ := h
  exact p w _ (Step.refl so) so rfl
theorem dl_comp {elt tg iter : Expr} {ifs : List Expr} {scope : Scope} {own : List (Str × Nat)} {pos : Pos} {fi : Fr → Sto → Out Src} {t : DTg} {tt : DenT} {fe : DenE} (hc : X.calm = true) (hN : X.N.Nodup)
    (hi : PI X tg iter (tI ⟨X.K, X.mg, X.w⟩ W fi)) (ok : BlkOk X.N X.env.scope scope own)
    (hg : ∀ (s : Shared) (H : Hp) (C : Addr) (cl : List (Str × Addr)) (fp : List Addr), PG (X.blk s H scope (compEnvC scope cl C X.env) fp) tg (tGt ⟨X.K, X.mg, X.w⟩ (own.map (·.2)) t))
    (ht : ∀ (s : Shared) (H : Hp) (C : Addr) (cl : List (Str × Addr)) (fp : List Addr), PTs (X.blk s H scope (compEnvC scope cl C X.env) fp) ifs (tT ⟨X.K, X.mg, X.w⟩ (fun _ _ _ _ => False) tt))
    (he : ∀ (s : Shared) (H : Hp) (C : Addr) (cl : List (Str × Addr)) (fp : List Addr), PE (X.blk s H scope (compEnvC scope cl C X.env) fp) elt (tE ⟨X.K, X.mg, X.w⟩ (fun _ _ _ _ => False) fe))
    (hs : ∀ x, foldedSetIterable iter X.env x = pure x) : PE X (.ListComp elt [⟨tg, iter, ifs, 0⟩] scope pos) (tL ⟨X.K, X.mg, X.w⟩ W (dComp (own.map (·.2)) fi t tt fe)) :=
  PE.weaken (pe_lc hc hN hi ok hg ht he hs) fun _ _ _ h => lift_comp h
theorem ds_setLc {i : Nat} {y : Str} {py : Pos} {elt tg iter : Expr} {ifs : List Expr} {scope : Scope} {own : List (Str × Nat)} {pos spos : Pos} {fi : Fr → Sto → Out Src} {t : DTg} {tt : DenT} {fe : DenE} (hc : X.calm = true) (hN : X.N.Nodup)
    (hy : X.N[i]? = some y) (hyl : X.env.scope.names.lookup y = some .local) (hsw : swapsWith (.ListComp elt [⟨tg, iter, ifs, 0⟩] scope pos) (some (.Name y py)) spos.line X.env = pure true)
    (hi : PI X tg iter (tI ⟨X.K, X.mg, X.w⟩ W fi)) (ok : BlkOk X.N X.env.scope scope own)
    (hg : ∀ (s : Shared) (H : Hp) (C : Addr) (cl : List (Str × Addr)) (fp : List Addr), PG (X.blk s H scope (compEnvC scope cl C X.env) fp) tg (tGt ⟨X.K, X.mg, X.w⟩ (own.map (·.2)) t))
    (ht : ∀ (s : Shared) (H : Hp) (C : Addr) (cl : List (Str × Addr)) (fp : List Addr), PTs (X.blk s H scope (compEnvC scope cl C X.env) fp) ifs (tT ⟨X.K, X.mg, X.w⟩ (fun _ _ _ _ => False) tt))
    (he : ∀ (s : Shared) (H : Hp) (C : Addr) (cl : List (Str × Addr)) (fp : List Addr), PE (X.blk s H scope (compEnvC scope cl C X.env) fp) elt (tE ⟨X.K, X.mg, X.w⟩ (fun _ _ _ _ => False) fe))
    (hs : ∀ x, foldedSetIterable iter X.env x = pure x) : PS X (.Assign [.Name y py] (.ListComp elt [⟨tg, iter, ifs, 0⟩] scope pos) spos) (tS ⟨X.K, X.mg, X.w⟩ W (dSet i (dKeep (dComp (own.map (·.2)) fi t tt fe)))) := by
  refine PS.weaken (ps_setLc hc hN hy hyl hsw hi ok hg ht he hs) fun D σ H q => lift_comp ?_
  obtain ⟨w, S, fr, e, so, fo, p⟩ := q
  refine ⟨w, S, fr, e, so, fo, ?_⟩
  generalize dComp (own.map (·.2)) fi t tt fe = h at p ⊢
  replace p : PostS ⟨X.K, X.mg, X.w⟩ w (((h fr S).bnd fun ds S' => .ok (.ob S'.length) (S' ++ [.lst ds])).thn fr fun d S' => .ok .nx (fr.set i (some d)) S') D W := p
  cases q : h fr S with
  | no => rw [q] at p; exact p
  | ex e S1 =>
    rw [q] at p
    exact fun w1 c dx st so1 rx => p w1 σ c dx st so1 (fo.mono st.toMono) rx
  | ok ds S1 =>
    rw [q] at p
    intro w1 a st so1 fresh r
    obtain ⟨a', vs, ea, ha, hn, hl, rv⟩ := r
    cases ea
    obtain ⟨so2, mo, rr⟩ := Step.adopt so1 ha hn hl rv
    refine p (w1.adopt a) _ ⟨st.toMono.trans mo, fun b o hb hx => st.kp b o hb hx, fun i h1 h2 => ?_, fun i hi => so2.al i hi⟩ so2 ((fo.mono (st.toMono.trans mo)).set i rr)
    have h2 : i < w1.n + 1 := h2
    by_cases e : i = w1.n
    · show w.H (if i = w1.n then a else w1.m i) = none
      rw [if_pos e]
      exact fresh
    · show w.H (if i = w1.n then a else w1.m i) = none
      rw [if_neg e]
      exact st.fr i h1 (by omega)
end

/-! ### a def called -/
abbrev PhT := Nat → List D → Sto → Out D
def spD (g : Gnd) (n : Nat) (f : List D → Sto → Out D) : Sp := fun vs H Q E => ∃ w S ds, w.H = H ∧ SOk g w S ∧ Reps g w ds vs ∧ ds.length = n ∧ Post g w (Rep g) (f ds S) Q E
def dCall (n : Nat) (f : List D → Sto → Out D) (h : DenA) : DenE := fun fr S => (h fr S).bnd fun ds S' => if ds.length = n then f ds S' else .no
section
variable {X : Cx} {W : WX} {k n : Nat} {a : Addr} {fd : FuncData} {ps : List Str} {x : Str} {p pos : Pos} {e : Expr} {es : List Expr} {h : DenA} {f : List D → Sto → Out D}
theorem lift_call {g : Gnd} {σ : L2.St} {H : Hp} {Q : VK} (q : tE g W (dCall n f h) σ H Q) : tCallG (spD g n f) W (tA g W h) σ H Q := by
  refine tG_mono (lift1 q) fun vs H1 h1 => ?_
  obtain ⟨w, S, fr, ds, e, so, fo, r, p⟩ := h1
  dsimp only at p
  split at p
  · rename_i hl
    exact ⟨w, S, ds, e, so, r, hl, p⟩
  · exact p.elim
theorem de_call (F : FnG X.prog X.w X.K X.mg X.base (L2.CX X.prog X.w) k a fd ps (spD ⟨X.K, X.mg, X.w⟩ n f)) (hr : Room k X.A) (hgd : X.A.guards = some []) (hg : Gl X x) (hm : X.mg x = some (.ref a)) (hk : PySem.W.keepIn X.K (.ref a) = true) (hb : Binds X.K fd ps []) (tk : Takes X W)
    (ha : PA X (e :: es) (tA ⟨X.K, X.mg, X.w⟩ W h)) (hdb : (x == ("__debug__" : Str)) = false) (he : starEach (e :: es) X.env = (false, eval e X.env) :: starEach es X.env) (hpl : (backTo pos (starEach es X.env)).any (·.1) = false) :
    PE X (.Call (.Name x p) (e :: es) [] pos) (tE ⟨X.K, X.mg, X.w⟩ W (dCall n f h)) :=
  PE.weaken (pe_callG F hr hgd hg hm hk hb tk ha hdb he hpl) fun _ _ _ q => lift_call q
theorem de_call0 (F : FnG X.prog X.w X.K X.mg X.base (L2.CX X.prog X.w) k a fd ps (spD ⟨X.K, X.mg, X.w⟩ 0 f)) (hr : Room k X.A) (hgd : X.A.guards = some []) (hg : Gl X x) (hm : X.mg x = some (.ref a)) (hk : PySem.W.keepIn X.K (.ref a) = true) (hb : Binds X.K fd ps []) (tk : Takes X W)
    (hdb : (x == ("__debug__" : Str)) = false) : PE X (.Call (.Name x p) [] [] pos) (tE ⟨X.K, X.mg, X.w⟩ W (dCall 0 f dANil)) :=
  PE.weaken (pe_callG0 F hr hgd hg hm hk hb tk hdb) fun _ _ _ q => by
    obtain ⟨w, S, fr, rfl, so, fo, p⟩ := q
    exact ⟨w, S, [], rfl, so, .nil, rfl, p⟩
end
end DL
/-! DL, part l: a def's whole call; what it leaves behind and nobody holds is forgotten. -/
namespace DL
open PySem PySem.Spec PyProof.Rows L2

mutual
/-- no tracked object from n on stands within -/
def D.und (n : Nat) : D → Bool
  | .ob k => decide (k < n)
  | .tup xs => undL n xs
  | .rl xs => undL n xs
  | .kd _ vs => undL n vs
  | .non => true
  | .bl _ => true
  | .int _ => true
  | .str _ => true
  | .ty _ => true
  | .gl _ => true
  | .xo _ _ vs => undL n vs
def undL (n : Nat) : List D → Bool
  | [] => true
  | d :: ds => d.und n && undL n ds
end
def O.und (n : Nat) : O → Bool
  | .lst xs => undL n xs
  | .dk kvs => undL n (kvs.map (·.2))
  | .ins _ fs => undL n (fs.map (·.2))
def Ex.und (n : Nat) (e : Ex) : Bool := e.cls.und n && (match e.fs with
  | none => true
  | some fs => undL n (fs.map (·.2)))
/-- the objects that stood ahead stand, and what they hold stood ahead -/
def Olds (S S' : Sto) : Prop := S.length ≤ S'.length ∧ ∀ i, i < S.length → S'[i]? = S[i]? ∨ ∃ o, S'[i]? = some o ∧ o.und S.length = true
open Classical in
noncomputable def gcO (S : Sto) (d : D) (S' : Sto) : Out D :=
  if Olds S S' ∧ d.und S.length = true then .ok d (S'.take S.length)
  else match d with
    | .ob j => match S'[j]? with
      | some o => if Olds S S' ∧ S.length ≤ j ∧ o.und S.length = true then .ok (.ob S.length) (S'.take S.length ++ [o]) else .ok d S'
      | none => .ok d S'
    | _ => .ok d S'
open Classical in
noncomputable def gcX (S : Sto) (e : Ex) (S' : Sto) : Out D := if Olds S S' ∧ e.und S.length = true then .ex e (S'.take S.length) else .ex e S'
/-- a def's body, called: n names -/
noncomputable def runB (n : Nat) (b : DenS) (ds : List D) (S : Sto) : Out D := match b (ds.map some ++ List.replicate (n - ds.length) none) S with
  | .ok (.rt d) _ S' => gcO S d S'
  | .ok .nx _ S' => gcO S .non S'
  | .ex e _ S' => gcX S e S'
  | _ => .no
def Wd.cut (w : Wd) (n : Nat) : Wd := ⟨w.m, n, w.H⟩
section
variable {g : Gnd} {w w' : Wd} {S S' : Sto}
mutual
theorem Rep.isBelow : ∀ (d : D) (v : V), Rep g w d v → d.und w.n = true
  | .non, _, _ => rfl
  | .bl _, _, _ => rfl
  | .int _, _, _ => rfl
  | .str _, _, _ => rfl
  | .ty _, _, _ => rfl
  | .gl _, _, _ => rfl
  | .xo c ks xs, _, r => by
    cases r with
    | xo0 _ _ _ _ => rfl
    | xo1 _ _ _ _ _ r => unfold D.und; exact Reps.isBelow xs _ r
  | .ob k, _, r => by
    cases r with
    | ob h => exact decide_eq_true h
  | .tup xs, _, r => by
    cases r with
    | tup _ _ r => unfold D.und; exact Reps.isBelow xs _ r
  | .rl xs, _, r => by
    cases r with
    | rl _ _ r => unfold D.und; exact Reps.isBelow xs _ r
  | .kd ks xs, _, r => by
    cases r with
    | kd _ _ _ r => unfold D.und; exact Reps.isBelow xs _ r
theorem Reps.isBelow : ∀ (ds : List D) (vs : List V), Reps g w ds vs → undL w.n ds = true
  | [], _, _ => rfl
  | d :: ds, _, r => by
    cases r with
    | cons a b =>
      unfold undL
      rw [Rep.isBelow d _ a, Reps.isBelow ds _ b]
      rfl
end
mutual
theorem Rep.lower {n : Nat} : ∀ (d : D) (v : V), Rep g w d v → d.und n = true → Rep g (w.cut n) d v
  | .non, _, r, _ => by cases r; exact .non
  | .bl _, _, r, _ => by cases r; exact .bl _
  | .int _, _, r, _ => by cases r; exact .int _
  | .str _, _, r, _ => by cases r; exact .str _
  | .ty _, _, r, _ => by cases r; exact .ty _
  | .gl _, _, r, _ => by cases r with | gl e => exact .gl e
  | .xo c ks xs, _, r, h => by
    cases r with
    | xo0 e1 e2 e3 e4 => exact .xo0 (w := w.cut n) e1 e2 e3 e4
    | xo1 e1 e2 e3 e4 e5 r => exact .xo1 (w := w.cut n) e1 e2 e3 e4 e5 (Reps.lower xs _ r (by unfold D.und at h; exact h))
  | .ob k, _, r, h => by
    cases r with
    | ob _ => exact Rep.ob (w := w.cut n) (of_decide_eq_true (by unfold D.und at h; exact h))
  | .tup xs, _, r, h => by
    cases r with
    | tup t l r => exact .tup t l (Reps.lower xs _ r (by unfold D.und at h; exact h))
  | .rl xs, _, r, h => by
    cases r with
    | rl t l r => exact .rl t l (Reps.lower xs _ r (by unfold D.und at h; exact h))
  | .kd ks xs, _, r, h => by
    cases r with
    | kd k e l r => exact .kd k e l (Reps.lower xs _ r (by unfold D.und at h; exact h))
theorem Reps.lower {n : Nat} : ∀ (ds : List D) (vs : List V), Reps g w ds vs → undL n ds = true → Reps g (w.cut n) ds vs
  | [], _, r, _ => by cases r; exact .nil
  | d :: ds, _, r, h => by
    unfold undL at h
    rw [Bool.and_eq_true] at h
    cases r with
    | cons a b => exact .cons (Rep.lower d _ a h.1) (Reps.lower ds _ b h.2)
end
theorem RepO.isBelow {o : O} {h : HO} (r : RepO g w o h) : o.und w.n = true := by
  cases r with
  | lst l r => exact Reps.isBelow _ _ r
  | dk l e r => exact Reps.isBelow _ _ r
  | ins e e2 r => exact Reps.isBelow _ _ r
theorem RepO.lower {n : Nat} {o : O} {h : HO} (r : RepO g w o h) (hb : o.und n = true) : RepO g (w.cut n) o h := by
  cases r with
  | lst l r => exact .lst l (Reps.lower _ _ r hb)
  | dk l e r => exact .dk l e (Reps.lower _ _ r hb)
  | ins e e2 r => exact .ins e e2 (Reps.lower _ _ r hb)
theorem olds_below (so : SOk g w S) (ol : Olds S S') {i : Nat} {o : O} (hi : i < S.length) (e : S'[i]? = some o) : o.und S.length = true := by
  rcases ol.2 i hi with h | ⟨o', h, b⟩
  · rw [h] at e
    obtain ⟨ho, _, r⟩ := so.ob i o e
    rw [← so.len]
    exact r.isBelow
  · rw [h] at e
    cases e
    exact b
/-- what is new is forgotten -/
theorem cut_ok (so : SOk g w S) (st : Step w w') (so' : SOk g w' S') (ol : Olds S S') : Step w (w'.cut S.length) ∧ SOk g (w'.cut S.length) (S'.take S.length) := by
  have en := so.len
  have hle : S.length ≤ w'.n := by rw [so'.len]; exact ol.1
  refine ⟨⟨⟨by show w.n ≤ S.length; omega, st.ag, st.tp, st.fz, st.xd⟩, st.kp, fun i h1 h2 => ?_, fun i hi => ?_⟩, ⟨?_, fun i o e => ?_, fun i j hi hj e => ?_⟩⟩
  · have h2 : i < S.length := h2
    omega
  · have hi : i < S.length := hi
    exact st.al i (by omega)
  · show S.length = _
    rw [List.length_take]
    have := ol.1
    omega
  · have hi : i < S.length := by
      have := (List.getElem?_eq_some_iff.mp e).1
      rw [List.length_take] at this
      omega
    rw [List.getElem?_take_of_lt hi] at e
    obtain ⟨h, e2, r⟩ := so'.ob i o e
    exact ⟨h, e2, r.lower (olds_below so ol hi e)⟩
  · have hi : i < S.length := hi
    have hj : j < S.length := hj
    exact so'.inj i j (by omega) (by omega) e
def Wd.cut1 (w : Wd) (n j : Nat) : Wd := ⟨fun i => if i = n then w.m j else w.m i, n + 1, w.H⟩
/-- .. but one new object -/
theorem cut1_ok (so : SOk g w S) (st : Step w w') (so' : SOk g w' S') (ol : Olds S S') {j : Nat} {o : O} (hj : S.length ≤ j) (e : S'[j]? = some o) (hb : o.und S.length = true) :
    Step w (w'.cut1 S.length j) ∧ SOk g (w'.cut1 S.length j) (S'.take S.length ++ [o]) ∧ Rep g (w'.cut1 S.length j) (.ob S.length) (.ref (w'.m j)) := by
  have en := so.len
  have hle : S.length ≤ w'.n := by rw [so'.len]; exact ol.1
  have hjn : j < w'.n := so'.lt e
  obtain ⟨st1, so1⟩ := cut_ok so st so' ol
  have hm : ∀ i, i < S.length → (w'.cut1 S.length j).m i = w'.m i := fun i hi => if_neg (Nat.ne_of_lt hi)
  have hmn : (w'.cut1 S.length j).m S.length = w'.m j := if_pos rfl
  have mo : Mono (w'.cut S.length) (w'.cut1 S.length j) := ⟨Nat.le_succ _, hm, fun a xs e => e, fun a ob u e => e, fun a us e => e⟩
  have hlen : (S'.take S.length).length = S.length := by
    rw [List.length_take]
    have := ol.1
    omega
  refine ⟨⟨st1.toMono.trans mo, st.kp, fun i h1 h2 => ?_, fun i hi => ?_⟩, ⟨?_, fun i u e2 => ?_, fun i k hi hk e2 => ?_⟩, ?_⟩
  · have h2 : i < S.length + 1 := h2
    have e1 : i = S.length := by omega
    subst e1
    rw [hmn]
    exact st.fr j (by omega) hjn
  · have hi : i < S.length + 1 := hi
    by_cases e1 : i = S.length
    · subst e1
      rw [hmn]
      exact st.al j hjn
    · rw [hm i (by omega)]
      exact st.al i (by omega)
  · show S.length + 1 = _
    rw [List.length_append, hlen]
    rfl
  · by_cases hi : i < S.length
    · rw [List.getElem?_append_left (by rw [hlen]; exact hi)] at e2
      obtain ⟨h, e3, r⟩ := so1.ob i u e2
      exact ⟨h, by rw [hm i hi]; exact e3, r.mono mo⟩
    · rw [List.getElem?_append_right (by rw [hlen]; omega), hlen] at e2
      have hz : i - S.length = 0 := by
        have := (List.getElem?_eq_some_iff.mp e2).1
        simp at this
        omega
      rw [hz] at e2
      cases e2
      have e1 : i = S.length := by omega
      subst e1
      obtain ⟨h, e3, r⟩ := so'.ob j o e
      exact ⟨h, by rw [hmn]; exact e3, (r.lower hb).mono mo⟩
  · have hi : i < S.length + 1 := hi
    have hk : k < S.length + 1 := hk
    by_cases e1 : i = S.length
    · by_cases e3 : k = S.length
      · rw [e1, e3]
      · rw [e1, hmn, hm k (by omega)] at e2
        have := so'.inj j k hjn (by omega) e2
        omega
    · by_cases e3 : k = S.length
      · rw [e3, hmn, hm i (by omega)] at e2
        have := so'.inj i j (by omega) hjn e2
        omega
      · rw [hm i (by omega), hm k (by omega)] at e2
        exact so'.inj i k (by omega) (by omega) e2
  · have q : Rep g (w'.cut1 S.length j) (.ob S.length) (.ref ((w'.cut1 S.length j).m S.length)) := .ob (show S.length < S.length + 1 from Nat.lt_succ_self _)
    rw [hmn] at q
    exact q
theorem gc_post {d : D} {v : V} {Q : VK} {E : XK} (so : SOk g w S) (p : Post g w (Rep g) (gcO S d S') Q E) (st : Step w w') (so' : SOk g w' S') (r : Rep g w' d v) : Q v w'.H := by
  unfold gcO at p
  by_cases h : Olds S S' ∧ d.und S.length = true
  · rw [if_pos h] at p
    obtain ⟨st1, so1⟩ := cut_ok so st so' h.1
    exact p (w'.cut S.length) v st1 so1 (Rep.lower _ _ r h.2)
  · rw [if_neg h] at p
    split at p
    · rename_i j
      split at p
      · rename_i o e
        by_cases h2 : Olds S S' ∧ S.length ≤ j ∧ o.und S.length = true
        · rw [if_pos h2] at p
          cases r
          obtain ⟨st1, so1, r1⟩ := cut1_ok so st so' h2.1 h2.2.1 e h2.2.2
          exact p (w'.cut1 S.length j) _ st1 so1 r1
        · rw [if_neg h2] at p
          exact p _ _ st so' r
      · exact p _ _ st so' r
    · exact p _ _ st so' r
theorem gcX_post {e : Ex} {c : Value} {dx : Option Addr} {Q : VK} {E : XK} (so : SOk g w S) (p : Post g w (Rep g) (gcX S e S') Q E) (st : Step w w') (so' : SOk g w' S') (r : RepX g w' e c dx) : E c dx w'.H := by
  unfold gcX at p
  by_cases h : Olds S S' ∧ e.und S.length = true
  · rw [if_pos h] at p
    obtain ⟨st1, so1⟩ := cut_ok so st so' h.1
    have hb := h.2
    unfold Ex.und at hb
    rw [Bool.and_eq_true] at hb
    refine p (w'.cut S.length) c dx st1 so1 ⟨?_, ?_⟩
    · obtain ⟨v, r1, r2⟩ := r.cls
      exact ⟨v, Rep.lower _ _ r1 hb.1, r2⟩
    · have q := r.fs
      have hle : S.length ≤ w'.n := by rw [so'.len]; exact h.1.1
      cases ef : e.fs with
      | none => rw [ef] at q; exact q
      | some fs =>
        rw [ef] at q hb
        obtain ⟨d, us, e1, e2, e3, e4, e5⟩ := q
        exact ⟨d, us, e1, e2, fun i hi => e3 i (Nat.lt_of_lt_of_le hi hle), e4, Reps.lower _ _ e5 hb.2⟩
  · rw [if_neg h] at p
    exact p _ c dx st so' r
/-- the names at the entry -/
theorem FrOk.start {ds : List D} {vs : List V} {N : List Str} (r : Reps g w ds vs) : FrOk g w (ds.map some ++ List.replicate (N.length - ds.length) none) (L2.start N vs) := by
  have l := r.length
  refine ⟨by unfold L2.start; rw [List.length_append, List.length_append, List.length_map, List.length_map, List.length_replicate, List.length_replicate, l], fun i d e => ?_⟩
  by_cases hi : i < ds.length
  · rw [List.getElem?_append_left (by rw [List.length_map]; exact hi), List.getElem?_map] at e
    cases q : ds[i]? with
    | none => rw [q] at e; cases e
    | some d' =>
      rw [q] at e
      cases e
      obtain ⟨v, ev, rv⟩ := r.get q
      refine ⟨v, ?_, rv⟩
      unfold L2.start
      rw [List.getElem?_append_left (by rw [List.length_map, ← l]; exact hi), List.getElem?_map, ev]
      rfl
  · rw [List.getElem?_append_right (by rw [List.length_map]; omega), List.getElem?_replicate] at e
    split at e <;> cases e
end
end DL
/-! DL, part m: side conditions on the syntax, by small tests. -/
namespace DL
open PySem PySem.Spec PyProof.Rows L2

def isStar : Expr → Bool
  | .Starred .. => true
  | _ => false
def isComp : Expr → Bool
  | .ListComp .. => true
  | .SetComp .. => true
  | .DictComp .. => true
  | _ => false
def isSlice : Expr → Bool
  | .Slice .. => true
  | _ => false
def isSetE : Expr → Bool
  | .Set .. => true
  | _ => false
def isTupE : Expr → Bool
  | .Tuple .. => true
  | .List .. => true
  | _ => false
def isCall0 : Expr → Bool
  | .Call (.Name ..) [] [] _ => true
  | _ => false
/-- an expression whose test is its value's truth -/
def isPlainT : Expr → Bool
  | .UnaryOp .Not _ _ => false
  | .BoolOp .. => false
  | .IfExp .. => false
  | .Compare .. => false
  | _ => true
section
variable {env : Env} {e : Expr} {es : List Expr} {pos : Pos}
theorem star_cons (h : isStar e = false) : starEach (e :: es) env = (false, eval e env) :: starEach es env := by
  cases e <;> first | rfl | cases h
theorem star_any : ∀ {es : List Expr}, es.all (fun e => !isStar e) = true → (backTo pos (starEach es env)).any (·.1) = false
  | [], _ => rfl
  | e :: es, h => by
    rw [List.all_cons, Bool.and_eq_true] at h
    have h1 : isStar e = false := by simpa using h.1
    rw [star_cons h1]
    show (false || (backTo pos (starEach es env)).any (·.1)) = false
    rw [star_any h.2]
    rfl
theorem star_all : ∀ {es : List Expr}, es.all (fun e => !isStar e) = true → (backTo pos (starEach es env)).all (fun x => !x.1) = true
  | [], _ => rfl
  | e :: es, h => by
    rw [List.all_cons, Bool.and_eq_true] at h
    have h1 : isStar e = false := by simpa using h.1
    rw [star_cons h1]
    show (true && (backTo pos (starEach es env)).all (fun x => !x.1)) = true
    rw [star_all h.2]
    rfl
theorem few_ok (h : es.all (fun e => !isStar e) = true) (hl : es.length < 30) : ((backTo pos (starEach es env)).all (fun x => !x.1) && (backToKw pos (keywordEach [] env)).all (fun x => x.1.isSome)
      && decide (es.length + ([] : List Keyword).length + (if ([] : List Keyword).isEmpty then 0 else 1) < 30)) = true := by
  rw [star_all h]
  show (true && decide (es.length + 0 + 0 < 30)) = true
  rw [Bool.true_and]
  exact decide_eq_true (by omega)
theorem swaps_no {t : Option Expr} {l : Nat} (h : isComp e = false) : swapsWith e t l env = pure false := by
  cases e <;> first | rfl | cases h
theorem swapped_no {t : Expr} (h : isTupE e = false) : swappedStores [t] e env = pure none := by
  cases e <;> first | (cases t <;> rfl) | cases h
theorem swapped_no' {t : Expr} (h : isTupE t = false) : swappedStores [t] e env = pure none := by
  cases t <;> first | rfl | cases h
theorem base_ok {n : Str} (h : isCall0 e = false) : attributeBase e n env (eval e env) = eval e env := by
  cases e with
  | Call f args kw p =>
    cases f with
    | Name id p2 =>
      cases args with
      | nil =>
        cases kw with
        | nil => cases h
        | cons a b => rfl
      | cons a b => rfl
    | _ => rfl
  | _ => rfl
theorem plainIx (h : isSlice e = false) : PlainIx e := by
  cases e <;> first | (intro _ _; rfl) | cases h
theorem folded_ok (h : isSetE e = false) : ∀ x, foldedSetIterable e env x = pure x := by
  cases e <;> first | (intro _; rfl) | cases h
theorem behind_ok {op : CmpOp} (h : isSetE e = false) : behindInMarks op e = false := by
  cases e <;> first | rfl | cases h
theorem last_ok {op op' : CmpOp} {b : Expr} (h : isSetE e = false) : lastMarks [op, op'] [b, e] = false := by
  show behindInMarks op' e = false
  exact behind_ok h
theorem test_ok (h : isPlainT e = true) : ∀ whole, isTrue e env whole = (do let v ← whole; standAt e.pos; holding [v] (truthy v)) := by
  cases e with
  | UnaryOp op x p => cases op <;> first | (intro _; rfl) | cases h
  | BoolOp _ _ _ => cases h
  | IfExp _ _ _ _ => cases h
  | Compare _ _ _ _ => cases h
  | _ => intro _; rfl
theorem assign1 {t : Expr} (h : isStar t = false) : (assignEach [t] env).map (·.2) = [assign t env] := by
  cases t <;> first | rfl | cases h
theorem assign_cons {t : Expr} (h : isStar t = false) : (assignEach (t :: es) env).map (·.2) = assign t env :: (assignEach es env).map (·.2) := by
  cases t <;> first | rfl | cases h
theorem assign_len : ∀ {es : List Expr}, (assignEach es env).length = es.length
  | [] => rfl
  | e :: es => by
    cases e <;> (show (assignEach es env).length + 1 = es.length + 1; rw [assign_len])
theorem assign_find : ∀ {es : List Expr}, es.all (fun e => !isStar e) = true → (assignEach es env).findIdx? (·.1) = none
  | [], _ => rfl
  | e :: es, h => by
    rw [List.all_cons, Bool.and_eq_true] at h
    have h1 : isStar e = false := by simpa using h.1
    have e1 : assignEach (e :: es) env = (false, assign e env) :: assignEach es env := by cases e <;> first | rfl | cases h1
    rw [e1, List.findIdx?_cons]
    simp [assign_find h.2]
theorem setIx_ok {o i : Expr} {tpos : Pos} (h : isSlice i = false) : ∀ v, assign (.Subscript o i tpos) env v = (do
      let ov ← holding [v] (eval o env)
      let iv ← holding [v, ov] (eval i env)
      standAt tpos
      holding [v, ov, iv] (setItem ov iv v)
      release [v, ov, iv] []) := by
  intro v
  cases i <;> first | rfl | cases h
/-- does the store of a comprehension change places with its variables' end -/
def swB (sc : Scope) (t : Str) (l1 l2 : Nat) (scope : Scope) : Bool := (match sc.names.lookup t with | some .local => true | _ => false) && l1 == l2 && !(scope.names.any fun (n, k) => n == t && (k == .local || k == .cell))
theorem sw_comp {elt : Expr} {gs : List Comprehension} {scope : Scope} {ppos py : Pos} {y : Str} {l : Nat} {b : Bool} (hk : env.scope.kind = .function) (h : swB env.scope y py.line ppos.line scope = b) :
    swapsWith (.ListComp elt gs scope ppos) (some (.Name y py)) l env = pure b := by
  subst h
  have hb : (env.blockKind == .function) = true := by unfold Env.blockKind; rw [hk]; rfl
  have hl : (env.kindOf y == some .local) = (match env.scope.names.lookup y with | some .local => true | _ => false) := by
    unfold Env.kindOf
    cases env.scope.names.lookup y with
    | none => rfl
    | some k => cases k <;> rfl
  unfold swapsWith swB
  simp only [hb, hl, Expr.pos]
  rfl
/-- a display of constants alone, or of more than three -/
def foldT : Expr → Bool
  | .Tuple vs _ _ => vs.all (foldedForSure 8) || !(vs.length == 2 || vs.length == 3)
  | _ => false
theorem swapped_fold {t : Expr} (h : foldT e = true) : swappedStores [t] e env = pure none := by
  cases e with
  | Tuple vs k p =>
    unfold foldT at h
    rw [Bool.or_eq_true] at h
    unfold swappedStores
    cases t with
    | Tuple ts k2 p2 =>
      dsimp only
      split
      · rfl
      rename_i h1
      split
      · rfl
      split
      · rfl
      rcases h with h | h
      · rw [if_pos h]
      · exfalso
        simp only [Bool.or_eq_true, Bool.not_eq_true', not_or, Bool.not_eq_true, bne_eq_false_iff_eq] at h1
        rw [h1.1.2] at h
        exact h1.1.1 (by simpa using h)
    | List ts p2 =>
      dsimp only
      split
      · rfl
      rename_i h1
      split
      · rfl
      split
      · rfl
      rcases h with h | h
      · rw [if_pos h]
      · exfalso
        simp only [Bool.or_eq_true, Bool.not_eq_true', not_or, Bool.not_eq_true, bne_eq_false_iff_eq] at h1
        rw [h1.1.2] at h
        exact h1.1.1 (by simpa using h)
    | _ => rfl
  | _ => cases h
def fold2 (vs : List Expr) : Bool := vs.all (foldedForSure 8)
def cons2 (vs : List Expr) : Bool := vs.all (constantsAlone 8)
theorem par_ok {x y : Str} {a b : Expr} {px py pt pt2 : Pos} {kt k2 : Nat} (hk : env.scope.kind = .function) (hx : env.scope.names.lookup x = some .local) (hy : env.scope.names.lookup y = some .local) (hxy : x ≠ y)
    (ha : isStar a = false) (hb : isStar b = false) (hl : py.line = px.line) (hf : fold2 [a, b] = false) (hc : cons2 [a, b] = false) :
    swappedStores [.Tuple [.Name x px, .Name y py] kt pt] (.Tuple [a, b] k2 pt2) env = pure (some [x, y]) := by
  have hbk : (env.blockKind != .function) = false := by unfold Env.blockKind; rw [hk]; rfl
  have h1 : (env.kindOf x == some .local) = true := by unfold Env.kindOf; rw [hx]; rfl
  have h2 : (env.kindOf y == some .local) = true := by unfold Env.kindOf; rw [hy]; rfl
  unfold fold2 at hf
  unfold cons2 at hc
  have hd : ([x, y] : List Str).eraseDups.length = 2 := by
    have q : (y == x) = false := by simpa using fun e => hxy e.symm
    simp [List.eraseDups_cons, q]
  unfold swappedStores
  simp only [hbk, h1, h2, hf, hc, Expr.pos, List.length_cons, List.length_nil, List.head?_cons, Option.map_some, Option.getD_some, hl, beq_self_eq_true, Bool.and_self, List.filterMap_cons, List.filterMap_nil, if_true, hd, List.any_cons, List.any_nil, Bool.or_false]
  clear hf hc hd h1 h2 hbk
  cases a <;> first | (cases ha; done) | (cases b <;> first | (cases hb; done) | rfl)
end
end DL
/-! DM, part a: max(list, default=d). -/
namespace DMa
open PySem PySem.Spec PyProof.Rows L2
section
variable {prog : Program} {w : World} {A : Around} {R : Result → Shared → Prop} {I : Addr} {fp wr : List Addr} {n : Nat} {P : Nat → Value → Prop} {St : Nat → Heap → Prop} {kw : List (Str × Value)}
theorem name_loop : (toString "max" ++ toString ".loop" : String) = "max.loop" := by decide
/-- the turns behind the first, whatever the keywords -/
theorem turns (W : Walks prog w A.in1 I fp wr n P St) (bt : Nat → Nat → Bool) (hcmp : CmpOf prog w A.in1 .Gt P bt) (B : Addr) (hB : B ∉ fp) :
    ∀ (k j : Nat) (s : Shared) (vb : Value) (c : Nat), n - (j + 1) = k → j + 1 ≤ n → St (j + 1) s.heap → P (argBest bt j) vb →
    s.heap.get? B = some { cls := .type "list", dict := none, data := .seq #[vb, vb] c, slots := #[] } →
    (∀ v h' tk, P (argBest bt (n - 1)) v → (∀ b o, b ∉ wr → b ≠ B → s.heap.get? b = some o → h'.get? b = some o) → R (.ok (.ret v)) { s with heap := h', toks := tk }) →
    codeAny (model prog w) A (.builtin "max.loop" ⟨[.ref I, .none, .ref B], kw⟩) R s := by
  have hBw : B ∉ wr := fun h => hB (W.sub _ h)
  intro k
  induction k with
  | zero =>
    intro j s vb c hk hj hst hPb hS hR
    have hin : j + 1 = n := by omega
    refine codeAny_builtin F.entry_max_loop ?_
    rw [Around.under_plainId F.plain_max_loop _]
    refine wpAny_bind (m := seqItems? (.ref B)) (wpAny_seqItems hS rfl ?_)
    refine wpAny_bind (m := tryCatch (pyNext (.ref I)) _) (wpAny_tryCatch (W.done s _ _ (hin ▸ hst) fun h' tk hk' => ?_))
    have hS' := hk' B _ hBw hS
    refine wpAny_bind (m := updateSeq B (fun _ => #[])) ?_
    refine wpAny_updateSeq hS' rfl (wpAny_bind (wpAny_letGo (wpAny_pure ?_)))
    exact hR vb _ tk (by rw [← hin]; exact hPb) fun b o hbw hbS e => (Heap.get?_update_other _ _ (Ne.symm hbS)).trans (hk' b o hbw e)
  | succ k ih =>
    intro j s vb c hk hj hst hPb hS hR
    have hlt : j + 1 < n := by omega
    refine codeAny_builtin F.entry_max_loop ?_
    rw [Around.under_plainId F.plain_max_loop _]
    refine wpAny_bind (m := seqItems? (.ref B)) (wpAny_seqItems hS rfl ?_)
    refine wpAny_bind (m := tryCatch (pyNext (.ref I)) _) (wpAny_tryCatch (W.item (j + 1) s _ _ hlt hst fun v h' tk hP hst' hk' => ?_))
    have hS' := hk' B _ hBw hS
    show wpAny _ A.in1 (tryCatch (holding [v, v] (richCompare .Gt v vb >>= _)) _ >>= _) _ _ _
    refine wpAny_bind (wpAny_tryCatch (wpAny_holding (wpAny_bind (hcmp (j + 1) (argBest bt j) v vb _ _ _ hP hPb ?_))))
    refine wpAny_bind (wpAny_holding (wpAny_truthy_bool ?_))
    refine wpAny_bind (wpAny_letGo (wpAny_pure ?_))
    cases hb : bt (j + 1) (argBest bt j) with
    | true =>
      simp only [if_true]
      refine wpAny_bind (wpAny_updateSeq hS' rfl (wpAny_bind (wpAny_letGo ?_)))
      rw [name_loop]
      refine wpAny_pure ⟨plainId_quiet F.plain_max_loop _, ih (j + 1) _ v _ (by omega) hlt (W.frame _ _ _ hst' fun b hbf o e => ?_) (by simp only [argBest, hb, if_true]; exact hP) (Heap.get?_update_self _ hS' rfl)
        fun v' h'' tk'' hP' hk'' => ?_⟩
      · exact (Heap.get?_update_other _ _ (fun h : B = b => hB (by rw [h]; exact hbf))).trans e
      · exact hR v' h'' tk'' hP' fun b o hbw hbS e => hk'' b o hbw hbS ((Heap.get?_update_other _ _ (Ne.symm hbS)).trans (hk' b o hbw e))
    | false =>
      simp only [Bool.false_eq_true, if_false]
      refine wpAny_bind (wpAny_letGo ?_)
      rw [name_loop]
      refine wpAny_pure ⟨plainId_quiet F.plain_max_loop _, ih (j + 1) _ vb c (by omega) hlt hst' (by simp only [argBest, hb, Bool.false_eq_true, if_false]; exact hPb) hS' fun v' h'' tk'' hP' hk'' => ?_⟩
      exact hR v' h'' tk'' hP' fun b o hbw hbS e => hk'' b o hbw hbS (hk' b o hbw e)
theorem first_turn (W : Walks prog w A.in1 I fp wr n P St) (bt : Nat → Nat → Bool) (hcmp : CmpOf prog w A.in1 .Gt P bt) (B : Addr) (hB : B ∉ fp) (hn : 0 < n) {s : Shared} {c : Nat} (hst : St 0 s.heap)
    (hS : s.heap.get? B = some { cls := .type "list", dict := none, data := .seq #[] c, slots := #[] })
    (hR : ∀ v h' tk, P (argBest bt (n - 1)) v → (∀ b o, b ∉ wr → b ≠ B → s.heap.get? b = some o → h'.get? b = some o) → R (.ok (.ret v)) { s with heap := h', toks := tk }) :
    codeAny (model prog w) A (.builtin "max.loop" ⟨[.ref I, .none, .ref B], kw⟩) R s := by
  have hBw : B ∉ wr := fun h => hB (W.sub _ h)
  refine codeAny_builtin F.entry_max_loop ?_
  rw [Around.under_plainId F.plain_max_loop _]
  refine wpAny_bind (m := seqItems? (.ref B)) (wpAny_seqItems hS rfl ?_)
  refine wpAny_bind (m := tryCatch (pyNext (.ref I)) _) (wpAny_tryCatch (W.item 0 s _ _ hn hst fun v h' tk hP hst' hk' => ?_))
  have hS' := hk' B _ hBw hS
  refine wpAny_bind (m := updateSeq B (fun _ => #[v, v])) (wpAny_updateSeq hS' rfl ?_)
  rw [name_loop]
  refine wpAny_pure ⟨plainId_quiet F.plain_max_loop _, turns W bt hcmp B hB _ 0 _ v _ rfl hn (W.frame _ _ _ hst' fun b hbf o e => ?_) hP (Heap.get?_update_self _ hS' rfl) fun v' h'' tk'' hP' hk'' => ?_⟩
  · exact (Heap.get?_update_other _ _ (fun h : B = b => hB (by rw [h]; exact hbf))).trans e
  · exact hR v' h'' tk'' hP' fun b o hbw hbS e => hk'' b o hbw hbS ((Heap.get?_update_other _ _ (Ne.symm hbS)).trans (hk' b o hbw e))
/-- nothing there: the default -/
theorem no_turn {d : Value} (W : Walks prog w A.in1 I fp wr 0 P St) (B : Addr) (hB : B ∉ fp) {s : Shared} {c : Nat} (hst : St 0 s.heap)
    (hS : s.heap.get? B = some { cls := .type "list", dict := none, data := .seq #[] c, slots := #[] })
    (hR : ∀ h' tk, (∀ b o, b ∉ wr → b ≠ B → s.heap.get? b = some o → h'.get? b = some o) → R (.ok (.ret d)) { s with heap := h', toks := tk }) :
    codeAny (model prog w) A (.builtin "max.loop" ⟨[.ref I, .none, .ref B], [(Str.ofString "default", d)]⟩) R s := by
  refine codeAny_builtin F.entry_max_loop ?_
  rw [Around.under_plainId F.plain_max_loop _]
  refine wpAny_bind (m := seqItems? (.ref B)) (wpAny_seqItems hS rfl ?_)
  refine wpAny_bind (m := tryCatch (pyNext (.ref I)) _) (wpAny_tryCatch (W.done s _ _ hst fun h' tk hk' => ?_))
  refine wpAny_bind (wpAny_rule ?_)
  exact wpAny_pure (hR h' tk fun b o hbw _ e => hk' b o hbw e)
end
section
variable {prog : Program} {w : World} {A : Around} {E : Value → Shared → Prop} {s : Shared} {Q : Value → Shared → Prop}
theorem args_max (a d : Value) : argsOk "max" ⟨[a], [(Str.ofString "default", d)]⟩ := by unfold argsOk; kernel_rfl
theorem bound_max (d : Value) : Builtin.Builtins.bindParams "max" ["key", "default"] 0 ⟨[], [(Str.ofString "default", d)]⟩ = pure [none, some d] := by kernel_rfl
/-- a built-in function's call by keywords that goes on in another code -/
theorem call_kw_tree {id : String} {b : Builtin} {args : List Value} {kw : List (Str × Value)} (hk : builtinKind id = none) (hp : plainId id = true) (hb : entryFor table id = some b) (ha : argsOk id ⟨args, kw⟩)
    (hc : wpAny (model prog w) A.in1 (b ⟨args, kw⟩) (fun fin s' => match fin with
      | .done f => (match (Except.ok f : Result) with | .ok (.ret v) => Q v s' | .ok _ => False | .error e => E e s')
      | .again c' => c'.quiet = true ∧ codeAny (model prog w) A c' (fun r s' => match r with | .ok (.ret v) => Q v s' | .ok _ => False | .error e => E e s') s') E s) :
    wpAny (model prog w) A (call (.builtin id) args kw) Q E s := by
  refine wpAny_call (codeAny_call_builtin hp hb ?_)
  simp only [checkBuiltinCall, hk]
  cases hsig : Manifest.signature? id with
  | none => exact wpAny_pure hc
  | some sig =>
    have h2 : Bind.checkArgs id sig ⟨args, kw⟩ = pure () := by simpa only [argsOk, hsig] using ha
    show wpAny _ A.in1 (Bind.checkArgs id sig ⟨args, kw⟩) _ _ s
    rw [h2]
    exact wpAny_pure hc
theorem max_kw {x d : Value}
    (h : wpAny (model prog w) A.in1 (pyIter x) (fun it s₂ => ∃ I fp wr n P St bt, it = .ref I ∧ Walks prog w A.in1 I fp wr n P St ∧ St 0 s₂.heap ∧ (∀ b ∈ fp, b < s₂.heap.objs.size) ∧ CmpOf prog w A.in1 .Gt P bt ∧
      (0 < n → ∀ v h' tk, P (argBest bt (n - 1)) v → (∀ b o, b ∉ wr → s₂.heap.get? b = some o → h'.get? b = some o) → Q v { s₂ with heap := h', toks := tk }) ∧
      (n = 0 → ∀ h' tk, (∀ b o, b ∉ wr → s₂.heap.get? b = some o → h'.get? b = some o) → Q d { s₂ with heap := h', toks := tk })) E s) :
    wpAny (model prog w) A (call (.builtin "max") [x] [(Str.ofString "default", d)]) Q E s := by
  refine call_kw_tree F.kind_max F.plain_max F.entry_max (args_max _ _) ?_
  show wpAny _ _ (Builtin.Builtins.bindParams "max" ["key", "default"] 0 ⟨[], [(Str.ofString "default", d)]⟩ >>= _) _ _ s
  refine wpAny_bind (wpAny_of_eq (bound_max d) ?_)
  refine wpAny_bind (m := (pure x : Sem Value)) (wpAny_pure ?_)
  refine wpAny_bind (wpAny_mono h (fun it s₂ h₂ => ?_) fun _ _ e => e)
  obtain ⟨I, fp, wr, n, P, St, bt, rfl, W, hst, hfp, hcmp, hQ, hD⟩ := h₂
  refine wpAny_bind (wpAny_newObj_type ?_)
  have hB : s₂.heap.objs.size ∉ fp := fun hm => Nat.lt_irrefl _ (hfp _ hm)
  rw [name_loop]
  refine wpAny_pure ⟨plainId_quiet F.plain_max_loop _, ?_⟩
  by_cases hn : 0 < n
  · exact first_turn W bt hcmp s₂.heap.objs.size hB hn (W.frame _ _ _ hst fun b _ o e => Heap.get?_push_of_some _ e) (Heap.get?_push_size _ rfl) fun v h' tk hP hk => hQ hn v h' tk hP fun b o hbw e => hk b o hbw (Nat.ne_of_lt (Heap.lt_size e)) (Heap.get?_push_of_some _ e)
  · obtain rfl : n = 0 := by omega
    exact no_turn W s₂.heap.objs.size hB (W.frame _ _ _ hst fun b _ o e => Heap.get?_push_of_some _ e) (Heap.get?_push_size _ rfl) fun h' tk hk => hD rfl h' tk fun b o hbw e => hk b o hbw (Nat.ne_of_lt (Heap.lt_size e)) (Heap.get?_push_of_some _ e)
theorem max_ints {l : Addr} {its : List Value} {ns : List Int} {d : Value} (hh : A.handled = none) (hl : s.heap.IsList l its.toArray) (hi : IntsAre its ns)
    (h : 0 < ns.length → ∀ h' tk M t', (∀ b o, s.heap.get? b = some o → h'.get? b = some o) → M ∈ ns → (∀ a, a ∈ ns → a ≤ M) → Q (.int M t') { s with heap := h', toks := tk })
    (h0 : ns.length = 0 → ∀ h' tk, (∀ b o, s.heap.get? b = some o → h'.get? b = some o) → Q d { s with heap := h', toks := tk }) : wpAny (model prog w) A (call (.builtin "max") [.ref l] [(Str.ofString "default", d)]) Q E s := by
  obtain ⟨xs, e⟩ := hi.allInts.items
  have hn : numsOf (intItems xs).toList = ns := by rw [← e]; exact hi.numsOf
  rw [nums_intItems] at hn
  subst hn
  rw [e] at hl
  refine max_kw (iter_intList hl fun s₂ e st hfp hlI => ?_)
  subst e
  refine ⟨_, _, _, _, _, _, _, rfl, Walks.list (A := A.in1) hh _ l hlI (intItems xs), st, hfp, CmpOf.ints_gt (numAt xs) (fun _ _ => intItems_at), fun hn v h' tk hP hk => ?_, fun hn h' tk hk => ?_⟩
  · have hsz : 0 < xs.size := by simpa [intItems] using hn
    have hv : (intItems xs)[argBest (fun i j => decide (numAt xs i > numAt xs j)) (xs.size - 1)]? = some v := by simpa [intItems] using hP
    obtain ⟨t, rfl⟩ := intItems_at hv
    obtain ⟨h1, h2⟩ := argBest_gt (numAt xs) (xs.size - 1)
    refine h (by simpa using hsz) h' tk _ t (old_kept hk) ?_ fun a ha => ?_
    · rw [numAt_eq]; exact PySem.getD_mem (by rw [List.length_map, Array.length_toList]; omega)
    · obtain ⟨j, hj, rfl⟩ := mem_getD ha
      rw [List.length_map, Array.length_toList] at hj
      rw [← numAt_eq]; exact h2 j (by omega)
  · exact h0 (by simpa [intItems] using hn) h' tk (old_kept hk)
end
end DMa
namespace DL
open PySem PySem.Spec PyProof.Rows L2
/-- max(xs, default=d) -/
def fMaxD (d : D) : FB := fun xs S => match optAll intOf xs with
  | some (n :: ns) => some (.int (maxI (n :: ns)), S)
  | some [] => some (d, S)
  | none => none
def dMaxD (h : DenA) (f : DenE) : DenE := fun fr S => (h fr S).bnd fun xs S' => (f fr S').bnd fun d S2 => .ofO (fMaxD d xs S2)
def rMaxD (g : Gnd) : List V → List V → Hp → VK → Prop := fun vs zs H Q => ∃ w S xs v d z, vs = [v] ∧ zs = [z] ∧ w.H = H ∧ SOk g w S ∧ RepT g w xs v ∧ Rep g w d z ∧ Post g w (Rep g) (.ofO (fMaxD d xs S)) Q (fun _ _ _ => False)
section
variable {X : Cx} {W : WX} {x : Str} {p pos kpos : Pos} {e k : Expr} {h : DenA} {f : DenE}
theorem c_maxD (hc : X.calm = true) : CallRK X (.builtin "max") [Str.ofString "default"] (rMaxD ⟨X.K, X.mg, X.w⟩) := by
  intro pins s σ H vs zs us ws Q I r rz h
  obtain ⟨w, S, xs, v, d, z, rfl, rfl, rfl, so, ⟨b, vb, rfl, hb, hn, lb, rb⟩, rd, k⟩ := h
  obtain rfl := Vals.ref1 r
  obtain ⟨u, rfl, ru⟩ := Vals.one rz
  unfold fMaxD at k
  cases q : optAll intOf xs with
  | none => rw [q] at k; exact k.elim
  | some ns =>
    rw [q] at k
    have e1 := intOf_ok q
    subst e1
    have e2 := rb.ints
    subst e2
    obtain ⟨its, rv, hl, _⟩ := I.list (SqL.of hb)
    refine DMa.max_ints (I.ok.hd hc) hl.isList rv.ints (fun hne h' tk m t' hk h1 h2 => ?_) (fun h0 h' tk hk => ?_)
    · cases ns with
      | nil => cases hne
      | cons n ns =>
        obtain ⟨g1, g2, g3⟩ := maxI_ge ns n
        have e3 : m = maxI (n :: ns) := by
          show m = ns.foldl max n
          have q1 : ns.foldl max n ≤ m := by
            rcases g3 with g3 | g3
            · rw [g3]; exact h2 n List.mem_cons_self
            · exact h2 _ (List.mem_cons_of_mem _ g3)
          rcases List.mem_cons.mp h1 with z | z
          · omega
          · have := g2 m z
            omega
        exact ⟨.int _, _, I.kept hk, ⟨_, rfl⟩, by rw [e3]; exact k w _ (Step.refl so) so (.int _)⟩
    · cases ns with
      | nil => exact ⟨z, _, I.kept hk, ru, k w _ (Step.refl so) so rd⟩
      | cons n ns => cases h0
theorem de_maxD (hc : X.calm = true) (hg : Gl X "max") (hm : X.mg "max" = none) (ha : PE X e (tL ⟨X.K, X.mg, X.w⟩ W h)) (hk : PE X k (tE ⟨X.K, X.mg, X.w⟩ W f)) (hs : starEach [e] X.env = (false, eval e X.env) :: starEach [] X.env) :
    PE X (.Call (.Name "max" p) [e] [⟨some "default", k, kpos⟩] pos) (tE ⟨X.K, X.mg, X.w⟩ W (dMaxD h f)) := by
  refine PE.weaken (pe_callBK (c_maxD hc) hg hm (by decide +kernel) (pa_cons ha pa_nil hs) (pk_cons hk pk_nil) (by decide +kernel) (by decide +kernel) (by rw [hs]; rfl) (by rw [hs]; rfl) rfl rfl rfl) fun σ H Q q => ?_
  obtain ⟨w, S, fr, eH, so, fo, p⟩ := q
  refine ⟨w, S, fr, eH, so, fo, ?_⟩
  unfold dMaxD at p
  cases q1 : h fr S with
  | no => rw [q1] at p; exact p
  | ex e S1 => rw [q1] at p; exact p
  | ok xs S1 =>
    rw [q1] at p
    intro w1 b st1 so1 hb r1
    refine ⟨w1, S1, fr, rfl, so1, fo.mono st1.toMono, ?_⟩
    replace p := Post.step st1 p
    dsimp only [Out.bnd] at p
    cases q2 : f fr S1 with
    | no => rw [q2] at p; exact p
    | ex e S2 => rw [q2] at p; exact p
    | ok d S2 =>
      rw [q2] at p
      intro w2 z st2 so2 r2
      exact ⟨w2, S2, xs, .ref b, d, z, rfl, rfl, rfl, so2, r1.step st2, r2, Post.ofO (Post.step st2 p)⟩
end
end DL
/-! DM, part c: repr of data. -/
namespace DL
open PySem PySem.Spec PyProof.Rows L2
def reprOk (p : PyData) : Prop := (p.showable = true ∧ p.hasDict = false) ∧ p.depth ≤ 100 ∧ p.shown.length ≤ sizeLine
instance (p : PyData) : Decidable (reprOk p) := inferInstanceAs (Decidable ((_ ∧ _) ∧ _ ∧ _))
/-- tuples with empty dicts within -/
def obE (S : Sto) (n : Nat) : Option PyData := match S[n]? with
  | some (.dk []) => some (.dict [])
  | _ => none
def reprOkE (p : PyData) : Prop := p.showable = true ∧ p.depth ≤ 100 ∧ p.shown.length ≤ sizeLine
instance (p : PyData) : Decidable (reprOkE p) := inferInstanceAs (Decidable (_ ∧ _ ∧ _))
mutual
/-- no list that stands in the heap -/
def D.noRl : D → Bool
  | .tup xs => noRlL xs
  | .rl _ => false
  | _ => true
def noRlL : List D → Bool
  | [] => true
  | d :: ds => d.noRl && noRlL ds
end
def fRepr : FB := fun ds S => match ds with
  | [d] => match dP S d with
    | some p => if reprOk p then some (.str p.shown, S) else none
    | none => match d, toP (obE S) d with
      | .tup _, some p => if reprOkE p ∧ d.noRl = true then some (.str p.shown, S) else none
      | .ob _, some p => some (.str p.shown, S)
      | _, _ => none
  | _ => none
section
variable {X : Cx} {pins : List (Addr × Obj)} {σ : L2.St} {w : Wd} {S : Sto} {s : Shared}
theorem obE_reads (I : Inv X pins σ w.H s) (so : SOk ⟨X.K, X.mg, X.w⟩ w S) {n : Nat} {p : PyData} (h : n < w.n) (e : obE S n = some p) : p = .dict [] ∧ ∃ a as, w.m n = a ∧ Reads s.heap (.ref a) p as ∧ sysModules ∉ as := by
  unfold obE at e
  split at e
  · rename_i q
    cases e
    obtain ⟨o, ho, e1, e2, r⟩ := so.at_ h
    rw [q] at e1
    cases e1
    cases r with
    | dk l ek r =>
      rename_i kus
      cases kus with
      | cons a b => cases ek
      | nil =>
        have z := I.hok _ _ e2
        unfold ObjOk at z
        obtain ⟨_, zs, vs, kv, ob, es, ep, z1, z2, z3, z4, z5, z6⟩ := z
        cases kv
        have hes : es.toList = [] := by
          have := z5
          cases hq : es.toList with
          | nil => rfl
          | cons a b => rw [hq] at this; cases this
        refine ⟨rfl, _, [w.m n] ++ [] ++ [], rfl, .dict (kvs := []) z1 z2.1 z3 (by rw [hes]; exact .nil) (by rw [hes]; exact .nil), ?_⟩
        intro hm
        have : sysModules = w.m n := by simpa using hm
        rw [← this] at zs
        simp at zs
  · cases e
mutual
theorem toPE_reads (I : Inv X pins σ w.H s) (so : SOk ⟨X.K, X.mg, X.w⟩ w S) : ∀ (d : D) (v : V) (u : Value) (p : PyData), Rep ⟨X.K, X.mg, X.w⟩ w d v → RelV v u → toP (obE S) d = some p → d.noRl = true → ∃ as, Reads s.heap u p as ∧ sysModules ∉ as
  | .non, _, _, _, r, rv, e, _ => by cases r; cases e; obtain rfl := rv; exact ⟨[], .none, by simp⟩
  | .bl b, _, _, _, r, rv, e, _ => by cases r; cases e; obtain rfl := rv; exact ⟨[], .bool b, by simp⟩
  | .int i, _, _, _, r, rv, e, _ => by cases r; cases e; obtain ⟨t, rfl⟩ := rv; exact ⟨[], .int i t, by simp⟩
  | .str x, _, _, _, r, rv, e, _ => by cases r; cases e; obtain ⟨t, rfl⟩ := rv; exact ⟨[], .str x t, by simp⟩
  | .ty _, _, _, _, _, _, e, _ => by cases e
  | .gl _, _, _, _, _, _, e, _ => by cases e
  | .kd _ _, _, _, _, _, _, e, _ => by cases e
  | .xo _ _ _, _, _, _, _, _, e, _ => by cases e
  | .rl _, _, _, _, _, _, _, h => by cases h
  | .ob n, _, _, p, r, rv, e, _ => by
    cases r with
    | ob h =>
      obtain rfl := rv
      obtain ⟨_, a, as, rfl, h1, h2⟩ := obE_reads I so h e
      exact ⟨as, h1, h2⟩
  | .tup xs, _, _, p, r, rv, e, hn => by
    unfold toP at e
    cases e2 : toPs (obE S) xs with
    | none => rw [e2] at e; cases e
    | some ps =>
      rw [e2] at e
      cases e
      cases r with
      | tup ha la rs =>
        obtain rfl := rv
        obtain ⟨its, hv, ⟨o, h1, h2, n, h3⟩, _⟩ := I.tuple ha
        obtain ⟨as, h4, h5⟩ := toPEs_reads I so xs _ _ ps rs hv e2 (by unfold D.noRl at hn; exact hn)
        exact ⟨as, .tuple h1 h2 h3 (by simpa using h4), h5⟩
theorem toPEs_reads (I : Inv X pins σ w.H s) (so : SOk ⟨X.K, X.mg, X.w⟩ w S) : ∀ (ds : List D) (vs : List V) (us : List Value) (ps : List PyData), Reps ⟨X.K, X.mg, X.w⟩ w ds vs → Vals vs us → toPs (obE S) ds = some ps → noRlL ds = true → ∃ as, ReadsAll s.heap us ps as ∧ sysModules ∉ as
  | [], _, _, _, r, rv, e, _ => by cases r; cases rv; cases e; exact ⟨[], .nil, by simp⟩
  | d :: ds, _, _, _, r, rv, e, hn => by
    cases r with
    | cons r1 r2 =>
      cases rv with
      | cons v1 v2 =>
        unfold noRlL at hn
        rw [Bool.and_eq_true] at hn
        unfold toPs at e
        split at e
        · rename_i p ps e1 e2
          cases e
          obtain ⟨as, h1, h2⟩ := toPE_reads I so d _ _ p r1 v1 e1 hn.1
          obtain ⟨bs, h3, h4⟩ := toPEs_reads I so ds _ _ ps r2 v2 e2 hn.2
          exact ⟨as ++ bs, .cons h1 h3, by simp [h2, h4]⟩
        · cases e
end
end
theorem c_repr {X : Cx} (hu : X.A.units + 200 < cLine) (hg : X.A.guards = some []) : CallR X (.builtin "repr") (rB ⟨X.K, X.mg, X.w⟩ fRepr) := by
  intro pins s σ H xs us Q I r h
  obtain ⟨w, S, ds, rfl, so, rd, k⟩ := h
  unfold fRepr at k
  split at k
  · rename_i d
    cases ep : dP S d with
    | none =>
      rw [ep] at k
      dsimp only at k
      obtain ⟨x, rfl, rx⟩ := rd.one
      obtain ⟨u, rfl, ru⟩ := r.one
      have fin : ∀ (p : PyData), Post ⟨X.K, X.mg, X.w⟩ w (Rep ⟨X.K, X.mg, X.w⟩) (.ok (.str p.shown) S) Q (fun _ _ _ => False) → ∀ (h' : Heap) (t tk : Nat), (∀ b o, s.heap.get? b = some o → h'.get? b = some o) → EP X pins σ Q (.str p.shown t) { s with heap := h', toks := tk } :=
        fun p k h' t tk hk => ⟨.str p.shown, _, I.kept hk, ⟨t, rfl⟩, k w _ (Step.refl so) so (.str _)⟩
      split at k
      · rename_i ts p e2
        by_cases hp : reprOkE p ∧ (D.tup ts).noRl = true
        · rw [if_pos hp] at k
          obtain ⟨⟨h1, h3, h4⟩, hn⟩ := hp
          obtain ⟨as, rr, hs⟩ := toPE_reads I so (.tup ts) x u p rx ru e2 hn
          cases rx
          obtain rfl := ru
          exact repr_of_reads' rr h1 (fun _ => hs) hg (by omega) (fun b o e => e) (fun h' t tk hk => fin p k h' t tk hk) h4
        · rw [if_neg hp] at k
          exact k.elim
      · rename_i n p e2
        cases rx with
        | ob hn =>
          obtain rfl := ru
          obtain ⟨rfl, a, as, rfl, rr, hs⟩ := obE_reads I so hn (p := p) e2
          exact repr_of_reads' rr (by decide +kernel) (fun _ => hs) hg (by have : (PyData.dict []).depth = 1 := by decide +kernel
                                                                           omega) (fun b o e => e) (fun h' t tk hk => fin _ k h' t tk hk) (by decide +kernel)
      · exact k.elim
    | some p =>
      rw [ep] at k
      dsimp only at k
      by_cases hp : reprOk p
      · rw [if_pos hp] at k
        obtain ⟨⟨h1, h2⟩, h3, h4⟩ := hp
        obtain ⟨x, rfl, rx⟩ := rd.one
        obtain ⟨u, rfl, ru⟩ := r.one
        obtain ⟨d1, p1⟩ := dP_ok so rx ep
        obtain ⟨as, rr⟩ := Dp.reads I p x u d1 ru
        have fin : ∀ (h' : Heap) (t tk : Nat), (∀ b o, s.heap.get? b = some o → h'.get? b = some o) → EP X pins σ Q (.str p.shown t) { s with heap := h', toks := tk } :=
          fun h' t tk hk => ⟨.str p.shown, _, I.kept hk, ⟨t, rfl⟩, k w _ (Step.refl so) so (.str _)⟩
        cases u with
        | ref a => exact repr_of_reads' rr h1 (PyData.noDict_hsm h2) hg (by omega) (fun b o e => e) (fun h' t tk hk => fin h' t tk hk) h4
        | none => cases rr; exact P.repr_of_none (fin s.heap _ _ fun _ _ e => e)
        | bool b => cases rr; exact P.repr_of_bool (fin s.heap _ _ fun _ _ e => e)
        | int i t => cases rr; exact P.repr_of_int (by simpa [PyData.showable] using h1) (fin s.heap _ _ fun _ _ e => e)
        | str z t => cases rr; exact P.repr_of_str (fin s.heap _ _ fun _ _ e => e) h4
        | _ => cases rr
      · rw [if_neg hp] at k
        exact k.elim
  · exact k.elim
end DL
/-! DN, part b: own classes of exceptions: what is known of them; raise; try .. except X as e: k = e; isinstance of what was kept. -/
namespace DL
open PySem PySem.Spec PyProof.Rows L2

/-- the built-in types that a kept exception is asked for -/
def xTys : List String := ["ValueError", "int", "str", "bool", "tuple", "list", "dict"]
/-- what is known of an own class of exceptions -/
structure ClsF (K : PySem.W.Frag) (mg : Str → Option Value) (x : Str) (C : Addr) : Prop where
  gm : mg x = some (.ref C)
  kp : PySem.W.keepIn K (.ref C) = true
  ci : (PySem.W.clsIn K C).isSome = true
  ga : PySem.W.findIn K (.ref C) "__getattribute__" = some (some (.builtin "BaseException.__getattribute__"))
  gg : PySem.W.findIn K (.ref C) "__getattr__" = some none
  sb : PySem.W.subIn K (.ref C) (.type "BaseException") = some true
  tp : PySem.W.typeIn K (.ref C) = some (.type "type")
  cl : PySem.W.findIn K (.ref C) "__class__" = some (some (.builtin "object.__class__"))
  sp : PySem.W.specialIn K (.builtin "object.__class__") "__get__" = some (some (.builtin "getset_descriptor.__get__"))
  tk : PySem.W.takesIn K (.builtin "object.__class__") = some true
  mr : PySem.W.mroIn K C (.type "object") = some true
def clsB (K : PySem.W.Frag) (C : Addr) : Bool := decide (PySem.W.keepIn K (.ref C) = true ∧ (PySem.W.clsIn K C).isSome = true ∧ PySem.W.findIn K (.ref C) "__getattribute__" = some (some (.builtin "BaseException.__getattribute__")) ∧
  PySem.W.findIn K (.ref C) "__getattr__" = some none ∧ PySem.W.subIn K (.ref C) (.type "BaseException") = some true ∧ PySem.W.typeIn K (.ref C) = some (.type "type") ∧ PySem.W.findIn K (.ref C) "__class__" = some (some (.builtin "object.__class__")) ∧
  PySem.W.specialIn K (.builtin "object.__class__") "__get__" = some (some (.builtin "getset_descriptor.__get__")) ∧ PySem.W.takesIn K (.builtin "object.__class__") = some true ∧ PySem.W.mroIn K C (.type "object") = some true)
theorem clsB_ok {K : PySem.W.Frag} {mg : Str → Option Value} {x : Str} {C : Addr} (g : mg x = some (.ref C)) (h : clsB K C = true) : ClsF K mg x C := by
  obtain ⟨h1, h2, h3, h4, h5, h6, h7, h8, h9, h10⟩ := of_decide_eq_true h
  exact ⟨g, h1, h2, h3, h4, h5, h6, h7, h8, h9, h10⟩
/-- of which own and built-in classes the own classes are -/
abbrev Ups := Str → Option (List Str)
structure ClsR (K : PySem.W.Frag) (mg : Str → Option Value) (up : Ups) : Prop where
  at_ : ∀ x u, up x = some u → ∃ C, ClsF K mg x C
  own : ∀ x u y u' C D, up x = some u → up y = some u' → mg x = some (.ref C) → mg y = some (.ref D) → PySem.W.exmOne K (.ref C) (.ref D) = some (decide (y ∈ u)) ∧ PySem.W.kitOne K (.ref C) (.ref D) = some (decide (y ∈ u))
  blt : ∀ x u C, up x = some u → mg x = some (.ref C) → ∀ n ∈ xTys, PySem.W.kitOne K (.ref C) (.type n) = some (decide (Str.ofString n ∈ u))

/-! ### isinstance -/
def isOne (up : Ups) (c : Str) : D → Option Bool
  | .gl y => match up c, up y with
    | some u, some _ => some (decide (y ∈ u))
    | _, _ => none
  | .ty n => match up c with
    | some u => if n ∈ xTys then some (decide (Str.ofString n ∈ u)) else none
    | none => none
  | _ => none
def isAny (up : Ups) (c : Str) : List D → Option Bool
  | [] => (up c).map fun _ => false
  | d :: ds => match isOne up c d, isAny up c ds with
    | some a, some b => some (a || b)
    | _, _ => none
def fIsiX (up : Ups) : FB := fun ds S => match ds with
  | [.xo c _ _, .tup ts] => (isAny up c ts).map fun b => (.bl b, S)
  | [.xo c _ _, .gl y] => (isOne up c (.gl y)).map fun b => (.bl b, S)
  | [.xo c _ _, .ty n] => (isOne up c (.ty n)).map fun b => (.bl b, S)
  | ds => fIsi ds S
section
variable {X : Cx}
theorem isOne_ok {K : PySem.W.Frag} {mg : Str → Option Value} {w0 : World} {up : Ups} (R : ClsR K mg up) {c : Str} {C : Addr} (hc : mg c = some (.ref C)) {w : Wd} {d : D} {v : V} {u : Value} {b : Bool} (r : Rep ⟨K, mg, w0⟩ w d v) (rv : RelV v u) (e : isOne up c d = some b) :
    PySem.W.kitOne K (.ref C) u = some b := by
  unfold isOne at e
  split at e
  · rename_i y
    split at e
    · rename_i u1 u2 e1 e2
      cases e
      cases r with
      | gl hy =>
        obtain rfl : u = .ref _ := rv
        exact (R.own _ _ _ _ _ _ e1 e2 hc hy).2
    · cases e
  · rename_i n
    split at e
    · rename_i u1 e1
      split at e
      · rename_i hn
        cases e
        cases r
        obtain rfl : u = .type n := rv
        exact R.blt _ _ _ e1 hc n hn
      · cases e
    · cases e
  · cases e
theorem isAny_ok {K : PySem.W.Frag} {mg : Str → Option Value} {w0 : World} {up : Ups} (R : ClsR K mg up) {c : Str} {C : Addr} (hc : mg c = some (.ref C)) {w : Wd} : ∀ {ds : List D} {vs : List V} {us : List Value} {b : Bool}, Reps ⟨K, mg, w0⟩ w ds vs → Vals vs us → isAny up c ds = some b →
    PySem.W.kitAny K (.ref C) us = some b
  | _, _, _, b, .nil, .nil, e => by
    unfold isAny at e
    cases q : up c with
    | none => rw [q] at e; cases e
    | some u => rw [q] at e; cases e; exact kitAny_nil
  | _, _, _, b, .cons r rs, .cons rv rvs, e => by
    unfold isAny at e
    split at e
    · rename_i x y e1 e2
      cases e
      have h1 := isOne_ok R hc r rv e1
      have h2 := isAny_ok R hc rs rvs e2
      cases x
      · exact kitAny_cons h1 (fun _ => h2) (fun z => by cases z)
      · exact kitAny_cons h1 (fun z => by cases z) (fun _ => rfl)
    · cases e
theorem isAny_up {up : Ups} {c : Str} : ∀ {ds : List D} {b : Bool}, isAny up c ds = some b → ∃ u, up c = some u
  | [], b, e => by
    unfold isAny at e
    cases q : up c with
    | none => rw [q] at e; cases e
    | some u => exact ⟨u, rfl⟩
  | d :: ds, b, e => by
    unfold isAny at e
    split at e
    · rename_i x y e1 e2
      exact isAny_up e2
    · cases e
/-- what a kept exception is, in the heap -/
theorem xo_at {g : Gnd} {w : Wd} {c : Str} {ks : List Str} {fs : List D} {v : V} (r : Rep g w (.xo c ks fs) v) : ∃ (C a : Addr) (oe : Obj) (d : Option Addr), v = .ref a ∧ g.mg c = some (.ref C) ∧ w.H a = some (.frz oe (.ext (AtE a oe))) ∧ Zc (.ref C) d oe ∧ (∃ vs, oe.data = .fields vs) ∧
    (∀ dd, d = some dd → ∃ us, w.H dd = some (.xd us) ∧ ks = us.map (·.1) ∧ Reps g w fs (us.map (·.2))) := by
  cases r with
  | xo0 h1 h2 h3 h4 => exact ⟨_, _, _, none, rfl, h1, h2, h3, h4, fun dd z => by cases z⟩
  | xo1 h1 h2 h3 h4 h5 r => exact ⟨_, _, _, some _, rfl, h1, h2, h3, h4, fun dd z => by cases z; exact ⟨_, h5, rfl, r⟩⟩
theorem inst_at {pins : List (Addr × Obj)} {σ : L2.St} {H : Hp} {s : Shared} {a C : Addr} {oe : Obj} {d : Option Addr} (I : Inv X pins σ H s) (h : H a = some (.frz oe (.ext (AtE a oe)))) (hz : Zc (.ref C) d oe) (hf : ∃ vs, oe.data = .fields vs)
    (hd : ∀ dd, d = some dd → ∃ us, H dd = some (.xd us)) : ∃ od, PySem.W.InstAt s.heap a oe C od := by
  have h1 : s.heap.get? a = some oe := by
    have := I.hok a _ h
    unfold ObjOk at this
    exact this.1
  have h2 : PySem.W.notCls oe = true := by
    obtain ⟨vs, e⟩ := hf
    unfold PySem.W.notCls
    rw [e]
  obtain ⟨z1, z2⟩ := hz
  cases d with
  | none => exact ⟨none, h1, z1, h2, by rw [z2]; trivial⟩
  | some dd =>
    obtain ⟨us, e⟩ := hd dd rfl
    have q := I.hok dd _ e
    unfold ObjOk at q
    obtain ⟨mA, ⟨o, _, _, h3, _⟩, _⟩ := q
    exact ⟨some o, h1, z1, h2, by rw [z2]; exact h3⟩
theorem c_isiX {up : Ups} (R : ClsR X.K X.mg up) : CallR X (.builtin "isinstance") (rB ⟨X.K, X.mg, X.w⟩ (fIsiX up)) := by
  intro pins s σ H xs us Q I r h
  obtain ⟨w, S, ds, rfl, so, rd, k⟩ := h
  have base : Post ⟨X.K, X.mg, X.w⟩ w (Rep ⟨X.K, X.mg, X.w⟩) (.ofO (fIsi ds S)) Q (fun _ _ _ => False) → wpAny (model X.prog X.w) X.A (call (.builtin "isinstance") us) (EP X pins σ Q) X.xe s := fun k =>
    c_isi pins s σ _ xs us Q I r ⟨w, S, ds, rfl, so, rd, k⟩
  have one : ∀ {c ks fs t x y u}, Rep ⟨X.K, X.mg, X.w⟩ w (.xo c ks fs) x → Rep ⟨X.K, X.mg, X.w⟩ w t y → RelV y u → ∀ {b : Bool}, isOne up c t = some b → Q (.bl b) w.H → ∀ {v}, RelV x v → wpAny (model X.prog X.w) X.A (call (.builtin "isinstance") [v, u]) (EP X pins σ Q) X.xe s := fun {c ks fs t x y u} rx rt ru {b} e q {v} rv => by
    obtain ⟨C, a, oe, d, rfl, h1, h2, h3, h4, h5⟩ := xo_at rx
    obtain rfl : v = .ref a := rv
    have h1 : X.mg c = some (.ref C) := h1
    obtain ⟨od, hi⟩ := inst_at I h2 h3 h4 fun dd z => let ⟨us, e, _⟩ := h5 dd z; ⟨us, e⟩
    obtain ⟨uc, hu⟩ : ∃ uc, up c = some uc := by
      cases hc : up c with
      | some uc => exact ⟨uc, rfl⟩
      | none => unfold isOne at e; rw [hc] at e; split at e <;> cases e
    obtain ⟨C', F⟩ := R.at_ c uc hu
    have hCC : C' = C := by
      have z := F.gm
      rw [h1] at z
      cases z
      rfl
    subst hCC
    exact PySem.W.kia_one (PySem.W.kitx_exc F.ci F.ga F.gg F.sb F.cl F.sp F.tk F.mr) I.kIn hi (isOne_ok R h1 rt ru e) (by intro z; cases z) fun tk => ⟨.bl b, w.H, I.tok tk, rfl, q⟩
  unfold fIsiX at k
  split at k
  · rename_i c ks fs ts
    cases rd with
    | cons rx r2 =>
      cases r2 with
      | cons rt r4 =>
        cases r4
        cases e : isAny up c ts with
        | none => rw [e] at k; exact k.elim
        | some b =>
          rw [e] at k
          have q := k w _ (Step.refl so) so (.bl b)
          obtain ⟨C, a, oe, d, rfl, h1, h2, h3, h4, h5⟩ := xo_at rx
          cases rt with
          | tup ht hl rts =>
            obtain ⟨its, hv, ⟨o, h6, h7, n, h8⟩, _⟩ := I.tuple ht
            cases r with
            | cons rv1 rv2 =>
              cases rv2 with
              | cons rv3 rv4 =>
                cases rv4
                cases rv1
                cases rv3
                obtain ⟨od, hi⟩ := inst_at I h2 h3 h4 fun dd z => let ⟨us, e, _⟩ := h5 dd z; ⟨us, e⟩
                have h1 : X.mg c = some (.ref C) := h1
                obtain ⟨uc, hu⟩ := isAny_up e
                obtain ⟨C', F⟩ := R.at_ c uc hu
                have hCC : C' = C := by
                  have z := F.gm
                  rw [h1] at z
                  cases z
                  rfl
                subst hCC
                obtain ⟨oc, od', oda, osl⟩ := o
                obtain rfl : oc = _ := h7
                obtain rfl : oda = _ := h8
                exact PySem.W.kia_tup (PySem.W.kitx_exc F.ci F.ga F.gg F.sb F.cl F.sp F.tk F.mr) I.kIn hi h6 (isAny_ok R h1 rts hv e) (by intro z; cases z) fun tk => ⟨.bl b, w.H, I.tok tk, rfl, q⟩
  · rename_i c ks fs y
    cases rd with
    | cons rx r2 =>
      cases r2 with
      | cons rt r4 =>
        cases r4
        cases e : isOne up c (.gl y) with
        | none => rw [e] at k; exact k.elim
        | some b =>
          rw [e] at k
          cases r with
          | cons rv1 rv2 =>
            cases rv2 with
            | cons rv3 rv4 =>
              cases rv4
              exact one rx rt rv3 e (k w _ (Step.refl so) so (.bl b)) rv1
  · rename_i c ks fs n
    cases rd with
    | cons rx r2 =>
      cases r2 with
      | cons rt r4 =>
        cases r4
        cases e : isOne up c (.ty n) with
        | none => rw [e] at k; exact k.elim
        | some b =>
          rw [e] at k
          cases r with
          | cons rv1 rv2 =>
            cases rv2 with
            | cons rv3 rv4 =>
              cases rv4
              exact one rx rt rv3 e (k w _ (Step.refl so) so (.bl b)) rv1
  · exact base k
end

/-! ### raise -/
def dRaise (x : Str) : DenS := fun fr S => .ex ⟨.gl x, none⟩ fr S
theorem ds_raise {X : Cx} {W : WX} {x m : Str} {C : Addr} {bmB : List Value} {B newId initId : String} {j : Nat} {p p2 p3 pos : Pos} (hc : X.calm = true) (tk : Takes X W) (F : ClsF X.K X.mg x C) (E : ExcBaseFacts B newId initId bmB) (q : PySem.W.excIn X.K C bmB newId = true)
    (hg : Gl X x) (hd : (x == ("__debug__" : Str)) = false) : PS X (.Raise (some (.Call (.Name x p) [.Constant (.str m) j p2] [] p3)) none pos) (tS ⟨X.K, X.mg, X.w⟩ W (dRaise x)) := by
  refine PS.weaken (ps_raise hc tk (pmk_own E q F.gm F.kp (raises_own F.sb F.tp) hg hd)) fun D σ H h => ?_
  obtain ⟨w, S, fr, rfl, so, fo, p⟩ := h
  exact p w σ (.ref C) none (Step.refl so) so fo ⟨⟨.ref C, .gl F.gm, rfl⟩, rfl⟩

/-! ### try: .. except X as e: k = e -/
def xoOf (c : Str) : Option (List (Str × D)) → D
  | none => .xo c [] []
  | some fs => .xo c (fs.map (·.1)) (fs.map (·.2))
def dTryK (up : Ups) (y : Str) (i j : Nat) (b : DenS) : DenS := fun fr S => match b fr S with
  | .ex e fr' S' => (match e.cls with
    | .gl c => (match up c, up y with
      | some u, some _ => if y ∈ u then (if i < fr'.length then .ok .nx (((fr'.set i none).set j (some (xoOf c e.fs))).set i none) S' else .no) else .ex e fr' S'
      | _, _ => .no)
    | _ => .no)
  | o => o
theorem ds_tryK {X : Cx} {W : WX} {up : Ups} (R : ClsR X.K X.mg up) {y n k : Str} {C : Addr} {i j : Nat} {body : List Stmt} {b : DenS} {np pk pn pa pos pos' : Pos} (hs : X.stack = X.env :: X.outer) (hf : X.env.frame = some X.env.locals) (hex : X.ex = []) (hN : X.N.Nodup)
    (hi : X.N[i]? = some n) (hj : X.N[j]? = some k) (hln : X.env.kindOf n = some .local) (hlk : X.env.kindOf k = some .local) (hy : ClsF X.K X.mg y C) (hg : Gl X y) (hd : (y == ("__debug__" : Str)) = false) (hdn : (n == ("__debug__" : Str)) = false ∧ (n == ("__classdict__" : Str)) = false) (tk : Takes X W)
    (hb : ∀ (W : WX) (pn : List (Addr × Obj)) (xe : Value → Shared → Prop), Takes (X.tr pn xe) W → PassesOwn (model X.prog X.w) X.A X.env xe → PSs (X.tr pn xe) body (tS ⟨X.K, X.mg, X.w⟩ W b)) :
    PS X (.Try body [.ExceptHandler (some (.Name y np)) (some n) [.Assign [.Name k pk] (.Name n pn) pa] pos'] [] [] pos) (tS ⟨X.K, X.mg, X.w⟩ W (dTryK up y i j b)) := by
  have hsu : ∀ (a : Addr) (oe : Obj) (cls : Value) (d : Option Addr) (pn' : List (Addr × Obj)), Zc cls d oe → (∃ vs, oe.data = .fields vs) →
      PSs (X.suite a ((a, oe) :: pn')) [.Assign [.Name k pk] (.Name n pn) pa] (fun D σ H => ∃ v, σ[i]? = some (some v) ∧ D.nx (σ.set j (some v)) H) := fun a oe cls d pn' _ _ => by
    refine PSs.weaken (pss_cons (ps_set (X := X.suite a ((a, oe) :: pn')) (i := j) hN hj (.inl hlk) (pe_var (X := X.suite a ((a, oe) :: pn')) hi (.inl hln) hdn.1 hdn.2) (swaps_no rfl) (.inr hlk)) pss_nil) fun D σ H q => ?_
    obtain ⟨v, e, q⟩ := q
    exact ⟨v, e, q⟩
  refine PS.weaken (ps_try_frz hs hf hex hN hi hln ⟨hg, hd, .inl hy.gm⟩ tk hb hsu) fun D σ H q => ?_
  obtain ⟨w, S, fr, rfl, so, fo, p⟩ := q
  refine ⟨w, S, fr, rfl, so, fo, ?_⟩
  unfold dTryK at p
  cases q : b fr S with
  | no => rw [q] at p; exact p
  | ok f fr' S' => rw [q] at p; cases f <;> exact p
  | ex e fr' S' =>
    rw [q] at p
    intro w' σ' cv dx st so' fo' rx
    dsimp only at p
    split at p
    · rename_i c ec
      split at p
      · rename_i u u' e1 e2
        obtain ⟨v, r1, r2⟩ := rx.cls
        rw [ec] at r1
        cases r1 with
        | gl hm =>
          obtain rfl : cv = .ref _ := r2
          refine ⟨decide (y ∈ u), (R.own _ _ _ _ _ _ e1 e2 hm hy.gm).1, fun hyes a oe na hz hfl => ?_, fun hno => ?_⟩
          · rw [if_pos (of_decide_eq_true hyes)] at p
            split at p
            · rename_i hil
              refine ⟨.ref a, ?_, ?_⟩
              · exact List.getElem?_set_self (by rw [← fo'.len]; exact hil)
              · obtain ⟨st2, so2, hn2⟩ := Step.put so' na (.frz oe (.ext (AtE a oe)))
                have rr : Rep ⟨X.K, X.mg, X.w⟩ (w'.put a (.frz oe (.ext (AtE a oe)))) (xoOf c e.fs) (.ref a) := by
                  have q2 := rx.fs
                  cases ef : e.fs with
                  | none =>
                    rw [ef] at q2
                    obtain rfl : dx = none := q2
                    exact .xo0 hm upd_same hz hfl
                  | some fs =>
                    rw [ef] at q2
                    obtain ⟨d, us, rfl, h1, h2, h3, h4⟩ := q2
                    show Rep _ _ (.xo c (fs.map (·.1)) (fs.map (·.2))) _
                    rw [h3]
                    exact .xo1 hm upd_same hz hfl (st2.xd _ _ h1) (Reps.mono st2.toMono _ _ h4)
                exact p _ _ (st.trans st2) so2 ((((fo'.mono st2.toMono).unset i (some (.ref a))).set j rr).unset i none)
            · exact p.elim
          · rw [if_neg (of_decide_eq_false hno)] at p
            exact p w' σ' _ dx st so' fo' rx
      · exact p.elim
    · exact p.elim
end DL
/-! DN, part c: objects of own classes: made, their fields read and written, their methods called. -/
namespace DL
open PySem PySem.Spec PyProof.Rows L2

section
variable {X : Cx} {W : WX} {k : Nat} {f C : Addr} {fd : FuncData} {ps : List Str} {sp : Sp}
/-- C(..): the object is made, then its __init__ is called -/
theorem run_makeG {pins : List (Addr × Obj)} {σ : L2.St} {H : Hp} {s : Shared} {Q : VK} {us : List Value} {vs : List V} (M : Mk X.K C f) (F : FnG X.prog X.w X.K X.mg X.base (L2.CX X.prog X.w) k f fd ps sp) (hr : Room (k + 1) X.A) (hg : X.A.guards = some []) (hb : Binds X.K fd ps [])
    (tk : Takes X W) (I : Inv X pins σ H s) (r : Vals vs us) (h : ∀ x dx : Addr, H x = none → H dx = none → dx ≠ x → sp (.ref x :: vs) (upd (upd H dx (.own x)) x (.ins C dx [])) (fun v H2 => v = .non ∧ Q (.ref x) H2) (WE W σ)) :
    wpAny (model X.prog X.w) X.A (call (.ref C) us) (EP X pins σ Q) X.xe s := by
  have hq := h (s.heap.objs.size + 1) s.heap.objs.size (I.hok.fresh (Nat.le_succ _)) (I.hok.fresh (Nat.le_refl _)) (Nat.ne_of_lt (Nat.lt_succ_self _))
  have I2 := Inv.made (C := C) I
  have r2 : Vals (V.ref (s.heap.objs.size + 1) :: vs) (Value.ref (s.heap.objs.size + 1) :: us) := .cons rfl r
  have hl : (Value.ref (s.heap.objs.size + 1) :: us).length = ps.length := by
    have e := r2.length
    rw [F.len _ _ _ _ hq] at e
    exact e.symm
  have hB := hb { s with heap := (s.heap.push PySem.W.emptyDict).push (PySem.W.instObj C s.heap.objs.size) } (Value.ref (s.heap.objs.size + 1) :: us) I2.kIn (by rw [List.append_nil]; exact hl)
  rw [List.append_nil] at hB
  refine wpAny_call (make_map I.kIn M.makes M.init (beq_iff_eq.mp M.fn) (codeAny_mono (F.run (X.A.under (.builtin "type.__call__" { pos := .ref C :: us })) X.stack _ _ { pos := .ref (s.heap.objs.size + 1) :: us } _ _ _ _ (Room.make hr C us []) hg (Env0.make I2.env0 C us []) hB r2 hq) fun r s' hq' => ?_))
  cases r with
  | error e => exact passAt tk σ pins _ _ e s' I2 hq'
  | ok fl =>
    cases fl with
    | ret u =>
      obtain ⟨v, H', I3, rv, rfl, q3⟩ := I2.after hq'
      exact ⟨rv, .ref (s.heap.objs.size + 1), H', I3, rfl, q3⟩
    | next => exact False.elim hq'
    | brk => exact False.elim hq'
    | cont => exact False.elim hq'
/-- what is asked of C(..) -/
def tMakeG (C : Addr) (sp : Sp) (W : WX) (t : TA) : TE := fun σ H Q => t σ H fun vs H1 => ∀ x dx : Addr, H1 x = none → H1 dx = none → dx ≠ x → sp (.ref x :: vs) (upd (upd H1 dx (.own x)) x (.ins C dx [])) (fun v H2 => v = .non ∧ Q (.ref x) H2) (WE W σ)
theorem pe_makeG {x : Str} {p pos : Pos} {e : Expr} {es : List Expr} {t : TA} (M : Mk X.K C f) (F : FnG X.prog X.w X.K X.mg X.base (L2.CX X.prog X.w) k f fd ps sp) (hr : Room (k + 1) X.A) (hgd : X.A.guards = some []) (hg : Gl X x) (hm : X.mg x = some (.ref C))
    (hb : Binds X.K fd ps []) (tk : Takes X W) (ha : PA X (e :: es) t) (hdb : (x == ("__debug__" : Str)) = false) (he : starEach (e :: es) X.env = (false, eval e X.env) :: starEach es X.env) (hpl : (backTo pos (starEach es X.env)).any (·.1) = false) :
    PE X (.Call (.Name x p) (e :: es) [] pos) (tMakeG C sp W t) :=
  ⟨fun pins s σ H Q I h => wpAny_Call_Name_kw (ld_glob I hg hm (PySem.W.callWith_K (h₀ := X.base) I.ok.mod.kin M.kp
    (thn (ha.run pos pins s σ H _ I h) fun us s1 ⟨vs, H1, I1, r, q⟩ => ⟨I1.kIn, run_makeG M F hr hgd hb tk I1 r q⟩) he hpl) hdb)⟩
theorem pe_makeG0 {x : Str} {p pos : Pos} (M : Mk X.K C f) (F : FnG X.prog X.w X.K X.mg X.base (L2.CX X.prog X.w) k f fd ps sp) (hr : Room (k + 1) X.A) (hgd : X.A.guards = some []) (hg : Gl X x) (hm : X.mg x = some (.ref C)) (hb : Binds X.K fd ps []) (tk : Takes X W) (hdb : (x == ("__debug__" : Str)) = false) :
    PE X (.Call (.Name x p) [] [] pos) (tMakeG C sp W tNil) :=
  ⟨fun pins s σ H Q I h => wpAny_Call_Name_kw (ld_glob I hg hm (PySem.W.callWith_K0 I.kIn M.kp (run_makeG (us := []) (vs := []) M F hr hgd hb tk I .nil h)) hdb)⟩
/-- a method's call, the class told by the object -/
def tMethG (R : Addr → Sp → Prop) (m : Str) (W : WX) (ta : TE) (t : TA) : TE := fun σ H Q => ta σ H fun x H1 => ∃ (a C dx : Addr) (fs : List (Str × V)) (sp : Sp), x = .ref a ∧ H1 a = some (.ins C dx fs) ∧ fs.lookup m = none ∧ R C sp ∧ t σ H1 fun vs H2 => sp (x :: vs) H2 Q (WE W σ)
/-- what is known of a class's method -/
def MethOk (X : Cx) (k : Nat) (m : Str) (C : Addr) (sp : Sp) : Prop := Cls X.K C ∧ ∃ (f : Addr) (fd : FuncData) (ps : List Str), Meth X.K C m f ∧ Binds X.K fd ps [] ∧ FnG X.prog X.w X.K X.mg X.base (L2.CX X.prog X.w) k f fd ps sp
theorem call_own {M : Program} {w : World} {A : Around} {E : Value → Shared → Prop} {s : Shared} {env : Env} {o : Expr} {name : Str} {apos pos : Pos} {args : List Expr} {Q : Value → Shared → Prop} (hbase : attributeBase o name env (eval o env) = eval o env)
    (hfew : ((backTo pos (starEach args env)).all (fun x => !x.1) && (backToKw pos (keywordEach [] env)).all (fun x => x.1.isSome) && decide (args.length + ([] : List Keyword).length + (if ([] : List Keyword).isEmpty = true then 0 else 1) < 30)) = true)
    (hline : (apos.endLine == pos.line) = true)
    (h : wpAny (model M w) A (eval o env) (fun ov s₁ => ∀ pl : Sem Bool, wpAny (model M w) A (getMethod ov name pl) (fun fx s₂ => wpAny (model M w) A (callWith pos fx.1 fx.2 (backTo pos (starEach args env)) (backToKw pos (keywordEach [] env))) Q E s₂) E s₁) E s) :
    wpAny (model M w) A (eval (.Call (.Attribute o name apos) args [] pos) env) Q E s := by
  rw [arm_eval_Call, hbase]
  refine wpAny_bind (wpAny_mono h (fun ov s1 h1 => ?_) fun _ _ e => e)
  refine wpAny_bind (wpAny_standAt ?_)
  unfold methodCall
  rw [show methodCallForm (args.length + ([] : List Keyword).length) (backTo pos (starEach args env)) (backToKw pos (keywordEach [] env)) = true from hfew]
  refine wpAny_bind (wpAny_holding (wpAny_mono (h1 _) (fun fx s2 h2 => ?_) fun _ _ e => e))
  refine wpAny_bind (wpAny_of_eq (a := pos) ?_ h2)
  unfold methodCallPos
  simp [hline]
theorem pe_methG {R : Addr → Sp → Prop} {m : Str} {o e : Expr} {es : List Expr} {apos pos : Pos} {ta : TE} {t : TA} (hR : ∀ C sp, R C sp → MethOk X k m C sp) (ho : PE X o ta) (hr : Room k X.A) (hgd : X.A.guards = some []) (tk : Takes X W) (ha : PA X (e :: es) t)
    (hbase : attributeBase o m X.env (eval o X.env) = eval o X.env)
    (hfew : ((backTo pos (starEach (e :: es) X.env)).all (fun x => !x.1) && (backToKw pos (keywordEach [] X.env)).all (fun x => x.1.isSome) && decide ((e :: es).length + ([] : List Keyword).length + (if ([] : List Keyword).isEmpty = true then 0 else 1) < 30)) = true)
    (hline : (apos.endLine == pos.line) = true)
    (he : starEach (e :: es) X.env = (false, eval e X.env) :: starEach es X.env) (hpl : (backTo pos (starEach es X.env)).any (·.1) = false) : PE X (.Call (.Attribute o m apos) (e :: es) [] pos) (tMethG R m W ta t) :=
  ⟨fun pins s σ H Q I h => call_own hbase hfew hline (thn (ho.run pins s σ H _ I h) fun u s1 ⟨x, H1, I1, rx, a, C, dx, fs, sp, ex, ea, l, hC, q⟩ pl => by
    subst ex
    obtain rfl := rx
    obtain ⟨c, f, fd, ps, hm, hb, F⟩ := hR C sp hC
    exact getmeth_ok I1 ea c hm l (PySem.W.callWith_K (h₀ := X.base) I.ok.mod.kin hm.kp (thn (ha.run pos pins s1 σ H1 _ I1 q) fun us s2 ⟨vs, H2, I2, r, q2⟩ => ⟨I2.kIn, run_fnG F hr hgd hb tk I2 (.cons (show RelV (V.ref a) (Value.ref a) from rfl) r) q2⟩) he hpl))⟩
theorem pe_methG0 {R : Addr → Sp → Prop} {m : Str} {o : Expr} {apos pos : Pos} {ta : TE} (hR : ∀ C sp, R C sp → MethOk X k m C sp) (ho : PE X o ta) (hr : Room k X.A) (hgd : X.A.guards = some []) (tk : Takes X W)
    (hbase : attributeBase o m X.env (eval o X.env) = eval o X.env) (hline : (apos.endLine == pos.line) = true) : PE X (.Call (.Attribute o m apos) [] [] pos) (tMethG R m W ta tNil) :=
  ⟨fun pins s σ H Q I h => call_own hbase rfl hline (thn (ho.run pins s σ H _ I h) fun u s1 ⟨x, H1, I1, rx, a, C, dx, fs, sp, ex, ea, l, hC, q⟩ pl => by
    subst ex
    obtain rfl := rx
    obtain ⟨c, f, fd, ps, hm, hb, F⟩ := hR C sp hC
    exact getmeth_ok I1 ea c hm l (PySem.W.callWith_K0 I1.kIn hm.kp (run_fnG F hr hgd hb tk I1 (.cons (show RelV (V.ref a) (Value.ref a) from rfl) .nil) q)))⟩
end

/-! ### by data -/
/-- what is known of an own class: its __init__, its methods (def and number of parameters), its fields -/
structure ObjI where
  ini : Option (Nat × Nat)
  ms : List (Str × Nat × Nat)
  fs : List Str
abbrev Objs := Str → Option ObjI
structure ObjR (K : PySem.W.Frag) (mg : Str → Option Value) (os : Objs) : Prop where
  at_ : ∀ c i, os c = some i → ∃ C, mg c = some (.ref C) ∧ Cls K C ∧ ∀ f ∈ i.fs, NoAttr K C f
theorem look_rep {g : Gnd} {w : Wd} {f : Str} : ∀ {fs : List (Str × D)} {us : List (Str × V)}, fs.map (·.1) = us.map (·.1) → Reps g w (fs.map (·.2)) (us.map (·.2)) →
    (∀ d, fs.lookup f = some d → ∃ v, us.lookup f = some v ∧ Rep g w d v) ∧ (fs.lookup f = none → us.lookup f = none)
  | [], [], _, _ => ⟨fun d e => (by cases e), fun _ => rfl⟩
  | [], _ :: _, e, _ => by cases e
  | _ :: _, [], e, _ => by cases e
  | (a, d) :: fs, (b, v) :: us, e, r => by
    cases r with
    | cons r1 r2 =>
      have e1 : a = b := (List.cons.inj e).1
      subst e1
      obtain ⟨h1, h2⟩ := look_rep (f := f) (List.cons.inj e).2 r2
      rw [List.lookup_cons, List.lookup_cons]
      cases q : f == a with
      | true => exact ⟨fun d' e' => ⟨v, rfl, by cases e'; exact r1⟩, fun e' => by cases e'⟩
      | false => exact ⟨h1, h2⟩
def fldD (os : Objs) (f : Str) (d : D) (S : Sto) : Option (D × Sto) := match d with
  | .ob n => (match S[n]? with
    | some (.ins c fs) => (match os c with
      | some i => if f ∈ i.fs then (fs.lookup f).map fun v => (v, S) else none
      | none => none)
    | _ => none)
  | _ => none
def dFld (os : Objs) (f : Str) (h : DenE) : DenE := fun fr S => (h fr S).bnd fun d S1 => .ofO (fldD os f d S1)
/-- an object of an own class, in the heap -/
theorem ins_at {g : Gnd} {w : Wd} {S : Sto} {os : Objs} (R : ObjR g.K g.mg os) (so : SOk g w S) {n : Nat} {c : Str} {fs : List (Str × D)} {i : ObjI} (e : S[n]? = some (.ins c fs)) (hi : os c = some i) : n < w.n ∧ ∃ (C dx : Addr) (us : List (Str × V)), w.H (w.m n) = some (.ins C dx us) ∧ g.mg c = some (.ref C) ∧ Cls g.K C ∧ (∀ f ∈ i.fs, NoAttr g.K C f) ∧
    fs.map (·.1) = us.map (·.1) ∧ Reps g w (fs.map (·.2)) (us.map (·.2)) := by
  obtain ⟨h, e2, r⟩ := so.ob n _ e
  cases r with
  | ins hm ek rr =>
    obtain ⟨C', m', c1, c2⟩ := R.at_ c i hi
    rw [hm] at m'
    cases m'
    exact ⟨by rw [so.len]; exact (List.getElem?_eq_some_iff.mp e).1, _, _, _, e2, hm, c1, c2, ek, rr⟩
section
variable {X : Cx} {W : WX}
theorem de_fld {os : Objs} {f : Str} {o : Expr} {pos : Pos} {h : DenE} (R : ObjR X.K X.mg os) (ho : PE X o (tE ⟨X.K, X.mg, X.w⟩ W h)) (hbase : attributeBase o f X.env (eval o X.env) = eval o X.env) : PE X (.Attribute o f pos) (tE ⟨X.K, X.mg, X.w⟩ W (dFld os f h)) := by
  refine PE.weaken (pe_fld ho hbase) fun σ H Q q => tG_mono (lift1 q) fun x H1 h1 => ?_
  obtain ⟨w, S, fr, d, rfl, so, fo, r, p⟩ := h1
  dsimp only at p
  unfold fldD at p
  split at p
  · rename_i n
    split at p
    · rename_i c fs e
      split at p
      · rename_i i hi
        split at p
        · rename_i hf
          cases el : fs.lookup f with
          | none => rw [el] at p; exact p.elim
          | some v =>
            rw [el] at p
            obtain ⟨hn, C, dx, us, e2, hm, c1, c2, ek, rr⟩ := ins_at R so e hi
            obtain ⟨u, hu, ru⟩ := (look_rep ek rr).1 v el
            cases r
            exact ⟨_, C, dx, us, u, rfl, e2, c1, c2 f hf, hu, p w u (Step.refl so) so ru⟩
        · exact p.elim
      · exact p.elim
    · exact p.elim
  · exact p.elim
/-! C(..) -/
def dMake (c : Str) (n : Nat) (φ : List D → Sto → Out D) (h : DenA) : DenE := fun fr S => (h fr S).bnd fun ds S1 => if ds.length + 1 = n then (match φ (.ob S1.length :: ds) (S1 ++ [.ins c []]) with
  | .ok .non S2 => .ok (.ob S1.length) S2
  | .ex e S2 => .ex e S2
  | _ => .no) else .no
theorem lift_make {g : Gnd} {c : Str} {C : Addr} {n : Nat} {φ : List D → Sto → Out D} {h : DenA} {σ : L2.St} {H : Hp} {Q : VK} (hm : g.mg c = some (.ref C)) (q : tE g W (dMake c n φ h) σ H Q) : tMakeG C (spD g n φ) W (tA g W h) σ H Q := by
  refine tG_mono (lift1 q) fun vs H1 h1 => ?_
  obtain ⟨w, S, fr, ds, rfl, so, fo, r, p⟩ := h1
  intro x dx hx hdx hne
  dsimp only at p
  split at p
  · rename_i hl
    obtain ⟨st1, so1, _⟩ := Step.put so hdx (.own x)
    have hx1 : (w.put dx (.own x)).H x = none := by
      show upd w.H dx (.own x) x = none
      rw [upd_ne (Ne.symm hne)]
      exact hx
    obtain ⟨st2, so2, r2⟩ := Step.new so1 hx1 (o := .ins c []) (ho := .ins C dx []) (.ins hm rfl .nil)
    refine ⟨_, S ++ [.ins c []], .ob S.length :: ds, rfl, so2, .cons r2 (Reps.mono (st1.trans st2).toMono _ _ r), hl, ?_⟩
    cases e : φ (.ob S.length :: ds) (S ++ [.ins c []]) with
    | ok d S2 =>
      rw [e] at p
      intro w' b st so' rb
      cases d with
      | non =>
        cases rb
        exact ⟨rfl, p w' (.ref x) ((st1.trans st2).trans st) so' (rmono st r2)⟩
      | _ => exact p.elim
    | ex ex S2 =>
      rw [e] at p
      exact fun w' cc dd st so' rx => p w' cc dd ((st1.trans st2).trans st) so' rx
    | no => rw [e] at p; exact p
  · exact p.elim
/-! methods -/
def methD (os : Objs) (m : Str) (d : D) (S : Sto) : Option (Nat × Nat) := match d with
  | .ob n => (match S[n]? with
    | some (.ins c fs) => (match os c with
      | some i => if fs.lookup m = none then i.ms.lookup m else none
      | none => none)
    | _ => none)
  | _ => none
def dMeth (os : Objs) (m : Str) (Φ : PhT) (ho : DenE) (h : DenA) : DenE := fun fr S => (ho fr S).bnd fun d S1 => match methD os m d S1 with
  | some p => (h fr S1).bnd fun ds S2 => if ds.length + 1 = p.2 then Φ p.1 (d :: ds) S2 else .no
  | none => .no
/-- which def a class's method is -/
def MethR (g : Gnd) (os : Objs) (m : Str) (Φ : PhT) (C : Addr) (sp : Sp) : Prop := ∃ (c : Str) (i : ObjI) (p : Nat × Nat), os c = some i ∧ i.ms.lookup m = some p ∧ g.mg c = some (.ref C) ∧ sp = spD g p.2 (Φ p.1)
theorem lift_meth {g : Gnd} {os : Objs} {m : Str} {Φ : PhT} {ho : DenE} {h : DenA} {σ : L2.St} {H : Hp} {Q : VK} (R : ObjR g.K g.mg os) (q : tE g W (dMeth os m Φ ho h) σ H Q) : tMethG (MethR g os m Φ) m W (tE g W ho) (tA g W h) σ H Q := by
  refine tG_mono (lift1 q) fun x H1 h1 => ?_
  obtain ⟨w, S, fr, d, rfl, so, fo, r, p⟩ := h1
  cases em : methD os m d S with
  | none => dsimp only at p; rw [em] at p; exact p.elim
  | some pr =>
    dsimp only at p
    rw [em] at p
    dsimp only at p
    unfold methD at em
    split at em
    · rename_i n
      split at em
      · rename_i c fs e
        split at em
        · rename_i i hi
          split at em
          · rename_i hl
            obtain ⟨hn, C, dx, us, e2, hm, c1, c2, ek, rr⟩ := ins_at R so e hi
            have hn' := (look_rep ek rr).2 hl
            have rx : x = .ref (w.m n) := by cases r; rfl
            refine ⟨w.m n, C, dx, us, spD g pr.2 (Φ pr.1), rx, e2, hn', ⟨c, i, pr, hi, em, hm, rfl⟩, ?_⟩
            refine tG_mono (next1 (R1 := Rep g) (R2 := Reps g) (R := Rep g) (k := fun a b _ S => if b.length + 1 = pr.2 then Φ pr.1 (a :: b) S else .no) (fun _ _ _ _ s r => rmono s r) ⟨w, S, fr, .ob n, rfl, so, fo, r, p⟩) fun vs H2 h2 => ?_
            obtain ⟨w2, S2, fr2, ⟨d2, ds⟩, rfl, so2, fo2, ⟨r1, r2⟩, p2⟩ := h2
            dsimp only at p2
            split at p2
            · rename_i hl2
              exact ⟨w2, S2, d2 :: ds, rfl, so2, .cons r1 r2, hl2, p2⟩
            · exact p2.elim
          · cases em
        · cases em
      · cases em
    · cases em
/-! o.f = v -/
def putFd (f : Str) (v : D) : List (Str × D) → List (Str × D)
  | [] => [(f, v)]
  | p :: r => if p.1 = f then (f, v) :: r else p :: putFd f v r
theorem putF_nil {f : Str} {v : V} : putF f v [] = [(f, v)] := rfl
theorem putF_cons {f : Str} {v : V} {p : Str × V} {r : List (Str × V)} : putF f v (p :: r) = if p.1 = f then (f, v) :: r else p :: putF f v r := by
  rw [putF]
  split
  · rename_i h
    rw [h]
  · rfl
theorem putF_rep {g : Gnd} {w : Wd} {f : Str} {d : D} {v : V} (rv : Rep g w d v) : ∀ {fs : List (Str × D)} {us : List (Str × V)}, fs.map (·.1) = us.map (·.1) → Reps g w (fs.map (·.2)) (us.map (·.2)) →
    (putFd f d fs).map (·.1) = (putF f v us).map (·.1) ∧ Reps g w ((putFd f d fs).map (·.2)) ((putF f v us).map (·.2))
  | [], [], _, _ => ⟨rfl, .cons rv .nil⟩
  | [], _ :: _, e, _ => by cases e
  | _ :: _, [], e, _ => by cases e
  | (a, x) :: fs, (b, u) :: us, e, r => by
    cases r with
    | cons r1 r2 =>
      have e1 : a = b := (List.cons.inj e).1
      subst e1
      obtain ⟨h1, h2⟩ := putF_rep (f := f) rv (List.cons.inj e).2 r2
      rw [putF_cons]
      unfold putFd
      by_cases q : a = f
      · rw [if_pos q, if_pos q]
        refine ⟨?_, .cons rv r2⟩
        rw [List.map_cons, List.map_cons, (List.cons.inj e).2]
      · rw [if_neg q, if_neg q]
        refine ⟨?_, .cons r1 h2⟩
        rw [List.map_cons, List.map_cons, h1]
def setFD (os : Objs) (f : Str) (d v : D) (S : Sto) : Option Sto := match d with
  | .ob n => (match S[n]? with
    | some (.ins c fs) => (match os c with
      | some i => if f ∈ i.fs ∧ fs.length < 1000 then some (S.set n (.ins c (putFd f v fs))) else none
      | none => none)
    | _ => none)
  | _ => none
def dSetFld (os : Objs) (f : Str) (ho he : DenE) : DenS := fun fr S => (he fr S).thn fr fun v S1 => (ho fr S1).thn fr fun d S2 => match setFD os f d v S2 with
  | some S3 => .ok .nx fr S3
  | none => .no
theorem ds_setFld {os : Objs} {f : Str} {o e : Expr} {pos pos' : Pos} {ho he : DenE} (R : ObjR X.K X.mg os) (h1 : PE X o (tE ⟨X.K, X.mg, X.w⟩ W ho)) (h2 : PE X e (tE ⟨X.K, X.mg, X.w⟩ W he)) (hs : swapsWith e (some (.Attribute o f pos')) pos.line X.env = pure false) :
    PS X (.Assign [.Attribute o f pos'] e pos) (tS ⟨X.K, X.mg, X.w⟩ W (dSetFld os f ho he)) := by
  refine PS.weaken (ps_fld h1 h2 hs) fun D σ H q => liftS q fun w S fr v u so fo r p => ?_
  refine nextS (R1 := Rep _) (R2 := Rep _) (fun _ _ _ _ s r => rmono s r) so fo r p fun w2 S2 d x so2 fo2 rv rx p2 => ?_
  cases es : setFD os f d v S2 with
  | none => rw [es] at p2; exact p2.elim
  | some S3 =>
    rw [es] at p2
    unfold setFD at es
    split at es
    · rename_i n
      split at es
      · rename_i c fs e3
        split at es
        · rename_i i hi
          split at es
          · rename_i hf
            cases es
            obtain ⟨hn, C, dx, us, e2, hm, c1, c2, ek, rr⟩ := ins_at R so2 e3 hi
            obtain ⟨k1, k2⟩ := putF_rep (f := f) rv ek rr
            cases rx
            have hl : us.length < 1000 := by
              have := congrArg List.length ek
              rw [List.length_map, List.length_map] at this
              rw [← this]
              exact hf.2
            refine ⟨_, C, dx, us, rfl, e2, c1, c2 f hf.1, hl, ?_⟩
            obtain ⟨st, so3⟩ := Step.write so2 hn (o := .ins c (putFd f v fs)) (ho := .ins C dx (putF f u us)) (.ins hm k1 k2)
            exact p2 _ σ st so3 (fo2.mono st.toMono)
          · cases es
        · cases es
      · cases es
    · cases es
end
end DL
/-! DN, part d: exceptions that are made and kept, with an __init__ of their own or none; what such an one keeps is read. -/
namespace DL
open PySem PySem.Spec PyProof.Rows L2

section
variable {X : Cx} {W : WX}
/-- what makes an exception gives a value -/
theorem pe_xmk {e : Expr} {t : L2.St → Hp → XK → Prop} (h : PMk X e t) : PE X e (fun σ H Q => t σ H fun cls d H' => ∀ (a : Addr) (oe : Obj), H' a = none → Zc cls d oe → (∃ vs, oe.data = .fields vs) → Q (.ref a) (frozen H' a oe)) :=
  ⟨fun pins s σ H Q I k => wpAny_mono (h pins s σ H _ I k) (fun u s' m => by
    obtain ⟨a, oe, vs, sI, H', cls, d, rfl, J, up, na, he, hz, hd, _, hHa, os, bare, _, q⟩ := m
    have J2 := J.laidN (h' := s'.heap) (o := .frz oe (.ext (AtE a oe))) (t' := s'.toks) up na hHa (by
      unfold ObjOk
      refine ⟨he, ?_⟩
      unfold ObjOk
      exact ⟨he, ⟨oe, he⟩, fun h1 h2 z k => k _ z⟩)
    exact ⟨.ref a, _, J2.landed (s' := s') (B := s'.heap) (fun b o e _ => e) (fun b o e => e) (fun b o e _ => ⟨o.slots, e⟩) os bare, rfl, q a oe hHa hz ⟨vs, hd⟩⟩) fun _ _ z => z⟩
theorem PMk.weaken {e : Expr} {t t' : L2.St → Hp → XK → Prop} (h : PMk X e t) (k : ∀ σ H Q, t' σ H Q → t σ H Q) : PMk X e t' := fun pins s σ H Q I q => h pins s σ H Q I (k _ _ _ q)

/-! ### what an exception keeps -/
theorem pe_xfz {e : Expr} {te : TE} {n : Str} {pos : Pos} (he : PE X e te) (hb : attributeBase e n X.env (eval e X.env) = eval e X.env) : PE X (.Attribute e n pos) (fun σ H Q => te σ H fun x H1 =>
    ∃ (a C dd : Addr) (oe : Obj) (us : List (Str × V)) (v : V), x = .ref a ∧ H1 a = some (.frz oe (.ext (AtE a oe))) ∧ Zc (.ref C) (some dd) oe ∧ (∃ vs, oe.data = .fields vs) ∧ H1 dd = some (.xd us) ∧ XfC X.K C ∧ PySem.W.findIn X.K (.ref C) n = some none ∧ us.lookup n = some v ∧ Q v H1) :=
  ⟨fun pins s σ H Q I h => attr_of hb (thn (he.run pins s σ H _ I h) fun u s1 hh => by
    obtain ⟨x, H1, I1, rx, a, C, dd, oe, us, v, ex, ha, hz, hf, hd, T, hno, l, q⟩ := hh
    subst ex
    obtain rfl : u = .ref a := rx
    have hx := I1.hok dd _ hd
    unfold ObjOk at hx
    obtain ⟨mA, hns, hr⟩ := hx
    obtain ⟨od, ho, hl⟩ := lookIn_ns hns
    obtain ⟨u, hu, ru⟩ := RelO.some_of (by have z := hr n; rw [l] at z; exact z)
    obtain ⟨od', hi⟩ := inst_at I1 ha hz hf fun dd' z => by cases z; exact ⟨us, hd⟩
    have ho' : od' = some od := by
      have z := hi.dict
      rw [hz.2] at z
      cases od' with
      | none => exact z.elim
      | some o =>
        have z : s1.heap.get? dd = some o := z
        rw [ho] at z
        cases z
        rfl
    subst ho'
    exact PySem.HandSPX.exc_get I1.kIn hi T.ga T.gg T.exC (PySem.W.findObj_own T.hdC hno rfl (by rw [hl n, hu])) (handed_of ru) ⟨v, H1, I1.tok (s1.toks + 1), ru, q⟩)⟩

/-! ### an __init__ of its own: B.__init__(self, ..); self.f = p -/
/-- B.__init__(self, ..), B an own class that has ValueError's -/
theorem pe_binit {e : Expr} {es : List Expr} {ta : TA} {b : Str} {B : Addr} {p1 p2 pos : Pos} (hg : Gl X b) (hm : X.mg b = some (.ref B)) (hdb : (b == ("__debug__" : Str)) = false)
    (hsp : PySem.W.specialIn X.K (.ref B) "__getattribute__" = some (some (.builtin "type.__getattribute__"))) (hrd : PySem.W.readsIn X.K B (.type "type") = true)
    (vV : PySem.W.findCls X.K (.ref B) (.type "type") "__init__" = some (.val (.builtin "ValueError.__init__"))) (ha : PA X (e :: es) ta)
    (hfew : ((backTo pos (starEach (e :: es) X.env)).all (fun x => !x.1) && (backToKw pos (keywordEach [] X.env)).all (fun x => x.1.isSome) && decide ((e :: es).length + ([] : List Keyword).length + (if ([] : List Keyword).isEmpty = true then 0 else 1) < 30)) = true)
    (hline : (p2.endLine == pos.line) = true)
    (he : starEach (e :: es) X.env = (false, eval e X.env) :: starEach es X.env) (hpl : (backTo pos (starEach es X.env)).any (·.1) = false) :
    PE X (.Call (.Attribute (.Name b p1) "__init__" p2) (e :: es) [] pos) (tVeI X.K ta) :=
  ⟨fun pins s σ H Q I h => call_own rfl hfew hline (ld_glob I hg hm (fun pl => PySem.W.method_cls I.kIn hsp (PySem.W.cls_value I.kIn hrd vV rfl (callWith_method1
    (thn (ha.run pos pins _ σ H _ (I.tok (s.toks + 1)) h) fun us s1 hh => by
      obtain ⟨vs, H1, I1, r, a, C, ws, rfl, hl, T, hH, q⟩ := hh
      cases r with
      | cons r1 r2 =>
        obtain rfl := r1
        exact oinit_ok T I1 hH (by rw [← r2.length]; exact Nat.le_trans hl (by decide)) fun s' I2 => ⟨.non, H1, I2, rfl, q⟩) he hpl))) hdb)⟩
end
/-- what such an __init__ promises -/
def spXi (C : Addr) (fl : Str) : Sp := fun vs H Q _ => ∃ (a : Addr) (v : V), vs = [.ref a, v] ∧ H a = some (exo a C none) ∧ ∀ dx, H dx = none → dx ≠ a → Q .non (upd (upd H dx (exd dx [(fl, v)])) a (exo a C (some dx)))
/-- what is known of a class with such an __init__ -/
structure XI (P : Program) (w0 : World) (K : PySem.W.Frag) (mg : Str → Option Value) (base : Heap) (x fl : Str) : Prop where
  ex : ∃ (C f : Addr) (fd : FuncData) (ps : List Str), mg x = some (.ref C) ∧ OexC K C ∧ XfC K C ∧ PySem.W.findIn K (.ref C) fl = some none ∧ PySem.W.findIn K (.ref C) "__init__" = some (some (.ref f)) ∧
    PySem.W.typeIn K (.ref f) = some (.type "function") ∧ L2.Binds K fd ps [] ∧ FnOk P w0 K mg base (L2.CX P w0) 1 f fd ps (spXi C fl)

/-! ### by data -/
section
variable {X : Cx} {W : WX}
/-- an exception made whose class keeps nothing -/
def dXo0 (x : Str) (h : DenA) : DenE := fun fr S => (h fr S).bnd fun ds S1 => if ds.length ≤ 1000 then .ok (.xo x [] []) S1 else .no
theorem de_xo0 {x : Str} {C : Addr} {e : Expr} {es : List Expr} {h : DenA} {p pos : Pos} (F : ClsF X.K X.mg x C) (q : PySem.W.excIn X.K C [.type "ValueError", .type "Exception", .type "BaseException", .type "object"] "ValueError.__new__" = true) (hg : Gl X x) (hd : (x == ("__debug__" : Str)) = false)
    (ha : PA X (e :: es) (tA ⟨X.K, X.mg, X.w⟩ W h)) (he : starEach (e :: es) X.env = (false, eval e X.env) :: starEach es X.env) (hpl : (backTo pos (starEach es X.env)).any (·.1) = false) : PE X (.Call (.Name x p) (e :: es) [] pos) (tE ⟨X.K, X.mg, X.w⟩ W (dXo0 x h)) := by
  refine PE.weaken (pe_xmk (pmk_ownA PySem.F.excBase_ValueError q F.gm F.kp (raises_own F.sb F.tp) hg ha hd he hpl)) fun σ H Q k => tG_mono (lift1 k) fun vs H1 h1 => ?_
  obtain ⟨w, S, fr, ds, rfl, so, fo, r, p⟩ := h1
  dsimp only at p
  split at p
  · rename_i hl
    refine ⟨by rw [← r.length]; exact Nat.le_trans hl (by decide), fun a oe ha hz hf => ?_⟩
    obtain ⟨st, so', _⟩ := Step.put so ha (.frz oe (.ext (AtE a oe)))
    exact p _ _ st so' (.xo0 F.gm upd_same hz hf)
  · exact p.elim
/-- .. whose class keeps one thing -/
theorem mk_xi {C : Addr} {fl : Str} {v : V} {H1 : Hp} {Q : XK} (h : ∀ dx, H1 dx = none → Q (.ref C) (some dx) (upd H1 dx (.xd [(fl, v)]))) : [v].length ≤ 1000 ∧ ∀ a, H1 a = none → spXi C fl (.ref a :: ([v] ++ [])) (upd H1 a (exo a C none))
    (fun v H2 => v = .non ∧ ∃ d fs, H2 a = some (exo a C (some d)) ∧ H2 d = some (exd d fs) ∧ H1 d = none ∧ Q (.ref C) (some d) (upd (L2.del H2 a) d (.xd fs))) (fun _ _ _ => False) := by
  refine ⟨by simp, fun a ha => ⟨a, v, rfl, upd_same, fun dx hdx hne => ?_⟩⟩
  have h1 : H1 dx = none := by
    rw [upd_ne hne] at hdx
    exact hdx
  refine ⟨rfl, dx, [(fl, v)], upd_same, by rw [upd_ne hne, upd_same], h1, ?_⟩
  have e : upd (L2.del (upd (upd (upd H1 a (exo a C none)) dx (exd dx [(fl, v)])) a (exo a C (some dx))) a) dx (.xd [(fl, v)]) = upd H1 dx (.xd [(fl, v)]) := by
    funext b
    by_cases z : b = dx
    · subst z; rw [upd_same, upd_same]
    · rw [upd_ne z, upd_ne z]
      by_cases y : b = a
      · subst y
        rw [ha]
        unfold L2.del
        simp
      · unfold L2.del
        rw [if_neg y, upd_ne y, upd_ne z, upd_ne y]
  rw [e]
  exact h dx h1
theorem no_cx {P : Program} {w : World} : Passes (L2.CX P w) X (fun _ _ _ => False) := fun pins σ H s e s' _ q => by
  obtain ⟨_, _, _, _, _, _, _, _, _, _, _, _, z⟩ := q
  exact z.elim
def dXo1 (x fl : Str) (h : DenA) : DenE := fun fr S => (h fr S).bnd fun ds S1 => match ds with
  | [d] => .ok (.xo x [fl] [d]) S1
  | _ => .no
theorem de_xo1 {x fl : Str} {e : Expr} {es : List Expr} {h : DenA} {p pos : Pos} (I : XI X.prog X.w X.K X.mg X.base x fl) (hr : Room 2 X.A) (hg : Gl X x) (hd : (x == ("__debug__" : Str)) = false)
    (ha : PA X (e :: es) (tA ⟨X.K, X.mg, X.w⟩ W h)) (he : starEach (e :: es) X.env = (false, eval e X.env) :: starEach es X.env) (hpl : (backTo pos (starEach es X.env)).any (·.1) = false) : PE X (.Call (.Name x p) (e :: es) [] pos) (tE ⟨X.K, X.mg, X.w⟩ W (dXo1 x fl h)) := by
  obtain ⟨C, f, fd, ps, hm, T, _, _, hi, ht, hb, F⟩ := I.ex
  refine PE.weaken (pe_xmk (pmk_oex (dvs := []) T hi ht F hr hb .nil no_cx hg hm ha hd he hpl)) fun σ H Q k => tG_mono (lift1 k) fun vs H1 h1 => ?_
  obtain ⟨w, S, fr, ds, rfl, so, fo, r, p⟩ := h1
  dsimp only at p
  split at p
  · rename_i d
    cases r with
    | cons r1 r2 =>
      cases r2
      refine mk_xi (Q := fun cls d H' => ∀ (a : Addr) (oe : Obj), H' a = none → Zc cls d oe → (∃ vs, oe.data = .fields vs) → Q (.ref a) (frozen H' a oe)) fun dx hdx a oe ha hz hf => ?_
      obtain ⟨st1, so1, _⟩ := Step.put so hdx (.xd [(fl, _)])
      obtain ⟨st2, so2, _⟩ := Step.put so1 (p := a) ha (.frz oe (.ext (AtE a oe)))
      have ne : dx ≠ a := fun z => by
        have ha : upd w.H dx (.xd [(fl, _)]) a = none := ha
        rw [← z, upd_same] at ha
        cases ha
      exact p _ _ (st1.trans st2) so2 (.xo1 (us := [(fl, _)]) hm upd_same hz hf (by show upd (upd w.H dx _) a _ dx = _; rw [upd_ne ne, upd_same]) (.cons (rmono (st1.trans st2) r1) .nil))
  · exact p.elim
/-- raise C(e) -/
def dRaise1 (x fl : Str) (h : DenA) : DenS := fun fr S => (h fr S).thn fr fun ds S1 => match ds with
  | [d] => .ex ⟨.gl x, some [(fl, d)]⟩ fr S1
  | _ => .no
theorem ds_raise1 {x fl : Str} {e : Expr} {es : List Expr} {h : DenA} {p pos pos' : Pos} (hc : X.calm = true) (tk : Takes X W) (I : XI X.prog X.w X.K X.mg X.base x fl) (hr : Room 2 X.A) (hg : Gl X x) (hd : (x == ("__debug__" : Str)) = false)
    (ha : PA X (e :: es) (tA ⟨X.K, X.mg, X.w⟩ W h)) (he : starEach (e :: es) X.env = (false, eval e X.env) :: starEach es X.env) (hpl : (backTo pos (starEach es X.env)).any (·.1) = false) : PS X (.Raise (some (.Call (.Name x p) (e :: es) [] pos)) none pos') (tS ⟨X.K, X.mg, X.w⟩ W (dRaise1 x fl h)) := by
  obtain ⟨C, f, fd, ps, hm, T, _, _, hi, ht, hb, F⟩ := I.ex
  refine PS.weaken (ps_raise hc tk (pmk_oex (dvs := []) T hi ht F hr hb .nil no_cx hg hm ha hd he hpl)) fun D σ H q => liftS q fun w S fr ds vs so fo r p => ?_
  split at p
  · rename_i d
    cases r with
    | cons r1 r2 =>
      cases r2
      refine mk_xi (Q := fun cls d H' => W cls d σ H') fun dx hdx => ?_
      obtain ⟨st1, so1, hne⟩ := Step.put so hdx (.xd [(fl, _)])
      exact p _ σ (.ref C) (some dx) st1 so1 (fo.mono st1.toMono) ⟨⟨.ref C, .gl hm, rfl⟩, dx, [(fl, _)], rfl, upd_same, hne, rfl, .cons (rmono st1 r1) .nil⟩
  · exact p.elim

/-! ### fields: an own object's, or what an exception keeps -/
abbrev Xis := Str → Option Str
def xfD (xs : Xis) (f : Str) (d : D) : Option D := match d with
  | .xo c [k] [v] => if xs c = some f ∧ k = f then some v else none
  | _ => none
def dXf (xs : Xis) (f : Str) (h : DenE) : DenE := fun fr S => (h fr S).bnd fun d S1 => .ofO ((xfD xs f d).map fun v => (v, S1))
theorem de_xf {xs : Xis} {f : Str} {o : Expr} {pos : Pos} {h : DenE} (R : ∀ c fl, xs c = some fl → XI X.prog X.w X.K X.mg X.base c fl) (ho : PE X o (tE ⟨X.K, X.mg, X.w⟩ W h)) (hbase : attributeBase o f X.env (eval o X.env) = eval o X.env) : PE X (.Attribute o f pos) (tE ⟨X.K, X.mg, X.w⟩ W (dXf xs f h)) := by
  refine PE.weaken (pe_xfz ho hbase) fun σ H Q q => tG_mono (lift1 q) fun x H1 h1 => ?_
  obtain ⟨w, S, fr, d, rfl, so, fo, r, p⟩ := h1
  dsimp only at p
  unfold xfD at p
  split at p
  · rename_i c k v
    split at p
    · rename_i hk
      obtain ⟨h1, rfl⟩ := hk
      obtain ⟨C, f', fd, ps, hm, T, X1, hno, _⟩ := (R c k h1).ex
      generalize eks : [k] = ks at r
      generalize evs : [v] = vs at r
      cases r with
      | xo0 => cases eks
      | xo1 e1 e2 e3 e4 e5 rr =>
        rename_i C' a dd oe us
        have eC : C' = C := by
          have e1 : X.mg c = some (.ref C') := e1
          rw [hm] at e1
          cases e1
          rfl
        subst eC
        obtain ⟨u, rfl⟩ : ∃ u, us = [(k, u)] := by
          cases us with
          | nil => cases eks
          | cons y ys =>
            cases ys with
            | nil =>
              obtain ⟨y1, y2⟩ := y
              cases eks
              exact ⟨y2, rfl⟩
            | cons => cases eks
        subst evs
        cases rr with
        | cons r1 r2 => exact ⟨a, C', dd, oe, _, u, rfl, e2, e3, e4, e5, X1, hno, by simp, p w u (Step.refl so) so r1⟩
    · exact p.elim
  · exact p.elim
/-- .. by what stands there -/
def dAttr (os : Objs) (xs : Xis) (f : Str) (h : DenE) : DenE := fun fr S => match h fr S with
  | .ok (.xo _ _ _) _ => dXf xs f h fr S
  | _ => dFld os f h fr S
theorem de_attr {os : Objs} {xs : Xis} {f : Str} {o : Expr} {pos : Pos} {h : DenE} (R : ObjR X.K X.mg os) (R2 : ∀ c fl, xs c = some fl → XI X.prog X.w X.K X.mg X.base c fl) (ho : PE X o (tE ⟨X.K, X.mg, X.w⟩ W h)) (hbase : attributeBase o f X.env (eval o X.env) = eval o X.env) :
    PE X (.Attribute o f pos) (tE ⟨X.K, X.mg, X.w⟩ W (dAttr os xs f h)) := by
  refine PE.weaken (PE_or (de_fld R ho hbase) (de_xf R2 ho hbase)) fun σ H Q q => ?_
  obtain ⟨w, S, fr, e, so, fo, p⟩ := q
  unfold dAttr at p
  split at p
  · exact .inr ⟨w, S, fr, e, so, fo, p⟩
  · exact .inl ⟨w, S, fr, e, so, fo, p⟩
end
end DL
/-! DL, part n: from the syntax to its meaning, each step with its proof. -/
namespace DL
open PySem PySem.Spec PyProof.Rows L2

/-- what a module's name holds -/
inductive GK where
  | fn (id ar : Nat)
  | con (d : D)
  | cls (up : List Str) (plain : Bool)
  | xcl (up : List Str) (fl : Str)
abbrev GEnv := List (Str × GK)
/-- the own classes of exceptions -/
def upOf (G : GEnv) : Ups := fun x => match G.lookup x with
  | some (.cls u _) => some u
  | some (.xcl u _) => some u
  | _ => none
/-- what an exception's class keeps -/
def xiOf (G : GEnv) : Xis := fun x => match G.lookup x with
  | some (.xcl _ f) => some f
  | _ => none
/-- what a class without an __init__ of its own stands on -/
def veMro : List Value := [.type "ValueError", .type "Exception", .type "BaseException", .type "object"]
/-- where one stands: the scope, the names by slots, which names may be stored -/
structure Ctx where
  sc : Scope
  N : List Str
  ow : Str → Bool

inductive BK where
  | repr | len | all | any | sum | max | min | tuple | list | int | str | abs | isinstance | range | zip | enumerate
  deriving DecidableEq
def bkTab : List (Str × BK) := [("repr", .repr), ("len", .len), ("all", .all), ("any", .any), ("sum", .sum), ("max", .max), ("min", .min), ("tuple", .tuple), ("list", .list), ("int", .int), ("str", .str), ("abs", .abs), ("isinstance", .isinstance),
  ("range", .range), ("zip", .zip), ("enumerate", .enumerate)]
def BK.val : BK → Value
  | .repr => .builtin "repr" | .len => .builtin "len" | .all => .builtin "all" | .any => .builtin "any" | .sum => .builtin "sum" | .max => .builtin "max" | .min => .builtin "min" | .tuple => .type "tuple" | .list => .type "list"
  | .int => .type "int" | .str => .type "str" | .abs => .builtin "abs" | .isinstance => .builtin "isinstance" | .range => .type "range" | .zip => .type "zip" | .enumerate => .type "enumerate"
/-- the built-in types by name -/
def tyTab : List (Str × String) := [("int", "int"), ("str", "str"), ("bool", "bool"), ("tuple", "tuple"), ("list", "list"), ("dict", "dict"), ("ValueError", "ValueError")]
/-- .. of plain things -/
def plainTys : List Str := ["int", "str", "bool", "tuple", "list", "dict"]
/-- names that the module must leave to the built-ins -/
def freeN : List Str := ["repr", "len", "all", "any", "sum", "max", "min", "tuple", "list", "int", "str", "abs", "isinstance", "range", "zip", "enumerate", "bool", "dict", "ValueError"]
theorem bkTab_ok : ∀ p ∈ bkTab, bootBuiltins p.1 = some p.2.val ∧ p.1 ∈ freeN ∧ p.1 ≠ "__name__" ∧ (p.1 == ("__debug__" : Str)) = false := by decide +kernel
theorem tyTab_ok : ∀ p ∈ tyTab, bootBuiltins p.1 = some (.type p.2) ∧ p.1 ∈ freeN ∧ p.1 ≠ "__name__" ∧ (p.1 == ("__debug__" : Str)) = false := by decide +kernel
theorem mem_of_look {α : Type} : ∀ {l : List (Str × α)} {x : Str} {a : α}, l.lookup x = some a → (x, a) ∈ l := fun h => PySem.mem_of_lookup h

structure FnAt (X : Cx) (k : Nat) (Φ : PhT) (x : Str) (id ar : Nat) : Prop where
  ex : ∃ (a : Addr) (fd : FuncData) (ps : List Str), X.mg x = some (.ref a) ∧ PySem.W.keepIn X.K (.ref a) = true ∧ Binds X.K fd ps [] ∧ FnG X.prog X.w X.K X.mg X.base (L2.CX X.prog X.w) k a fd ps (spD ⟨X.K, X.mg, X.w⟩ ar (Φ id))
structure Amb (G : GEnv) (k : Nat) (Φ : PhT) (c : Ctx) (X : Cx) : Prop where
  sc : X.env.scope = c.sc
  N : X.N = c.N
  nd : X.N.Nodup
  calm : X.calm = true
  room : Room (k + 1) X.A
  k1 : 1 ≤ k
  gd : X.A.guards = some []
  kind : X.env.scope.kind = .function
  po : PassesOwn (model X.prog X.w) X.A X.env X.xe
  ow : ∀ y, c.ow y = true → X.fn y = true
  fn : ∀ x id ar, G.lookup x = some (.fn id ar) → FnAt X k Φ x id ar
  con : ∀ x d, G.lookup x = some (.con d) → ∃ v u, X.mg x = some u ∧ RelV v u ∧ ∀ w, Rep ⟨X.K, X.mg, X.w⟩ w d v
  free : ∀ x ∈ freeN, X.mg x = none
  cls : ClsR X.K X.mg (upOf G)
  rs : ∀ x u C, G.lookup x = some (.cls u true) → X.mg x = some (.ref C) → PySem.W.excIn X.K C veMro "ValueError.__new__" = true
  xi : ∀ x u f, G.lookup x = some (.xcl u f) → XI X.prog X.w X.K X.mg X.base x f
theorem Amb.hu {G : GEnv} {k : Nat} {Φ : PhT} {c : Ctx} {X : Cx} (A : Amb G k Φ c X) : X.A.units + 200 < cLine := by
  have := A.room.un
  omega

theorem Amb.rm {G : GEnv} {k : Nat} {Φ : PhT} {c : Ctx} {X : Cx} (A : Amb G k Φ c X) : Room k X.A := ⟨A.room.hd, by have := A.room.dp; omega, by have := A.room.un; omega⟩
theorem Amb.rm2 {G : GEnv} {k : Nat} {Φ : PhT} {c : Ctx} {X : Cx} (A : Amb G k Φ c X) : Room 2 X.A := ⟨A.room.hd, by have := A.room.dp; have := A.k1; omega, by have := A.room.un; have := A.k1; omega⟩
theorem Amb.xiR {G : GEnv} {k : Nat} {Φ : PhT} {c : Ctx} {X : Cx} (A : Amb G k Φ c X) : ∀ x f, xiOf G x = some f → XI X.prog X.w X.K X.mg X.base x f := fun x f h => by
  unfold xiOf at h
  split at h
  · rename_i u f' q
    cases h
    exact A.xi x u f q
  · cases h
theorem ObjR.none {K : PySem.W.Frag} {mg : Str → Option Value} : ObjR K mg (fun _ => none) := ⟨fun c i h => by cases h⟩
/-- a def's own frame -/
structure AmbS (G : GEnv) (k : Nat) (Φ : PhT) (c : Ctx) (X : Cx) : Prop extends Amb G k Φ c X where
  stk : X.stack = X.env :: X.outer
  frm : X.env.frame = some X.env.locals
  ex : X.ex = []
theorem AmbS.tr {G : GEnv} {k : Nat} {Φ : PhT} {c : Ctx} {X : Cx} (B : AmbS G k Φ c X) (pn : List (Addr × Obj)) (xe : Value → Shared → Prop) (po : PassesOwn (model X.prog X.w) X.A X.env xe) : AmbS G k Φ c (X.tr pn xe) where
  sc := B.sc
  N := B.N
  nd := B.nd
  calm := B.calm
  room := B.room
  k1 := B.k1
  gd := B.gd
  kind := B.kind
  po := po
  ow := B.ow
  fn := fun x id ar h => ⟨(B.fn x id ar h).ex⟩
  con := B.con
  free := B.free
  cls := B.cls
  rs := B.rs
  xi := fun x u f h => ⟨(B.xi x u f h).ex⟩
  stk := B.stk
  frm := B.frm
  ex := B.ex
structure CE (G : GEnv) (c : Ctx) (e : Expr) where
  den : PhT → DenE
  ok : ∀ (Φ : PhT) (k : Nat) (X : Cx) (W : WX), Amb G k Φ c X → Takes X W → PE X e (tE ⟨X.K, X.mg, X.w⟩ W (den Φ))
structure CL (G : GEnv) (c : Ctx) (e : Expr) where
  den : PhT → DenA
  ok : ∀ (Φ : PhT) (k : Nat) (X : Cx) (W : WX), Amb G k Φ c X → Takes X W → PE X e (tL ⟨X.K, X.mg, X.w⟩ W (den Φ))
structure CT (G : GEnv) (c : Ctx) (e : Expr) where
  den : PhT → DenT
  ok : ∀ (Φ : PhT) (k : Nat) (X : Cx) (W : WX), Amb G k Φ c X → Takes X W → PT X e (tT ⟨X.K, X.mg, X.w⟩ W (den Φ))
structure CW (G : GEnv) (c : Ctx) (e : Expr) where
  den : PhT → DenT
  ok : ∀ (Φ : PhT) (k : Nat) (X : Cx) (W : WX), Amb G k Φ c X → Takes X W → PW X e (tT ⟨X.K, X.mg, X.w⟩ W (den Φ))
structure CA (G : GEnv) (c : Ctx) (es : List Expr) where
  den : PhT → DenA
  star : es.all (fun e => !isStar e) = true
  ok : ∀ (Φ : PhT) (k : Nat) (X : Cx) (W : WX), Amb G k Φ c X → Takes X W → PA X es (tA ⟨X.K, X.mg, X.w⟩ W (den Φ))
structure CI (G : GEnv) (c : Ctx) (tg e : Expr) where
  den : PhT → Fr → Sto → Out Src
  ok : ∀ (Φ : PhT) (k : Nat) (X : Cx) (W : WX), Amb G k Φ c X → Takes X W → PI X tg e (tI ⟨X.K, X.mg, X.w⟩ W (den Φ))
structure CG (G : GEnv) (c : Ctx) (is : List Nat) (e : Expr) where
  den : DTg
  ok : ∀ (Φ : PhT) (k : Nat) (X : Cx), Amb G k Φ c X → PG X e (tGt ⟨X.K, X.mg, X.w⟩ is den)
structure CGs (G : GEnv) (c : Ctx) (is : List Nat) (es : List Expr) where
  den : DTgs
  star : es.all (fun e => !isStar e) = true
  ok : ∀ (Φ : PhT) (k : Nat) (X : Cx), Amb G k Φ c X → PGs X es (tGts ⟨X.K, X.mg, X.w⟩ is den)
structure CS (G : GEnv) (c : Ctx) (st : Stmt) where
  den : PhT → DenS
  ok : ∀ (Φ : PhT) (k : Nat) (X : Cx) (W : WX), AmbS G k Φ c X → Takes X W → PS X st (tS ⟨X.K, X.mg, X.w⟩ W (den Φ))
structure CSs (G : GEnv) (c : Ctx) (st : List Stmt) where
  den : PhT → DenS
  ok : ∀ (Φ : PhT) (k : Nat) (X : Cx) (W : WX), AmbS G k Φ c X → Takes X W → PSs X st (tS ⟨X.K, X.mg, X.w⟩ W (den Φ))

/-! ### names -/
def ixOf : List Str → Str → Option Nat
  | [], _ => none
  | y :: ys, x => if y = x then some 0 else (ixOf ys x).map (· + 1)
theorem ixOf_ok : ∀ {N : List Str} {x : Str} {i : Nat}, ixOf N x = some i → N[i]? = some x
  | [], _, _, h => by cases h
  | y :: ys, x, i, h => by
    unfold ixOf at h
    by_cases e : y = x
    · rw [if_pos e] at h
      cases h
      rw [e]
      rfl
    · rw [if_neg e] at h
      cases q : ixOf ys x with
      | none => rw [q] at h; cases h
      | some j =>
        rw [q] at h
        cases h
        show ys[j]? = some x
        exact ixOf_ok q
def visB (sc : Scope) (x : Str) : Bool := match sc.names.lookup x with
  | some .local => true
  | some .cell => true
  | some .free => true
  | _ => false
theorem visB_ok {sc : Scope} {x : Str} (h : visB sc x = true) : Vis sc x := by
  unfold visB at h
  split at h
  · rename_i e; exact .inl e
  · rename_i e; exact .inr (.inl e)
  · rename_i e; exact .inr (.inr e)
  · cases h
def locB (sc : Scope) (x : Str) : Bool := match sc.names.lookup x with
  | some .local => true
  | some .cell => true
  | _ => false
theorem locB_ok {sc : Scope} {x : Str} (h : locB sc x = true) : Loc sc x := by
  unfold locB at h
  split at h
  · rename_i e; exact .inl e
  · rename_i e; exact .inr e
  · cases h
def isLoc (sc : Scope) (x : Str) : Bool := match sc.names.lookup x with
  | some .local => true
  | _ => false
theorem isLoc_ok {sc : Scope} {x : Str} (h : isLoc sc x = true) : sc.names.lookup x = some .local := by
  unfold isLoc at h
  split at h
  · assumption
  · cases h
def glB (sc : Scope) (x : Str) : Bool := match sc.names.lookup x with
  | some .globalImplicit => true
  | _ => false
theorem glB_ok {sc : Scope} {x : Str} (h : glB sc x = true) : sc.names.lookup x = some .globalImplicit := by
  unfold glB at h
  split at h
  · assumption
  · cases h
/-- no name with two bars ahead -/
def okN (x : Str) : Bool := x.cps[1]? != some 95
theorem okN_dbg {x : Str} (h : okN x = true) : (x == ("__debug__" : Str)) = false ∧ (x == ("__classdict__" : Str)) = false := by
  have h1 : (("__debug__" : Str)).cps[1]? = some 95 := by decide +kernel
  have h2 : (("__classdict__" : Str)).cps[1]? = some 95 := by decide +kernel
  unfold okN at h
  refine ⟨?_, ?_⟩
  · cases q : x == ("__debug__" : Str) with
    | false => rfl
    | true =>
      have e : x = ("__debug__" : Str) := by simpa using q
      rw [e, h1] at h
      cases h
  · cases q : x == ("__classdict__" : Str) with
    | false => rfl
    | true =>
      have e : x = ("__classdict__" : Str) := by simpa using q
      rw [e, h2] at h
      cases h
section
variable {G : GEnv} {c : Ctx}
theorem Amb.gl {k : Nat} {Φ : PhT} {X : Cx} (A : Amb G k Φ c X) {x : Str} (h : glB c.sc x = true) : Gl X x := by
  show X.env.scope.names.lookup x = _
  rw [A.sc]
  exact glB_ok h
theorem Amb.vis {k : Nat} {Φ : PhT} {X : Cx} (A : Amb G k Φ c X) {x : Str} (h : visB c.sc x = true) : Vis X.env.scope x := by
  rw [A.sc]
  exact visB_ok h
theorem Amb.loc {k : Nat} {Φ : PhT} {X : Cx} (A : Amb G k Φ c X) {x : Str} (h : locB c.sc x = true) : Loc X.env.scope x := by
  rw [A.sc]
  exact locB_ok h
theorem Amb.lk {k : Nat} {Φ : PhT} {X : Cx} (A : Amb G k Φ c X) {x : Str} (h : isLoc c.sc x = true) : X.env.scope.names.lookup x = some .local := by
  rw [A.sc]
  exact isLoc_ok h
theorem Amb.ix {k : Nat} {Φ : PhT} {X : Cx} (A : Amb G k Φ c X) {x : Str} {i : Nat} (h : ixOf c.N x = some i) : X.N[i]? = some x := by
  rw [A.N]
  exact ixOf_ok h
/-- a name that may be stored -/
def stB (c : Ctx) (x : Str) : Bool := locB c.sc x && (c.ow x || isLoc c.sc x)
theorem Amb.st {k : Nat} {Φ : PhT} {X : Cx} (A : Amb G k Φ c X) {x : Str} (h : stB c x = true) : Loc X.env.scope x ∧ (X.fn x = true ∨ X.env.scope.names.lookup x = some .local) := by
  unfold stB at h
  rw [Bool.and_eq_true, Bool.or_eq_true] at h
  refine ⟨A.loc h.1, ?_⟩
  rcases h.2 with q | q
  · exact .inl (A.ow _ q)
  · exact .inr (A.lk q)

/-! ### expressions -/
def sName (x : Str) (pos : Pos) : Option (CE G c (.Name x pos)) :=
  if hn : okN x = true then
    if hv : visB c.sc x = true then
      match hi : ixOf c.N x with
      | some i => some ⟨fun _ => dVar i, fun Φ k X W A tk => de_var (pe_var (A.ix hi) (A.vis hv) (okN_dbg hn).1 (okN_dbg hn).2)⟩
      | none => none
    else if hg : glB c.sc x = true then
      match hq : G.lookup x with
      | some (.con d) => some ⟨fun _ => dC d, fun Φ k X W A tk => by
          obtain ⟨v, u, h1, h2, h3⟩ := A.con x d hq
          exact de_con h3 (pe_glob (A.gl hg) h1 h2 (okN_dbg hn).1)⟩
      | some (.fn id ar) => some ⟨fun _ => dC (.gl x), fun Φ k X W A tk => by
          obtain ⟨a, fd, ps, h1, _⟩ := (A.fn x id ar hq).ex
          exact de_con (v := .ref a) (fun w => .gl h1) (pe_glob (A.gl hg) h1 rfl (okN_dbg hn).1)⟩
      | some (.cls u b) => some ⟨fun _ => dC (.gl x), fun Φ k X W A tk => by
          obtain ⟨C, F⟩ := A.cls.at_ x u (by unfold upOf; rw [hq])
          exact de_con (v := .ref C) (fun w => .gl F.gm) (pe_glob (A.gl hg) F.gm rfl (okN_dbg hn).1)⟩
      | some (.xcl u b) => some ⟨fun _ => dC (.gl x), fun Φ k X W A tk => by
          obtain ⟨C, F⟩ := A.cls.at_ x u (by unfold upOf; rw [hq])
          exact de_con (v := .ref C) (fun w => .gl F.gm) (pe_glob (A.gl hg) F.gm rfl (okN_dbg hn).1)⟩
      | none => match ht : tyTab.lookup x with
        | some n => some ⟨fun _ => dC (.ty n), fun Φ k X W A tk => by
            obtain ⟨h1, h2, h3, h4⟩ := tyTab_ok _ (mem_of_look ht)
            exact de_con (v := .ty n) (fun w => .ty n) (pe_bltn (A.gl hg) (A.free x h2) h1 rfl h3 h4)⟩
        | none => none
    else none
  else none
def sConst : (v : Const) → (j : Nat) → (pos : Pos) → Option (CE G c (.Constant v j pos))
  | .int i, j, pos => some ⟨fun _ => dC (.int i), fun Φ k X W A tk => de_con (fun w => .int i) pe_int⟩
  | .bool b, j, pos => some ⟨fun _ => dC (.bl b), fun Φ k X W A tk => de_con (fun w => .bl b) pe_bl⟩
  | .none, j, pos => some ⟨fun _ => dC .non, fun Φ k X W A tk => de_con (fun w => .non) pe_non⟩
  | .str x, j, pos => some ⟨fun _ => dC (.str x), fun Φ k X W A tk => de_con (fun w => .str x) pe_str⟩
  | _, _, _ => none
/-- an operator's meaning -/
def opF : Operator → Option F2
  | .Add => some aAdd | .Sub => some aSub | .Mult => some aMul | .Mod => some aMod | .FloorDiv => some aFDiv | .Pow => some aPow | .LShift => some aShl
  | _ => none
theorem opF_ok {X : Cx} {op : Operator} {f : F2} (h : opF op = some f) : OpR X (binaryOp op) (r2 ⟨X.K, X.mg, X.w⟩ f) := by
  cases op <;> cases h
  · exact opr_add
  · exact opr_sub
  · exact opr_mul
  · exact opr_mod
  · exact opr_pow
  · exact opr_shl
  · exact opr_fdiv
def cmpF : CmpOp → F2
  | .Eq => aEq | .NotEq => aNe | .Lt => aLt | .LtE => aLe | .Gt => aGt | .GtE => aGe | .Is => aIs | .IsNot => aIsNot | .In => aIn | .NotIn => aNotIn
theorem cmpF_ok {X : Cx} (hu : X.A.units + 200 < cLine) (op : CmpOp) : OpR X (compareOp op) (r2 ⟨X.K, X.mg, X.w⟩ (cmpF op)) := by
  cases op
  · exact opr_eq hu
  · exact opr_ne hu
  · exact opr_lt
  · exact opr_le
  · exact opr_gt
  · exact opr_ge
  · exact opr_is
  · exact opr_isNot
  · exact opr_in hu
  · exact opr_notIn hu
def sBin (a : Expr) (op : Operator) (b : Expr) (pos : Pos) (ca : Option (CE G c a)) (cb : Option (CE G c b)) : Option (CE G c (.BinOp a op b pos)) :=
  match ca, cb, hf : opF op with
  | some ca, some cb, some f => some ⟨fun Φ => dOp f (ca.den Φ) (cb.den Φ), fun Φ k X W A tk => de_op (opF_ok hf) (ca.ok Φ k X W A tk) (cb.ok Φ k X W A tk)⟩
  | _, _, _ => none
def sCmp (a : Expr) (op : CmpOp) (b : Expr) (pos : Pos) (ca : Option (CE G c a)) (cb : Option (CE G c b)) : Option (CE G c (.Compare a [op] [b] pos)) :=
  match ca, cb with
  | some ca, some cb => if h : isSetE b = false then some ⟨fun Φ => dOp (cmpF op) (ca.den Φ) (cb.den Φ), fun Φ k X W A tk => de_cmp (cmpF_ok A.hu op) (ca.ok Φ k X W A tk) (cb.ok Φ k X W A tk) (behind_ok h)⟩ else none
  | _, _ => none
def sCmpT (a : Expr) (op : CmpOp) (b : Expr) (pos : Pos) (ca : Option (CE G c a)) (cb : Option (CE G c b)) : Option (CT G c (.Compare a [op] [b] pos)) :=
  match ca, cb with
  | some ca, some cb => if h : isSetE b = false then some ⟨fun Φ => dCmpT (cmpF op) (ca.den Φ) (cb.den Φ), fun Φ k X W A tk => dt_cmp (cmpF_ok A.hu op) (ca.ok Φ k X W A tk) (cb.ok Φ k X W A tk) (behind_ok h)⟩ else none
  | _, _ => none
def sChain (a : Expr) (op op' : CmpOp) (b d : Expr) (pos : Pos) (ca : Option (CE G c a)) (cb : Option (CE G c b)) (cd : Option (CE G c d)) : Option (CE G c (.Compare a [op, op'] [b, d] pos)) :=
  match ca, cb, cd with
  | some ca, some cb, some cd => if h : isSetE d = false then some ⟨fun Φ => dChain (cmpF op) (cmpF op') (ca.den Φ) (cb.den Φ) (cd.den Φ), fun Φ k X W A tk => de_chain (cmpF_ok A.hu op) (cmpF_ok A.hu op') (ca.ok Φ k X W A tk) (cb.ok Φ k X W A tk) (cd.ok Φ k X W A tk) (last_ok h)⟩ else none
  | _, _, _ => none
def sChainT (a : Expr) (op op' : CmpOp) (b d : Expr) (pos : Pos) (ca : Option (CE G c a)) (cb : Option (CE G c b)) (cd : Option (CE G c d)) : Option (CT G c (.Compare a [op, op'] [b, d] pos)) :=
  match ca, cb, cd with
  | some ca, some cb, some cd => if h : isSetE d = false then some ⟨fun Φ => dChainT (cmpF op) (cmpF op') (ca.den Φ) (cb.den Φ) (cd.den Φ), fun Φ k X W A tk => dt_chain (cmpF_ok A.hu op) (cmpF_ok A.hu op') (ca.ok Φ k X W A tk) (cb.ok Φ k X W A tk) (cd.ok Φ k X W A tk) (last_ok h)⟩ else none
  | _, _, _ => none
def dNeg (f : DenE) : DenE := fun fr S => (f fr S).bnd fun d S' => match d with
  | .int i => .ok (.int (-i)) S'
  | _ => .no
theorem de_neg {X : Cx} {W : WX} {a : Expr} {pos : Pos} {f : DenE} (ha : PE X a (tE ⟨X.K, X.mg, X.w⟩ W f)) : PE X (.UnaryOp .USub a pos) (tE ⟨X.K, X.mg, X.w⟩ W (dNeg f)) := by
  refine PE.weaken (pe_un un_neg ha) fun σ H Q h => tG_mono (lift1 h) fun x H1 q => ?_
  obtain ⟨w, S, fr, d, rfl, so, fo, r, p⟩ := q
  dsimp only at p
  split at p
  · cases r
    exact ⟨_, rfl, p w _ (Step.refl so) so (.int _)⟩
  · exact p.elim
def sUn : (op : UnaryOp) → (a : Expr) → (pos : Pos) → Option (CE G c a) → Option (CE G c (.UnaryOp op a pos))
  | .Not, a, pos, some ca => some ⟨fun Φ => dNotV (ca.den Φ), fun Φ k X W A tk => de_not (ca.ok Φ k X W A tk)⟩
  | .USub, a, pos, some ca => some ⟨fun Φ => dNeg (ca.den Φ), fun Φ k X W A tk => de_neg (ca.ok Φ k X W A tk)⟩
  | _, _, _, _ => none
/-- and, or by values -/
def sBools (rec_ : (e : Expr) → Option (CE G c e)) (pos : Pos) : (op : BoolOp) → (es : List Expr) → Option (CE G c (.BoolOp op es pos))
  | op, [a] => match rec_ a with
    | some ca => some ⟨ca.den, fun Φ k X W A tk => pe_one (ca.ok Φ k X W A tk)⟩
    | none => none
  | .And, a :: b :: r => match rec_ a, sBools rec_ pos .And (b :: r) with
    | some ca, some cb => some ⟨fun Φ => dAndV (ca.den Φ) (cb.den Φ), fun Φ k X W A tk => de_and (ca.ok Φ k X W A tk) (cb.ok Φ k X W A tk)⟩
    | _, _ => none
  | .Or, a :: b :: r => match rec_ a, sBools rec_ pos .Or (b :: r) with
    | some ca, some cb => some ⟨fun Φ => dOrV (ca.den Φ) (cb.den Φ), fun Φ k X W A tk => de_or (ca.ok Φ k X W A tk) (cb.ok Φ k X W A tk)⟩
    | _, _ => none
  | _, _ => none
def sBoolsW (rec_ : (e : Expr) → Option (CT G c e)) (pos : Pos) : (op : BoolOp) → (es : List Expr) → Option (CW G c (.BoolOp op es pos))
  | .And, [a] => match rec_ a with
    | some ca => some ⟨ca.den, fun Φ k X W A tk => pw_and1 (ca.ok Φ k X W A tk)⟩
    | none => none
  | .Or, [a] => match rec_ a with
    | some ca => some ⟨ca.den, fun Φ k X W A tk => pw_or1 (ca.ok Φ k X W A tk)⟩
    | none => none
  | .And, a :: b :: r => match rec_ a, sBoolsW rec_ pos .And (b :: r) with
    | some ca, some cb => some ⟨fun Φ => dTAnd (ca.den Φ) (cb.den Φ), fun Φ k X W A tk => dw_and (ca.ok Φ k X W A tk) (cb.ok Φ k X W A tk)⟩
    | _, _ => none
  | .Or, a :: b :: r => match rec_ a, sBoolsW rec_ pos .Or (b :: r) with
    | some ca, some cb => some ⟨fun Φ => dTOr (ca.den Φ) (cb.den Φ), fun Φ k X W A tk => dw_or (ca.ok Φ k X W A tk) (cb.ok Φ k X W A tk)⟩
    | _, _ => none
  | _, _ => none
def sArgs (rec_ : (e : Expr) → Option (CE G c e)) : (es : List Expr) → Option (CA G c es)
  | [] => some ⟨fun _ => dANil, rfl, fun Φ k X W A tk => da_nil⟩
  | e :: es => match rec_ e, sArgs rec_ es with
    | some ce, some cs => if h : isStar e = false then some ⟨fun Φ => dACons (ce.den Φ) (cs.den Φ), by rw [List.all_cons, cs.star, h]; rfl, fun Φ k X W A tk => da_cons (ce.ok Φ k X W A tk) (cs.ok Φ k X W A tk) (star_cons h)⟩ else none
    | _, _ => none
def sIf (t a b : Expr) (pos : Pos) (ct : Option (CT G c t)) (ca : Option (CE G c a)) (cb : Option (CE G c b)) : Option (CE G c (.IfExp t a b pos)) :=
  match ct, ca, cb with
  | some ct, some ca, some cb => some ⟨fun Φ => dIf (ct.den Φ) (ca.den Φ) (cb.den Φ), fun Φ k X W A tk => de_if (ct.ok Φ k X W A tk) (ca.ok Φ k X W A tk) (cb.ok Φ k X W A tk)⟩
  | _, _, _ => none
def sIx (a b : Expr) (pos : Pos) (ca : Option (CE G c a)) (cb : Option (CE G c b)) : Option (CE G c (.Subscript a b pos)) :=
  match ca, cb with
  | some ca, some cb => if h : isSlice b = false then some ⟨fun Φ => dOp aIx (ca.den Φ) (cb.den Φ), fun Φ k X W A tk => de_ix A.hu (ca.ok Φ k X W A tk) (cb.ok Φ k X W A tk) (plainIx h)⟩ else none
  | _, _ => none
structure CO (G : GEnv) (c : Ctx) (e : Option Expr) where
  den : PhT → Option DenE
  ok : ∀ (Φ : PhT) (k : Nat) (X : Cx) (W : WX), Amb G k Φ c X → Takes X W → PO X e (tO ⟨X.K, X.mg, X.w⟩ W (dPart (den Φ)))
def sPart (rec_ : (e : Expr) → Option (CE G c e)) : (e : Option Expr) → Option (CO G c e)
  | none => some ⟨fun _ => none, fun Φ k X W A tk => do_none⟩
  | some e => match rec_ e with
    | some ce => some ⟨fun Φ => some (ce.den Φ), fun Φ k X W A tk => do_some (ce.ok Φ k X W A tk)⟩
    | none => none
def sSl (e : Expr) (lo hi : Option Expr) (p2 pos : Pos) (ce : Option (CE G c e)) (cl : Option (CO G c lo)) (ch : Option (CO G c hi)) : Option (CE G c (.Subscript e (.Slice lo hi none p2) pos)) :=
  match ce, cl, ch with
  | some ce, some cl, some ch => some ⟨fun Φ => dSl (ce.den Φ) (cl.den Φ) (ch.den Φ), fun Φ k X W A tk => de_sl (ce.ok Φ k X W A tk) (cl.ok Φ k X W A tk) (ch.ok Φ k X W A tk)⟩
  | _, _, _ => none

/-! ### calls -/
def sCallFn (x : Str) (es : List Expr) (p pos : Pos) (id ar : Nat) (hq : G.lookup x = some (.fn id ar)) (hg : glB c.sc x = true) (hn : okN x = true) (cs : Option (CA G c es)) : Option (CE G c (.Call (.Name x p) es [] pos)) :=
  match es, cs with
  | [], _ => if h0 : ar = 0 then some ⟨fun Φ => dCall 0 (Φ id) dANil, fun Φ k X W A tk => by
      subst h0
      obtain ⟨a, fd, ps, h1, h2, h3, h4⟩ := (A.fn x id 0 hq).ex
      exact de_call0 h4 A.rm A.gd (A.gl hg) h1 h2 h3 tk (okN_dbg hn).1⟩ else none
  | e :: es, some cs => some ⟨fun Φ => dCall ar (Φ id) (cs.den Φ), fun Φ k X W A tk => by
      obtain ⟨a, fd, ps, h1, h2, h3, h4⟩ := (A.fn x id ar hq).ex
      have hs := cs.star
      rw [List.all_cons, Bool.and_eq_true] at hs
      exact de_call h4 A.rm A.gd (A.gl hg) h1 h2 h3 tk (cs.ok Φ k X W A tk) (okN_dbg hn).1 (star_cons (by simpa using hs.1)) (star_any hs.2)⟩
  | _, none => none
theorem Amb.blt {k : Nat} {Φ : PhT} {X : Cx} (A : Amb G k Φ c X) {x : Str} {t : BK} (h : bkTab.lookup x = some t) : X.mg x = none ∧ bootBuiltins x = some t.val ∧ x ≠ "__name__" ∧ (x == ("__debug__" : Str)) = false := by
  obtain ⟨h1, h2, h3, h4⟩ := bkTab_ok _ (mem_of_look h)
  exact ⟨A.free x h2, h1, h3, h4⟩
/-- what a place offers to a built-in function -/
structure Fine (G : GEnv) (X : Cx) : Prop where
  calm : X.calm = true
  gd : X.A.guards = some []
  hu : X.A.units + 200 < cLine
  cl : ClsR X.K X.mg (upOf G)
/-- a built-in function's call by data -/
def sB (x : Str) (e : Expr) (es : List Expr) (p pos : Pos) (t : BK) (id : String) (f : FB) (ht : bkTab.lookup x = some t) (hid : t.val = .builtin id) (hg : glB c.sc x = true) (hc : ∀ X : Cx, Fine G X → CallR X (.builtin id) (rB ⟨X.K, X.mg, X.w⟩ f))
    (cs : CA G c (e :: es)) : CE G c (.Call (.Name x p) (e :: es) [] pos) := ⟨fun Φ => dB f (cs.den Φ), fun Φ k X W A tk => by
      obtain ⟨h1, h2, h3, h4⟩ := A.blt ht
      have hs := cs.star
      rw [List.all_cons, Bool.and_eq_true] at hs
      exact de_callB (hc X ⟨A.calm, A.gd, A.hu, A.cls⟩) (A.gl hg) h1 (by rw [h2, hid]) (cs.ok Φ k X W A tk) h3 h4 (star_cons (by simpa using hs.1)) (star_any hs.2)⟩
def sTy (x : Str) (e : Expr) (es : List Expr) (p pos : Pos) (t : BK) (id : String) (f : FB) (ht : bkTab.lookup x = some t) (hid : t.val = .type id) (hg : glB c.sc x = true) (hc : ∀ X : Cx, X.calm = true → CallR X (.type id) (rB ⟨X.K, X.mg, X.w⟩ f))
    (cs : CA G c (e :: es)) : CE G c (.Call (.Name x p) (e :: es) [] pos) := ⟨fun Φ => dB f (cs.den Φ), fun Φ k X W A tk => by
      obtain ⟨h1, h2, h3, h4⟩ := A.blt ht
      have hs := cs.star
      rw [List.all_cons, Bool.and_eq_true] at hs
      exact de_callTy (hc X A.calm) (A.gl hg) h1 (by rw [h2, hid]) (cs.ok Φ k X W A tk) h3 h4 (star_cons (by simpa using hs.1)) (star_any hs.2)⟩
def sBT (x : Str) (e : Expr) (p pos : Pos) (t : BK) (id : String) (f : FB) (ht : bkTab.lookup x = some t) (hid : t.val = .builtin id) (hg : glB c.sc x = true) (hc : ∀ X : Cx, X.calm = true → CallR X (.builtin id) (rBT ⟨X.K, X.mg, X.w⟩ f))
    (cl : CL G c e) : Option (CE G c (.Call (.Name x p) [e] [] pos)) := if h : isStar e = false then some ⟨fun Φ => dB f (cl.den Φ), fun Φ k X W A tk => by
      obtain ⟨h1, h2, h3, h4⟩ := A.blt ht
      exact de_callBT (hc X A.calm) (A.gl hg) h1 (by rw [h2, hid]) (cl.ok Φ k X W A tk) h3 h4 (star_cons h) rfl⟩ else none
def sTyT (x : Str) (e : Expr) (p pos : Pos) (t : BK) (id : String) (f : FB) (ht : bkTab.lookup x = some t) (hid : t.val = .type id) (hg : glB c.sc x = true) (hc : ∀ X : Cx, X.calm = true → CallR X (.type id) (rBT ⟨X.K, X.mg, X.w⟩ f))
    (cl : CL G c e) : Option (CE G c (.Call (.Name x p) [e] [] pos)) := if h : isStar e = false then some ⟨fun Φ => dB f (cl.den Φ), fun Φ k X W A tk => by
      obtain ⟨h1, h2, h3, h4⟩ := A.blt ht
      exact de_callTyT (hc X A.calm) (A.gl hg) h1 (by rw [h2, hid]) (cl.ok Φ k X W A tk) h3 h4 (star_cons h) rfl⟩ else none
/-- a function of one list: of a list just made, or of any -/
def sSeqB (x : Str) (e : Expr) (p pos : Pos) (t : BK) (id : String) (f : FB) (ht : bkTab.lookup x = some t) (hid : t.val = .builtin id) (hg : glB c.sc x = true) (hc : ∀ X : Cx, X.calm = true → CallR X (.builtin id) (rLst ⟨X.K, X.mg, X.w⟩ f))
    (cl : Option (CL G c e)) (cs : Option (CA G c [e])) : Option (CE G c (.Call (.Name x p) [e] [] pos)) := match cl, cs with
  | some cl, _ => sBT x e p pos t id f ht hid hg (fun X h => CallR.imp (hc X h) fun _ _ _ q => rLst_T q) cl
  | none, some cs => some (sB x e [] p pos t id (onLst f) ht hid hg (fun X h => CallR.imp (hc X h.calm) fun _ _ _ q => rLst_D q) cs)
  | none, none => none
def isPlainTy : Expr → Bool
  | .Name x _ => plainTys.contains x
  | _ => false
def sCallB (x : Str) (es : List Expr) (p pos : Pos) (t : BK) (ht : bkTab.lookup x = some t) (hg : glB c.sc x = true) (recL : (e : Expr) → Option (CL G c e)) (cs : Option (CA G c es)) : Option (CE G c (.Call (.Name x p) es [] pos)) :=
  match t, ht, es, cs with
  | .len, ht, [e], some cs => some (sB x e [] p pos _ "len" fLen ht rfl hg (fun _ _ => c_len) cs)
  | .repr, ht, [e], some cs => some (sB x e [] p pos _ "repr" fRepr ht rfl hg (fun _ h => c_repr h.hu h.gd) cs)
  | .abs, ht, [e], some cs => some (sB x e [] p pos _ "abs" fAbs ht rfl hg (fun _ _ => c_abs) cs)
  | .isinstance, ht, [e, e2], some cs => if isPlainTy e2 then some (sB x e [e2] p pos _ "isinstance" fIsi ht rfl hg (fun _ _ => c_isi) cs) else some (sB x e [e2] p pos _ "isinstance" (fIsiX (upOf G)) ht rfl hg (fun _ h => c_isiX h.cl) cs)
  | .max, ht, [e, e2], some cs => some (sB x e [e2] p pos _ "max" fMax2 ht rfl hg (fun _ h => c_max2 h.calm) cs)
  | .min, ht, [e, e2], some cs => some (sB x e [e2] p pos _ "min" fMin2 ht rfl hg (fun _ h => c_min2 h.calm) cs)
  | .int, ht, [e], some cs => some (sTy x e [] p pos _ "int" fInt ht rfl hg (fun _ _ => c_int) cs)
  | .str, ht, [e], some cs => some (sTy x e [] p pos _ "str" fStr ht rfl hg (fun _ _ => c_str) cs)
  | .all, ht, [e], cs => sSeqB x e p pos _ "all" fAll ht rfl hg (fun _ h => c_all h) (recL e) cs
  | .any, ht, [e], cs => sSeqB x e p pos _ "any" fAny ht rfl hg (fun _ h => c_any h) (recL e) cs
  | .sum, ht, [e], cs => sSeqB x e p pos _ "sum" fSum ht rfl hg (fun _ h => c_sum h) (recL e) cs
  | .max, ht, [e], cs => sSeqB x e p pos _ "max" fMax ht rfl hg (fun _ h => c_max h) (recL e) cs
  | .min, ht, [e], cs => sSeqB x e p pos _ "min" fMin ht rfl hg (fun _ h => c_min h) (recL e) cs
  | .tuple, ht, [e], cs => match recL e, cs with
    | some cl, _ => sTyT x e p pos _ "tuple" fTup ht rfl hg (fun _ _ => c_tupT) cl
    | none, some cs => some (sTy x e [] p pos _ "tuple" (onSeq fTup) ht rfl hg (fun _ _ => c_tup) cs)
    | none, none => none
  | .list, ht, [e], some cs => some (sTy x e [] p pos _ "list" (onSeq fList) ht rfl hg (fun _ _ => c_list) cs)
  | _, _, _, _ => none
/-- an exception made -/
def sMkX (x : Str) (es : List Expr) (p pos : Pos) (u : List Str) (b : Bool) (hq : G.lookup x = some (.cls u b)) (hg : glB c.sc x = true) (hn : okN x = true) (cs : Option (CA G c es)) : Option (CE G c (.Call (.Name x p) es [] pos)) :=
  match es, cs, b, hq with
  | e :: es, some cs, true, hq => some ⟨fun Φ => dXo0 x (cs.den Φ), fun Φ k X W A tk => by
      obtain ⟨C, F⟩ := A.cls.at_ x u (by unfold upOf; rw [hq])
      have hs := cs.star
      rw [List.all_cons, Bool.and_eq_true] at hs
      exact de_xo0 F (A.rs x u C hq F.gm) (A.gl hg) (okN_dbg hn).1 (cs.ok Φ k X W A tk) (star_cons (by simpa using hs.1)) (star_any hs.2)⟩
  | _, _, _, _ => none
def sMkX1 (x : Str) (es : List Expr) (p pos : Pos) (u : List Str) (f : Str) (hq : G.lookup x = some (.xcl u f)) (hg : glB c.sc x = true) (hn : okN x = true) (cs : Option (CA G c es)) : Option (CE G c (.Call (.Name x p) es [] pos)) :=
  match es, cs with
  | e :: es, some cs => some ⟨fun Φ => dXo1 x f (cs.den Φ), fun Φ k X W A tk => by
      have hs := cs.star
      rw [List.all_cons, Bool.and_eq_true] at hs
      exact de_xo1 (A.xi x u f hq) A.rm2 (A.gl hg) (okN_dbg hn).1 (cs.ok Φ k X W A tk) (star_cons (by simpa using hs.1)) (star_any hs.2)⟩
  | _, _ => none
/-- o.f -/
def sAttr (o : Expr) (f : Str) (pos : Pos) (co : Option (CE G c o)) : Option (CE G c (.Attribute o f pos)) := match co with
  | some co => if h : isCall0 o = false then some ⟨fun Φ => dAttr (fun _ => none) (xiOf G) f (co.den Φ), fun Φ k X W A tk => de_attr ObjR.none A.xiR (co.ok Φ k X W A tk) (base_ok h)⟩ else none
  | none => none
def sCall (x : Str) (es : List Expr) (p pos : Pos) (recL : (e : Expr) → Option (CL G c e)) (cs : Option (CA G c es)) : Option (CE G c (.Call (.Name x p) es [] pos)) :=
  if hn : okN x = true then
    if hg : glB c.sc x = true then
      match hq : G.lookup x with
      | some (.fn id ar) => sCallFn x es p pos id ar hq hg hn cs
      | some (.con _) => none
      | some (.cls u b) => sMkX x es p pos u b hq hg hn cs
      | some (.xcl u f) => sMkX1 x es p pos u f hq hg hn cs
      | none => match ht : bkTab.lookup x with
        | some t => sCallB x es p pos t ht hg recL cs
        | none => none
    else none
  else none
/-- max(xs, default=d) -/
def sMaxD (r : (e : Expr) → Option (CL G c e)) (rE : (e : Expr) → Option (CE G c e)) : (x : Str) → (p : Pos) → (e : Expr) → (nm : Option Str) → (k : Expr) → (kpos pos : Pos) → Option (CE G c (.Call (.Name x p) [e] [⟨nm, k, kpos⟩] pos))
  | x, p, e, some nm, k, kpos, pos => if h : ((x = "max" ∧ nm = "default") ∧ glB c.sc x = true) ∧ isStar e = false then match r e, rE k with
    | some cl, some ck => some ⟨fun Φ => dMaxD (cl.den Φ) (ck.den Φ), fun Φ k X W A tk => by
        obtain ⟨⟨⟨rfl, rfl⟩, hg⟩, hs⟩ := h
        exact de_maxD A.calm (A.gl hg) (A.free "max" (by decide +kernel)) (cl.ok Φ k X W A tk) (ck.ok Φ k X W A tk) (star_cons hs)⟩
    | _, _ => none
    else none
  | _, _, _, none, _, _, _ => none
end
end DL
/-! DL, part o: displays of dicts; the compiler goes on. -/
namespace DL
open PySem PySem.Spec PyProof.Rows L2

/-! ### dict displays -/
def evP : List (DenE × DenE) → Fr → Sto → Out (List (D × D))
  | [], _, S => .ok [] S
  | p :: r, fr, S => (p.1 fr S).bnd fun x S1 => (p.2 fr S1).bnd fun y S2 => (evP r fr S2).bnd fun l S3 => .ok ((x, y) :: l) S3
def keysD : List (D × D) → Option (List (Key × D))
  | [] => some []
  | p :: r => match keyD p.1, keysD r with
    | some k, some l => some ((k, p.2) :: l)
    | _, _ => none
def mergeD (kvs more : List (Key × D)) : List (Key × D) := more.foldl (fun acc kv => putD acc kv.1 kv.2) kvs
def dDict (ps : List (DenE × DenE)) : DenE := fun fr S => (evP ps fr S).bnd fun l S' => match keysD l with
  | some kvs => if kvs.length ≤ 15 then .ok (.ob S'.length) (S' ++ [.dk (mergeD [] kvs)]) else .no
  | none => .no
def RPs (g : Gnd) (w : Wd) (l : List (D × D)) (vs : List (V × V)) : Prop := Reps g w (l.map (·.1)) (vs.map (·.1)) ∧ Reps g w (l.map (·.2)) (vs.map (·.2))
theorem lift_pairs {g : Gnd} {W : WX} {σ : L2.St} : ∀ (ps : List (DenE × DenE)) (H : Hp) {Q : List (V × V) → Hp → Prop}, tG g W (RPs g) (evP ps) σ H Q → tPairs (ps.map fun p => (tE g W p.1, tE g W p.2)) σ H Q
  | [], H, Q, h => by
    obtain ⟨w, S, fr, rfl, so, fo, p⟩ := h
    exact p w [] (Step.refl so) so ⟨.nil, .nil⟩
  | p :: r, H, Q, h => by
    show tE g W p.1 σ H fun x H1 => tE g W p.2 σ H1 fun y H2 => tPairs (r.map fun p => (tE g W p.1, tE g W p.2)) σ H2 fun ps H3 => Q ((x, y) :: ps) H3
    refine tG_mono (lift2 (R1 := Rep g) (R2 := Rep g) (R := RPs g) (k := fun x y fr S2 => (evP r fr S2).bnd fun l S3 => .ok ((x, y) :: l) S3) (fun _ _ _ _ s r => rmono s r) h) fun x H1 h1 => tG_mono h1 fun y H2 h2 => lift_pairs r H2 ?_
    refine tG_mono (next1 (R1 := fun w (p : D × D) (q : V × V) => Rep g w p.1 q.1 ∧ Rep g w p.2 q.2) (R2 := RPs g) (R := RPs g) (k := fun a l fr S => .ok ((a.1, a.2) :: l) S) (x := (x, y)) (fun _ _ _ _ s r => ⟨rmono s r.1, rmono s r.2⟩) h2) fun l H3 h3 => ?_
    obtain ⟨w, S, fr, q, rfl, so, fo, ⟨⟨rx, ry⟩, rl⟩, p⟩ := h3
    exact p w _ (Step.refl so) so ⟨.cons rx rl.1, .cons ry rl.2⟩
theorem keysD_ok {g : Gnd} {w : Wd} : ∀ {l : List (D × D)} {vs : List (V × V)} {kvs : List (Key × D)}, RPs g w l vs → keysD l = some kvs →
    ∃ kus : List (Key × V), vs = kus.map (fun kv => (kV kv.1, kv.2)) ∧ kvs.map (·.1) = kus.map (·.1) ∧ Reps g w (kvs.map (·.2)) (kus.map (·.2))
  | [], vs, kvs, r, e => by
    cases e
    cases vs with
    | nil => exact ⟨[], rfl, rfl, .nil⟩
    | cons a b => cases r.1
  | p :: l, vs, kvs, r, e => by
    cases vs with
    | nil => cases r.1
    | cons a b =>
      unfold keysD at e
      split at e
      · rename_i k l' ek el
        cases e
        cases r.1 with
        | cons r1 r2 =>
          cases r.2 with
          | cons r3 r4 =>
            obtain ⟨kus, e1, e2, e3⟩ := keysD_ok ⟨r2, r4⟩ el
            refine ⟨(k, a.2) :: kus, ?_, ?_, .cons r3 e3⟩
            · show a :: b = (kV k, a.2) :: _
              rw [← e1, ← keyD_ok r1 ek]
            · show k :: l'.map (·.1) = k :: kus.map (·.1)
              rw [e2]
      · cases e
theorem mergeD_ok {g : Gnd} {w : Wd} : ∀ {more : List (Key × D)} {moreV : List (Key × V)} {kvs : List (Key × D)} {kus : List (Key × V)}, more.map (·.1) = moreV.map (·.1) → Reps g w (more.map (·.2)) (moreV.map (·.2)) →
    kvs.map (·.1) = kus.map (·.1) → Reps g w (kvs.map (·.2)) (kus.map (·.2)) → (mergeD kvs more).map (·.1) = (mergeK kus moreV).map (·.1) ∧ Reps g w ((mergeD kvs more).map (·.2)) ((mergeK kus moreV).map (·.2))
  | [], [], _, _, _, _, e, r => ⟨e, r⟩
  | [], _ :: _, _, _, q, _, _, _ => by cases q
  | _ :: _, [], _, _, q, _, _, _ => by cases q
  | p :: more, q :: moreV, kvs, kus, e1, r1, e, r => by
    cases r1 with
    | cons rx r2 =>
      have h1 : p.1 = q.1 := (List.cons.inj e1).1
      obtain ⟨h2, h3, _⟩ := putD_ok (k := p.1) rx e r
      have := mergeD_ok (List.cons.inj e1).2 r2 h2 h3
      rw [h1] at this
      show (mergeD (putD kvs p.1 p.2) more).map (·.1) = (mergeK (putK kus q.1 q.2) moreV).map (·.1) ∧ Reps g w ((mergeD (putD kvs p.1 p.2) more).map (·.2)) ((mergeK (putK kus q.1 q.2) moreV).map (·.2))
      rw [h1]
      exact this
theorem len_of_map {α β γ : Type} {f : α → γ} {h : β → γ} {l : List α} {l' : List β} (e : l.map f = l'.map h) : l.length = l'.length := by
  have := congrArg List.length e
  simpa using this
theorem de_dict {X : Cx} {W : WX} {pos : Pos} {keys : List (Option Expr)} {values : List Expr} {ps : List (DenE × DenE)} (h : PPs X pos keys values (ps.map fun p => (tE ⟨X.K, X.mg, X.w⟩ W p.1, tE ⟨X.K, X.mg, X.w⟩ W p.2)))
    (hall : keys.all (·.isSome) = true) (hl : keys.length = values.length) (h0 : keys ≠ []) (h15 : keys.length ≤ 15) : PE X (.Dict keys values pos) (tE ⟨X.K, X.mg, X.w⟩ W (dDict ps)) := by
  refine PE.weaken (pe_disp h hall hl h0 h15) fun σ H Q q p hp => ?_
  obtain ⟨w, S, fr, rfl, so, fo, p0⟩ := q
  obtain ⟨st, so1, hn⟩ := Step.put so hp (.dK [])
  refine lift_pairs ps _ ⟨w.put p (.dK []), S, fr, rfl, so1, fo.mono st.toMono, ?_⟩
  have p0 : Post _ w (Rep _) ((evP ps fr S).bnd fun l S' => match keysD l with
    | some kvs => if kvs.length ≤ 15 then .ok (.ob S'.length) (S' ++ [.dk (mergeD [] kvs)]) else .no
    | none => .no) Q (fun c d H' => W c d σ H') := p0
  cases e : evP ps fr S with
  | no => rw [e] at p0; exact p0
  | ex x S1 =>
    rw [e] at p0
    exact fun w' c dx s' so' rx => p0 w' c dx (st.trans s') so' rx
  | ok l S1 =>
    rw [e] at p0
    intro w1 vs st1 so2 r
    obtain ⟨hu, hne⟩ := st1.untracked (p := p) (o := .dK []) upd_same hn
    refine ⟨hu, ?_⟩
    dsimp only [Out.bnd] at p0
    split at p0
    · rename_i kvs ek
      split at p0
      · rename_i h15'
        obtain ⟨kus, e1, e2, r2⟩ := keysD_ok r ek
        refine ⟨kus, e1, by rw [← len_of_map e2]; exact h15', ?_⟩
        have hk : ∀ b, b ≠ p → (upd w1.H p (.dK (mergeK [] kus))) b = w1.H b := fun b e => upd_ne e
        have mo : Mono w1 (w1.put p (.dK (mergeK [] kus))) := by
          refine ⟨Nat.le_refl _, fun _ _ => rfl, fun a xs e => ?_, fun a ob u e => ?_, fun a us e => ?_⟩
          · show upd w1.H p (.dK (mergeK [] kus)) a = _
            rw [hk a (ne_of e hu (by intro z; cases z))]
            exact e
          · show upd w1.H p (.dK (mergeK [] kus)) a = _
            rw [hk a (ne_of e hu (by intro z; cases z))]
            exact e
          · show upd w1.H p (.dK (mergeK [] kus)) a = _
            rw [hk a (ne_of e hu (by intro z; cases z))]
            exact e
        have so3 : SOk _ (w1.put p (.dK (mergeK [] kus))) S1 := so2.mono mo rfl fun i hi => hk _ (hne i hi)
        obtain ⟨m1, m2⟩ := mergeD_ok (kvs := []) (kus := []) e2 r2 rfl .nil
        have hlen : (mergeD [] kvs).length ≤ sizeLine := by
          have h1 := length_mergeK kus []
          have h2 := len_of_map m1
          have h3 := len_of_map e2
          rw [List.length_nil] at h1
          rw [sizeLine_eq]
          omega
        obtain ⟨so4, mo4, rr⟩ := Step.adoptO (p := p) (ob := .dk (mergeD [] kvs)) so3 (show upd w1.H p (.dK (mergeK [] kus)) p = _ from upd_same) hne (.dk hlen m1 (Reps.mono mo _ _ m2))
        have st13 := st.trans st1
        refine p0 _ _ ⟨(st13.toMono.trans mo).trans mo4, fun b o hb hx => ?_, fun i h1 h2 => ?_, fun i hi => so4.al i hi⟩ so4 rr
        · show upd w1.H p (.dK (mergeK [] kus)) b = _
          rw [upd_ne (ne_of_none hb hp)]
          exact st13.kp b o hb hx
        · have h2 : i < w1.n + 1 := h2
          by_cases e : i = w1.n
          · show w.H (if i = w1.n then p else w1.m i) = none
            rw [if_pos e]
            exact hp
          · show w.H (if i = w1.n then p else w1.m i) = none
            rw [if_neg e]
            exact st13.fr i h1 (by omega)
      · exact p0.elim
    · exact p0.elim
theorem de_dict0 {X : Cx} {W : WX} {pos : Pos} : PE X (.Dict [] [] pos) (tE ⟨X.K, X.mg, X.w⟩ W (dDict [])) := by
  refine PE.weaken pe_dnewK fun σ H Q q p hp => ?_
  obtain ⟨w, S, fr, rfl, so, fo, p0⟩ := q
  obtain ⟨st, so1, rr⟩ := Step.new so hp (o := .dk []) (ho := .dK []) (.dk (Nat.zero_le _) rfl .nil)
  exact p0 _ _ st so1 rr
end DL
/-! DM, part e: xs[a:c] = another list. -/
namespace DL
open PySem PySem.Spec PyProof.Rows L2
section
variable {X : Cx} {W : WX} {o e : Expr} {lo hi : Option Expr} {to : TE} {tl th : TO} {p2 pos : Pos}
abbrev TSl := V → Option Int → Option Int → V → Hp → (Hp → Prop) → Prop
def PSetSl (X : Cx) (t : TSl) : Prop :=
  ∀ (pins : List (Addr × Obj)) (s : Shared) (σ : L2.St) (H : Hp) (o v : V) (ov vl vu u : Value) (l h : Option Int) (sl : Addr) (Q : Hp → Prop), Inv X pins σ H s → RelV o ov → RelV v u → s.heap.IsSliceOf sl vl vu .none → IsPart vl l → IsPart vu h → t o l h v H Q →
    wpAny (model X.prog X.w) X.A (setItem ov (.ref sl) u) (fun _ s' => ∃ H', Inv X pins σ H' s' ∧ Q H') X.xe s
def gSubSl (to : TE) (tl th : TO) (t : TSl) : TG := fun v σ H Q => to σ H fun o H1 => tl σ H1 fun l H2 => th σ H2 fun u H3 => t o l u v H3 fun H4 => Q σ H4
theorem pg_subSl {t : TSl} (ho : PE X o to) (hl : PO X lo tl) (hu : PO X hi th) (hs : PSetSl X t) : PG X (.Subscript o (.Slice lo hi none p2) pos) (gSubSl to tl th t) := by
  refine ⟨fun pins s σ H v u Q I r h => ?_⟩
  have ha : assign (.Subscript o (.Slice lo hi none p2) pos) X.env u = (do
      let ov ← holding [u] (eval o X.env)
      let iv ← holding [u, ov] (eval (.Slice lo hi none p2) X.env)
      standAt pos
      holding [u, ov, iv] (setItem ov iv u)
      release [iv, u, ov] []) := rfl
  rw [ha]
  refine wpAny_bind (wpAny_holding (thn (ho.run pins s σ H _ I h) fun ov s1 ⟨x, H1, I1, r1, q1⟩ => ?_))
  refine wpAny_bind (wpAny_holding (wpAny_Slice (thn (hl.run pins s1 σ H1 _ I1 q1) fun vl s2 ⟨l, H2, I2, pl, q2⟩ => thn (hu.run pins s2 σ H2 _ I2 q2) fun vu s3 ⟨uu, H3, I3, pu, q3⟩ => ?_)))
  rw [evalPart_none]
  refine wpAny_pure ?_
  have I4 : Inv X pins σ H3 { s3 with heap := s3.heap.push { cls := .type "slice", data := .fields #[vl, vu, .none] } } := I3.kept (t' := s3.toks) fun b ob q => Heap.get?_push_of_some _ q
  refine wpAny_bind (wpAny_standAt (wpAny_bind (wpAny_holding (thn (hs pins _ σ H3 x v ov vl vu u l uu s3.heap.objs.size _ I4 r1 r (Heap.IsSliceOf.new ..) pl pu q3) fun _ s4 ⟨H4, I5, q4⟩ => ?_))))
  exact wpAny_release ⟨σ, H4, I5, q4⟩
def aSetSl (o : D) (l u : Option Int) (v : D) (S : Sto) : Option Sto := match o, l, u, v with
  | .ob n, some a, some c, .ob m => match S[n]?, S[m]? with
    | some (.lst xs), some (.lst ys) => if (n ≠ m ∧ 0 ≤ a) ∧ (a ≤ c ∧ c ≤ xs.length) ∧ xs.length + ys.length ≤ sizeLine then some (S.set n (.lst (xs.take a.toNat ++ ys ++ xs.drop c.toNat))) else none
    | _, _ => none
  | _, _, _, _ => none
def dSetSl (o : DenE) (lo hi : Option DenE) (e : DenE) : DenS := fun fr S => (e fr S).thn fr fun v S1 => (o fr S1).thn fr fun x S2 => (dPart lo fr S2).thn fr fun l S3 => (dPart hi fr S3).thn fr fun u S4 => match aSetSl x l u v S4 with
  | some S5 => .ok .nx fr S5
  | none => .no
def rSl4 (g : Gnd) : TSl := fun o l u v H Q => ∃ w S od vd, w.H = H ∧ SOk g w S ∧ Rep g w od o ∧ Rep g w vd v ∧ match aSetSl od l u vd S with
  | some S' => ∀ w', Step w w' → SOk g w' S' → Q w'.H
  | none => False
theorem aSetSl_inv {o v : D} {l u : Option Int} {S S' : Sto} (h : aSetSl o l u v S = some S') : ∃ (n : Nat) (a c : Int) (m : Nat) (xs ys : List D), o = .ob n ∧ l = some a ∧ u = some c ∧ v = .ob m ∧ S[n]? = some (.lst xs) ∧ S[m]? = some (.lst ys) ∧
    (n ≠ m ∧ 0 ≤ a) ∧ (a ≤ c ∧ c ≤ xs.length) ∧ xs.length + ys.length ≤ sizeLine ∧ S' = S.set n (.lst (xs.take a.toNat ++ ys ++ xs.drop c.toNat)) := by
  unfold aSetSl at h
  split at h
  · rename_i n a c m
    split at h
    · rename_i xs ys q1 q2
      split at h
      · rename_i hc
        cases h
        exact ⟨n, a, c, m, xs, ys, rfl, rfl, rfl, rfl, q1, q2, hc.1, hc.2.1, hc.2.2, rfl⟩
      · cases h
    · cases h
  · cases h
theorem setSl : PSetSl X (rSl4 ⟨X.K, X.mg, X.w⟩) := by
  intro pins s σ H o v ov vl vu u l h sl Q I ro rv hs pl pu hh
  obtain ⟨w, S, od, vd, rfl, so, r1, r2, k⟩ := hh
  cases q : aSetSl od l h vd S with
  | none => rw [q] at k; exact k.elim
  | some S' =>
    rw [q] at k
    obtain ⟨n, a, c, m, xs, ys, rfl, rfl, rfl, rfl, q1, q2, ⟨hne, h0⟩, ⟨hac, hcl⟩, hz, rfl⟩ := aSetSl_inv q
    cases r1
    cases r2
    obtain ⟨vs, hv, rv', l1⟩ := so.sql q1
    obtain ⟨us, hu, ru', l2⟩ := so.sql q2
    have e1 := rv'.length
    have e2 := ru'.length
    obtain ⟨st, so'⟩ := Step.write so (so.lt q1) (o := .lst (xs.take a.toNat ++ ys ++ xs.drop c.toNat)) (ho := .lst (vs.take a.toNat ++ us ++ vs.drop c.toNat)) (.lst (by
      rw [List.length_append, List.length_append, List.length_take, List.length_drop]
      omega) (((rv'.take _).append ru').append (rv'.drop _)))
    obtain rfl : ov = .ref (w.m n) := ro
    obtain rfl : u = .ref (w.m m) := rv
    have ra : RelV (.int a) vl := by
      cases pl with
      | int i t => exact ⟨t, rfl⟩
    have rc : RelV (.int c) vu := by
      cases pu with
      | int i t => exact ⟨t, rfl⟩
    exact set_slice I hv hu (fun e => hne (so.inj n m (so.lt q1) (so.lt q2) e)) hs ra rc h0 hac (by omega) (by omega) fun s' I' => ⟨_, I', k _ st so'⟩
theorem ds_setSl {fo fe : DenE} {fl fh : Option DenE} {tpos : Pos} (he : PE X e (tE ⟨X.K, X.mg, X.w⟩ W fe)) (ho : PE X o (tE ⟨X.K, X.mg, X.w⟩ W fo)) (hl : PO X lo (tO ⟨X.K, X.mg, X.w⟩ W (dPart fl))) (hh : PO X hi (tO ⟨X.K, X.mg, X.w⟩ W (dPart fh)))
    (hs : swapsWithSole [.Subscript o (.Slice lo hi none p2) tpos] e pos.line X.env = pure false) (hw : swappedStores [.Subscript o (.Slice lo hi none p2) tpos] e X.env = pure none)
    (h1 : (assignEach [.Subscript o (.Slice lo hi none p2) tpos] X.env).map (·.2) = [assign (.Subscript o (.Slice lo hi none p2) tpos) X.env]) : PS X (.Assign [.Subscript o (.Slice lo hi none p2) tpos] e pos) (tS ⟨X.K, X.mg, X.w⟩ W (dSetSl fo fl fh fe)) := by
  refine PS.weaken (ps_asg he (pg_subSl ho hl hh setSl) hs hw h1) fun D σ H q => liftS q fun w S fr v x so fo1 r p => ?_
  refine nextS (R1 := Rep _) (R2 := Rep _) (fun _ _ _ _ s r => rmono s r) so fo1 r p fun w2 S2 od o2 so2 fo2 r2 ro p2 => ?_
  refine nextS (R1 := fun w (p : DL.D × DL.D) (q : V × V) => Rep _ w p.1 q.1 ∧ Rep _ w p.2 q.2) (a := (v, od)) (x := (x, o2)) (R2 := fun _ a b => a = b) (fun _ _ _ _ s r => ⟨rmono s r.1, rmono s r.2⟩) so2 fo2 ⟨r2, ro⟩ p2 fun w3 S3 l l3 so3 fo3 r3 rl p3 => ?_
  refine nextS (R1 := fun w (p : DL.D × DL.D) (q : V × V) => Rep _ w p.1 q.1 ∧ Rep _ w p.2 q.2) (a := (v, od)) (x := (x, o2)) (R2 := fun _ a b => a = b) (fun _ _ _ _ s r => ⟨rmono s r.1, rmono s r.2⟩) so3 fo3 r3 p3 fun w4 S4 u u4 so4 fo4 r4 ru p4 => ?_
  subst rl ru
  refine ⟨w4, S4, od, v, rfl, so4, r4.2, r4.1, ?_⟩
  cases q : aSetSl od l u v S4 with
  | none => rw [q] at p4; exact p4.elim
  | some S5 =>
    rw [q] at p4
    exact fun w' st so' => p4 w' σ st so' (fo4.mono st.toMono)
end
end DL
/-! DL, part p: from the syntax to its meaning, the rest. -/
namespace DL
open PySem PySem.Spec PyProof.Rows L2
noncomputable section

structure Cps (G : GEnv) where
  E : (c : Ctx) → (e : Expr) → Option (CE G c e)
  L : (c : Ctx) → (e : Expr) → Option (CL G c e)
  T : (c : Ctx) → (e : Expr) → Option (CT G c e)
structure CP (G : GEnv) (c : Ctx) (keys : List (Option Expr)) (values : List Expr) where
  den : PhT → List (DenE × DenE)
  some_ : keys.all (·.isSome) = true
  len : keys.length = values.length
  ok : ∀ (Φ : PhT) (k : Nat) (X : Cx) (W : WX) (pos : Pos), Amb G k Φ c X → Takes X W → PPs X pos keys values ((den Φ).map fun p => (tE ⟨X.K, X.mg, X.w⟩ W p.1, tE ⟨X.K, X.mg, X.w⟩ W p.2))
structure CTs (G : GEnv) (c : Ctx) (es : List Expr) where
  den : PhT → DenT
  ok : ∀ (Φ : PhT) (k : Nat) (X : Cx) (W : WX), Amb G k Φ c X → Takes X W → PTs X es (tT ⟨X.K, X.mg, X.w⟩ W (den Φ))

/-- the inside of a comprehension -/
def Ctx.blk (c : Ctx) (scope : Scope) : Ctx := ⟨relS scope c.sc, c.N, fun y => scope.names.lookup y == some .cell⟩
def ownOf (N : List Str) (scope : Scope) : List (Str × Nat) := scope.names.filterMap fun p => if p.2 = .local ∨ p.2 = .cell then (ixOf N p.1).map fun i => (p.1, i) else none
theorem Amb.blk {G : GEnv} {c : Ctx} {k : Nat} {Φ : PhT} {X : Cx} (A : Amb G k Φ c X) {scope : Scope} (hk : scope.kind = .function) (s : Shared) (H : Hp) (C : Addr) (cl : List (Str × Addr)) (fp : List Addr) :
    Amb G k Φ (c.blk scope) (X.blk s H scope (compEnvC scope cl C X.env) fp) where
  sc := by
    show relS scope X.env.scope = relS scope c.sc
    rw [A.sc]
  N := A.N
  nd := A.nd
  calm := A.calm
  room := A.room
  k1 := A.k1
  gd := A.gd
  kind := hk
  po := PassesOwn.never
  ow := fun y h => h
  fn := fun x id ar h => ⟨(A.fn x id ar h).ex⟩
  con := A.con
  free := A.free
  cls := A.cls
  rs := A.rs
  xi := fun x u f h => ⟨(A.xi x u f h).ex⟩

section
variable {G : GEnv} {c : Ctx}
def sTupE (es : List Expr) (n : Nat) (pos : Pos) (cs : Option (CA G c es)) : Option (CE G c (.Tuple es n pos)) := match cs with
  | some cs => some ⟨fun Φ => dTup (cs.den Φ), fun Φ k X W A tk => de_tup (cs.ok Φ k X W A tk)⟩
  | none => none
def sLstE (es : List Expr) (pos : Pos) (cs : Option (CA G c es)) : Option (CE G c (.List es pos)) := match cs with
  | some cs => some ⟨fun Φ => dLst (cs.den Φ), fun Φ k X W A tk => de_lst (cs.ok Φ k X W A tk)⟩
  | none => none
def sLstL (es : List Expr) (pos : Pos) (cs : Option (CA G c es)) : Option (CL G c (.List es pos)) := match cs with
  | some cs => some ⟨fun Φ => dLstT (cs.den Φ), fun Φ k X W A tk => dl_lst (cs.ok Φ k X W A tk)⟩
  | none => none
def sKeep {e : Expr} (cl : Option (CL G c e)) : Option (CE G c e) := match cl with
  | some cl => some ⟨fun Φ => dKeep (cl.den Φ), fun Φ k X W A tk => de_keep (cl.ok Φ k X W A tk)⟩
  | none => none
def sPairs (rec_ : (e : Expr) → Option (CE G c e)) : (keys : List (Option Expr)) → (values : List Expr) → Option (CP G c keys values)
  | [], [] => some ⟨fun _ => [], rfl, rfl, fun _ _ _ _ _ _ _ => pps_nil⟩
  | some a :: ks, b :: vs => match rec_ a, rec_ b, sPairs rec_ ks vs with
    | some ca, some cb, some cp => some ⟨fun Φ => (ca.den Φ, cb.den Φ) :: cp.den Φ, by rw [List.all_cons, cp.some_]; rfl, by rw [List.length_cons, List.length_cons, cp.len],
        fun Φ k X W pos A tk => pps_cons (ca.ok Φ k X W A tk) (cb.ok Φ k X W A tk) (cp.ok Φ k X W pos A tk)⟩
    | _, _, _ => none
  | _, _ => none
def sDict (pos : Pos) : (keys : List (Option Expr)) → (values : List Expr) → Option (CP G c keys values) → Option (CE G c (.Dict keys values pos))
  | [], [], _ => some ⟨fun _ => dDict [], fun Φ k X W A tk => de_dict0⟩
  | a :: ks, vs, some cp => if h15 : (a :: ks).length ≤ 15 then some ⟨fun Φ => dDict (cp.den Φ), fun Φ k X W A tk => de_dict (cp.ok Φ k X W pos A tk) cp.some_ cp.len (by intro h; cases h) h15⟩ else none
  | _, _, _ => none

/-! ### targets -/
def sTgN (is : List Nat) (x : Str) (pos : Pos) : Option (CG G c is (.Name x pos)) :=
  if hs : stB c x = true then
    match hi : ixOf c.N x with
    | some i => if hm : i ∈ is then some ⟨gN i, fun Φ k X A => dg_name A.nd (A.ix hi) (A.st hs).1 (A.st hs).2 hm⟩ else none
    | none => none
  else none
def sTgs {is : List Nat} (rec_ : (e : Expr) → Option (CG G c is e)) : (es : List Expr) → Option (CGs G c is es)
  | [] => some ⟨gsNil, rfl, fun Φ k X A => dgs_nil⟩
  | e :: es => match rec_ e, sTgs rec_ es with
    | some ce, some cs => if h : isStar e = false then some ⟨gsCons ce.den cs.den, by rw [List.all_cons, cs.star, h]; rfl, fun Φ k X A => dgs_cons (ce.ok Φ k X A) (cs.ok Φ k X A) (assign_cons h)⟩ else none
    | _, _ => none
def sTg (is : List Nat) : Nat → (e : Expr) → Option (CG G c is e)
  | 0, _ => none
  | _ + 1, .Name x pos => sTgN is x pos
  | n + 1, .Tuple es m pos => match sTgs (sTg is n) es with
    | some cs => some ⟨gT es.length cs.den, fun Φ k X A => dg_tup A.calm (cs.ok Φ k X A) assign_len (assign_find cs.star)⟩
    | none => none
  | _ + 1, _ => none

/-! ### what is walked through -/
def sIterG (r : Cps G) (tg iter : Expr) : Option (CI G c tg iter) := match r.L c iter with
  | some cl => some ⟨fun Φ => dIT (cl.den Φ), fun Φ k X W A tk => di_t (cl.ok Φ k X W A tk)⟩
  | none => match r.E c iter with
    | some ce => some ⟨fun Φ => dISeq (ce.den Φ), fun Φ k X W A tk => di_seq (ce.ok Φ k X W A tk)⟩
    | none => none
theorem star1 {a : Expr} {env : Env} (h : [a].all (fun e => !isStar e) = true) : starEach [a] env = [(false, eval a env)] := by
  rw [List.all_cons, Bool.and_eq_true] at h
  exact star_cons (es := []) (by simpa using h.1)
theorem star2 {a b : Expr} {env : Env} (h : [a, b].all (fun e => !isStar e) = true) : starEach [a, b] env = [(false, eval a env), (false, eval b env)] ∧ starEach [b] env = [(false, eval b env)] := by
  rw [List.all_cons, Bool.and_eq_true] at h
  have h2 := star1 (env := env) h.2
  refine ⟨?_, h2⟩
  rw [star_cons (by simpa using h.1), h2]
def sRange (r : Cps G) (tg : Expr) (p pos : Pos) (hg : glB c.sc "range" = true) : (es : List Expr) → Option (CI G c tg (.Call (.Name "range" p) es [] pos))
  | [a] => match sArgs (r.E c) [a] with
    | some cs => some ⟨fun Φ => dIRange1 (cs.den Φ), fun Φ k X W A tk => di_range1 (A.gl hg) (A.free _ (by decide +kernel)) (cs.ok Φ k X W A tk) (star1 cs.star)⟩
    | none => none
  | [a, b] => match sArgs (r.E c) [a, b] with
    | some cs => some ⟨fun Φ => dIRange2 (cs.den Φ), fun Φ k X W A tk => di_range2 (A.gl hg) (A.free _ (by decide +kernel)) (cs.ok Φ k X W A tk) (star2 cs.star).1 (star2 cs.star).2⟩
    | none => none
  | _ => none
def sZip (r : Cps G) (p pos : Pos) (hg : glB c.sc "zip" = true) : (tg : Expr) → (es : List Expr) → Option (CI G c tg (.Call (.Name "zip" p) es [] pos))
  | .Tuple elts kk tpos, [a, b] => match sArgs (r.E c) [a, b] with
    | some cs => some ⟨fun Φ => dIZip (cs.den Φ), fun Φ k X W A tk => by
        have hs := cs.star
        rw [List.all_cons, Bool.and_eq_true] at hs
        exact di_zip (A.gl hg) (A.free _ (by decide +kernel)) (cs.ok Φ k X W A tk) (star_cons (by simpa using hs.1)) (star_any hs.2)⟩
    | none => none
  | _, _ => none
def sEnum (r : Cps G) (p pos : Pos) (hg : glB c.sc "enumerate" = true) : (tg : Expr) → (es : List Expr) → Option (CI G c tg (.Call (.Name "enumerate" p) es [] pos))
  | .Tuple elts kk tpos, [a] => match r.L c a with
    | some cl => if h : isStar a = false then some ⟨fun Φ => dIEnumT (cl.den Φ), fun Φ k X W A tk => di_enumT (A.gl hg) (A.free _ (by decide +kernel)) (cl.ok Φ k X W A tk) (star_cons (es := []) h)⟩ else none
    | none => match sArgs (r.E c) [a] with
      | some cs => some ⟨fun Φ => dIEnum (cs.den Φ), fun Φ k X W A tk => di_enum (A.gl hg) (A.free _ (by decide +kernel)) (cs.ok Φ k X W A tk) (star1 cs.star)⟩
      | none => none
  | _, _ => none
def sIter (r : Cps G) (tg : Expr) : (iter : Expr) → Option (CI G c tg iter)
  | .Call (.Name x p) es [] pos =>
    if hx : x = "range" then if hg : glB c.sc "range" = true then (by subst hx; exact sRange r tg p pos hg es) else none
    else if hx : x = "zip" then if hg : glB c.sc "zip" = true then (by subst hx; exact sZip r p pos hg tg es) else none
    else if hx : x = "enumerate" then if hg : glB c.sc "enumerate" = true then (by subst hx; exact sEnum r p pos hg tg es) else none
    else sIterG r tg _
  | iter => sIterG r tg iter

/-! ### comprehensions -/
def sTs (rec_ : (e : Expr) → Option (CT G c e)) : (es : List Expr) → Option (CTs G c es)
  | [] => some ⟨fun _ => dYes, fun Φ k X W A tk => dts_nil⟩
  | [e] => match rec_ e with
    | some ct => some ⟨ct.den, fun Φ k X W A tk => pts_one (ct.ok Φ k X W A tk)⟩
    | none => none
  | _ => none
structure Lc (G : GEnv) (c : Ctx) (elt tg iter : Expr) (ifs : List Expr) (scope : Scope) where
  ci : CI G c tg iter
  cg : CG G (c.blk scope) ((ownOf c.N scope).map (·.2)) tg
  ct : CTs G (c.blk scope) ifs
  ce : CE G (c.blk scope) elt
  ok : blkC c.N c.sc scope (ownOf c.N scope) = true
  set : isSetE iter = false
def sLc (r : Cps G) (elt tg iter : Expr) (ifs : List Expr) (scope : Scope) : Option (Lc G c elt tg iter ifs scope) :=
  match sIter r tg iter, sTg (G := G) (c := c.blk scope) ((ownOf c.N scope).map (·.2)) 3 tg, sTs (G := G) (c := c.blk scope) (r.T (c.blk scope)) ifs, r.E (c.blk scope) elt with
  | some ci, some cg, some ct, some ce => if h : blkC c.N c.sc scope (ownOf c.N scope) = true then if h2 : isSetE iter = false then some ⟨ci, cg, ct, ce, h, h2⟩ else none else none
  | _, _, _, _ => none
def Lc.den {elt tg iter : Expr} {ifs : List Expr} {scope : Scope} (l : Lc G c elt tg iter ifs scope) (Φ : PhT) : DenA := dComp ((ownOf c.N scope).map (·.2)) (l.ci.den Φ) l.cg.den (l.ct.den Φ) (l.ce.den Φ)
theorem Lc.blk {elt tg iter : Expr} {ifs : List Expr} {scope : Scope} (l : Lc G c elt tg iter ifs scope) {k : Nat} {Φ : PhT} {X : Cx} (A : Amb G k Φ c X) : BlkOk X.N X.env.scope scope (ownOf c.N scope) := by
  rw [A.N, A.sc]
  exact blkOk_by l.ok
theorem takes0 {X : Cx} : Takes X (fun _ _ _ _ => False) := fun _ _ x => by
  obtain ⟨_, _, _, _, _, _, _, _, _, _, _, _, _, _, _, _, z⟩ := x
  exact z.elim
theorem Lc.pe {elt tg iter : Expr} {ifs : List Expr} {scope : Scope} (l : Lc G c elt tg iter ifs scope) (pos : Pos) {k : Nat} {Φ : PhT} {X : Cx} {W : WX} (A : Amb G k Φ c X) (tk : Takes X W) :
    PE X (.ListComp elt [⟨tg, iter, ifs, 0⟩] scope pos) (tL ⟨X.K, X.mg, X.w⟩ W (l.den Φ)) :=
  have hk := (l.blk A).kind
  dl_comp A.calm A.nd (l.ci.ok Φ k X W A tk) (l.blk A) (fun s H C cl fp => l.cg.ok Φ k _ (A.blk hk s H C cl fp)) (fun s H C cl fp => l.ct.ok Φ k _ _ (A.blk hk s H C cl fp) takes0)
    (fun s H C cl fp => l.ce.ok Φ k _ _ (A.blk hk s H C cl fp) takes0) (folded_ok l.set)
def sComp (r : Cps G) (pos : Pos) (elt : Expr) (scope : Scope) : (gs : List Comprehension) → Option (CL G c (.ListComp elt gs scope pos))
  | [⟨tg, iter, ifs, 0⟩] => match sLc (c := c) r elt tg iter ifs scope with
    | some l => some ⟨l.den, fun Φ k X W A tk => l.pe pos A tk⟩
    | none => none
  | _ => none

/-! ### methods -/
structure MI (name : Str) where
  T : String
  id : String
  pa : PlainAttrs T
  slot : Slot T name id
  hty : typeOf (.builtin id) = pure (.type "method_descriptor")
def sM {name : Str} (mi : MI name) (f : FM) (hm : ∀ X : Cx, X.A.units + 200 < cLine → MtR X mi.id (rM ⟨X.K, X.mg, X.w⟩ f)) (o : Expr) (apos cpos : Pos) (co : CE G c o) : (es : List Expr) → Option (CA G c es) → Option (CE G c (.Call (.Attribute o name apos) es [] cpos))
  | [], _ => if h : isCall0 o = false ∧ (apos.endLine == cpos.line) = true then some ⟨fun Φ => dM mi.T f (co.den Φ) dANil, fun Φ k X W A tk => de_m0 mi.pa mi.slot mi.hty (hm X A.hu) (co.ok Φ k X W A tk) (base_ok h.1) h.2⟩ else none
  | e :: es, some cs => if h : (isCall0 o = false ∧ (apos.endLine == cpos.line) = true) ∧ (e :: es).length < 30 then some ⟨fun Φ => dM mi.T f (co.den Φ) (cs.den Φ), fun Φ k X W A tk => by
      have hs := cs.star
      have hf := few_ok (pos := cpos) (env := X.env) hs h.2
      rw [List.all_cons, Bool.and_eq_true] at hs
      exact de_m mi.pa mi.slot mi.hty (hm X A.hu) (co.ok Φ k X W A tk) (cs.ok Φ k X W A tk) (base_ok h.1.1) hf h.1.2 (star_cons (by simpa using hs.1)) (star_any hs.2)⟩ else none
  | _, none => none
def sMT {name : Str} (mi : MI name) (f : FM) (hm : ∀ X : Cx, MtR X mi.id (rMT ⟨X.K, X.mg, X.w⟩ f)) (o : Expr) (apos cpos : Pos) (co : CE G c o) (e : Expr) (cl : CL G c e) : Option (CE G c (.Call (.Attribute o name apos) [e] [] cpos)) :=
  if h : (isCall0 o = false ∧ (apos.endLine == cpos.line) = true) ∧ isStar e = false then some ⟨fun Φ => dM mi.T f (co.den Φ) (cl.den Φ), fun Φ k X W A tk =>
    have hs : [e].all (fun e => !isStar e) = true := by rw [List.all_cons, h.2]; rfl
    de_mt mi.pa mi.slot mi.hty (hm X) (co.ok Φ k X W A tk) (cl.ok Φ k X W A tk) (base_ok h.1.1) (few_ok hs (show 1 < 30 by decide)) h.1.2 (star_cons h.2) rfl⟩ else none
def miAppend : MI "append" := ⟨_, _, PySem.F.plainAttrs_list, PySem.F.slot_list_append, PySem.F.type_list_append⟩
def miExtend : MI "extend" := ⟨_, _, PySem.F.plainAttrs_list, PySem.F.slot_list_extend, PySem.F.type_list_extend⟩
def miPop : MI "pop" := ⟨_, _, PySem.F.plainAttrs_list, PySem.F.slot_list_pop, PySem.F.type_list_pop⟩
def miClear : MI "clear" := ⟨_, _, PySem.F.plainAttrs_list, PySem.F.slot_list_clear, PySem.F.type_list_clear⟩
def miJoin : MI "join" := ⟨_, _, PySem.F.plainAttrs_str, PySem.F.slot_str_join, PySem.F.type_str_join⟩
def miSplit : MI "split" := ⟨_, _, PySem.F.plainAttrs_str, PySem.F.slot_str_split, PySem.F.type_str_split⟩
def miSIndex : MI "index" := ⟨_, _, PySem.F.plainAttrs_str, PySem.F.slot_str_index, PySem.F.type_str_index⟩
def miGet : MI "get" := ⟨_, _, PySem.F.plainAttrs_dict, PySem.F.slot_dict_get, PySem.F.type_dict_get⟩
def sMeth (r : Cps G) (o : Expr) (apos cpos : Pos) (name : Str) (es : List Expr) : Option (CE G c (.Call (.Attribute o name apos) es [] cpos)) :=
  match r.E c o with
  | none => none
  | some co =>
    if h : name = "append" then (by subst h; exact sM miAppend mAppend (fun _ _ => m_append) o apos cpos co es (sArgs (r.E c) es))
    else if h : name = "extend" then (by subst h; exact match es with
      | [e] => match r.L c e with
        | some cl => sMT miExtend mExtendT (fun _ => m_extendT) o apos cpos co e cl
        | none => sM miExtend mExtend (fun _ _ => m_extend) o apos cpos co [e] (sArgs (r.E c) [e])
      | _ => none)
    else if h : name = "join" then (by subst h; exact match es with
      | [e] => match r.L c e with
        | some cl => sMT miJoin mJoinT (fun _ => m_joinT) o apos cpos co e cl
        | none => sM miJoin mJoin (fun _ _ => m_join) o apos cpos co [e] (sArgs (r.E c) [e])
      | _ => none)
    else if h : name = "pop" then (by subst h; exact sM miPop mPop (fun _ _ => m_pop) o apos cpos co es (sArgs (r.E c) es))
    else if h : name = "clear" then (by subst h; exact sM miClear mClear (fun _ _ => m_clear) o apos cpos co es (sArgs (r.E c) es))
    else if h : name = "split" then (by subst h; exact sM miSplit mSplit (fun _ _ => m_split) o apos cpos co es (sArgs (r.E c) es))
    else if h : name = "index" then (by subst h; exact sM miSIndex mSIndex (fun _ _ => m_sindex) o apos cpos co es (sArgs (r.E c) es))
    else if h : name = "get" then (by subst h; exact sM miGet mGet (fun _ h => m_get h) o apos cpos co es (sArgs (r.E c) es))
    else none
end

/-! ### what is not followed: no meaning, and so no duty -/
def dNoE : DenE := fun _ _ => .no
def dNoT : DenT := fun _ _ => .no
def dNoS : DenS := fun _ _ => .no
theorem de_no {X : Cx} {W : WX} {e : Expr} : PE X e (tE ⟨X.K, X.mg, X.w⟩ W dNoE) := ⟨fun pins s σ H Q I h => by
  obtain ⟨_, _, _, _, _, _, p⟩ := h
  exact p.elim⟩
theorem dt_no {X : Cx} {W : WX} {e : Expr} : PT X e (tT ⟨X.K, X.mg, X.w⟩ W dNoT) := ⟨fun pins s σ H Q I h => by
  obtain ⟨_, _, _, _, _, _, p⟩ := h
  exact p.elim⟩
theorem ds_no {X : Cx} {W : WX} {st : Stmt} : PS X st (tS ⟨X.K, X.mg, X.w⟩ W dNoS) := ⟨fun pins s σ H D I h => by
  obtain ⟨_, _, _, _, _, _, p⟩ := h
  exact p.elim⟩
def orE {G : GEnv} {c : Ctx} {e : Expr} (o : Option (CE G c e)) : Option (CE G c e) := match o with
  | some x => some x
  | none => some ⟨fun _ => dNoE, fun _ _ _ _ _ _ => de_no⟩
def orT {G : GEnv} {c : Ctx} {e : Expr} (o : Option (CT G c e)) : Option (CT G c e) := match o with
  | some x => some x
  | none => some ⟨fun _ => dNoT, fun _ _ _ _ _ _ => dt_no⟩
def orS {G : GEnv} {c : Ctx} {st : Stmt} (o : Option (CS G c st)) : Option (CS G c st) := match o with
  | some x => some x
  | none => some ⟨fun _ => dNoS, fun _ _ _ _ _ _ => ds_no⟩

/-! ### expressions together -/
def stepE {G : GEnv} (r : Cps G) (c : Ctx) : (e : Expr) → Option (CE G c e)
  | .Name x pos => sName x pos
  | .Constant v j pos => sConst v j pos
  | .BinOp a op b pos => sBin a op b pos (r.E c a) (r.E c b)
  | .UnaryOp op a pos => sUn op a pos (r.E c a)
  | .BoolOp op es pos => sBools (r.E c) pos op es
  | .Compare a [op] [b] pos => sCmp a op b pos (r.E c a) (r.E c b)
  | .Compare a [op, op'] [b, d] pos => sChain a op op' b d pos (r.E c a) (r.E c b) (r.E c d)
  | .IfExp t a b pos => sIf t a b pos (r.T c t) (r.E c a) (r.E c b)
  | .Subscript a (.Slice lo hi none p2) pos => sSl a lo hi p2 pos (r.E c a) (sPart (r.E c) lo) (sPart (r.E c) hi)
  | .Subscript a (.Slice none none (some (.UnaryOp .USub (.Constant (.int 1) j p1) p2)) p3) pos => match r.E c a with
    | some ca => some ⟨fun Φ => dRev (ca.den Φ), fun Φ k X W A tk => de_rev (ca.ok Φ k X W A tk)⟩
    | none => none
  | .Subscript a b pos => sIx a b pos (r.E c a) (r.E c b)
  | .Attribute o f pos => sAttr o f pos (r.E c o)
  | .Call (.Name x p) es [] pos => sCall x es p pos (r.L c) (sArgs (r.E c) es)
  | .Call (.Name x p) [e] [⟨nm, k, kpos⟩] pos => sMaxD (r.L c) (r.E c) x p e nm k kpos pos
  | .Call (.Attribute o name apos) es [] pos => sMeth r o apos pos name es
  | .Tuple es n pos => sTupE es n pos (sArgs (r.E c) es)
  | .List es pos => sLstE es pos (sArgs (r.E c) es)
  | .Dict keys values pos => sDict pos keys values (sPairs (r.E c) keys values)
  | .ListComp elt gs scope pos => sKeep (sComp r pos elt scope gs)
  | _ => none
def stepL {G : GEnv} (r : Cps G) (c : Ctx) : (e : Expr) → Option (CL G c e)
  | .List es pos => sLstL es pos (sArgs (r.E c) es)
  | .ListComp elt gs scope pos => sComp r pos elt scope gs
  | _ => none
def stepT {G : GEnv} (r : Cps G) (c : Ctx) : (e : Expr) → Option (CT G c e)
  | .UnaryOp .Not a pos => match r.T c a with
    | some ct => some ⟨fun Φ => dTNot (ct.den Φ), fun Φ k X W A tk => dt_not (ct.ok Φ k X W A tk)⟩
    | none => none
  | .BoolOp op es pos => match sBoolsW (r.T c) pos op es with
    | some cw => some ⟨cw.den, fun Φ k X W A tk => (cw.ok Φ k X W A tk).pt⟩
    | none => none
  | .Compare a [op] [b] pos => sCmpT a op b pos (r.E c a) (r.E c b)
  | .Compare a [op, op'] [b, d] pos => sChainT a op op' b d pos (r.E c a) (r.E c b) (r.E c d)
  | e => if h : isPlainT e = true then match r.E c e with
    | some ce => some ⟨fun Φ => dTr (ce.den Φ), fun Φ k X W A tk => dt_truth (ce.ok Φ k X W A tk) (test_ok h)⟩
    | none => none else none
def comps (G : GEnv) : Nat → Cps G
  | 0 => ⟨fun _ _ => none, fun _ _ => none, fun _ _ => none⟩
  | n + 1 => ⟨fun c e => orE (stepE (comps G n) c e), stepL (comps G n), fun c e => orT (stepT (comps G n) c e)⟩

/-! ### statements -/
section
variable {G : GEnv} {c : Ctx}
def sStmts (rec_ : (st : Stmt) → Option (CS G c st)) : (sts : List Stmt) → Option (CSs G c sts)
  | [] => some ⟨fun _ => dNil, fun Φ k X W B tk => have A := B.toAmb; ds_nil⟩
  | st :: rest => match rec_ st, sStmts rec_ rest with
    | some a, some b => some ⟨fun Φ => dSeq (a.den Φ) (b.den Φ), fun Φ k X W B tk => ds_seq (a.ok Φ k X W B tk) (b.ok Φ k X W B tk)⟩
    | _, _ => none
def sSetG (x : Str) (px pos : Pos) (e : Expr) (hsw : ∀ X : Cx, X.env.scope = c.sc → X.env.scope.kind = .function → swapsWith e (some (.Name x px)) pos.line X.env = pure false) (ce : Option (CE G c e)) : Option (CS G c (.Assign [.Name x px] e pos)) :=
  match ce, hi : ixOf c.N x with
  | some ce, some i => if hs : stB c x = true then some ⟨fun Φ => dSet i (ce.den Φ), fun Φ k X W B tk => have A := B.toAmb; ds_set A.nd (A.ix hi) (A.st hs).1 (ce.ok Φ k X W A tk) (hsw X A.sc A.kind) (A.st hs).2⟩ else none
  | _, _ => none
def sSetLc (r : Cps G) (x : Str) (px pos pos2 : Pos) (elt tg iter : Expr) (ifs : List Expr) (scope : Scope) : Option (CS G c (.Assign [.Name x px] (.ListComp elt [⟨tg, iter, ifs, 0⟩] scope pos2) pos)) :=
  if hb : swB c.sc x px.line pos2.line scope = false then
    sSetG x px pos _ (fun X h1 h2 => sw_comp h2 (by rw [h1]; exact hb)) (r.E c _)
  else if hb : swB c.sc x px.line pos2.line scope = true then
    match sLc (c := c) r elt tg iter ifs scope, hi : ixOf c.N x with
    | some l, some i => if hl : isLoc c.sc x = true then some ⟨fun Φ => dSet i (dKeep (l.den Φ)), fun Φ k X W B tk => have A := B.toAmb;
        have hk := (l.blk A).kind
        ds_setLc A.calm A.nd (A.ix hi) (A.lk hl) (sw_comp A.kind (by rw [A.sc]; exact hb)) (l.ci.ok Φ k X W A tk) (l.blk A) (fun s H C cl fp => l.cg.ok Φ k _ (A.blk hk s H C cl fp)) (fun s H C cl fp => l.ct.ok Φ k _ _ (A.blk hk s H C cl fp) takes0)
          (fun s H C cl fp => l.ce.ok Φ k _ _ (A.blk hk s H C cl fp) takes0) (folded_ok l.set)⟩ else none
    | _, _ => none
  else none
def sSet (r : Cps G) (x : Str) (px pos : Pos) : (e : Expr) → Option (CS G c (.Assign [.Name x px] e pos))
  | .ListComp elt [⟨tg, iter, ifs, 0⟩] scope pos2 => sSetLc r x px pos pos2 elt tg iter ifs scope
  | e => if h : isComp e = false then sSetG x px pos e (fun _ _ _ => swaps_no h) (r.E c e) else none
theorem sole_no {t e : Expr} {l : Nat} {env : Env} (h : isComp e = false) : swapsWithSole [t] e l env = pure false := swaps_no (t := some t) h
def sPar (x y : Str) (px py pt pt2 pos : Pos) (kt k2 : Nat) (a b : Expr) (cs : Option (CA G c [a, b])) : Option (CS G c (.Assign [.Tuple [.Name x px, .Name y py] kt pt] (.Tuple [a, b] k2 pt2) pos)) :=
  match cs, hi : ixOf c.N x, hj : ixOf c.N y with
  | some cs, some i, some j => if h : (isLoc c.sc x = true ∧ isLoc c.sc y = true ∧ x ≠ y) ∧ isStar a = false ∧ isStar b = false ∧ py.line = px.line ∧ fold2 [a, b] = false ∧ cons2 [a, b] = false ∧ i ≠ j then
      some ⟨fun Φ => dPar i j (cs.den Φ), fun Φ k X W B tk => have A := B.toAmb; ds_par A.calm A.nd (A.ix hi) (A.ix hj) h.2.2.2.2.2.2 (A.lk h.1.1) (A.lk h.1.2.1) (cs.ok Φ k X W A tk)
        (par_ok A.kind (A.lk h.1.1) (A.lk h.1.2.1) h.1.2.2 h.2.1 h.2.2.1 h.2.2.2.1 h.2.2.2.2.1 h.2.2.2.2.2.1) (sole_no rfl)⟩ else none
  | _, _, _ => none
def allIx (N : List Str) : List Nat := List.range N.length
def sAsgT (es : List Expr) (kt : Nat) (pt pos : Pos) (e : Expr) (ce : Option (CE G c e)) : Option (CS G c (.Assign [.Tuple es kt pt] e pos)) :=
  match ce, sTg (G := G) (c := c) (allIx c.N) 3 (.Tuple es kt pt) with
  | some ce, some cg => if h : isComp e = false ∧ (isTupE e = false ∨ foldT e = true) then some ⟨fun Φ => dAsg cg.den (ce.den Φ), fun Φ k X W B tk => have A := B.toAmb; ds_asg (ce.ok Φ k X W A tk) (cg.ok Φ k X A) (sole_no h.1) (h.2.elim swapped_no swapped_fold) (assign1 rfl)⟩ else none
  | _, _ => none
def sSetIx (o i e : Expr) (tpos pos : Pos) (co : Option (CE G c o)) (ci : Option (CE G c i)) (ce : Option (CE G c e)) : Option (CS G c (.Assign [.Subscript o i tpos] e pos)) :=
  match co, ci, ce with
  | some co, some ci, some ce => if h : isSlice i = false ∧ isComp e = false then some ⟨fun Φ => dSetIx (co.den Φ) (ci.den Φ) (ce.den Φ), fun Φ k X W B tk => have A := B.toAmb;
      ds_setIx A.hu (ce.ok Φ k X W A tk) (co.ok Φ k X W A tk) (ci.ok Φ k X W A tk) (setIx_ok h.1) (sole_no h.2) (swapped_no' rfl) (assign1 rfl)⟩ else none
  | _, _, _ => none
def sSetSl (o : Expr) (lo hi : Option Expr) (e : Expr) (p2 tpos pos : Pos) (co : Option (CE G c o)) (cl : Option (CO G c lo)) (ch : Option (CO G c hi)) (ce : Option (CE G c e)) : Option (CS G c (.Assign [.Subscript o (.Slice lo hi none p2) tpos] e pos)) :=
  match co, cl, ch, ce with
  | some co, some cl, some ch, some ce => if h : isComp e = false then some ⟨fun Φ => dSetSl (co.den Φ) (cl.den Φ) (ch.den Φ) (ce.den Φ), fun Φ k X W B tk => have A := B.toAmb;
      ds_setSl (ce.ok Φ k X W A tk) (co.ok Φ k X W A tk) (cl.ok Φ k X W A tk) (ch.ok Φ k X W A tk) (sole_no h) (swapped_no' rfl) (assign1 rfl)⟩ else none
  | _, _, _, _ => none
def sAssign (r : Cps G) (pos : Pos) : (ts : List Expr) → (e : Expr) → Option (CS G c (.Assign ts e pos))
  | [.Name x px], e => sSet r x px pos e
  | [.Subscript o (.Slice lo hi none p2) tpos], e => sSetSl o lo hi e p2 tpos pos (r.E c o) (sPart (r.E c) lo) (sPart (r.E c) hi) (r.E c e)
  | [.Subscript o i tpos], e => sSetIx o i e tpos pos (r.E c o) (r.E c i) (r.E c e)
  | [.Tuple [.Name x px, .Name y py] kt pt], .Tuple [a, b] k2 pt2 => match sPar x y px py pt pt2 pos kt k2 a b (sArgs (r.E c) [a, b]) with
    | some s => some s
    | none => sAsgT [.Name x px, .Name y py] kt pt pos (.Tuple [a, b] k2 pt2) (r.E c (.Tuple [a, b] k2 pt2))
  | [.Tuple es kt pt], e => sAsgT es kt pt pos e (r.E c e)
  | _, _ => none
def sAug (x : Str) (px pos : Pos) (op : Operator) (e : Expr) (ce : Option (CE G c e)) : Option (CS G c (.AugAssign (.Name x px) op e pos)) :=
  match op, ce, hi : ixOf c.N x with
  | .Add, some ce, some i => if hs : stB c x = true then some ⟨fun Φ => dAug i aIAdd (ce.den Φ), fun Φ k X W B tk => have A := B.toAmb; ds_aug A.nd (A.ix hi) (A.st hs).1 (ce.ok Φ k X W A tk) ipr_add (A.st hs).2⟩ else none
  | .Sub, some ce, some i => if hs : stB c x = true then some ⟨fun Φ => dAug i aSub (ce.den Φ), fun Φ k X W B tk => have A := B.toAmb; ds_aug A.nd (A.ix hi) (A.st hs).1 (ce.ok Φ k X W A tk) ipr_sub (A.st hs).2⟩ else none
  | _, _, _ => none
def sExpr (e : Expr) (pos : Pos) (ce : Option (CE G c e)) : Option (CS G c (.Expr e pos)) := match ce with
  | some ce => if h : isComp e = false then some ⟨fun Φ => dExpr (ce.den Φ), fun Φ k X W B tk => have A := B.toAmb; ds_expr (ce.ok Φ k X W A tk) (swaps_no h)⟩ else none
  | none => none
def sRet (pos : Pos) : (e : Option Expr) → (ce : (e : Expr) → Option (CE G c e)) → Option (CS G c (.Return e pos))
  | none, _ => some ⟨fun _ => dRetN, fun Φ k X W B tk => have A := B.toAmb; ds_retN⟩
  | some e, f => match f e with
    | some ce => some ⟨fun Φ => dRet (ce.den Φ), fun Φ k X W B tk => have A := B.toAmb; ds_ret (ce.ok Φ k X W A tk)⟩
    | none => none
def sIfS (t : Expr) (xs ys : List Stmt) (pos : Pos) (ct : Option (CT G c t)) (a : Option (CSs G c xs)) (b : Option (CSs G c ys)) : Option (CS G c (.If t xs ys pos)) := match ct, a, b with
  | some ct, some a, some b => some ⟨fun Φ => dIfS (ct.den Φ) (a.den Φ) (b.den Φ), fun Φ k X W B tk => ds_if (ct.ok Φ k X W B.toAmb tk) (a.ok Φ k X W B tk) (b.ok Φ k X W B tk)⟩
  | _, _, _ => none
def sWhile (t : Expr) (xs : List Stmt) (pos : Pos) (ct : Option (CT G c t)) (a : Option (CSs G c xs)) : Option (CS G c (.While t xs [] pos)) := match ct, a with
  | some ct, some a => some ⟨fun Φ => dWhile (ct.den Φ) (a.den Φ), fun Φ k X W B tk => ds_while B.po (ct.ok Φ k X W B.toAmb tk) (a.ok Φ k X W B tk)⟩
  | _, _ => none
def sFor (tg iter : Expr) (xs : List Stmt) (pos : Pos) (ci : Option (CI G c tg iter)) (a : Option (CSs G c xs)) : Option (CS G c (.For tg iter xs [] pos)) := match ci, sTg (G := G) (c := c) (allIx c.N) 3 tg, a with
  | some ci, some cg, some a => if h : isSetE iter = false then some ⟨fun Φ => dFor cg.den (ci.den Φ) (a.den Φ), fun Φ k X W B tk => ds_for B.po B.calm (ci.ok Φ k X W B.toAmb tk) (cg.ok Φ k X B.toAmb) (a.ok Φ k X W B tk) (folded_ok h)⟩ else none
  | _, _, _ => none
def sRaise1 (x : Str) (es : List Expr) (p pos pos' : Pos) (cs : Option (CA G c es)) : Option (CS G c (.Raise (some (.Call (.Name x p) es [] pos)) none pos')) := match es, cs, hq : G.lookup x with
  | e :: es, some cs, some (.xcl u f) => if h : okN x = true ∧ glB c.sc x = true then some ⟨fun Φ => dRaise1 x f (cs.den Φ), fun Φ k X W B tk => by
      have A := B.toAmb
      have hs := cs.star
      rw [List.all_cons, Bool.and_eq_true] at hs
      exact ds_raise1 A.calm tk (A.xi x u f hq) A.rm2 (A.gl h.2) (okN_dbg h.1).1 (cs.ok Φ k X W A tk) (star_cons (by simpa using hs.1)) (star_any hs.2)⟩ else none
  | _, _, _ => none
def sRaise (rE : (e : Expr) → Option (CE G c e)) : (e : Expr) → (pos : Pos) → Option (CS G c (.Raise (some e) none pos))
  | .Call (.Name x p) [.Constant (.str m) j p2] [] p3, pos => match hq : G.lookup x with
    | some (.cls u true) => if h : okN x = true ∧ glB c.sc x = true then some ⟨fun _ => dRaise x, fun Φ k X W B tk => by
        have A := B.toAmb
        obtain ⟨C, F⟩ := A.cls.at_ x u (by unfold upOf; rw [hq])
        exact ds_raise A.calm tk F PySem.F.excBase_ValueError (A.rs x u C hq F.gm) (A.gl h.2) (okN_dbg h.1).1⟩ else none
    | _ => none
  | .Call (.Name x p) es [] p3, pos => sRaise1 x es p p3 pos (sArgs rE es)
  | _, _ => none
def sTryK (y n k n2 : Str) (np pk pn pa pos pos' : Pos) (body : List Stmt) (b : Option (CSs G c body)) : Option (CS G c (.Try body [.ExceptHandler (some (.Name y np)) (some n) [.Assign [.Name k pk] (.Name n2 pn) pa] pos'] [] [] pos)) :=
  match b, hq : upOf G y, hi : ixOf c.N n, hj : ixOf c.N k with
  | some b, some u, some i, some j => if h : (okN y = true ∧ glB c.sc y = true) ∧ (okN n = true ∧ isLoc c.sc n = true ∧ isLoc c.sc k = true) ∧ n2 = n then some ⟨fun Φ => dTryK (upOf G) y i j (b.den Φ), fun Φ k X W B tk => by
      have A := B.toAmb
      obtain ⟨C, F⟩ := A.cls.at_ y u hq
      obtain ⟨h1, h2, rfl⟩ := h
      exact ds_tryK A.cls B.stk B.frm B.ex A.nd (A.ix hi) (A.ix hj) (A.lk h2.2.1) (A.lk h2.2.2) F (A.gl h1.2) (okN_dbg h1.1).1 (okN_dbg h2.1) tk (fun W pn xe tk' po => b.ok Φ k (X.tr pn xe) W (B.tr pn xe po) tk')⟩ else none
  | _, _, _, _ => none
def sTry (body : List Stmt) (b : Option (CSs G c body)) : (hs : List ExceptHandler) → (pos : Pos) → Option (CS G c (.Try body hs [] [] pos))
  | [.ExceptHandler (some (.Name y np)) (some n) [.Assign [.Name k pk] (.Name n2 pn) pa] pos'], pos => sTryK y n k n2 np pk pn pa pos pos' body b
  | _, _ => none
def stepS (r : Cps G) (rec_ : (st : Stmt) → Option (CS G c st)) : (st : Stmt) → Option (CS G c st)
  | .Expr (.Constant (.str x) j pos) pos' => some ⟨fun _ => dNil, fun Φ k X W B tk => have A := B.toAmb; ds_doc⟩
  | .Expr e pos => sExpr e pos (r.E c e)
  | .Assign ts e pos => sAssign r pos ts e
  | .AugAssign (.Name x px) op e pos => sAug x px pos op e (r.E c e)
  | .If t xs ys pos => sIfS t xs ys pos (r.T c t) (sStmts rec_ xs) (sStmts rec_ ys)
  | .While t xs [] pos => sWhile t xs pos (r.T c t) (sStmts rec_ xs)
  | .For tg iter xs [] pos => sFor tg iter xs pos (sIter r tg iter) (sStmts rec_ xs)
  | .Return e pos => sRet pos e (r.E c)
  | .Pass pos => some ⟨fun _ => dNil, fun Φ k X W B tk => have A := B.toAmb; ds_pass⟩
  | .Raise (some e) none pos => sRaise (r.E c) e pos
  | .Try body hs [] [] pos => sTry body (sStmts rec_ body) hs pos
  | .Break pos => some ⟨fun _ => dBreak, fun Φ k X W B tk => have A := B.toAmb; ds_break⟩
  | .Continue pos => some ⟨fun _ => dCont, fun Φ k X W B tk => have A := B.toAmb; ds_cont⟩
  | _ => none
def compS (G : GEnv) (c : Ctx) : Nat → (st : Stmt) → Option (CS G c st)
  | 0, _ => none
  | n + 1, st => orS (stepS (comps G 40) (compS G c n) st)
def compB (G : GEnv) (c : Ctx) (body : List Stmt) : Option (CSs G c body) := sStmts (compS G c 12) body
end
end
end DL
/-! DN, part e: an exception's __init__ that keeps its parameter, walked once. -/
namespace DL
open PySem PySem.Spec PyProof.Rows L2
theorem init_ok {P : Program} {W0 : World} {K : PySem.W.Frag} {mg : Str → Option Value} {base : Heap} {x qual b self p fl msg : Str} {B C f : Addr} {fd : FuncData} {args : Arguments} {sc : Scope} {j : Nat} {p1 p2 p3 p4 p5 p6 q1 q2 q3 q4 : Pos}
    (F : FunD K x qual args [.Expr (.Call (.Attribute (.Name b p1) "__init__" p2) [.Name self p4, .Constant (.str msg) j p5] [] p6) p3, .Assign [.Attribute (.Name self q1) fl q2] (.Name p q3) q4] sc [] [] f fd)
    (S : FnScope [self, p] [self, p] sc) (v1 : visB sc self = true) (v2 : visB sc p = true) (n1 : okN self = true) (n2 : okN p = true) (gb : glB sc b = true) (nb : okN b = true) (hline : (p2.endLine == p6.line) = true)
    (hm : mg b = some (.ref B)) (hsp : PySem.W.specialIn K (.ref B) "__getattribute__" = some (some (.builtin "type.__getattribute__"))) (hrd : PySem.W.readsIn K B (.type "type") = true)
    (vV : PySem.W.findCls K (.ref B) (.type "type") "__init__" = some (.val (.builtin "ValueError.__init__"))) (T : OexC K C) (hno : PySem.W.findIn K (.ref C) fl = some none) : FnOk P W0 K mg base (L2.CX P W0) 1 f fd [self, p] (spXi C fl) := by
  refine FunD.ok (k := 0) F S (fun vs H Q E h => by obtain ⟨a, v, rfl, _⟩ := h; rfl) (fun cdv A outer s H vs Q E hr h => ?_)
  obtain ⟨a, v, rfl, hH, hq⟩ := h
  refine ⟨_, pss_cons (ps_expr (pe_binit (B := B) (glB_ok gb) hm (okN_dbg nb).1 hsp hrd vV (pa_cons (pe_var (i := 0) rfl (visB_ok v1) (okN_dbg n1).1 (okN_dbg n1).2) (pa_cons pe_str pa_nil)) rfl hline rfl rfl)) (pss_cons (ps_ost (pe_var (i := 0) rfl (visB_ok v1) (okN_dbg n1).1 (okN_dbg n1).2) (pe_var (i := 1) rfl (visB_ok v2) (okN_dbg n2).1 (okN_dbg n2).2)) pss_nil), ?_⟩
  exact ⟨.ref a, rfl, a, C, [.str msg], rfl, by simp, T, hH, v, rfl, .ref a, rfl, a, C, rfl, T, hno, .inl ⟨hH, hq⟩⟩

/-! ### such a class, looked at -/
def oexB (K : PySem.W.Frag) (C : Addr) : Bool := match K.lookup C with
  | some ⟨.type t, _, .cls ⟨_, _, .ref D :: bm, _, _, true, _, _, _, _, false⟩, ⟨[_, _, _, _, some (.builtin n), _]⟩⟩ => decide (t = "type") && decide (D = C) && HandSPX.refsVE bm && decide (n = "ValueError.__new__")
  | _ => false
theorem oexB_ok {K : PySem.W.Frag} {C : Addr} (h : oexB K C = true) : ∃ nm q N bs bm sn sub ab col dd k0 k1 k2 k3 k5, K.lookup C = some (excClassObj nm q C N bs bm true sn sub ab col dd k0 k1 k2 k3 k5 "ValueError.__new__") ∧ HandSPX.refsVE bm = true := by
  unfold oexB at h
  split at h
  · rename_i q
    rw [Bool.and_eq_true, Bool.and_eq_true, Bool.and_eq_true, decide_eq_true_eq, decide_eq_true_eq, decide_eq_true_eq] at h
    obtain ⟨⟨⟨rfl, rfl⟩, h3⟩, rfl⟩ := h
    exact ⟨_, _, _, _, _, _, _, _, _, _, _, _, _, _, _, q, h3⟩
  · cases h
/-- a class of exceptions that keeps one thing: its name, the thing's, the base, the names and words of its __init__ -/
structure XDef where
  x : Str
  fl : Str
  b : Str
  self : Str
  p : Str
  msg : Str
  qual : Str
  st : Stmt
def XDef.defD (d : XDef) : He.DefD := ⟨(d.x, some "__init__"), "__init__", d.qual, defArgs d.st, defBody d.st, defScope d.st, [], []⟩
structure XOk (d : XDef) : Prop where
  body : ∃ (j : Nat) (p1 p2 p3 p4 p5 p6 q1 q2 q3 q4 : Pos), defBody d.st = [.Expr (.Call (.Attribute (.Name d.b p1) "__init__" p2) [.Name d.self p4, .Constant (.str d.msg) j p5] [] p6) p3, .Assign [.Attribute (.Name d.self q1) d.fl q2] (.Name d.p q3) q4] ∧ (p2.endLine == p6.line) = true
  sc : FnScope [d.self, d.p] [d.self, d.p] (defScope d.st)
  nm : visB (defScope d.st) d.self = true ∧ visB (defScope d.st) d.p = true ∧ okN d.self = true ∧ okN d.p = true ∧ glB (defScope d.st) d.b = true ∧ okN d.b = true
  bd : ∀ (kV doc pm : Value) (an : Option Addr) (cdv ct : Value) (us : List Value), us.length = 2 → bindArgs (PySem.W.fnOf "__init__" d.qual (defArgs d.st) (defBody d.st) (defScope d.st) .none kV doc pm an cdv ct) ⟨us, []⟩ = pure ([d.self, d.p].zip us)
def AllX : List XDef → Prop
  | [] => True
  | d :: r => XOk d ∧ AllX r
theorem AllX.at_ : ∀ {T : List XDef} {i : Nat} {d : XDef}, AllX T → T[i]? = some d → XOk d
  | d :: r, 0, _, h, e => by cases e; exact h.1
  | d :: r, i + 1, _, h, e => AllX.at_ h.2 (by simpa using e)
def xiB (K : PySem.W.Frag) (d : XDef) : Bool := He.eqO (PySem.W.nsIn K mainGlobals d.x) (some (some (.ref (He.ga K d.x)))) && He.eqO (PySem.W.nsIn K mainGlobals d.b) (some (some (.ref (He.ga K d.b)))) && oexB K (He.ga K d.x) &&
  decide (PySem.W.findIn K (.ref (He.ga K d.x)) "__setattr__" = some (some (.builtin "object.__setattr__")) ∧ PySem.W.subIn K (.ref (He.ga K d.x)) (.type "BaseException") = some true ∧ PySem.W.typeIn K (.ref (He.ga K d.x)) = some (.type "type") ∧ PySem.W.keepIn K (.ref (He.ga K d.x)) = true ∧
    PySem.W.findIn K (.ref (He.ga K d.x)) "__getattribute__" = some (some (.builtin "BaseException.__getattribute__")) ∧ PySem.W.findIn K (.ref (He.ga K d.x)) "__getattr__" = some none ∧ PySem.W.hasDictIn K (He.ga K d.x) = true ∧ PySem.W.findIn K (.ref (He.ga K d.x)) d.fl = some none ∧
    PySem.W.findIn K (.ref (He.ga K d.x)) "__init__" = some (some (.ref (He.ma K (He.ga K d.x) "__init__"))) ∧ PySem.W.typeIn K (.ref (He.ma K (He.ga K d.x) "__init__")) = some (.type "function") ∧
    PySem.W.specialIn K (.ref (He.ga K d.b)) "__getattribute__" = some (some (.builtin "type.__getattribute__")) ∧ PySem.W.readsIn K (He.ga K d.b) (.type "type") = true) &&
  (match PySem.W.findCls K (.ref (He.ga K d.b)) (.type "type") "__init__" with
    | some (.val (.builtin n)) => decide (n = "ValueError.__init__")
    | _ => false)
theorem xi_ok {P : Program} {W0 : World} {K : PySem.W.Frag} {h : Heap} {mg : Str → Option Value} {base : Heap} {d : XDef} {fd : FuncData} (X : K.In h) (GN : h.Ns mainGlobals mg) (O : XOk d) (F : FunD K "__init__" d.qual (defArgs d.st) (defBody d.st) (defScope d.st) [] [] (He.ma K (He.ga K d.x) "__init__") fd)
    (e : xiB K d = true) : XI P W0 K mg base d.x d.fl := by
  unfold xiB at e
  rw [Bool.and_eq_true, Bool.and_eq_true, Bool.and_eq_true, Bool.and_eq_true, decide_eq_true_eq] at e
  obtain ⟨⟨⟨⟨m1, m2⟩, o⟩, h1, h2, h3, h4, h5, h6, h7, h8, h9, h10, h11, h12⟩, vV⟩ := e
  have vV : PySem.W.findCls K (.ref (He.ga K d.b)) (.type "type") "__init__" = some (.val (.builtin "ValueError.__init__")) := by
    split at vV
    · rename_i n q
      rw [q, of_decide_eq_true vV]
    · cases vV
  have T : OexC K (He.ga K d.x) := ⟨oexB_ok o, h1, h2, h3, h4⟩
  obtain ⟨j, p1, p2, p3, p4, p5, p6, q1, q2, q3, q4, eb, hl⟩ := O.body
  obtain ⟨n1, n2, n3, n4, n5, n6⟩ := O.nm
  have bd := O.bd
  have sc := O.sc
  rw [eb] at F bd
  exact ⟨_, _, fd, [d.self, d.p], PySem.W.mg_of X GN (He.eqO_ok m1), T, ⟨h5, h6, h2, h7⟩, h8, h9, h10, F.bindsN bd, init_ok F sc n1 n2 n3 n4 n5 n6 hl (PySem.W.mg_of X GN (He.eqO_ok m2)) h11 h12 vV T h8⟩
end DL
/-! DL, part q: a program's defs, the promise of all, the law's end. -/
namespace DL
open PySem PySem.Spec PyProof.Rows L2

/-! ### constants of the module -/
mutual
def conB (K : PySem.W.Frag) : D → Value → Bool
  | .non, u => (match u with | .none => true | _ => false)
  | .bl b, u => (match u with | .bool c => b == c | _ => false)
  | .int i, u => (match u with | .int j _ => decide (i = j) | _ => false)
  | .str x, u => (match u with | .str y _ => decide (x = y) | _ => false)
  | .ty n, u => (match u with | .type m => decide (n = m) | _ => false)
  | .gl x, u => (match u with | .ref a => He.eqO (PySem.W.nsIn K mainGlobals x) (some (some (.ref a))) | _ => false)
  | .tup ds, u => (match u with
    | .ref a => (match K.lookup a with
      | some ⟨.type c, _, .seq its _, _⟩ => decide (c = "tuple") && (decide (its.size ≤ sizeLine) && conL K ds its.toList)
      | _ => false)
    | _ => false)
  | .rl ds, u => (match u with
    | .ref a => (match K.lookup a with
      | some ⟨.type c, none, .seq its _, _⟩ => decide (c = "list") && (decide (its.size ≤ sizeLine) && conL K ds its.toList)
      | _ => false)
    | _ => false)
  | .ob _, _ => false
  | .kd _ _, _ => false
  | .xo _ _ _, _ => false
def conL (K : PySem.W.Frag) : List D → List Value → Bool
  | [], us => us.isEmpty
  | d :: ds, us => (match us with
    | u :: us => conB K d u && conL K ds us
    | [] => false)
end
section
variable {K : PySem.W.Frag} {h : Heap} {mg : Str → Option Value}
theorem len_vals : ∀ {vs : List V} {us : List Value}, Vals vs us → vs.length = us.length
  | _, _, .nil => rfl
  | _, _, .cons _ t => by rw [List.length_cons, List.length_cons, len_vals t]
variable {w0 : World}
mutual
theorem conB_ok (X : K.In h) (G : h.Ns mainGlobals mg) : ∀ (d : D) (u : Value), conB K d u = true → ∃ v, RelV v u ∧ ∀ w, Rep ⟨K, mg, w0⟩ w d v
  | .non, u, e => by
    cases u with
    | none => exact ⟨.non, rfl, fun _ => .non⟩
    | _ => cases e
  | .bl b, u, e => by
    cases u with
    | bool c =>
      have e1 : b = c := eq_of_beq (show (b == c) = true from e)
      exact ⟨.bl b, by rw [e1]; rfl, fun _ => .bl b⟩
    | _ => cases e
  | .int i, u, e => by
    cases u with
    | int j t =>
      have e1 : i = j := of_decide_eq_true e
      exact ⟨.int i, ⟨t, by rw [e1]⟩, fun _ => .int i⟩
    | _ => cases e
  | .str x, u, e => by
    cases u with
    | str j t =>
      have e1 : x = j := of_decide_eq_true e
      exact ⟨.str x, ⟨t, by rw [e1]⟩, fun _ => .str x⟩
    | _ => cases e
  | .ty n, u, e => by
    cases u with
    | type m =>
      have e1 : n = m := of_decide_eq_true e
      exact ⟨.ty n, by rw [e1]; rfl, fun _ => .ty n⟩
    | _ => cases e
  | .gl x, u, e => by
    cases u with
    | ref a => exact ⟨.ref a, rfl, fun _ => .gl (PySem.W.mg_of X G (He.eqO_ok e))⟩
    | _ => cases e
  | .tup ds, u, e => by
    cases u with
    | ref a =>
      unfold conB at e
      dsimp only at e
      cases q : K.lookup a with
      | none => rw [q] at e; cases e
      | some o =>
        obtain ⟨oc, od, dt, osl⟩ := o
        rw [q] at e
        cases oc with
        | type c =>
          cases dt with
          | seq its n =>
            dsimp only at e
            rw [Bool.and_eq_true, Bool.and_eq_true] at e
            obtain ⟨h1, h2, h3⟩ := e
            obtain ⟨vs, r, hr⟩ := conL_ok X G ds its.toList h3
            have hl := of_decide_eq_true h2
            refine ⟨.ref a, rfl, fun w => .tup (.inr ⟨_, its, n, q, congrArg Value.type (of_decide_eq_true h1), rfl, hl, r⟩) ?_ (hr w)⟩
            rw [(hr w).length, len_vals r]
            simpa using hl
          | _ => cases e
        | _ => cases e
    | _ => cases e
  | .rl ds, u, e => by
    cases u with
    | ref a =>
      unfold conB at e
      dsimp only at e
      cases q : K.lookup a with
      | none => rw [q] at e; cases e
      | some o =>
        obtain ⟨oc, od, dt, osl⟩ := o
        rw [q] at e
        cases oc with
        | type c =>
          cases od with
          | none =>
            cases dt with
            | seq its n =>
              dsimp only at e
              rw [Bool.and_eq_true, Bool.and_eq_true] at e
              obtain ⟨h1, h2, h3⟩ := e
              obtain ⟨vs, r, hr⟩ := conL_ok X G ds its.toList h3
              have hl := of_decide_eq_true h2
              refine ⟨.ref a, rfl, fun w => .rl (.inr ⟨_, its, n, q, congrArg Value.type (of_decide_eq_true h1), rfl, rfl, hl, r⟩) ?_ (hr w)⟩
              rw [(hr w).length, len_vals r]
              simpa using hl
            | _ => cases e
          | some z => cases dt <;> cases e
        | _ => cases od <;> cases dt <;> cases e
    | _ => cases e
  | .ob n, u, e => by cases e
theorem conL_ok (X : K.In h) (G : h.Ns mainGlobals mg) : ∀ (ds : List D) (us : List Value), conL K ds us = true → ∃ vs, Vals vs us ∧ ∀ w, Reps ⟨K, mg, w0⟩ w ds vs
  | [], us, e => by
    cases us with
    | nil => exact ⟨[], .nil, fun _ => .nil⟩
    | cons a b => cases e
  | d :: ds, us, e => by
    cases us with
    | nil => cases e
    | cons u us =>
      unfold conL at e
      dsimp only at e
      rw [Bool.and_eq_true] at e
      obtain ⟨v, r1, h1⟩ := conB_ok X G d u e.1
      obtain ⟨vs, r2, h2⟩ := conL_ok X G ds us e.2
      exact ⟨v :: vs, .cons r1 r2, fun w => .cons (h1 w) (h2 w)⟩
end
end
/-- a written dict's values -/
def kdB (K : PySem.W.Frag) (a : Addr) (ks : List Str) (vs : List D) : Bool := match K.lookup a with
  | some ⟨_, _, .dict es _, _⟩ => conL K vs (es.toList.map (·.val))
  | _ => false
def conF (K : PySem.W.Frag) (p : Str × D) : Bool := match PySem.W.nsIn K mainGlobals p.1 with
  | some (some u) => (match p.2 with
    | .kd ks vs => (match u with
      | .ref a => kdB K a ks vs
      | _ => false)
    | d => conB K d u)
  | _ => false
def kdsOf : List (Str × D) → List (Str × List Str)
  | [] => []
  | (x, .kd ks _) :: r => (x, ks) :: kdsOf r
  | _ :: r => kdsOf r
theorem kdsOf_mem : ∀ {cs : List (Str × D)} {x : Str} {ks : List Str} {vs : List D}, (x, D.kd ks vs) ∈ cs → (x, ks) ∈ kdsOf cs
  | p :: r, x, ks, vs, h => by
    rcases List.mem_cons.mp h with h | h
    · rw [← h]
      exact List.mem_cons_self
    · have ih := kdsOf_mem h
      obtain ⟨y, d⟩ := p
      cases d with
      | kd ks' vs' => exact List.mem_cons_of_mem _ ih
      | _ => exact ih
theorem conF_ok {w0 : World} {K : PySem.W.Frag} {h : Heap} {mg : Str → Option Value} (X : K.In h) (G : h.Ns mainGlobals mg) {x : Str} {d : D} (e : conF K (x, d) = true)
    (hk : ∀ ks vs, d = .kd ks vs → He.dicW K (He.ga K x) = some (He.keysIn w0.params ks)) : ∃ v u, mg x = some u ∧ RelV v u ∧ ∀ w, Rep ⟨K, mg, w0⟩ w d v := by
  unfold conF at e
  dsimp only at e
  cases q : PySem.W.nsIn K mainGlobals x with
  | none => rw [q] at e; cases e
  | some o =>
    rw [q] at e
    cases o with
    | none => cases e
    | some u =>
      have hmg := PySem.W.mg_of X G q
      have plain : conB K d u = true → ∃ v u, mg x = some u ∧ RelV v u ∧ ∀ w, Rep ⟨K, mg, w0⟩ w d v := fun e => by
        obtain ⟨v, r, hr⟩ := conB_ok (w0 := w0) X G d u e
        exact ⟨v, u, hmg, r, hr⟩
      cases d with
      | kd ks vs =>
        cases u with
        | ref a =>
          have ega : He.ga K x = a := by
            unfold He.ga
            rw [q]
          have e : kdB K a ks vs = true := e
          have hd := hk ks vs rfl
          rw [ega] at hd
          obtain ⟨es, n, kk⟩ := He.dicW_ok hd
          have eK : es.toList.map He.keyOf = He.keysIn w0.params ks := by
            unfold He.dicW at hd
            rw [kk.at_, kk.low] at hd
            exact Option.some.inj hd
          unfold kdB at e
          rw [kk.at_] at e
          dsimp only at e
          obtain ⟨us, r, hr⟩ := conL_ok (w0 := w0) X G vs _ e
          refine ⟨.ref a, .ref a, hmg, rfl, fun w => .kd kk (fun z => ?_) r (hr w)⟩
          unfold PySem.W.nsIn
          rw [kk.at_]
          dsimp only
          have main : ∀ (l : List DictEntry) (ks : List Str), l.map He.keyOf = He.keysIn w0.params ks → (match l.find? (·.key.isStr z) with
              | some e => some (some e.val)
              | none => if l.any (·.refKey) then none else some none) = some ((ks.zip (l.map (·.val))).lookup z) := by
            intro l
            induction l with
            | nil => intro ks _; cases ks <;> rfl
            | cons e l ih =>
              intro ks hks
              cases ks with
              | nil => cases hks
              | cons k ks =>
                have hks : He.keyOf e :: l.map He.keyOf = some (k, PyData.keyHash w0.params k) :: He.keysIn w0.params ks := hks
                injection hks with h1 h2
                have hke : ∃ t, e.key = .str k t := by
                  unfold He.keyOf at h1
                  split at h1
                  · rename_i y t qk
                    have e1 := (Prod.mk.inj (Option.some.inj h1)).1
                    subst e1
                    exact ⟨t, qk⟩
                  · cases h1
                obtain ⟨t, hke⟩ := hke
                have hrf : e.refKey = false := by
                  unfold DictEntry.refKey
                  rw [hke]
                have his : e.key.isStr z = (z == k) := by
                  rw [hke]
                  show (k == z) = (z == k)
                  rw [Bool.eq_iff_iff, beq_iff_eq, beq_iff_eq]
                  exact eq_comm
                have ih := ih ks h2
                simp only [List.find?_cons, List.any_cons, List.map_cons, List.zip_cons_cons, List.lookup_cons, his, hrf, Bool.false_or]
                cases z == k with
                | true => rfl
                | false => exact ih
          exact main _ _ eK
        | _ => cases e
      | _ => exact plain e

/-! ### own classes -/
abbrev ClsL := List (Str × List Str × Bool)
def clsOf : GEnv → ClsL
  | [] => []
  | (x, .cls u b) :: r => (x, u, b) :: clsOf r
  | (x, .xcl u _) :: r => (x, u, false) :: clsOf r
  | _ :: r => clsOf r
theorem clsOf_cls : ∀ {G : GEnv} {x : Str} {u : List Str} {b : Bool}, (x, GK.cls u b) ∈ G → (x, u, b) ∈ clsOf G
  | p :: r, x, u, b, h => by
    rcases List.mem_cons.mp h with h | h
    · rw [← h]
      exact List.mem_cons_self
    · have ih := clsOf_cls h
      obtain ⟨y, d⟩ := p
      cases d with
      | cls u' b' => exact List.mem_cons_of_mem _ ih
      | xcl u' b' => exact List.mem_cons_of_mem _ ih
      | _ => exact ih
theorem clsOf_xcl : ∀ {G : GEnv} {x f : Str} {u : List Str}, (x, GK.xcl u f) ∈ G → (x, u, false) ∈ clsOf G
  | p :: r, x, f, u, h => by
    rcases List.mem_cons.mp h with h | h
    · rw [← h]
      exact List.mem_cons_self
    · have ih := clsOf_xcl h
      obtain ⟨y, d⟩ := p
      cases d with
      | cls u' b' => exact List.mem_cons_of_mem _ ih
      | xcl u' b' => exact List.mem_cons_of_mem _ ih
      | _ => exact ih
/-- where a class stands -/
def clsA (K : PySem.W.Frag) (x : Str) : Option Addr := match PySem.W.nsIn K mainGlobals x with
  | some (some (.ref C)) => some C
  | _ => none
def clsQ1 (K : PySem.W.Frag) (cl : ClsL) (p : Str × List Str × Bool) : Bool := match clsA K p.1 with
  | some C => clsB K C && (!p.2.2 || PySem.W.excIn K C veMro "ValueError.__new__") && (cl.all fun q => match clsA K q.1 with
      | some D => decide (PySem.W.exmOne K (.ref C) (.ref D) = some (decide (q.1 ∈ p.2.1)) ∧ PySem.W.kitOne K (.ref C) (.ref D) = some (decide (q.1 ∈ p.2.1)))
      | none => false) && xTys.all fun n => decide (PySem.W.kitOne K (.ref C) (.type n) = some (decide (Str.ofString n ∈ p.2.1)))
  | none => false
def clsQB (K : PySem.W.Frag) (cl : ClsL) : Bool := cl.all (clsQ1 K cl)
theorem clsA_mg {K : PySem.W.Frag} {h : Heap} {mg : Str → Option Value} {x : Str} {C : Addr} (X : K.In h) (G : h.Ns mainGlobals mg) (e : clsA K x = some C) : mg x = some (.ref C) := by
  unfold clsA at e
  split at e
  · rename_i C' q
    cases e
    exact PySem.W.mg_of X G q
  · cases e
theorem clsQ_ok {K : PySem.W.Frag} {h : Heap} {mg : Str → Option Value} {G : GEnv} (X : K.In h) (GN : h.Ns mainGlobals mg) (e : clsQB K (clsOf G) = true) :
    ClsR K mg (upOf G) ∧ ∀ x u C, G.lookup x = some (.cls u true) → mg x = some (.ref C) → PySem.W.excIn K C veMro "ValueError.__new__" = true := by
  have look : ∀ x u b, (x, u, b) ∈ clsOf G → ∃ C, clsA K x = some C ∧ mg x = some (.ref C) ∧ clsB K C = true ∧ (b = true → PySem.W.excIn K C veMro "ValueError.__new__" = true) ∧
      (∀ q ∈ clsOf G, ∃ D, clsA K q.1 = some D ∧ PySem.W.exmOne K (.ref C) (.ref D) = some (decide (q.1 ∈ u)) ∧ PySem.W.kitOne K (.ref C) (.ref D) = some (decide (q.1 ∈ u))) ∧
      ∀ n ∈ xTys, PySem.W.kitOne K (.ref C) (.type n) = some (decide (Str.ofString n ∈ u)) := fun x u b hx => by
    have h1 := List.all_eq_true.mp e _ hx
    unfold clsQ1 at h1
    dsimp only at h1
    cases q : clsA K x with
    | none => rw [q] at h1; cases h1
    | some C =>
      rw [q] at h1
      dsimp only at h1
      rw [Bool.and_eq_true, Bool.and_eq_true, Bool.and_eq_true] at h1
      obtain ⟨⟨⟨h2, h3⟩, h4⟩, h5⟩ := h1
      refine ⟨C, rfl, clsA_mg X GN q, h2, fun hb => ?_, fun p hp => ?_, fun n hn => of_decide_eq_true (List.all_eq_true.mp h5 n hn)⟩
      · rw [hb] at h3
        simpa using h3
      · have h6 := List.all_eq_true.mp h4 p hp
        cases q2 : clsA K p.1 with
        | none => rw [q2] at h6; cases h6
        | some D =>
          rw [q2] at h6
          exact ⟨D, rfl, of_decide_eq_true h6⟩
  have up : ∀ x u, upOf G x = some u → ∃ b, (x, u, b) ∈ clsOf G := fun x u h => by
    unfold upOf at h
    split at h
    · rename_i u' b q
      cases h
      exact ⟨b, clsOf_cls (mem_of_look q)⟩
    · rename_i u' b q
      cases h
      exact ⟨false, clsOf_xcl (mem_of_look q)⟩
    · cases h
  refine ⟨⟨fun x u hu => ?_, fun x u y u' C D hx hy mx my => ?_, fun x u C hx mx n hn => ?_⟩, fun x u C hx mx => ?_⟩
  · obtain ⟨b, hb⟩ := up x u hu
    obtain ⟨C, h1, h2, h3, _⟩ := look x u b hb
    exact ⟨C, clsB_ok h2 h3⟩
  · obtain ⟨b, hb⟩ := up x u hx
    obtain ⟨b', hb'⟩ := up y u' hy
    obtain ⟨C', h1, h2, _, _, h5, _⟩ := look x u b hb
    obtain ⟨D', g1, g2⟩ := h5 _ hb'
    have e1 := clsA_mg X GN g1
    dsimp only at e1
    rw [mx] at h2
    rw [my] at e1
    cases h2; cases e1
    exact g2
  · obtain ⟨b, hb⟩ := up x u hx
    obtain ⟨C', h1, h2, _, _, _, h6⟩ := look x u b hb
    rw [mx] at h2
    cases h2
    exact h6 n hn
  · obtain ⟨C', h1, h2, _, h4, _⟩ := look x u true (clsOf_cls (mem_of_look hx))
    rw [mx] at h2
    cases h2
    exact h4 rfl

/-! ### what is looked at, at the end of the top -/
abbrev AlQ : Type := He.AlD × List (Option (List (Option (Str × Int))))
def obsQ (cs : List (Str × D)) (cl : ClsL) (xs : List XDef) (fa : List He.Fa) (fn : List He.DefD) (K : PySem.W.Frag) : AlQ := (((((fa.all fun f => f.ok K) && fn.all fun d => d.ok K) && cs.all (conF K)) && clsQB K cl && xs.all (xiB K), fn.map fun d => He.fnW K d.at_), (kdsOf cs).map fun p => He.dicW K (He.ga K p.1))
def valQ (cs : List (Str × D)) (fn : List He.DefD) (w0 : World) : AlQ := (He.valD fn, (kdsOf cs).map fun p => some (He.keysIn w0.params p.2))
def SaysQ (cs : List (Str × D)) (cl : ClsL) (xs : List XDef) (fa : List He.Fa) (fn : List He.DefD) (w0 : World) (K : PySem.W.Frag) : Prop := obsQ cs cl xs fa fn K = valQ cs fn w0
theorem SaysQ.d {cs : List (Str × D)} {cl : ClsL} {xs : List XDef} {fa : List He.Fa} {fn : List He.DefD} {w0 : World} {K : PySem.W.Frag} (c : SaysQ cs cl xs fa fn w0 K) : He.SaysD fa fn K ∧ (∀ p ∈ cs, conF K p = true) ∧ (∀ p ∈ kdsOf cs, He.dicW K (He.ga K p.1) = some (He.keysIn w0.params p.2)) ∧ clsQB K cl = true ∧ ∀ d ∈ xs, xiB K d = true := by
  have c1 : ((((fa.all fun f => f.ok K) && fn.all fun d => d.ok K) && cs.all (conF K)) && clsQB K cl && xs.all (xiB K)) = true := congrArg (fun z : AlQ => z.1.1) c
  have c2 : fn.map (fun d => He.fnW K d.at_) = fn.map He.DefD.val := congrArg (fun z : AlQ => z.1.2) c
  have c3 : ((kdsOf cs).map fun p => He.dicW K (He.ga K p.1)) = (kdsOf cs).map fun p => some (He.keysIn w0.params p.2) := congrArg (fun z : AlQ => z.2) c
  rw [Bool.and_eq_true, Bool.and_eq_true, Bool.and_eq_true] at c1
  refine ⟨?_, fun p hp => List.all_eq_true.mp c1.1.1.2 p hp, fun p hp => List.map_inj_left.mp c3 p hp, c1.1.2, fun d hd => List.all_eq_true.mp c1.2 d hd⟩
  unfold He.SaysD He.obsD He.valD
  rw [c1.1.1.1, c2]
def obsQG (n : Nat) (cs : List (Str × D)) (cl : ClsL) (xs : List XDef) (fa : List He.Fa) (fn : List He.DefD) (g : Addr → Option Obj) : AlQ := obsQ cs cl xs fa fn (He.frG g (cStatics :: He.asD g n))
def hookQ (n : Nat) (cs : List (Str × D)) (cl : ClsL) (xs : List XDef) (fa : List He.Fa) (fn : List He.DefD) : PySem.W.Hook where
  α := AlQ
  obs := fun s => obsQG n cs cl xs fa fn s.heap.get?
  val := fun w => valQ cs fn w
  says := fun w h => ∃ K : PySem.W.Frag, K.In h ∧ SaysQ cs cl xs fa fn w K
  of := fun _ _ e => ⟨_, He.frG_in, e⟩
  keeps := fun _ _ _ ⟨K, hK, c⟩ k => ⟨K, PySem.W.Frag.In.keeps hK k, c⟩
theorem obsQG_eq {n : Nat} {cs : List (Str × D)} {cl : ClsL} {xs : List XDef} {fa : List He.Fa} {fn : List He.DefD} {g : Addr → Option Obj} {s : Shared} (h : ∀ a, g a = s.heap.get? a) : obsQG n cs cl xs fa fn g = (hookQ n cs cl xs fa fn).obs s := by
  have e : g = s.heap.get? := funext h
  rw [e] <;> rfl

/-! ### a program -/
structure FDef where
  /-- the module's name for it -/
  gn : Str
  name : Str
  st : Stmt
  ps : List Str
  N : List Str
def FDef.ctx (d : FDef) : Ctx := ⟨defScope d.st, d.N, fun _ => true⟩
noncomputable def FDef.comp (d : FDef) (G : GEnv) : Option (CSs G d.ctx (defBody d.st)) := compB G d.ctx (defBody d.st)
noncomputable def FDef.den (d : FDef) (G : GEnv) : Option (PhT → DenS) := (d.comp G).map (·.den)
def FDef.defD (d : FDef) : He.DefD := ⟨(d.gn, none), d.name, d.name, defArgs d.st, defBody d.st, defScope d.st, [], []⟩
/-- what the defs do, k calls deep at most -/
noncomputable def PhiR (T : List FDef) (G : GEnv) : Nat → PhT
  | 0 => fun _ _ _ => .no
  | k + 1 => fun i ds S => match T[i]? with
    | none => .no
    | some d => match d.den G with
      | none => .no
      | some b => runB d.N.length (b (PhiR T G k)) ds S
/-- .. in one step, never opened by itself -/
@[irreducible] noncomputable def Phi (T : List FDef) (G : GEnv) (k : Nat) : PhT := PhiR T G k
theorem Phi_zero {T : List FDef} {G : GEnv} (i : Nat) (ds : List D) (S : Sto) : Phi T G 0 i ds S = .no := by
  unfold Phi
  rfl
theorem Phi_succ {T : List FDef} {G : GEnv} (k i : Nat) (ds : List D) (S : Sto) : Phi T G (k + 1) i ds S = match T[i]? with
    | none => .no
    | some d => match d.den G with
      | none => .no
      | some b => runB d.N.length (b (Phi T G k)) ds S := by
  unfold Phi
  rfl
structure FOk (d : FDef) : Prop where
  sc : FnScope d.N d.ps (defScope d.st)
  bd : ∀ (kV doc pm : Value) (an : Option Addr) (cdv ct : Value) (us : List Value), us.length = d.ps.length → bindArgs (PySem.W.fnOf d.name d.name (defArgs d.st) (defBody d.st) (defScope d.st) .none kV doc pm an cdv ct) ⟨us, []⟩ = pure (d.ps.zip us)
def AllOk : List FDef → Prop
  | [] => True
  | d :: r => FOk d ∧ AllOk r
theorem AllOk.at_ : ∀ {T : List FDef} {i : Nat} {d : FDef}, AllOk T → T[i]? = some d → FOk d
  | d :: r, 0, _, h, e => by cases e; exact h.1
  | d :: r, i + 1, _, h, e => AllOk.at_ h.2 (by simpa using e)
def gB (T : List FDef) (xs : List XDef) (G : GEnv) : Bool := G.all fun p => match p.2 with
  | .fn id ar => (match T[id]? with
    | some d => decide (d.gn = p.1) && decide (d.ps.length = ar)
    | none => false)
  | .con _ => true
  | .cls _ _ => true
  | .xcl _ f => xs.any fun d => decide (d.x = p.1) && decide (d.fl = f)
def csOf : GEnv → List (Str × D)
  | [] => []
  | (x, .con d) :: r => (x, d) :: csOf r
  | (_, .fn _ _) :: r => csOf r
  | (_, .cls _ _) :: r => csOf r
  | (_, .xcl _ _) :: r => csOf r
theorem csOf_mem : ∀ {G : GEnv} {x : Str} {d : D}, (x, GK.con d) ∈ G → (x, d) ∈ csOf G
  | (y, .con e) :: r, x, d, h => by
    rcases List.mem_cons.mp h with h | h
    · cases h; exact List.mem_cons_self
    · exact List.mem_cons_of_mem _ (csOf_mem h)
  | (y, .fn i j) :: r, x, d, h => by
    rcases List.mem_cons.mp h with h | h
    · cases h
    · exact csOf_mem (G := r) h
  | (y, .cls i j) :: r, x, d, h => by
    rcases List.mem_cons.mp h with h | h
    · cases h
    · exact csOf_mem (G := r) h
  | (y, .xcl i j) :: r, x, d, h => by
    rcases List.mem_cons.mp h with h | h
    · cases h
    · exact csOf_mem (G := r) h
theorem fn_okD {P : Program} {W0 : World} {K : PySem.W.Frag} {mg : Str → Option Value} {base : Heap} {x qual : Str} {args : Arguments} {body : List Stmt} {sc : Scope} {dvs : List V} {kws : List (Str × V)} {f : Addr} {fd : FuncData} {N ps : List Str} {k : Nat} {b : DenS}
    (F : FunD K x qual args body sc dvs kws f fd) (S : FnScope N ps sc)
    (hbody : ∀ (X : Cx) (W : WX), X.prog = P → X.w = W0 → X.K = K → X.mg = mg → X.base = base → X.N = N → X.env.scope = sc → Room k X.A → X.A.guards = some [] → X.calm = true → (∀ y, X.fn y = true) → X.stack = X.env :: X.outer → X.env.frame = some X.env.locals → X.ex = [] → Takes X W →
      PassesOwn (model X.prog X.w) X.A X.env X.xe → PSs X body (tS ⟨X.K, X.mg, X.w⟩ W b)) :
    FnG P W0 K mg base (L2.CX P W0) (k + 1) f fd ps (spD ⟨K, mg, W0⟩ ps.length (runB N.length b)) := by
  refine FunD.okG F S (fun vs H Q E h => ?_) (fun cdv A outer s H vs Q E hr hgd h => ?_)
  · obtain ⟨w, S, ds, _, _, r, hl, _⟩ := h
    rw [← r.length, hl]
  · obtain ⟨w, S0, ds, eH, so, r, hl, p⟩ := h
    refine ⟨_, hbody _ (fun c d _ H => E c d H) rfl rfl rfl rfl rfl rfl rfl hr hgd rfl (fun _ => rfl) rfl rfl rfl (takes_of rfl rfl rfl rfl) PassesOwn.leaving, w, S0, ds.map some ++ List.replicate (N.length - ds.length) none, eH, so, FrOk.start r, ?_⟩
    unfold runB at p
    cases q : b (ds.map some ++ List.replicate (N.length - ds.length) none) S0 with
    | ok fl fr S' =>
      rw [q] at p
      cases fl with
      | nx => exact fun w' σ' st so' fo' => gc_post so p st so' .non
      | rt d => exact fun w' v st so' r' => gc_post so p st so' r'
      | bk => exact p.elim
      | ct => exact p.elim
    | ex e fr S' =>
      rw [q] at p
      exact fun w' σ' c dx st so' fo' rx => gcX_post so p st so' rx
    | no => rw [q] at p; exact p
theorem fn_no {P : Program} {w : World} {K : PySem.W.Frag} {mg : Str → Option Value} {base : Heap} {C : CXT} {k n : Nat} {f : Addr} {fd : FuncData} {ps : List Str} {g : Gnd} {φ : List D → Sto → Out D} (h : ∀ ds S, φ ds S = .no) : FnG P w K mg base C k f fd ps (spD g n φ) := by
  have hf : ∀ vs H Q E, spD g n φ vs H Q E → False := fun vs H Q E q => by
    obtain ⟨w, S, ds, _, _, _, _, p⟩ := q
    rw [h] at p
    exact p
  exact ⟨fun vs H Q E q => (hf _ _ _ _ q).elim, fun A outer s H args us vs Q E hr hgd he hb hv hs => (hf _ _ _ _ hs).elim⟩
/-- EVERY DEF KEEPS ITS PROMISE -/
theorem all_ok {P : Program} {W0 : World} {K : PySem.W.Frag} {mg : Str → Option Value} {base : Heap} {T : List FDef} {TX : List XDef} {G : GEnv} (hT : ∀ (i : Nat) (d : FDef), T[i]? = some d → ∃ (f : Addr) (fd : FuncData), mg d.gn = some (.ref f) ∧ FunD K d.name d.name (defArgs d.st) (defBody d.st) (defScope d.st) [] [] f fd)
    (hA : AllOk T) (hG : gB T TX G = true) (hcon : ∀ x d, (x, GK.con d) ∈ G → ∃ v u, mg x = some u ∧ RelV v u ∧ ∀ w, Rep ⟨K, mg, W0⟩ w d v) (hfree : ∀ x ∈ freeN, mg x = none) (hcls : ClsR K mg (upOf G)) (hrs : ∀ x u C, G.lookup x = some (.cls u true) → mg x = some (.ref C) → PySem.W.excIn K C veMro "ValueError.__new__" = true) (hxi : ∀ x u f, G.lookup x = some (.xcl u f) → XI P W0 K mg base x f) :
    ∀ (k i : Nat) (d : FDef), T[i]? = some d → ∀ (f : Addr) (fd : FuncData), mg d.gn = some (.ref f) → FunD K d.name d.name (defArgs d.st) (defBody d.st) (defScope d.st) [] [] f fd →
      FnG P W0 K mg base (L2.CX P W0) (2 * k + 1) f fd d.ps (spD ⟨K, mg, W0⟩ d.ps.length (Phi T G k i)) := by
  intro k
  induction k with
  | zero => exact fun i d _ f fd _ _ => fn_no fun _ _ => Phi_zero _ _ _
  | succ k ih =>
    intro i d hi f fd hm F
    cases q : d.den G with
    | none =>
      refine fn_no fun ds S => ?_
      rw [Phi_succ, hi]
      dsimp only
      rw [q]
    | some b =>
      have eP : Phi T G (k + 1) i = runB d.N.length (b (Phi T G k)) := by
        funext ds S
        rw [Phi_succ, hi]
        dsimp only
        rw [q]
      rw [eP]
      unfold FDef.den at q
      cases q2 : d.comp G with
      | none => rw [q2] at q; cases q
      | some c =>
        rw [q2] at q
        cases q
        refine fn_okD F (hA.at_ hi).sc fun X W e1 e2 e3 e4 e5 e6 e7 hr hgd hcalm hfn hst hfr hex tk po => c.ok (Phi T G k) (2 * k + 1) X W ?_ tk
        refine ⟨⟨e7, e6, by rw [e6]; exact (hA.at_ hi).sc.nd, hcalm, hr, by omega, hgd, by rw [e7]; exact (hA.at_ hi).sc.kind, po, fun y _ => hfn y, fun x id ar hx => ⟨?_⟩, fun x d hx => ?_, fun x hx => by rw [e4]; exact hfree x hx, by rw [e3, e4]; exact hcls, by rw [e3, e4]; exact hrs, by rw [e1, e2, e3, e4, e5]; exact hxi⟩, hst, hfr, hex⟩
        · have hm := mem_of_look hx
          have z := List.all_eq_true.mp hG _ hm
          dsimp only at z
          cases q3 : T[id]? with
          | none => rw [q3] at z; cases z
          | some d' =>
            rw [q3] at z
            dsimp only at z
            rw [Bool.and_eq_true, decide_eq_true_eq, decide_eq_true_eq] at z
            obtain ⟨z1, z2⟩ := z
            subst z1 z2
            obtain ⟨f', fd', m', F'⟩ := hT id d' q3
            refine ⟨f', fd', d'.ps, by rw [e4]; exact m', by rw [e3]; exact F'.kp, ?_, ?_⟩
            · rw [e3]
              exact F'.bindsN (hA.at_ q3).bd
            · rw [e1, e2, e3, e4, e5]
              exact ih id d' q3 f' fd' m' F'
        · obtain ⟨v, u, h1, h2, h3⟩ := hcon x d (mem_of_look hx)
          rw [e2, e3, e4]
          exact ⟨v, u, h1, h2, h3⟩
def faOf (T : List FDef) : List He.Fa := T.map (fun d : FDef => He.Fa.glo d.gn) ++ freeN.map He.Fa.free
theorem facts {P : Program} {W0 : World} {K : PySem.W.Frag} {h : Heap} {mg : Str → Option Value} {f : Addr} (X : K.In h) (GN : h.Ns mainGlobals mg) {T : List FDef} {G : GEnv} {TX : List XDef} (c : SaysQ (csOf G) (clsOf G) TX (faOf T) (T.map FDef.defD ++ TX.map XDef.defD) W0 K) (hA : AllOk T) (hX : AllX TX) (hG : gB T TX G = true)
    {li : Nat} {dl : FDef} {x : Str} (hl : T[li]? = some dl) (hx : dl.ps = [x]) (hfa : mg dl.gn = some (.ref f)) (k : Nat) :
    ∃ fd : FuncData, (∀ (s : Shared) (v : Value), BindsTo s fd ⟨[v], []⟩ [(x, v)]) ∧ ∀ base : Heap, FnG P W0 K mg base (L2.CX P W0) (2 * k + 1) f fd [x] (spD ⟨K, mg, W0⟩ 1 (Phi T G k li)) := by
  obtain ⟨cd, cc, ck, cq, cx⟩ := c.d
  obtain ⟨hcls, hrs⟩ := clsQ_ok X GN cq
  have hglo : ∀ (i : Nat) (d : FDef), T[i]? = some d → mg d.gn = some (.ref (He.ga K d.gn)) := fun i d e => by
    refine He.glo_ok X GN (cd.fact i (f := .glo d.gn) ?_)
    unfold faOf
    rw [List.getElem?_append_left (by rw [List.length_map]; exact (List.getElem?_eq_some_iff.mp e).1), List.getElem?_map, e]
    rfl
  have hfun : ∀ (i : Nat) (d : FDef), T[i]? = some d → ∃ fd, FunD K d.name d.name (defArgs d.st) (defBody d.st) (defScope d.st) [] [] (He.ga K d.gn) fd := fun i d e =>
    cd.def_ i (d := FDef.defD d) (by rw [List.getElem?_append_left (by rw [List.length_map]; exact (List.getElem?_eq_some_iff.mp e).1), List.getElem?_map, e]; rfl)
  have hfree : ∀ x ∈ freeN, mg x = none := fun x hx => by
    obtain ⟨j, hj, e⟩ := List.mem_iff_getElem.mp hx
    refine He.free_ok X GN (cd.fact (T.length + j) (f := .free x) ?_)
    unfold faOf
    rw [List.getElem?_append_right (by rw [List.length_map]; omega), List.length_map, Nat.add_sub_cancel_left, List.getElem?_map, List.getElem?_eq_getElem hj, e]
    rfl
  have hxi : ∀ (base : Heap) x u f, G.lookup x = some (.xcl u f) → XI P W0 K mg base x f := fun base x u f hx => by
    have z := List.all_eq_true.mp hG _ (mem_of_look hx)
    obtain ⟨d, hd, z⟩ := List.any_eq_true.mp z
    rw [Bool.and_eq_true, decide_eq_true_eq, decide_eq_true_eq] at z
    obtain ⟨z1, z2⟩ := z
    obtain ⟨j, hj, e⟩ := List.mem_iff_getElem.mp hd
    have e : TX[j]? = some d := by rw [List.getElem?_eq_getElem hj, e]
    obtain ⟨fd, F⟩ := cd.def_ (T.length + j) (d := XDef.defD d) (by rw [List.getElem?_append_right (by rw [List.length_map]; omega), List.length_map, Nat.add_sub_cancel_left, List.getElem?_map, e]; rfl)
    have q := xi_ok (P := P) (W0 := W0) (base := base) X GN (hX.at_ e) F (cx d hd)
    rw [z1, z2] at q
    exact q
  obtain ⟨fd, F⟩ := hfun li dl hl
  have e : f = He.ga K dl.gn := by
    have z := hglo li dl hl
    rw [hfa] at z
    cases z
    rfl
  subst e
  have b := F.bindsA (hA.at_ hl).bd
  refine ⟨fd, fun s v => ?_, fun base => ?_⟩
  · have z := b s [v] (by rw [hx]; rfl)
    rw [hx] at z
    exact z
  · have z := all_ok (P := P) (W0 := W0) (base := base) (fun i d e => let ⟨fd, F⟩ := hfun i d e; ⟨_, fd, hglo i d e, F⟩) hA hG (fun x d hxd => conF_ok X GN (cc _ (csOf_mem hxd)) fun ks vs e => ck (x, ks) (kdsOf_mem (by rw [← e]; exact csOf_mem hxd))) hfree hcls hrs (hxi base) k li dl hl _ fd hfa F
    rw [hx] at z
    exact z
/-- the script, as data -/
theorem sp_start {K : PySem.W.Frag} {mg : Str → Option Value} {φ : List D → Sto → Out D} {n : Nat} (hn : n ≤ sizeLine) (h : ∀ ns : List Int, ns.length ≤ n → ∃ S', φ [.rl (ns.map D.int)] [] = .ok (.bl true) S') (H : Hp) (a : Addr) (ns : List Int)
    (hl : ns.length ≤ n) (hO : Only H) (hS : SqL K H a (ns.map V.int)) : spD ⟨K, mg, W0⟩ 1 φ [.ref a] H (fun v _ => v = .bl true) (fun _ _ _ => False) := by
  refine ⟨⟨fun _ => 0, 0, H⟩, [], [.rl (ns.map D.int)], rfl, ⟨rfl, fun i o e => ?_, fun i j hi => absurd hi (Nat.not_lt_zero _)⟩, .cons (.rl ?_ ?_ (Reps.of_ints ns)) .nil, rfl, ?_⟩
  · simp at e
  · rcases hS with (hS | ⟨o, hS⟩) | hS
    · rcases hO a with z | ⟨o, xs, z⟩
      · rw [hS] at z; cases z
      · rw [hS] at z; cases z
    · exact .inl ⟨o, hS⟩
    · exact .inr hS
  · rw [List.length_map]
    exact Nat.le_trans hl hn
  · obtain ⟨S', e⟩ := h ns hl
    rw [e]
    intro w' b st so r
    cases r
    rfl
theorem cx_no {P : Program} {W0 : World} (H : Hp) (s : Shared) (e : Value) (s' : Shared) (h : L2.CX P W0 [] H s (fun _ _ _ => False) e s') : False := by
  obtain ⟨_, _, _, _, _, _, _, _, _, _, _, _, z⟩ := h
  exact z
end DL
/-! DL, part r: the numbers that a law draws. -/
namespace DL
open PySem PySem.Spec PyProof.Rows L2
noncomputable section

/-! ### a def's end -/
theorem und_app {S T : Sto} : Olds S (S ++ T) := ⟨by rw [List.length_append]; omega, fun i h => .inl (List.getElem?_append_left h)⟩
theorem gc_pure {S T : Sto} {d : D} (h : d.und S.length = true) : gcO S d (S ++ T) = .ok d S := by
  unfold gcO
  rw [if_pos ⟨und_app, h⟩, List.take_left]
theorem gc_pure0 {S : Sto} {d : D} (h : d.und S.length = true) : gcO S d S = .ok d S := by
  have := gc_pure (T := []) h
  rwa [List.append_nil] at this
theorem gc_lst {S T U : Sto} {o : O} (h : o.und S.length = true) : gcO S (.ob (S.length + T.length)) (S ++ T ++ o :: U) = .ok (.ob S.length) (S ++ [o]) := by
  unfold gcO
  rw [if_neg (fun z => by have z2 := of_decide_eq_true (show decide (S.length + T.length < S.length) = true from z.2); omega)]
  have e : (S ++ T ++ o :: U)[S.length + T.length]? = some o := by
    rw [List.getElem?_append_right (by rw [List.length_append]; omega)]
    simp
  dsimp only
  rw [e]
  dsimp only
  rw [if_pos ⟨by rw [List.append_assoc]; exact und_app, by omega, h⟩, List.append_assoc, List.take_left]

/-! ### the store of a law: the list [0], the cells, the draw -/
structure Ds where
  a : Int
  l : Int
  u : Int
def drw (s : Ds) : O := .dk [(.inr "cells", .ob 1), (.inr "at", .int s.a), (.inr "left", .int s.l), (.inr "used", .int s.u)]
def dst (cs : List Int) (s : Ds) (R : Sto) : Sto := .lst [.int 0] :: .lst (cs.map D.int) :: drw s :: R
/-- what may be drawn from: b, how often at most -/
structure Dr (b : Nat) (cs : List Int) (s : Ds) : Prop where
  a0 : 0 ≤ s.a
  ab : s.a ≤ b
  u0 : 0 ≤ s.u
  ub : s.u ≤ b
  ne : cs ≠ []
  le : cs.length ≤ 64
theorem Dr.mono {b b' : Nat} {cs : List Int} {s : Ds} (h : Dr b cs s) (q : b ≤ b') : Dr b' cs s := ⟨h.a0, by have := h.ab; omega, h.u0, by have := h.ub; omega, h.ne, h.le⟩
theorem gc_dst {cs : List Int} {s s' : Ds} {R T : Sto} {d : D} (h : d.und (R.length + 3) = true) : gcO (dst cs s R) d (dst cs s' (R ++ T)) = .ok d (dst cs s' R) := by
  have hl : (dst cs s R).length = R.length + 3 := rfl
  have ho : Olds (dst cs s R) (dst cs s' (R ++ T)) := by
    refine ⟨?_, fun i hi => ?_⟩
    · show R.length + 3 ≤ (R ++ T).length + 3
      rw [List.length_append]; omega
    · match i, hi with
      | 0, _ => exact .inl rfl
      | 1, _ => exact .inl rfl
      | 2, _ =>
        refine .inr ⟨drw s', rfl, ?_⟩
        rw [hl]
        show (decide (1 < R.length + 3) && (true && (true && (true && true)))) = true
        rw [decide_eq_true (by omega)]
        rfl
      | i + 3, hi =>
        refine .inl ?_
        show (R ++ T)[i]? = R[i]?
        exact List.getElem?_append_left (by rw [hl] at hi; omega)
  unfold gcO
  rw [if_pos ⟨ho, by rw [hl]; exact h⟩]
  show Out.ok d (.lst [.int 0] :: .lst (cs.map D.int) :: drw s' :: (R ++ T).take R.length) = _
  rw [List.take_left]
  rfl
theorem gc_dst0 {cs : List Int} {s s' : Ds} {R : Sto} {d : D} (h : d.und (R.length + 3) = true) : gcO (dst cs s R) d (dst cs s' R) = .ok d (dst cs s' R) := by
  have := gc_dst (cs := cs) (s := s) (s' := s') (R := R) (T := []) h
  rwa [List.append_nil] at this
theorem dst_app {cs : List Int} {s : Ds} {R T : Sto} : dst cs s R ++ T = dst cs s (R ++ T) := rfl
theorem dst_len {cs : List Int} {s : Ds} {R : Sto} : (dst cs s R).length = R.length + 3 := rfl
theorem dst_get {cs : List Int} {s : Ds} {R : Sto} {i : Nat} : (dst cs s R)[i + 3]? = R[i]? := rfl
theorem dst_get2 {cs : List Int} {s : Ds} {R : Sto} : (dst cs s R)[2]? = some (drw s) := rfl
theorem dst_get1 {cs : List Int} {s : Ds} {R : Sto} : (dst cs s R)[1]? = some (.lst (cs.map D.int)) := rfl

/-! ### the bodies -/
def bMixed (Φ : PhT) : DenS :=
  (dSeq (dSet 2 (dOp aMod (dOp aMul (dOp aAdd (dOp aAdd (dOp aAdd (dOp aMod (dVar 0) (dC (.int 1000000007))) (dOp aMul (dOp aMul (dC (.int 7919)) (dVar 1)) (dVar 1))) (dOp aMul (dC (.int 31)) (dVar 1))) (dC (.int 7))) (dC (.int 48271))) (dC (.int 2147483647))))
  (dSeq (dRet (dOp aFDiv (dOp aMod (dOp aMul (dVar 2) (dOp aAdd (dC (.int 69621)) (dOp aMul (dC (.int 2)) (dOp aMod (dVar 1) (dC (.int 1000)))))) (dC (.int 2147483629))) (dC (.int 7)))) dNil))
def bNext (m : Nat) (Φ : PhT) : DenS :=
  (dSeq (dIfS (dCmpT aGt (dOp aIx (dVar 0) (dC (.str "left"))) (dC (.int 0))) (dSeq (dSet 2 (dOp aMod (dOp aIx (dVar 0) (dC (.str "left"))) (dVar 1)))
    (dSeq (dSetIx (dVar 0) (dC (.str "left")) (dOp aFDiv (dOp aIx (dVar 0) (dC (.str "left"))) (dVar 1))) (dSeq (dRet (dVar 2)) dNil))) dNil)
  (dSeq (dSet 3 (dOp aIx (dVar 0) (dC (.str "cells"))))
  (dSeq (dSet 4 (dOp aIx (dVar 3) (dOp aMod (dOp aIx (dVar 0) (dC (.str "at"))) (dB fLen (dACons (dVar 3) dANil)))))
  (dSeq (dSetIx (dVar 0) (dC (.str "at")) (dOp aAdd (dOp aIx (dVar 0) (dC (.str "at"))) (dC (.int 1))))
  (dSeq (dIfS (dTAnd (dCmpT aGe (dVar 4) (dOp aPow (dC (.int 10)) (dC (.int 18)))) (dCmpT aLe (dOp aIx (dVar 0) (dC (.str "at"))) (dB fLen (dACons (dVar 3) dANil))))
    (dSeq (dSetIx (dVar 0) (dC (.str "left")) (dOp aFDiv (dVar 4) (dVar 1))) (dSeq (dRet (dOp aMod (dVar 4) (dVar 1))) dNil)) dNil)
  (dSeq (dSetIx (dVar 0) (dC (.str "used")) (dOp aAdd (dOp aIx (dVar 0) (dC (.str "used"))) (dC (.int 1))))
  (dSeq (dRet (dOp aMod (dCall 2 (Φ m) (dACons (dCall 2 (Φ m) (dACons (dVar 4) (dACons (dOp aIx (dVar 0) (dC (.str "at"))) dANil))) (dACons (dOp aIx (dVar 0) (dC (.str "used"))) dANil))) (dVar 1))) dNil)))))))
def bBegin (Φ : PhT) : DenS :=
  (dSeq (dRet (dDict [((dC (.str "cells")), (dOp aAdd (dVar 0) (dLst (dACons (dC (.int 0)) dANil)))), ((dC (.str "at")), (dC (.int 0))), ((dC (.str "left")), (dC (.int 0))), ((dC (.str "used")), (dC (.int 0)))])) dNil)

/-! ### what they do -/
theorem fmod_bd {i j : Int} (h : 0 < j) : 0 ≤ i.fmod j ∧ i.fmod j < j := ⟨Int.fmod_nonneg_of_pos i h, Int.fmod_lt_of_pos i h⟩
theorem mul_l {i j : Int} {S : Sto} (h : -(2 ^ 64) < i ∧ i < 2 ^ 64) : aMul (.int i) (.int j) S = some (.int (i * j), S) := by
  show (if CMul i j then some (D.int (i * j), S) else none) = _
  rw [if_pos (show CMul i j from Or.inl h)]
theorem mul_r {i j : Int} {S : Sto} (h : -(2 ^ 64) < j ∧ j < 2 ^ 64) : aMul (.int i) (.int j) S = some (.int (i * j), S) := by
  show (if CMul i j then some (D.int (i * j), S) else none) = _
  rw [if_pos (show CMul i j from Or.inr h)]
theorem mod_ok {i j : Int} {S : Sto} (h : j ≠ 0) : aMod (.int i) (.int j) S = some (.int (i.fmod j), S) := by
  show (if j ≠ 0 then some (D.int (i.fmod j)) else none).map (fun d => (d, S)) = _
  rw [if_pos h]
  rfl
theorem div_okW {i j : Int} {S : Sto} (h : DivOk i j) : aFDiv (.int i) (.int j) S = some (.int (i.fdiv j), S) := by
  show (if DivOk i j then some (D.int (i.fdiv j)) else none).map (fun d => (d, S)) = _
  rw [if_pos h]
  rfl
theorem div_ok {i j : Int} {S : Sto} (h : j ≠ 0 ∧ j.natAbs < 1073741824) : aFDiv (.int i) (.int j) S = some (.int (i.fdiv j), S) := by
  exact div_okW (.inl h)
theorem pow_ok {i j : Int} {S : Sto} (h : 0 ≤ j ∧ j ≤ 1000000 ∧ i.natAbs < 2 ^ 64) : aPow (.int i) (.int j) S = some (.int (i ^ j.toNat), S) := by
  show (if CPow i j then some (D.int (i ^ j.toNat)) else none).map (fun d => (d, S)) = _
  rw [if_pos (show CPow i j from h)]
  rfl
theorem add_int {i j : Int} {S : Sto} : aAdd (.int i) (.int j) S = some (.int (i + j), S) := rfl
theorem sub_int {i j : Int} {S : Sto} : aSub (.int i) (.int j) S = some (.int (i - j), S) := rfl
theorem lt_int {i j : Int} {S : Sto} : aLt (.int i) (.int j) S = some (.bl (decide (i < j)), S) := rfl
theorem le_int {i j : Int} {S : Sto} : aLe (.int i) (.int j) S = some (.bl (decide (i ≤ j)), S) := rfl
theorem gt_int {i j : Int} {S : Sto} : aGt (.int i) (.int j) S = some (.bl (decide (j < i)), S) := rfl
theorem ge_int {i j : Int} {S : Sto} : aGe (.int i) (.int j) S = some (.bl (decide (j ≤ i)), S) := rfl
def mixH (c k : Int) : Int := ((c.fmod 1000000007 + 7919 * k * k + 31 * k + 7) * 48271).fmod 2147483647
def mixI (c k : Int) : Int := ((mixH c k * (69621 + 2 * k.fmod 1000)).fmod 2147483629).fdiv 7
theorem mixed_run {Φ : PhT} {c k : Int} {S : Sto} (h0 : 0 ≤ k) (h1 : k < 2 ^ 62) : runB 3 (bMixed Φ) [.int c, .int k] S = .ok (.int (mixI c k)) S := by
  have hk := fmod_bd (i := k) (j := 1000) (by decide)
  have hh := fmod_bd (i := (c.fmod 1000000007 + 7919 * k * k + 31 * k + 7) * 48271) (j := 2147483647) (by decide)
  have e : bMixed Φ [some (.int c), some (.int k), none] S = .ok (.rt (.int (mixI c k))) [some (.int c), some (.int k), some (.int (mixH c k))] S := by
    simp only [bMixed, dSeq, dSet, dRet, dOp, dVar, dC, Out.bnd, Out.thn, Out.ofO, List.getElem?_cons_zero, List.getElem?_cons_succ, mod_ok (show (1000000007 : Int) ≠ 0 by decide), mod_ok (show (1000 : Int) ≠ 0 by decide), mod_ok (show (2147483647 : Int) ≠ 0 by decide), mod_ok (show (2147483629 : Int) ≠ 0 by decide),
      mul_l (show -(2 ^ 64) < (7919 : Int) ∧ (7919 : Int) < 2 ^ 64 by decide), mul_l (show -(2 ^ 64) < (31 : Int) ∧ (31 : Int) < 2 ^ 64 by decide), mul_l (show -(2 ^ 64) < (2 : Int) ∧ (2 : Int) < 2 ^ 64 by decide), mul_r (show -(2 ^ 64) < (48271 : Int) ∧ (48271 : Int) < 2 ^ 64 by decide),
      mul_r (show -(2 ^ 64) < k ∧ k < 2 ^ 64 by omega), add_int, List.set_cons_succ, List.set_cons_zero, div_ok (show (7 : Int) ≠ 0 ∧ (7 : Int).natAbs < 1073741824 by decide)]
    rw [mul_l (by omega)]
    simp only [mod_ok (show (2147483629 : Int) ≠ 0 by decide), div_ok (show (7 : Int) ≠ 0 ∧ (7 : Int).natAbs < 1073741824 by decide)]
    rfl
  show (match bMixed Φ [some (.int c), some (.int k), none] S with
    | .ok (.rt d) _ S' => gcO S d S'
    | .ok .nx _ S' => gcO S .non S'
    | .ex e _ S' => gcX S e S'
    | _ => .no) = _
  rw [e]
  exact gc_pure0 rfl
theorem ix_left {cs : List Int} {s : Ds} {R : Sto} : aIx (.ob 2) (.str "left") (dst cs s R) = some (.int s.l, dst cs s R) := by kernel_rfl
theorem ix_at {cs : List Int} {s : Ds} {R : Sto} : aIx (.ob 2) (.str "at") (dst cs s R) = some (.int s.a, dst cs s R) := by kernel_rfl
theorem ix_used {cs : List Int} {s : Ds} {R : Sto} : aIx (.ob 2) (.str "used") (dst cs s R) = some (.int s.u, dst cs s R) := by kernel_rfl
theorem ix_cells {cs : List Int} {s : Ds} {R : Sto} : aIx (.ob 2) (.str "cells") (dst cs s R) = some (.ob 1, dst cs s R) := by kernel_rfl
theorem set_left {cs : List Int} {s : Ds} {R : Sto} {x : Int} : aSet (.ob 2) (.str "left") (.int x) (dst cs s R) = some (dst cs ⟨s.a, x, s.u⟩ R) := by kernel_rfl
theorem set_at {cs : List Int} {s : Ds} {R : Sto} {x : Int} : aSet (.ob 2) (.str "at") (.int x) (dst cs s R) = some (dst cs ⟨x, s.l, s.u⟩ R) := by kernel_rfl
theorem set_used {cs : List Int} {s : Ds} {R : Sto} {x : Int} : aSet (.ob 2) (.str "used") (.int x) (dst cs s R) = some (dst cs ⟨s.a, s.l, x⟩ R) := by kernel_rfl
theorem len_cells {cs : List Int} {s : Ds} {R : Sto} : fLen [.ob 1] (dst cs s R) = some (.int cs.length, dst cs s R) := by
  show some (D.int ((cs.map D.int).length : Nat), dst cs s R) = _
  rw [List.length_map]
theorem atI_ok {α : Type} {xs : List α} {i : Int} {j : Nat} {x : α} (e : i = j) (h : xs[j]? = some x) : L2.atI xs i = some x := by
  subst e
  have hj := (List.getElem?_eq_some_iff.mp h).1
  unfold L2.atI L2.ixN
  rw [if_pos (by omega), if_pos (by omega)]
  show xs[((j : Int)).toNat]? = _
  rw [Int.toNat_natCast]
  exact h
theorem ix_cell {cs : List Int} {s : Ds} {R : Sto} {i : Int} {c : Int} (h0 : 0 ≤ i) (h : cs[i.toNat]? = some c) : aIx (.ob 1) (.int i) (dst cs s R) = some (.int c, dst cs s R) := by
  show (L2.atI (cs.map D.int) i).map (fun d => (d, dst cs s R)) = _
  rw [atI_ok (j := i.toNat) (x := .int c) (by omega) (by rw [List.getElem?_map, h]; rfl)]
  rfl
theorem next_run {Φ : PhT} {mi b : Nat} {cs : List Int} {s : Ds} {m : Int} (hΦ : ∀ (c k : Int) (S : Sto), 0 ≤ k → k < 2 ^ 62 → Φ mi [.int c, .int k] S = .ok (.int (mixI c k)) S) (hd : Dr b cs s) (hb : b < 2 ^ 61) (hm : 0 < m) (hm2 : m < 1000000000000000000) :
    ∃ r s', 0 ≤ r ∧ r < m ∧ Dr (b + 1) cs s' ∧ ∀ R, runB 5 (bNext mi Φ) [.ob 2, .int m] (dst cs s R) = .ok (.int r) (dst cs s' R) := by
  have hm' : m ≠ 0 := by omega
  have hm3 : ∀ i, DivOk i m := fun i => .inr ⟨hm, Nat.lt_of_lt_of_le (show m.natAbs < 1000000000000000000 by omega) (by decide)⟩
  have h1 := hd.a0
  have h2 := hd.ab
  have h3 := hd.u0
  have h4 := hd.ub
  by_cases hl : 0 < s.l
  · have q := fmod_bd (i := s.l) hm
    refine ⟨s.l.fmod m, ⟨s.a, s.l.fdiv m, s.u⟩, q.1, q.2, ⟨h1, by show s.a ≤ ((b + 1 : Nat) : Int); omega, h3, by show s.u ≤ ((b + 1 : Nat) : Int); omega, hd.ne, hd.le⟩, fun R => ?_⟩
    have e : bNext mi Φ [some (.ob 2), some (.int m), none, none, none] (dst cs s R) = .ok (.rt (.int (s.l.fmod m))) [some (.ob 2), some (.int m), some (.int (s.l.fmod m)), none, none] (dst cs ⟨s.a, s.l.fdiv m, s.u⟩ R) := by
      simp only [bNext, dSeq, dSet, dSetIx, dIfS, dCmpT, dRet, dOp, dVar, dC, Out.bnd, Out.thn, Out.ofO, List.getElem?_cons_zero, List.getElem?_cons_succ, ix_left, gt_int, hl, decide_true, mod_ok hm', div_okW (hm3 _), set_left, List.set_cons_succ, List.set_cons_zero]
    show (match bNext mi Φ [some (.ob 2), some (.int m), none, none, none] (dst cs s R) with
      | .ok (.rt d) _ S' => gcO (dst cs s R) d S'
      | .ok .nx _ S' => gcO (dst cs s R) .non S'
      | .ex e _ S' => gcX (dst cs s R) e S'
      | _ => .no) = _
    rw [e]
    exact gc_dst0 rfl
  · have hlen : 0 < cs.length := List.length_pos_iff.mpr hd.ne
    have hl64 := hd.le
    have q := fmod_bd (i := s.a) (j := (cs.length : Int)) (by omega)
    have hlt : (s.a.fmod cs.length).toNat < cs.length := by omega
    have hc := List.getElem?_eq_getElem hlt
    generalize cs[(s.a.fmod cs.length).toNat] = c at hc
    have hne : (cs.length : Int) ≠ 0 := by omega
    have hp : (10 : Int) ^ (18 : Int).toNat = 1000000000000000000 := by decide +kernel
    by_cases hx : 1000000000000000000 ≤ c ∧ s.a + 1 ≤ cs.length
    · have q2 := fmod_bd (i := c) hm
      refine ⟨c.fmod m, ⟨s.a + 1, c.fdiv m, s.u⟩, q2.1, q2.2, ⟨by show 0 ≤ s.a + 1; omega, by show s.a + 1 ≤ ((b + 1 : Nat) : Int); omega, h3, by show s.u ≤ ((b + 1 : Nat) : Int); omega, hd.ne, hd.le⟩, fun R => ?_⟩
      have e : bNext mi Φ [some (.ob 2), some (.int m), none, none, none] (dst cs s R) = .ok (.rt (.int (c.fmod m))) [some (.ob 2), some (.int m), none, some (.ob 1), some (.int c)] (dst cs ⟨s.a + 1, c.fdiv m, s.u⟩ R) := by
        simp only [bNext, dSeq, dSet, dSetIx, dIfS, dCmpT, dTAnd, dRet, dOp, dVar, dC, dB, dACons, dANil, dNil, Out.bnd, Out.thn, Out.ofO, List.getElem?_cons_zero, List.getElem?_cons_succ, ix_left, ix_cells, ix_at, ix_used, len_cells, gt_int, ge_int, le_int, add_int, hl, decide_true, decide_false,
          mod_ok hm', div_okW (hm3 _), mod_ok hne, ix_cell q.1 hc, set_left, set_at, set_used, List.set_cons_succ, List.set_cons_zero, pow_ok (show (0 : Int) ≤ 18 ∧ (18 : Int) ≤ 1000000 ∧ (10 : Int).natAbs < 2 ^ 64 by decide), hp, hx.1, hx.2]
      show (match bNext mi Φ [some (.ob 2), some (.int m), none, none, none] (dst cs s R) with
        | .ok (.rt d) _ S' => gcO (dst cs s R) d S'
        | .ok .nx _ S' => gcO (dst cs s R) .non S'
        | .ex e _ S' => gcX (dst cs s R) e S'
        | _ => .no) = _
      rw [e]
      exact gc_dst0 rfl
    · have q2 := fmod_bd (i := mixI (mixI c (s.a + 1)) (s.u + 1)) hm
      refine ⟨(mixI (mixI c (s.a + 1)) (s.u + 1)).fmod m, ⟨s.a + 1, s.l, s.u + 1⟩, q2.1, q2.2, ⟨by show 0 ≤ s.a + 1; omega, by show s.a + 1 ≤ ((b + 1 : Nat) : Int); omega, by show 0 ≤ s.u + 1; omega, by show s.u + 1 ≤ ((b + 1 : Nat) : Int); omega, hd.ne, hd.le⟩, fun R => ?_⟩
      have e : bNext mi Φ [some (.ob 2), some (.int m), none, none, none] (dst cs s R) = .ok (.rt (.int ((mixI (mixI c (s.a + 1)) (s.u + 1)).fmod m))) [some (.ob 2), some (.int m), none, some (.ob 1), some (.int c)] (dst cs ⟨s.a + 1, s.l, s.u + 1⟩ R) := by
        by_cases hx1 : 1000000000000000000 ≤ c
        · have hx2 : ¬ (s.a + 1 ≤ cs.length) := fun z => hx ⟨hx1, z⟩
          simp only [bNext, dSeq, dSet, dSetIx, dIfS, dCmpT, dTAnd, dRet, dOp, dVar, dC, dB, dACons, dANil, dNil, dCall, Out.bnd, Out.thn, Out.ofO, List.getElem?_cons_zero, List.getElem?_cons_succ, ix_left, ix_cells, ix_at, ix_used, len_cells, gt_int, ge_int, le_int, add_int, hl, decide_true, decide_false,
            mod_ok hm', div_okW (hm3 _), mod_ok hne, ix_cell q.1 hc, set_left, set_at, set_used, List.set_cons_succ, List.set_cons_zero, pow_ok (show (0 : Int) ≤ 18 ∧ (18 : Int) ≤ 1000000 ∧ (10 : Int).natAbs < 2 ^ 64 by decide), hp, hx1, hx2, List.length_cons, List.length_nil, if_true, Nat.reduceAdd, hΦ _ (s.a + 1) _ (by omega) (by omega), hΦ _ (s.u + 1) _ (by omega) (by omega)]
        · simp only [bNext, dSeq, dSet, dSetIx, dIfS, dCmpT, dTAnd, dRet, dOp, dVar, dC, dB, dACons, dANil, dNil, dCall, Out.bnd, Out.thn, Out.ofO, List.getElem?_cons_zero, List.getElem?_cons_succ, ix_left, ix_cells, ix_at, ix_used, len_cells, gt_int, ge_int, le_int, add_int, hl, decide_true, decide_false,
            mod_ok hm', div_okW (hm3 _), mod_ok hne, ix_cell q.1 hc, set_left, set_at, set_used, List.set_cons_succ, List.set_cons_zero, pow_ok (show (0 : Int) ≤ 18 ∧ (18 : Int) ≤ 1000000 ∧ (10 : Int).natAbs < 2 ^ 64 by decide), hp, hx1, List.length_cons, List.length_nil, if_true, Nat.reduceAdd, hΦ _ (s.a + 1) _ (by omega) (by omega), hΦ _ (s.u + 1) _ (by omega) (by omega)]
      show (match bNext mi Φ [some (.ob 2), some (.int m), none, none, none] (dst cs s R) with
        | .ok (.rt d) _ S' => gcO (dst cs s R) d S'
        | .ok .nx _ S' => gcO (dst cs s R) .non S'
        | .ex e _ S' => gcX (dst cs s R) e S'
        | _ => .no) = _
      rw [e]
      exact gc_dst0 rfl
/-- the draw begins -/
theorem begin_run {Φ : PhT} {ns : List Int} (h : ns.length ≤ 63) : runB 1 (bBegin Φ) [.rl (ns.map D.int)] [] = .ok (.ob 2) (dst (ns ++ [0]) ⟨0, 0, 0⟩ []) ∧ Dr 0 (ns ++ [0]) ⟨0, 0, 0⟩ := by
  refine ⟨?_, ⟨by decide, by decide, by decide, by decide, by simp, by rw [List.length_append]; show ns.length + 1 ≤ 64; omega⟩⟩
  have hs : (ns.map D.int).length + [D.int 0].length ≤ sizeLine := by
    rw [List.length_map, sizeLine_eq]
    show ns.length + 1 ≤ _
    omega
  have e1 : aAdd (.rl (ns.map D.int)) (.ob 0) [.lst [.int 0]] = some (.ob 1, [.lst [.int 0], .lst ((ns ++ [0]).map D.int)]) := by
    show (if (ns.map D.int).length + [D.int 0].length ≤ sizeLine then some (D.ob 1, [O.lst [.int 0], .lst (ns.map D.int ++ [.int 0])]) else none) = _
    rw [if_pos hs, List.map_append]
    rfl
  have e : bBegin Φ [some (.rl (ns.map D.int))] [] = .ok (.rt (.ob 2)) [some (.rl (ns.map D.int))] (dst (ns ++ [0]) ⟨0, 0, 0⟩ []) := by
    have hz : [D.int 0].length ≤ sizeLine := by rw [sizeLine_eq]; show 1 ≤ _; omega
    simp only [bBegin, dSeq, dRet, dDict, evP, dOp, dVar, dC, dLst, dACons, dANil, Out.bnd, Out.thn, Out.ofO, List.getElem?_cons_zero, if_pos hz, List.length_nil, List.nil_append, e1]
    rfl
  show (match bBegin Φ [some (.rl (ns.map D.int))] [] with
    | .ok (.rt d) _ S' => gcO [] d S'
    | .ok .nx _ S' => gcO [] .non S'
    | .ex e _ S' => gcX [] e S'
    | _ => .no) = _
  rw [e]
  show gcO [] (.ob 2) (dst (ns ++ [0]) ⟨0, 0, 0⟩ []) = _
  unfold gcO
  rw [if_neg (fun z => by cases z.2)]
  have e2 : (dst (ns ++ [0]) ⟨0, 0, 0⟩ [])[2]? = some (drw ⟨0, 0, 0⟩) := rfl
  dsimp only
  rw [e2]
  dsimp only
  rw [if_neg (fun z => by cases z.2.2)]
end
end DL
/-! DL, part s: what the meanings do, in plain terms. -/
namespace DL
open PySem PySem.Spec PyProof.Rows L2
noncomputable section

theorem phi_succ {T : List FDef} {G : GEnv} {k i : Nat} {d : FDef} {b : PhT → DenS} (hT : T[i]? = some d) (hd : d.den G = some b) : Phi T G (k + 1) i = runB d.N.length (b (Phi T G k)) := by
  funext ds S
  rw [Phi_succ, hT]
  dsimp only
  rw [hd]
theorem runB_rt {n : Nat} {b : DenS} {ds : List D} {S S' : Sto} {d : D} {fr : Fr} {o : Out D} (h : b (ds.map some ++ List.replicate (n - ds.length) none) S = .ok (.rt d) fr S') (hg : gcO S d S' = o) : runB n b ds S = o := by
  unfold runB
  rw [h]
  exact hg
theorem runB_nx {n : Nat} {b : DenS} {ds : List D} {S S' : Sto} {fr : Fr} {o : Out D} (h : b (ds.map some ++ List.replicate (n - ds.length) none) S = .ok .nx fr S') (hg : gcO S .non S' = o) : runB n b ds S = o := by
  unfold runB
  rw [h]
  exact hg

/-! ### == -/
section
variable {S : Sto}
theorem eq_int {i j : Int} : aEq (.int i) (.int j) S = some (.bl (decide (i = j)), S) := by
  have e : PyData.eqv (.int i) (.int j) = decide (i = j) := by
    show (i == j) = _
    exact Bool.beq_eq_decide_eq i j
  show some (D.bl (PyData.eqv (.int i) (.int j)), S) = _
  rw [e]
theorem ne_int {i j : Int} : aNe (.int i) (.int j) S = some (.bl (!decide (i = j)), S) := by
  have e : PyData.eqv (.int i) (.int j) = decide (i = j) := by
    show (i == j) = _
    exact Bool.beq_eq_decide_eq i j
  show some (D.bl (!PyData.eqv (.int i) (.int j)), S) = _
  rw [e]
theorem eq_str {i j : Str} : aEq (.str i) (.str j) S = some (.bl (decide (i = j)), S) := by
  have e : PyData.eqv (.str i) (.str j) = decide (i = j) := by
    show (i == j) = _
    exact Bool.beq_eq_decide_eq i j
  show some (D.bl (PyData.eqv (.str i) (.str j)), S) = _
  rw [e]
theorem ne_str {i j : Str} : aNe (.str i) (.str j) S = some (.bl (!decide (i = j)), S) := by
  have e : PyData.eqv (.str i) (.str j) = decide (i = j) := by
    show (i == j) = _
    exact Bool.beq_eq_decide_eq i j
  show some (D.bl (!PyData.eqv (.str i) (.str j)), S) = _
  rw [e]
theorem eq_bl {i j : Bool} : aEq (.bl i) (.bl j) S = some (.bl (decide (i = j)), S) := by
  cases i <;> cases j <;> rfl
theorem ne_bl {i j : Bool} : aNe (.bl i) (.bl j) S = some (.bl (!decide (i = j)), S) := by
  cases i <;> cases j <;> rfl
theorem is_non {d : D} : aIs d .non S = some (.bl (isNon d), S) := rfl
theorem isNot_non {d : D} : aIsNot d .non S = some (.bl (!isNon d), S) := rfl
theorem isNot_true {b : Bool} : aIsNot (.bl b) (.bl true) S = some (.bl (!b), S) := by cases b <;> rfl
theorem eq_empty {i j : Nat} {xs : List D} {ps : List PyData} (hi : S[i]? = some (.lst xs)) (hj : S[j]? = some (.lst [])) (hp : toPs (obP 11 S) xs = some ps) :
    aEq (.ob i) (.ob j) S = some (.bl xs.isEmpty, S) ∧ aNe (.ob i) (.ob j) S = some (.bl (!xs.isEmpty), S) := by
  have h1 : dP S (.ob i) = some (.list ps) := by
    show (match S[i]? with | some (.lst xs) => (toPs (obP 11 S) xs).map PyData.list | _ => none) = _
    rw [hi]
    dsimp only
    rw [hp]
    rfl
  have h2 : dP S (.ob j) = some (.list []) := by
    show (match S[j]? with | some (.lst xs) => (toPs (obP 11 S) xs).map PyData.list | _ => none) = _
    rw [hj]
    rfl
  have h3 : ps.isEmpty = xs.isEmpty := by
    cases xs with
    | nil => cases hp; rfl
    | cons a b =>
      unfold toPs at hp
      split at hp
      · cases hp; rfl
      · cases hp
  have h4 : PyData.eqv (.list ps) (.list []) = ps.isEmpty := by cases ps <;> rfl
  have h5 : min (PyData.depth (.list ps)) (PyData.depth (.list [])) ≤ 100 := Nat.le_trans (Nat.min_le_right _ _) (by decide)
  unfold aEq aNe eqP
  rw [h1, h2]
  dsimp only
  rw [if_pos h5, h4, h3]
  exact ⟨rfl, by rw [if_pos h5]; rfl⟩
theorem toPs_strs {f : Nat → Option PyData} : ∀ l : List Str, toPs f (l.map D.str) = some (l.map PyData.str)
  | [] => rfl
  | a :: l => by
    show (match toP f (.str a), toPs f (l.map D.str) with | some p, some ps => some (p :: ps) | _, _ => none) = _
    rw [toPs_strs l]
    rfl
end

/-! ### texts -/
theorem optAll_bl {α : Type} (p : α → Bool) : ∀ l : List α, optAll blOf (l.map fun c => D.bl (p c)) = some (l.map p)
  | [] => rfl
  | a :: l => by
    have := optAll_bl p l
    rw [List.map_cons]
    unfold optAll
    rw [this]
    rfl
theorem optAll_strs : ∀ l : List Str, optAll strOf (l.map D.str) = some l
  | [] => rfl
  | a :: l => by
    have := optAll_strs l
    rw [List.map_cons]
    unfold optAll
    rw [this]
    rfl
theorem fAll_bl {α : Type} (p : α → Bool) (l : List α) (S : Sto) : fAll (l.map fun c => D.bl (p c)) S = some (.bl (l.all p), S) := by
  unfold fAll
  rw [optAll_bl]
  show some (D.bl ((l.map p).all id), S) = _
  rw [List.all_map]
  rfl
theorem sub1 {c : Nat} {y : Str} : subS ⟨#[c]⟩ y = decide (c ∈ y.cps.toList) := rfl
theorem in_one {c : Nat} {y : Str} {S : Sto} : aIn (.str ⟨#[c]⟩) (.str y) S = some (.bl (decide (c ∈ y.cps.toList)), S) := rfl
theorem notIn_one {c : Nat} {y : Str} {S : Sto} : aNotIn (.str ⟨#[c]⟩) (.str y) S = some (.bl (!decide (c ∈ y.cps.toList)), S) := rfl
theorem len_str {z : Str} {S : Sto} (h : z.length ≤ sizeLine) : fLen [.str z] S = some (.int z.length, S) := if_pos h
theorem str_len (z : Str) : z.length = z.cps.toList.length := by
  show z.cps.size = _
  rw [Array.length_toList]

/-! ### comprehensions -/
theorem compL_ok {ok : Sto → Prop} {t : DTg} {tt : DenT} {e : DenE} {fr : Fr} {S : Sto} {α : Type} (mk : α → D) (p : α → Bool) (v : α → D) (hok : ok S) : ∀ (items : List α),
    (∀ a ∈ items, ∃ fr1, t (mk a) fr S = some fr1 ∧ tt fr1 S = .ok (p a) S ∧ (p a = true → e fr1 S = .ok (v a) S)) → compL ok t tt e fr (items.map mk) S = .ok ((items.filter p).map v) S
  | [], _ => by
    unfold compL
    exact if_pos hok
  | a :: l, h => by
    obtain ⟨fr1, h1, h2, h3⟩ := h a List.mem_cons_self
    have ih := compL_ok mk p v hok l fun b hb => h b (List.mem_cons_of_mem _ hb)
    rw [List.map_cons]
    unfold compL
    rw [if_pos hok, h1]
    dsimp only
    rw [h2]
    cases q : p a with
    | false =>
      rw [List.filter_cons_of_neg (by rw [q]; exact Bool.false_ne_true)]
      exact ih
    | true =>
      rw [List.filter_cons_of_pos q]
      dsimp only
      rw [h3 q]
      dsimp only
      rw [ih]
      rfl
theorem noGuard {xs : List D} {S : Sto} : (Src.mk xs []).ok S := fun p hp => by cases hp
/-- over the signs of a text -/
theorem comp_signs {i j : Nat} {tt : DenT} {e : DenE} {fr : Fr} {S : Sto} {z : Str} (p : Nat → Bool) (v : Nat → D) (hj : fr[j]? = some (some (.str z))) (hl : z.length ≤ sizeLine)
    (h : ∀ c, tt ((wipeD fr [i]).set i (some (.str ⟨#[c]⟩))) S = .ok (p c) S ∧ (p c = true → e ((wipeD fr [i]).set i (some (.str ⟨#[c]⟩))) S = .ok (v c) S)) :
    dComp [i] (dISeq (dVar j)) (gN i) tt e fr S = .ok ((z.cps.toList.filter p).map v) S := by
  have e1 : dISeq (dVar j) fr S = .ok ⟨signs z, []⟩ S := by
    unfold dISeq dVar
    rw [hj]
    show Out.ofS (if z.length ≤ sizeLine then some (Src.mk (signs z) []) else none) S = _
    rw [if_pos hl]
    rfl
  unfold dComp
  rw [e1]
  exact compL_ok (fun c => D.str ⟨#[c]⟩) p v noGuard z.cps.toList fun c _ => ⟨_, rfl, h c⟩
/-- drawn: what each turn gives is of P, and wants at most c numbers -/
theorem compL_dr {ok : Sto → Prop} {t : DTg} {e : DenE} {fr : Fr} {cs : List Int} {P : D → Prop} {c B : Nat} (hok : ∀ S, ok S) : ∀ (items : List D) (b : Nat) (s : Ds),
    (∀ d ∈ items, ∀ (b : Nat) (s : Ds), Dr b cs s → b ≤ B → ∃ v s', P v ∧ Dr (b + c) cs s' ∧ ∀ R, ∃ fr1, t d fr (dst cs s R) = some fr1 ∧ e fr1 (dst cs s R) = .ok v (dst cs s' R)) → Dr b cs s → b + c * items.length ≤ B →
    ∃ vs s', vs.length = items.length ∧ (∀ v ∈ vs, P v) ∧ Dr (b + c * items.length) cs s' ∧ ∀ R, compL ok t dYes e fr items (dst cs s R) = .ok vs (dst cs s' R)
  | [], b, s, _, hd, _ => ⟨[], s, rfl, fun v hv => (by cases hv), hd, fun R => (by
      unfold compL
      exact if_pos (hok _))⟩
  | d :: l, b, s, h, hd, hb => by
    rw [List.length_cons, Nat.mul_succ] at hb
    obtain ⟨v, s1, h1, h2, h3⟩ := h d List.mem_cons_self b s hd (by omega)
    obtain ⟨vs, s2, k1, k2, k3, k4⟩ := compL_dr hok l (b + c) s1 (fun d' hd' => h d' (List.mem_cons_of_mem _ hd')) h2 (by omega)
    refine ⟨v :: vs, s2, by rw [List.length_cons, List.length_cons, k1], fun w hw => ?_, ?_, fun R => ?_⟩
    · rcases List.mem_cons.mp hw with z | z
      · rw [z]; exact h1
      · exact k2 w z
    · rw [List.length_cons, Nat.mul_succ]
      exact k3.mono (by omega)
    · obtain ⟨fr1, q1, q2⟩ := h3 R
      unfold compL
      rw [if_pos (hok _), q1]
      dsimp only [dYes]
      rw [q2]
      dsimp only
      rw [k4 R]
end
end DL
/-! DL, part t: the meanings run by simp. -/
namespace DL
open PySem PySem.Spec PyProof.Rows L2
noncomputable section
section
variable {S : Sto} {fr : Fr} {f h : DenE} {g : DenA} {t u : DenT} {a b : DenS}
@[simp] theorem ev_var {i : Nat} : dVar i fr S = match fr[i]? with
  | some (some d) => .ok d S
  | _ => .no := rfl
@[simp] theorem ev_c {d : D} : dC d fr S = .ok d S := rfl
@[simp] theorem ev_bok {α β : Type} {x : α} {k : α → Sto → Out β} : (Out.ok x S).bnd k = k x S := rfl
@[simp] theorem ev_bex {α β : Type} {x : Ex} {k : α → Sto → Out β} : (Out.ex x S : Out α).bnd k = .ex x S := rfl
@[simp] theorem ev_tok {α : Type} {x : α} {k : α → Sto → OutS} : (Out.ok x S).thn fr k = k x S := rfl
@[simp] theorem ev_tex {α : Type} {x : Ex} {k : α → Sto → OutS} : (Out.ex x S : Out α).thn fr k = .ex x fr S := rfl
@[simp] theorem ev_of {α : Type} {x : α} : Out.ofO (some (x, S)) = .ok x S := rfl
@[simp] theorem ev_op {o : F2} : dOp o f h fr S = (f fr S).bnd fun x S' => (h fr S').bnd fun y S'' => .ofO (o x y S'') := rfl
@[simp] theorem ev_anil : dANil fr S = .ok [] S := rfl
@[simp] theorem ev_acons : dACons f g fr S = (f fr S).bnd fun d S' => (g fr S').bnd fun ds S'' => .ok (d :: ds) S'' := rfl
@[simp] theorem ev_b {o : FB} : dB o g fr S = (g fr S).bnd fun ds S' => .ofO (o ds S') := rfl
@[simp] theorem ev_tr : dTr f fr S = (f fr S).bnd fun d S' => match truD d S' with
  | some b => .ok b S'
  | none => .no := by unfold dTr; rfl
@[simp] theorem ev_tand : dTAnd t u fr S = (t fr S).bnd fun b S' => match b with
  | true => u fr S'
  | false => .ok false S' := by unfold dTAnd; rfl
@[simp] theorem ev_tor : dTOr t u fr S = (t fr S).bnd fun b S' => match b with
  | true => .ok true S'
  | false => u fr S' := by unfold dTOr; rfl
@[simp] theorem ev_tnot : dTNot t fr S = (t fr S).bnd fun b S' => .ok (!b) S' := rfl
@[simp] theorem ev_yes : dYes fr S = .ok true S := rfl
@[simp] theorem ev_if : dIf t f h fr S = (t fr S).bnd fun b S' => match b with
  | true => f fr S'
  | false => h fr S' := by unfold dIf; rfl
@[simp] theorem ev_cmpT {o : F2} : dCmpT o f h fr S = (f fr S).bnd fun x S' => (h fr S').bnd fun y S'' => match o x y S'' with
  | some (.bl k, S3) => .ok k S3
  | _ => .no := by unfold dCmpT; rfl
@[simp] theorem ev_chain {o o' : F2} {c : DenE} : dChain o o' f h c fr S = (f fr S).bnd fun x S' => (h fr S').bnd fun y S'' => match o x y S'' with
  | some (.bl true, S3) => (c fr S3).bnd fun z S4 => .ofO (o' y z S4)
  | some (.bl false, S3) => .ok (.bl false) S3
  | _ => .no := by unfold dChain; rfl
@[simp] theorem ev_chainT {o o' : F2} {c : DenE} : dChainT o o' f h c fr S = (dChain o o' f h c fr S).bnd fun d S' => match d with
  | .bl k => .ok k S'
  | _ => .no := by unfold dChainT; rfl
@[simp] theorem ev_seq : dSeq a b fr S = match a fr S with
  | .ok .nx fr' S' => b fr' S'
  | o => o := by unfold dSeq; rfl
@[simp] theorem ev_nil : dNil fr S = .ok .nx fr S := rfl
@[simp] theorem ev_break : dBreak fr S = .ok .bk fr S := rfl
@[simp] theorem ev_cont : dCont fr S = .ok .ct fr S := rfl
@[simp] theorem ev_set {i : Nat} : dSet i f fr S = (f fr S).thn fr fun d S' => .ok .nx (fr.set i (some d)) S' := rfl
@[simp] theorem ev_expr : dExpr f fr S = (f fr S).thn fr fun _ S' => .ok .nx fr S' := rfl
@[simp] theorem ev_ret : dRet f fr S = (f fr S).thn fr fun d S' => .ok (.rt d) fr S' := rfl
@[simp] theorem ev_retN : dRetN fr S = .ok (.rt .non) fr S := rfl
@[simp] theorem ev_ifS : dIfS t a b fr S = (t fr S).thn fr fun c S' => match c with
  | true => a fr S'
  | false => b fr S' := by unfold dIfS; rfl
@[simp] theorem ev_andV : dAndV f h fr S = (f fr S).bnd fun d S' => match truD d S' with
  | some true => h fr S'
  | some false => .ok d S'
  | none => .no := by unfold dAndV; rfl
@[simp] theorem ev_orV : dOrV f h fr S = (f fr S).bnd fun d S' => match truD d S' with
  | some true => .ok d S'
  | some false => h fr S'
  | none => .no := by unfold dOrV; rfl
@[simp] theorem ev_notV : dNotV f fr S = (f fr S).bnd fun d S' => match truD d S' with
  | some b => .ok (.bl (!b)) S'
  | none => .no := by unfold dNotV; rfl
@[simp] theorem ev_neg : dNeg f fr S = (f fr S).bnd fun d S' => match d with
  | .int i => .ok (.int (-i)) S'
  | _ => .no := by unfold dNeg; rfl
@[simp] theorem ev_call {n : Nat} {φ : List D → Sto → Out D} : dCall n φ g fr S = (g fr S).bnd fun ds S' => if ds.length = n then φ ds S' else .no := rfl
@[simp] theorem ev_m {T : String} {m : FM} : dM T m f g fr S = (f fr S).bnd fun d S' => if mtyD d S' = some T then (g fr S').bnd fun ds S2 => .ofO (m d ds S2) else .no := rfl
@[simp] theorem ev_keep : dKeep g fr S = (g fr S).bnd fun ds S' => .ok (.ob S'.length) (S' ++ [.lst ds]) := rfl
@[simp] theorem ev_partN : dPart none fr S = .ok none S := rfl
@[simp] theorem ev_partS : dPart (some f) fr S = (f fr S).bnd fun d S' => match d with
  | .int i => .ok (some i) S'
  | _ => .no := by unfold dPart; rfl
@[simp] theorem ev_sl {lo hi : Option DenE} : dSl f lo hi fr S = (f fr S).bnd fun d S' => (dPart lo fr S').bnd fun l S2 => (dPart hi fr S2).bnd fun h S3 => .ofO (aSl d l h S3) := rfl
theorem five_line : (5 : Nat) ≤ 100 := by decide
theorem small_line {n : Nat} (h : n ≤ 1000) : n ≤ sizeLine := by rw [sizeLine_eq]; omega
@[simp] theorem size_small {n : Nat} (h : n ≤ 1000) : (n ≤ sizeLine) = True := eq_true (small_line h)
@[simp] theorem ev_tup : dTup g fr S = (g fr S).bnd fun ds S' => if ds.length ≤ sizeLine then .ok (.tup ds) S' else .no := rfl
@[simp] theorem ev_lst : dLst g fr S = (g fr S).bnd fun ds S' => if ds.length ≤ sizeLine then .ok (.ob S'.length) (S' ++ [.lst ds]) else .no := rfl
@[simp] theorem ev_lstT : dLstT g fr S = (g fr S).bnd fun ds S' => if ds.length ≤ sizeLine then .ok ds S' else .no := rfl
@[simp] theorem ev_dict0 : dDict [] fr S = .ok (.ob S.length) (S ++ [.dk []]) := rfl
@[simp] theorem tr_bl {c : Bool} : truD (.bl c) S = some c := rfl
@[simp] theorem tr_non : truD .non S = some false := rfl
@[simp] theorem s_add {i j : Int} : aAdd (.int i) (.int j) S = some (.int (i + j), S) := rfl
@[simp] theorem s_sub {i j : Int} : aSub (.int i) (.int j) S = some (.int (i - j), S) := rfl
@[simp] theorem s_lt {i j : Int} : aLt (.int i) (.int j) S = some (.bl (decide (i < j)), S) := rfl
@[simp] theorem s_le {i j : Int} : aLe (.int i) (.int j) S = some (.bl (decide (i ≤ j)), S) := rfl
@[simp] theorem s_gt {i j : Int} : aGt (.int i) (.int j) S = some (.bl (decide (j < i)), S) := rfl
@[simp] theorem s_ge {i j : Int} : aGe (.int i) (.int j) S = some (.bl (decide (j ≤ i)), S) := rfl
@[simp] theorem s_eqi {i j : Int} : aEq (.int i) (.int j) S = some (.bl (decide (i = j)), S) := eq_int
@[simp] theorem s_nei {i j : Int} : aNe (.int i) (.int j) S = some (.bl (!decide (i = j)), S) := ne_int
@[simp] theorem s_eqs {i j : Str} : aEq (.str i) (.str j) S = some (.bl (decide (i = j)), S) := eq_str
@[simp] theorem s_nes {i j : Str} : aNe (.str i) (.str j) S = some (.bl (!decide (i = j)), S) := ne_str
@[simp] theorem s_eqb {i j : Bool} : aEq (.bl i) (.bl j) S = some (.bl (decide (i = j)), S) := eq_bl
@[simp] theorem s_neb {i j : Bool} : aNe (.bl i) (.bl j) S = some (.bl (!decide (i = j)), S) := ne_bl
@[simp] theorem s_is {d : D} : aIs d .non S = some (.bl (isNon d), S) := rfl
@[simp] theorem s_isN {d : D} : aIsNot d .non S = some (.bl (!isNon d), S) := rfl
@[simp] theorem s_isT {b c : Bool} : aIs (.bl b) (.bl c) S = some (.bl (decide (b = c)), S) := by cases b <;> cases c <;> rfl
@[simp] theorem s_isNT {b c : Bool} : aIsNot (.bl b) (.bl c) S = some (.bl (!decide (b = c)), S) := by cases b <;> cases c <;> rfl
/-- an int literal's product -/
@[simp] theorem s_mulL {i j : Int} (h : -18446744073709551616 < i ∧ i < 18446744073709551616) : aMul (.int i) (.int j) S = some (.int (i * j), S) := mul_l (by omega)
@[simp] theorem s_mulR {i j : Int} (h : -18446744073709551616 < j ∧ j < 18446744073709551616) : aMul (.int i) (.int j) S = some (.int (i * j), S) := mul_r (by omega)
@[simp] theorem s_mod {i j : Int} (h : j ≠ 0) : aMod (.int i) (.int j) S = some (.int (i.fmod j), S) := mod_ok h
@[simp] theorem s_div {i j : Int} (h : j ≠ 0 ∧ j.natAbs < 1073741824) : aFDiv (.int i) (.int j) S = some (.int (i.fdiv j), S) := div_ok h
@[simp] theorem s_pow {i j : Int} (h : (0 ≤ j ∧ j ≤ 1000000) ∧ i.natAbs < 18446744073709551616) : aPow (.int i) (.int j) S = some (.int (i ^ j.toNat), S) := pow_ok ⟨h.1.1, h.1.2, h.2⟩
@[simp] theorem s_len {z : Str} (h : z.length ≤ 1000) : fLen [.str z] S = some (.int z.length, S) := len_str (small_line h)
@[simp] theorem mt_str {z : Str} : mtyD (.str z) S = some "str" := rfl
@[simp] theorem und_non {n : Nat} : D.und n .non = true := rfl
@[simp] theorem und_bl {n : Nat} {c : Bool} : D.und n (.bl c) = true := rfl
@[simp] theorem und_int {n : Nat} {c : Int} : D.und n (.int c) = true := rfl
@[simp] theorem und_str {n : Nat} {c : Str} : D.und n (.str c) = true := rfl
@[simp] theorem d_app {cs : List Int} {s : Ds} {R T : Sto} : dst cs s R ++ T = dst cs s (R ++ T) := rfl
@[simp] theorem d_len {cs : List Int} {s : Ds} {R : Sto} : List.length (dst cs s R) = R.length + 3 := rfl
@[simp] theorem d_get {cs : List Int} {s : Ds} {R : Sto} {i : Nat} : (dst cs s R)[i + 3]? = R[i]? := rfl
end
/-- what a def's body gives back -/
def rtOf : OutS → Option (D × Sto)
  | .ok (.rt d) _ S => some (d, S)
  | .ok .nx _ S => some (.non, S)
  | _ => none
@[simp] theorem rt_rt {d : D} {fr : Fr} {S : Sto} : rtOf (.ok (.rt d) fr S) = some (d, S) := rfl
@[simp] theorem rt_nx {fr : Fr} {S : Sto} : rtOf (.ok .nx fr S) = some (.non, S) := rfl
theorem runB_of {n : Nat} {b : DenS} {ds : List D} {S S' : Sto} {d : D} {o : Out D} (h : rtOf (b (ds.map some ++ List.replicate (n - ds.length) none) S) = some (d, S')) (hg : gcO S d S' = o) : runB n b ds S = o := by
  unfold runB
  cases q : b (ds.map some ++ List.replicate (n - ds.length) none) S with
  | ok fl fr S2 =>
    rw [q] at h
    cases fl <;> cases h <;> exact hg
  | ex e fr S2 => rw [q] at h; cases h
  | no => rw [q] at h; cases h
/-- the type that isinstance sees, of a thing of plain kind -/
def knd : D → Option String
  | .non => some "NoneType"
  | .bl _ => some "bool"
  | .int _ => some "int"
  | .str _ => some "str"
  | .tup _ => some "tuple"
  | .rl _ => some "list"
  | _ => none
theorem isi_ok {d : D} {S : Sto} {a b : String} (h : tyD d S = some a) (hb : b ∈ tyNames) : fIsi [d, .ty b] S = some (.bl (isTy a b), S) := by
  show (match tyD d S with
    | some a => if b ∈ tyNames then some (D.bl (isTy a b), S) else none
    | none => none) = _
  rw [h]
  exact if_pos hb
theorem tyD_ob {n : Nat} {S : Sto} {a : String} (h : tyD (.ob n) S = some a) : a = "list" ∨ a = "dict" := by
  unfold tyD at h
  dsimp only at h
  split at h
  · cases h; exact .inl rfl
  · cases h; exact .inr rfl
  · cases h
end
end DL
/-! DL, part u: lists, texts and drawn texts. -/
namespace DL
open PySem PySem.Spec PyProof.Rows L2
noncomputable section
def tx (cs : List Nat) : Str := ⟨cs.toArray⟩
theorem tx_cps (cs : List Nat) : (tx cs).cps.toList = cs := by simp [tx]
theorem tx_len (cs : List Nat) : (tx cs).length = cs.length := by rw [str_len, tx_cps]
theorem tx_of (z : Str) : z = tx z.cps.toList := by
  obtain ⟨a⟩ := z
  simp [tx]
theorem tx_inj {a b : List Nat} : tx a = tx b ↔ a = b := by
  constructor
  · intro h
    have := congrArg (fun z : Str => z.cps.toList) h
    rwa [tx_cps, tx_cps] at this
  · intro h; rw [h]
theorem ix_lst {S : Sto} {j : Nat} {xs : List D} {r : Int} {d : D} (hj : S[j]? = some (.lst xs)) (h0 : 0 ≤ r) (hd : xs[r.toNat]? = some d) : aIx (.ob j) (.int r) S = some (d, S) := by
  have e : seqD (.ob j) S = some xs := by
    show (match S[j]? with
      | some (.lst xs) => some xs
      | _ => none) = _
    rw [hj]
  show (match seqD (.ob j) S with
    | some xs => (L2.atI xs r).map fun d => (d, S)
    | none => match S[j]? with
      | some (.dk kvs) => match keyD (.int r) with
        | some k => (valD kvs k).map fun d => (d, S)
        | none => none
      | _ => none) = _
  rw [e]
  dsimp only
  rw [atI_ok (j := r.toNat) (x := d) (by omega) hd]
  rfl
theorem get_int {α : Type} (xs : List α) {r : Int} (h0 : 0 ≤ r) (h1 : r < xs.length) : ∃ d, d ∈ xs ∧ xs[r.toNat]? = some d := by
  have hl : r.toNat < xs.length := by omega
  exact ⟨xs[r.toNat], List.getElem_mem hl, List.getElem?_eq_getElem hl⟩
theorem ix_str {z : Str} {r : Int} (h0 : 0 ≤ r) (h1 : r < z.length) (hz : z.length ≤ 1000) : ∃ c, c ∈ z.cps.toList ∧ ∀ S, aIx (.str z) (.int r) S = some (.str ⟨#[c]⟩, S) := by
  obtain ⟨c, hc, e⟩ := get_int z.cps.toList (r := r) h0 (by rw [← str_len]; exact h1)
  refine ⟨c, hc, fun S => ?_⟩
  show (if z.length ≤ sizeLine then (L2.atI z.cps.toList r).map (fun c => (D.str ⟨#[c]⟩, S)) else none) = _
  rw [if_pos (small_line hz), atI_ok (j := r.toNat) (x := c) (by omega) e]
  rfl
theorem cut_len (z : Str) (lo hi : Option Int) : (cutS z lo hi).length ≤ z.length := by
  rw [str_len, str_len]
  unfold cutS
  simp only [List.length_take, List.length_drop]
  omega
theorem sl_any {z : Str} (lo hi : Option Int) (hz : z.length ≤ 1000) : ∃ y : Str, y.length ≤ z.length ∧ ∀ S, aSl (.str z) lo hi S = some (.str y, S) :=
  ⟨cutS z lo hi, cut_len z lo hi, fun S => if_pos (small_line hz)⟩
theorem add_str {x y : Str} {S : Sto} (h : x.length + y.length ≤ 1000) : aAdd (.str x) (.str y) S = some (.str (x ++ y), S) := if_pos (small_line h)
theorem app_len (x y : Str) : (x ++ y).length = x.length + y.length := by
  show (x.cps ++ y.cps).size = _
  rw [Array.size_append]
  rfl
theorem one_len (c : Nat) : (⟨#[c]⟩ : Str).length = 1 := rfl
theorem join_one {vs : List D} (h : ∀ v ∈ vs, ∃ c, v = D.str ⟨#[c]⟩) (hl : vs.length ≤ 1000) : ∃ z : Str, z.length = vs.length ∧ ∀ S, mJoinT (.str "") vs S = some (.str z, S) := by
  have : ∃ l : List Str, vs = l.map D.str ∧ ∀ a ∈ l, a.length = 1 := by
    clear hl
    induction vs with
    | nil => exact ⟨[], rfl, fun a ha => by cases ha⟩
    | cons v vs ih =>
      obtain ⟨l, e, h1⟩ := ih fun w hw => h w (List.mem_cons_of_mem _ hw)
      obtain ⟨c, rfl⟩ := h v List.mem_cons_self
      refine ⟨⟨#[c]⟩ :: l, by rw [e]; rfl, fun a ha => ?_⟩
      rcases List.mem_cons.mp ha with q | q
      · rw [q]; rfl
      · exact h1 a q
  obtain ⟨l, rfl, h1⟩ := this
  rw [List.length_map] at hl
  refine ⟨Txt.join "" l, ?_, fun S => ?_⟩
  · rw [List.length_map]
    exact PySem.W.KT.join_ones l h1
  · show (match optAll strOf (l.map D.str) with
      | some ys => if joinOk "" ys then some (D.str (Txt.join "" ys), S) else none
      | none => none) = _
    rw [optAll_strs]
    dsimp only
    rw [if_pos]
    have e0 : (("" : Str)).length = 0 := by decide +kernel
    have es : (l.map (·.length)).sum = l.length := by
      clear hl h
      induction l with
      | nil => rfl
      | cons a l ih =>
        rw [List.map_cons, List.sum_cons, List.length_cons, ih fun b hb => h1 b (List.mem_cons_of_mem _ hb), h1 a List.mem_cons_self]
        omega
    show (l.map (·.length)).sum + l.length * (("" : Str)).length ≤ 16777216
    rw [es, e0]
    omega
theorem range1 {h : DenA} {fr : Fr} {S S' : Sto} {n : Int} (e : h fr S = .ok [.int n] S') (h0 : 0 ≤ n) (hn : n ≤ 1000) : dIRange1 h fr S = .ok ⟨upTo 0 n.toNat, []⟩ S' := by
  unfold dIRange1
  rw [e]
  show (if -(2 ^ 62) ≤ n ∧ n ≤ 16777216 then Out.ok (Src.mk (upTo 0 n.toNat) []) S' else .no) = _
  rw [if_pos ⟨by omega, by omega⟩]
theorem dst_new {cs : List Int} {s : Ds} {R T : Sto} (j : Nat) : (dst cs s (R ++ T))[R.length + 3 + j]? = T[j]? := by
  rw [show R.length + 3 + j = (R.length + j) + 3 by omega, dst_get, List.getElem?_append_right (by omega), Nat.add_sub_cancel_left]
theorem upTo_len (lo : Int) (n : Nat) : (upTo lo n).length = n := by
  unfold upTo
  rw [List.length_map, List.length_range]
/-- a loop that goes through all its items -/
theorem forL_nx {ok : Sto → Prop} {t : DTg} {b : DenS} (hok : ∀ S, ok S) (N : Nat) (I : Nat → Fr → Sto → Prop) : ∀ (items : List D), (∀ d ∈ items, ∀ n fr S, n < N → I n fr S → ∃ fr1 fr2 S2, t d fr S = some fr1 ∧ (b fr1 S = .ok .nx fr2 S2 ∨ b fr1 S = .ok .ct fr2 S2) ∧ I (n + 1) fr2 S2) →
    ∀ n fr S, n + items.length ≤ N → I n fr S → ∃ fr' S', forL ok t b items fr S = .ok .nx fr' S' ∧ I (n + items.length) fr' S'
  | [], _, n, fr, S, _, hI => ⟨fr, S, by unfold forL; exact if_pos (hok S), hI⟩
  | d :: l, h, n, fr, S, hn, hI => by
    rw [List.length_cons] at hn
    obtain ⟨fr1, fr2, S2, h1, h2, h3⟩ := h d List.mem_cons_self n fr S (by omega) hI
    obtain ⟨fr', S', e, hI'⟩ := forL_nx hok N I l (fun d' hd' => h d' (List.mem_cons_of_mem _ hd')) (n + 1) fr2 S2 (by omega) h3
    refine ⟨fr', S', ?_, by rw [List.length_cons, Nat.add_comm l.length 1, ← Nat.add_assoc]; exact hI'⟩
    unfold forL
    rw [if_pos (hok S), h1]
    dsimp only
    rcases h2 with h2 | h2 <;> rw [h2] <;> exact e
end
end DL
/-! the defs of this law, their table and their meanings (written by gen.py) -/
namespace K02
open PySem PySem.Spec PyProof.Rows L2 DL
noncomputable section
def top (i : Nat) : Stmt := PySem.Challenge.pw_borderkin_k02_refusals_by_hand.main.body.getD i (.Pass ⟨0, 0, 0, 0⟩)
def f_law_begin : FDef := ⟨"_law_begin", "_law_begin", top 16, ["_law_script"], ["_law_script"]⟩
def f_law_mixed : FDef := ⟨"_law_mixed", "_law_mixed", top 17, ["_law_cell", "_law_k"], ["_law_cell", "_law_k", "_law_number"]⟩
def f_law_next : FDef := ⟨"_law_next", "_law_next", top 18, ["_law_draw", "_law_many"], ["_law_draw", "_law_many", "_law_found", "_law_cells", "_law_cell"]⟩
def f_law_kinds : FDef := ⟨"_law_kinds", "_law_kinds", top 19, ["_law_e"], ["_law_e", "_law_found"]⟩
def f_law_made : FDef := ⟨"_law_made", "_law_made", top 20, ["_law_number", "_law_word"], ["_law_number", "_law_word", "_law_found"]⟩
def f_law : FDef := ⟨"law", "law", top 21, ["_law_script"], ["_law_script", "_law_draw", "_law_k", "_law_number", "_law_word", "_law_made_here", "_law_at", "_law_error", "_law_j"]⟩
def clsBody : Stmt → List Stmt
  | .ClassDef _ _ _ b _ _ _ _ _ _ _ => b
  | _ => []
def x_BadText : XDef := ⟨"BadText", "word", "BorderError", "self", "word", "a word that can't stand there", "BadText.__init__", (clsBody (top 3)).getD 0 (.Pass ⟨0, 0, 0, 0⟩)⟩
theorem okx_BadText : XOk x_BadText := ⟨⟨_, _, _, _, _, _, _, _, _, _, _, rfl, rfl⟩, ⟨rfl, rfl, rfl, by decide +kernel, rfl, by decide +kernel, by decide +kernel⟩, by decide +kernel, fun _ _ _ _ _ _ us hl => match us, hl with | [_, _], _ => rfl⟩
def x_WrongKind : XDef := ⟨"WrongKind", "place", "BorderError", "self", "place", "kinds that can't meet", "WrongKind.__init__", (clsBody (top 6)).getD 0 (.Pass ⟨0, 0, 0, 0⟩)⟩
theorem okx_WrongKind : XOk x_WrongKind := ⟨⟨_, _, _, _, _, _, _, _, _, _, _, rfl, rfl⟩, ⟨rfl, rfl, rfl, by decide +kernel, rfl, by decide +kernel, by decide +kernel⟩, by decide +kernel, fun _ _ _ _ _ _ us hl => match us, hl with | [_, _], _ => rfl⟩
def TX : List XDef := [x_BadText, x_WrongKind]
theorem allX : AllX TX := ⟨okx_BadText, okx_WrongKind, trivial⟩
abbrev i_law_begin : Nat := 0
abbrev i_law_mixed : Nat := 1
abbrev i_law_next : Nat := 2
abbrev i_law_kinds : Nat := 3
abbrev i_law_made : Nat := 4
abbrev i_law : Nat := 5
def T0 : List FDef := [f_law_begin, f_law_mixed, f_law_next, f_law_kinds, f_law_made, f_law]
def T : List FDef := T0
def G0 : GEnv := [("_law_begin", .fn 0 1),
  ("_law_mixed", .fn 1 2),
  ("_law_next", .fn 2 2),
  ("_law_kinds", .fn 3 1),
  ("_law_made", .fn 4 2),
  ("law", .fn 5 1),
  ("BorderError", .cls ["BorderError", "ValueError"] true),
  ("BadAsked", .cls ["BadAsked", "BorderError", "ValueError"] true),
  ("BadCore", .cls ["BadCore", "BorderError", "ValueError"] true),
  ("BadKind", .cls ["BadKind", "BorderError", "ValueError"] true),
  ("BadLimit", .cls ["BadLimit", "BorderError", "ValueError"] true),
  ("BadLine", .cls ["BadLine", "BorderError", "ValueError"] true),
  ("BadPaper", .cls ["BadPaper", "BorderError", "ValueError"] true),
  ("BadProgram", .cls ["BadProgram", "BorderError", "ValueError"] true),
  ("BadSpot", .cls ["BadSpot", "BorderError", "ValueError"] true),
  ("BadTerm", .cls ["BadTerm", "BorderError", "ValueError"] true),
  ("BadText", .xcl ["BadText", "BorderError", "ValueError"] "word"),
  ("TooGreat", .cls ["TooGreat", "BorderError", "ValueError"] true),
  ("TooMany", .cls ["TooMany", "BorderError", "ValueError"] true),
  ("WrongKind", .xcl ["WrongKind", "BorderError", "ValueError"] "place")]
def G : GEnv := G0
def b_law_begin (Φ : PhT) : DenS :=
  (dSeq (dRet (dDict [((dC (.str "cells")), (dOp aAdd (dVar 0) (dLst (dACons (dC (.int 0)) dANil)))), ((dC (.str "at")), (dC (.int 0))), ((dC (.str "left")), (dC (.int 0))), ((dC (.str "used")), (dC (.int 0)))]))
 dNil)
theorem den_law_begin : f_law_begin.den G = some b_law_begin := by kernel_rfl
def b_law_mixed (Φ : PhT) : DenS :=
  (dSeq (dSet 2 (dOp aMod (dOp aMul (dOp aAdd (dOp aAdd (dOp aAdd (dOp aMod (dVar 0) (dC (.int 1000000007))) (dOp aMul (dOp aMul (dC (.int 7919)) (dVar 1)) (dVar 1))) (dOp aMul (dC (.int 31)) (dVar 1))) (dC (.int 7))) (dC (.int 48271))) (dC (.int 2147483647))))
 (dSeq (dRet (dOp aFDiv (dOp aMod (dOp aMul (dVar 2) (dOp aAdd (dC (.int 69621)) (dOp aMul (dC (.int 2)) (dOp aMod (dVar 1) (dC (.int 1000)))))) (dC (.int 2147483629))) (dC (.int 7))))
 dNil))
theorem den_law_mixed : f_law_mixed.den G = some b_law_mixed := by kernel_rfl
def b_law_next (Φ : PhT) : DenS :=
  (dSeq (dIfS (dCmpT aGt (dOp aIx (dVar 0) (dC (.str "left"))) (dC (.int 0))) (dSeq (dSet 2 (dOp aMod (dOp aIx (dVar 0) (dC (.str "left"))) (dVar 1)))
  (dSeq (dSetIx (dVar 0) (dC (.str "left")) (dOp aFDiv (dOp aIx (dVar 0) (dC (.str "left"))) (dVar 1)))
  (dSeq (dRet (dVar 2))
  dNil))) dNil)
 (dSeq (dSet 3 (dOp aIx (dVar 0) (dC (.str "cells"))))
 (dSeq (dSet 4 (dOp aIx (dVar 3) (dOp aMod (dOp aIx (dVar 0) (dC (.str "at"))) (dB fLen (dACons (dVar 3) dANil)))))
 (dSeq (dSetIx (dVar 0) (dC (.str "at")) (dOp aAdd (dOp aIx (dVar 0) (dC (.str "at"))) (dC (.int 1))))
 (dSeq (dIfS (dTAnd (dCmpT aGe (dVar 4) (dOp aPow (dC (.int 10)) (dC (.int 18)))) (dCmpT aLe (dOp aIx (dVar 0) (dC (.str "at"))) (dB fLen (dACons (dVar 3) dANil)))) (dSeq (dSetIx (dVar 0) (dC (.str "left")) (dOp aFDiv (dVar 4) (dVar 1)))
  (dSeq (dRet (dOp aMod (dVar 4) (dVar 1)))
  dNil)) dNil)
 (dSeq (dSetIx (dVar 0) (dC (.str "used")) (dOp aAdd (dOp aIx (dVar 0) (dC (.str "used"))) (dC (.int 1))))
 (dSeq (dRet (dOp aMod (dCall 2 (Φ i_law_mixed) (dACons (dCall 2 (Φ i_law_mixed) (dACons (dVar 4) (dACons (dOp aIx (dVar 0) (dC (.str "at"))) dANil))) (dACons (dOp aIx (dVar 0) (dC (.str "used"))) dANil))) (dVar 1)))
 dNil)))))))
theorem den_law_next : f_law_next.den G = some b_law_next := by kernel_rfl
def b_law_kinds (Φ : PhT) : DenS :=
  (dSeq (dSet 1 (dLst (dACons (dB (fIsiX (upOf G)) (dACons (dVar 0) (dACons (dC (.gl "BadAsked")) dANil))) (dACons (dB (fIsiX (upOf G)) (dACons (dVar 0) (dACons (dC (.gl "BadCore")) dANil))) (dACons (dB (fIsiX (upOf G)) (dACons (dVar 0) (dACons (dC (.gl "BadKind")) dANil))) (dACons (dB (fIsiX (upOf G)) (dACons (dVar 0) (dACons (dC (.gl "BadLimit")) dANil))) dANil))))))
 (dSeq (dSet 1 (dOp aAdd (dVar 1) (dLst (dACons (dB (fIsiX (upOf G)) (dACons (dVar 0) (dACons (dC (.gl "BadLine")) dANil))) (dACons (dB (fIsiX (upOf G)) (dACons (dVar 0) (dACons (dC (.gl "BadPaper")) dANil))) (dACons (dB (fIsiX (upOf G)) (dACons (dVar 0) (dACons (dC (.gl "BadProgram")) dANil))) (dACons (dB (fIsiX (upOf G)) (dACons (dVar 0) (dACons (dC (.gl "BadSpot")) dANil))) dANil)))))))
 (dSeq (dSet 1 (dOp aAdd (dVar 1) (dLst (dACons (dB (fIsiX (upOf G)) (dACons (dVar 0) (dACons (dC (.gl "BadTerm")) dANil))) (dACons (dB (fIsiX (upOf G)) (dACons (dVar 0) (dACons (dC (.gl "BadText")) dANil))) (dACons (dB (fIsiX (upOf G)) (dACons (dVar 0) (dACons (dC (.gl "TooGreat")) dANil))) (dACons (dB (fIsiX (upOf G)) (dACons (dVar 0) (dACons (dC (.gl "TooMany")) dANil))) dANil)))))))
 (dSeq (dRet (dOp aAdd (dVar 1) (dLst (dACons (dB (fIsiX (upOf G)) (dACons (dVar 0) (dACons (dC (.gl "WrongKind")) dANil))) dANil))))
 dNil))))
theorem den_law_kinds : f_law_kinds.den G = some b_law_kinds := by kernel_rfl
def b_law_made (Φ : PhT) : DenS :=
  (dSeq (dSet 2 (dLst (dACons (dXo0 "BadAsked" (dACons (dVar 1) dANil)) (dACons (dXo0 "BadCore" (dACons (dVar 1) dANil)) (dACons (dXo0 "BadKind" (dACons (dVar 1) dANil)) (dACons (dXo0 "BadLimit" (dACons (dVar 1) dANil)) (dACons (dXo0 "BadLine" (dACons (dVar 1) dANil)) (dACons (dXo0 "BadPaper" (dACons (dVar 1) dANil)) dANil))))))))
 (dSeq (dSet 2 (dOp aAdd (dVar 2) (dLst (dACons (dXo0 "BadProgram" (dACons (dVar 1) dANil)) (dACons (dXo0 "BadSpot" (dACons (dVar 1) dANil)) (dACons (dXo0 "BadTerm" (dACons (dVar 1) dANil)) (dACons (dXo1 "BadText" "word" (dACons (dVar 0) dANil)) (dACons (dXo0 "TooGreat" (dACons (dVar 1) dANil)) (dACons (dXo0 "TooMany" (dACons (dVar 1) dANil)) dANil)))))))))
 (dSeq (dRet (dOp aAdd (dVar 2) (dLst (dACons (dXo1 "WrongKind" "place" (dACons (dVar 0) dANil)) dANil))))
 dNil)))
theorem den_law_made : f_law_made.den G = some b_law_made := by kernel_rfl
def b_law (Φ : PhT) : DenS :=
  (dSeq (dSet 1 (dCall 1 (Φ i_law_begin) (dACons (dVar 0) dANil)))
 (dSeq (dFor (gN 2) (dIRange1 (dACons (dOp aAdd (dB fMin2 (dACons (dC (.int 63)) (dACons (dB fLen (dACons (dVar 0) dANil)) dANil))) (dC (.int 1))) dANil)) (dSeq (dSet 3 (dCall 2 (Φ i_law_next) (dACons (dVar 1) (dACons (dC (.int 1000001)) dANil))))
  (dSeq (dSet 4 (dM "str" mJoinT (dC (.str "")) (dComp [8] (dIRange1 (dACons (dOp aAdd (dC (.int 1)) (dCall 2 (Φ i_law_next) (dACons (dVar 1) (dACons (dC (.int 8)) dANil)))) dANil)) (gN 8) dYes (dOp aIx (dC (.str "abcdefghijklmnopqrstuvwxyz")) (dCall 2 (Φ i_law_next) (dACons (dVar 1) (dACons (dC (.int 26)) dANil)))))))
  (dSeq (dSet 5 (dCall 2 (Φ i_law_made) (dACons (dVar 3) (dACons (dVar 4) dANil))))
  (dSeq (dFor (gT 2 (gsCons (gN 6) (gsCons (gN 7) gsNil))) (dIEnum (dACons (dVar 5) dANil)) (dSeq (dIfS (dCmpT aNe (dCall 1 (Φ i_law_kinds) (dACons (dVar 7) dANil)) (dKeep (dComp [8] (dIRange1 (dACons (dC (.int 13)) dANil)) (gN 8) dYes (dOp aEq (dVar 8) (dVar 6))))) (dSeq (dRet (dC (.bl false)))
    dNil) dNil)
   (dSeq (dIfS (dTOr (dTNot (dTr (dB (fIsiX (upOf G)) (dACons (dVar 7) (dACons (dC (.gl "BorderError")) dANil))))) (dTNot (dTr (dB (fIsiX (upOf G)) (dACons (dVar 7) (dACons (dC (.ty "ValueError")) dANil)))))) (dSeq (dRet (dC (.bl false)))
    dNil) dNil)
   dNil)))
  (dSeq (dIfS (dCmpT aNe (dLst (dACons (dAttr (fun _ => none) (xiOf G) "word" (dOp aIx (dVar 5) (dC (.int 9)))) (dACons (dAttr (fun _ => none) (xiOf G) "place" (dOp aIx (dVar 5) (dC (.int 12)))) dANil))) (dLst (dACons (dVar 3) (dACons (dVar 3) dANil)))) (dSeq (dRet (dC (.bl false)))
   dNil) dNil)
  dNil))))))
 (dSeq (dRet (dC (.bl true)))
 dNil)))
theorem den_law : f_law.den G = some b_law := by kernel_rfl
theorem run_law_begin {k : Nat} {S S' : Sto} {d0 : D} {r : D} {o : Out D} (h : rtOf (b_law_begin (Phi T G k) [some d0] S) = some (r, S')) (hg : gcO S r S' = o) : Phi T G (k + 1) i_law_begin [d0] S = o := by rw [phi_succ (d := f_law_begin) rfl den_law_begin]; exact runB_of h hg
theorem run_law_mixed {k : Nat} {S S' : Sto} {d0 d1 : D} {r : D} {o : Out D} (h : rtOf (b_law_mixed (Phi T G k) [some d0, some d1, none] S) = some (r, S')) (hg : gcO S r S' = o) : Phi T G (k + 1) i_law_mixed [d0, d1] S = o := by rw [phi_succ (d := f_law_mixed) rfl den_law_mixed]; exact runB_of h hg
theorem run_law_next {k : Nat} {S S' : Sto} {d0 d1 : D} {r : D} {o : Out D} (h : rtOf (b_law_next (Phi T G k) [some d0, some d1, none, none, none] S) = some (r, S')) (hg : gcO S r S' = o) : Phi T G (k + 1) i_law_next [d0, d1] S = o := by rw [phi_succ (d := f_law_next) rfl den_law_next]; exact runB_of h hg
theorem run_law_kinds {k : Nat} {S S' : Sto} {d0 : D} {r : D} {o : Out D} (h : rtOf (b_law_kinds (Phi T G k) [some d0, none] S) = some (r, S')) (hg : gcO S r S' = o) : Phi T G (k + 1) i_law_kinds [d0] S = o := by rw [phi_succ (d := f_law_kinds) rfl den_law_kinds]; exact runB_of h hg
theorem run_law_made {k : Nat} {S S' : Sto} {d0 d1 : D} {r : D} {o : Out D} (h : rtOf (b_law_made (Phi T G k) [some d0, some d1, none] S) = some (r, S')) (hg : gcO S r S' = o) : Phi T G (k + 1) i_law_made [d0, d1] S = o := by rw [phi_succ (d := f_law_made) rfl den_law_made]; exact runB_of h hg
theorem run_law {k : Nat} {S S' : Sto} {d0 : D} {r : D} {o : Out D} (h : rtOf (b_law (Phi T G k) [some d0, none, none, none, none, none, none, none, none] S) = some (r, S')) (hg : gcO S r S' = o) : Phi T G (k + 1) i_law [d0] S = o := by rw [phi_succ (d := f_law) rfl den_law]; exact runB_of h hg
theorem ok_law_begin : FOk f_law_begin := ⟨⟨rfl, rfl, rfl, by decide +kernel, rfl, by decide +kernel, by decide +kernel⟩, fun _ _ _ _ _ _ us hl => match us, hl with | [_], _ => rfl⟩
theorem ok_law_mixed : FOk f_law_mixed := ⟨⟨rfl, rfl, rfl, by decide +kernel, rfl, by decide +kernel, by decide +kernel⟩, fun _ _ _ _ _ _ us hl => match us, hl with | [_, _], _ => rfl⟩
theorem ok_law_next : FOk f_law_next := ⟨⟨rfl, rfl, rfl, by decide +kernel, rfl, by decide +kernel, by decide +kernel⟩, fun _ _ _ _ _ _ us hl => match us, hl with | [_, _], _ => rfl⟩
theorem ok_law_kinds : FOk f_law_kinds := ⟨⟨rfl, rfl, rfl, by decide +kernel, rfl, by decide +kernel, by decide +kernel⟩, fun _ _ _ _ _ _ us hl => match us, hl with | [_], _ => rfl⟩
theorem ok_law_made : FOk f_law_made := ⟨⟨rfl, rfl, rfl, by decide +kernel, rfl, by decide +kernel, by decide +kernel⟩, fun _ _ _ _ _ _ us hl => match us, hl with | [_, _], _ => rfl⟩
theorem ok_law : FOk f_law := ⟨⟨rfl, rfl, rfl, by decide +kernel, rfl, by decide +kernel, by decide +kernel⟩, fun _ _ _ _ _ _ us hl => match us, hl with | [_], _ => rfl⟩
theorem allOk : AllOk T := ⟨ok_law_begin, ok_law_mixed, ok_law_next, ok_law_kinds, ok_law_made, ok_law, trivial⟩
def loose0 : List Str := ["BorderError", "BadKind", "BadText", "BadTerm", "BadProgram", "WrongKind", "BadCore", "BadLimit", "BadSpot", "BadAsked", "BadPaper", "BadLine", "TooMany", "TooGreat", "_law_begin", "_law_mixed", "_law_next", "_law_kinds", "_law_made"]
def loose : List Str := loose0
abbrev R : PySem.W.OpenRow := PySem.W.OpenLaw.row PySem.Challenge.rw_borderkin_k02_refusals_by_hand
abbrev hk : PySem.W.Hook := hookQ 5 (csOf G) (clsOf G) TX (faOf T) (T.map FDef.defD ++ TX.map XDef.defD)
def ob (s : PySem.W.SharedT) : AlQ := obsQG 5 (csOf G) (clsOf G) TX (faOf T) (T.map FDef.defD ++ TX.map XDef.defD) (HandSHeadRun.getT s)
theorem ob_eq (s : PySem.W.SharedT) : ob s = hk.obs s.abs := obsQG_eq (HandSHeadRun.getT_eq s)
theorem run (w : World) : HandSHeadRun.RunEq R (PySem.W.view R.prog [21]) hk ob 9000 loose w := by
  refine PySem.W.byRow2 "special-get-raises" (P := fun w => HandSHeadRun.RunEq R (PySem.W.view R.prog [21]) hk ob 9000 loose w) (fun w => ?_) (fun w => ?_) w
  · intro os
    kernel_rfl
  · intro os
    kernel_rfl
open PySem PySem.W PySem.Calls PyProof.Rows
theorem head (hp : ∀ ns : List Int, ns.length ≤ 63 → ∃ S', Phi T G 115 5 [.rl (ns.map D.int)] [] = .ok (.bl true) S') : PySem.Challenge.rw_borderkin_k02_refusals_by_hand.Holds := by
  w_on; o_law
  refine HandSHeadRun.head_any (r := OpenLaw.row PySem.Challenge.rw_borderkin_k02_refusals_by_hand) (q := view (OpenLaw.row PySem.Challenge.rw_borderkin_k02_refusals_by_hand).prog [21]) (H := hk) (ob := ob) (M := 9000) (loose := loose) (d := HandSHeadRun.topDef (OpenLaw.row PySem.Challenge.rw_borderkin_k02_refusals_by_hand).prog 21) (kwd := []) ob_eq
    (by kernel_rfl) (fun s => by kernel_rfl) run (by kernel_rfl) (by kernel_rfl) (by kernel_rfl) (by rfl) (by first | assumption | decide +kernel) (by decide +kernel) ⟨rfl, rfl, rfl, rfl, rfl, by decide +kernel⟩ ?hw ?hc
  case hw => w_witness2
  case hc =>
    refine DL.walk_G (l := PySem.Challenge.rw_borderkin_k02_refusals_by_hand) (n := 63) (k := 231) (x := "_law_script") (C := fun a b c d e f => ∃ w, L2.CX (PySem.Challenge.rw_borderkin_k02_refusals_by_hand).prog w a b c d e f) rfl (by decide) (by kernel_rfl) ⟨rfl, by decide, by decide⟩ ?F (fun H s e s' ⟨w, z⟩ => cx_no H s e s' z)
    intro w mg fa h Y GN hmg0
    obtain ⟨K, KX, c⟩ := Y
    have hmg : mg ("law" : PySem.Str) = some (.ref fa) := by
      have e : (HandSHeadRun.topDef (OpenLaw.row PySem.Challenge.rw_borderkin_k02_refusals_by_hand).prog 21).name = ("law" : PySem.Str) := by kernel_rfl
      rw [← e]
      exact hmg0
    obtain ⟨fd, hb, hF⟩ := facts (P := (PySem.Challenge.rw_borderkin_k02_refusals_by_hand).prog) (W0 := w) (li := 5) (dl := f_law) KX GN c allOk allX (by decide +kernel) rfl rfl hmg 115
    exact ⟨K, fd, _, KX, hb, sp_start (n := 63) (by decide) hp, fun base _ _ => (hF base).ctx fun a b c d e f z => ⟨w, z⟩⟩
end
end K02
/-! DK, part a: plain data (numbers, texts, None, tuples of such), its ==; runs of pure defs. -/
namespace DL
open PySem PySem.Spec PyProof.Rows L2
noncomputable section

/-! ### plain data -/
mutual
def D.pt : D → Bool
  | .non => true
  | .int _ => true
  | .str _ => true
  | .tup xs => ptL xs
  | _ => false
def ptL : List D → Bool
  | [] => true
  | d :: ds => d.pt && ptL ds
end
mutual
def D.pd : D → PyData
  | .int i => .int i
  | .str x => .str x
  | .tup xs => .tuple (pdL xs)
  | _ => .none
def pdL : List D → List PyData
  | [] => []
  | d :: ds => d.pd :: pdL ds
end
mutual
def D.dep : D → Nat
  | .tup xs => depL xs + 1
  | _ => 0
def depL : List D → Nat
  | [] => 0
  | d :: ds => max d.dep (depL ds)
end
mutual
theorem toP_pt {f : Nat → Option PyData} : ∀ d : D, d.pt = true → toP f d = some d.pd ∧ d.pd.depth = d.dep
  | .non, _ => ⟨rfl, rfl⟩
  | .int _, _ => ⟨rfl, rfl⟩
  | .str _, _ => ⟨rfl, rfl⟩
  | .tup xs, h => by
    unfold D.pt at h
    obtain ⟨h1, h2⟩ := toPs_pt (f := f) xs h
    unfold toP D.pd D.dep PyData.depth
    rw [h1, h2]
    exact ⟨rfl, rfl⟩
  | .bl _, h => (by cases h)
  | .ob _, h => (by cases h)
  | .ty _, h => (by cases h)
  | .gl _, h => (by cases h)
  | .rl _, h => (by cases h)
  | .kd _ _, h => (by cases h)
  | .xo _ _ _, h => (by cases h)
theorem toPs_pt {f : Nat → Option PyData} : ∀ ds : List D, ptL ds = true → toPs f ds = some (pdL ds) ∧ PyData.depthAll (pdL ds) = depL ds
  | [], _ => ⟨rfl, rfl⟩
  | d :: ds, h => by
    unfold ptL at h
    rw [Bool.and_eq_true] at h
    obtain ⟨h1, h2⟩ := toP_pt (f := f) d h.1
    obtain ⟨h3, h4⟩ := toPs_pt (f := f) ds h.2
    unfold toPs pdL depL PyData.depthAll
    rw [h1, h3, h2, h4]
    exact ⟨rfl, rfl⟩
end
theorem dP_pt {S : Sto} {d : D} (h : d.pt = true) : dP S d = some d.pd := (toP_pt d h).1
mutual
theorem eqv_pt : ∀ a b : D, a.pt = true → b.pt = true → (PyData.eqv a.pd b.pd = true ↔ a = b)
  | .tup xs, .tup ys, h1, h2 => by
    unfold D.pt at h1 h2
    unfold D.pd PyData.eqv
    rw [eqvL_pt xs ys h1 h2, D.tup.injEq]
  | .int i, .int j, _, _ => by
    show (i == j) = true ↔ _
    rw [beq_iff_eq, D.int.injEq]
  | .str i, .str j, _, _ => by
    show (i == j) = true ↔ _
    rw [beq_iff_eq, D.str.injEq]
  | .non, b, _, h2 => by
    cases b <;> first | (cases h2; done) | (simp [D.pd, PyData.eqv])
  | .int i, .non, _, _ => by simp [D.pd, PyData.eqv]
  | .int i, .str _, _, _ => by simp [D.pd, PyData.eqv]
  | .int i, .tup _, _, _ => by simp [D.pd, PyData.eqv]
  | .str i, .non, _, _ => by simp [D.pd, PyData.eqv]
  | .str i, .int _, _, _ => by simp [D.pd, PyData.eqv]
  | .str i, .tup _, _, _ => by simp [D.pd, PyData.eqv]
  | .tup i, .non, _, _ => by simp [D.pd, PyData.eqv]
  | .tup i, .int _, _, _ => by simp [D.pd, PyData.eqv]
  | .tup i, .str _, _, _ => by simp [D.pd, PyData.eqv]
theorem eqvL_pt : ∀ a b : List D, ptL a = true → ptL b = true → (PyData.eqvAll (pdL a) (pdL b) = true ↔ a = b)
  | [], [], _, _ => by simp [pdL, PyData.eqvAll]
  | [], _ :: _, _, _ => by simp [pdL, PyData.eqvAll]
  | _ :: _, [], _, _ => by simp [pdL, PyData.eqvAll]
  | a :: as, b :: bs, h1, h2 => by
    unfold ptL at h1 h2
    rw [Bool.and_eq_true] at h1 h2
    unfold pdL PyData.eqvAll
    rw [Bool.and_eq_true, eqv_pt a b h1.1 h2.1, eqvL_pt as bs h1.2 h2.2, List.cons.injEq]
end
/-- == of plain data is equality -/
theorem eq_pt {S : Sto} {a b : D} {c : Bool} (ha : a.pt = true) (hb : b.pt = true) (hd : a.dep ≤ 100 ∨ b.dep ≤ 100) (hc : c = true ↔ a = b) : aEq a b S = some (.bl c, S) ∧ aNe a b S = some (.bl (!c), S) := by
  have h1 := dP_pt (S := S) ha
  have h2 := dP_pt (S := S) hb
  have e1 := (toP_pt (f := fun _ => none) a ha).2
  have e2 := (toP_pt (f := fun _ => none) b hb).2
  have h3 : min a.pd.depth b.pd.depth ≤ 100 := by omega
  have h4 : PyData.eqv a.pd b.pd = c := by
    rw [Bool.eq_iff_iff, eqv_pt a b ha hb, hc]
  unfold aEq aNe eqP
  rw [h1, h2]
  dsimp only
  rw [if_pos h3, h4, if_pos h3]
  exact ⟨rfl, rfl⟩
theorem in_pt {S : Sto} {a : D} {xs : List D} {c : Bool} (ha : a.pt = true) (hb : ptL xs = true) (hd : depL xs ≤ 100) (hc : c = true ↔ a ∈ xs) : aIn a (.tup xs) S = some (.bl c, S) ∧ aNotIn a (.tup xs) S = some (.bl (!c), S) := by
  have h1 := dP_pt (S := S) ha
  have h2 : dP S (.tup xs) = some (.tuple (pdL xs)) := dP_pt (d := .tup xs) (by unfold D.pt; exact hb)
  have h3 : PyData.depthAll (pdL xs) ≤ 100 := by rw [(toPs_pt (f := fun _ => none) xs hb).2]; exact hd
  have h4 : ((pdL xs).any fun z => PyData.eqv z a.pd) = c := by
    rw [Bool.eq_iff_iff, hc]
    clear h2 h3 hd hc
    induction xs with
    | nil => simp [pdL]
    | cons x xs ih =>
      unfold ptL at hb
      rw [Bool.and_eq_true] at hb
      unfold pdL
      rw [List.any_cons, Bool.or_eq_true, ih hb.2, eqv_pt x a hb.1 ha, List.mem_cons]
      exact or_congr eq_comm Iff.rfl
  unfold aIn aNotIn inP
  dsimp only
  rw [h1, h2]
  dsimp only
  rw [if_pos h3, h4, if_pos h3]
  exact ⟨rfl, rfl⟩
/-- .. in a list of the store -/
theorem in_pl {S : Sto} {a : D} {n : Nat} {xs : List D} {c : Bool} (hn : S[n]? = some (.lst xs)) (ha : a.pt = true) (hb : ptL xs = true) (hd : depL xs ≤ 100) (hc : c = true ↔ a ∈ xs) : aIn a (.ob n) S = some (.bl c, S) ∧ aNotIn a (.ob n) S = some (.bl (!c), S) := by
  have h1 := dP_pt (S := S) ha
  have h2 : dP S (.ob n) = some (.list (pdL xs)) := by
    show (match S[n]? with | some (.lst xs) => (toPs (obP 11 S) xs).map PyData.list | _ => none) = _
    rw [hn]
    dsimp only
    rw [(toPs_pt xs hb).1]
    rfl
  have h3 : PyData.depthAll (pdL xs) ≤ 100 := by rw [(toPs_pt (f := fun _ => none) xs hb).2]; exact hd
  have h4 : ((pdL xs).any fun z => PyData.eqv z a.pd) = c := by
    rw [Bool.eq_iff_iff, hc]
    clear h2 h3 hd hc hn
    induction xs with
    | nil => simp [pdL]
    | cons x xs ih =>
      unfold ptL at hb
      rw [Bool.and_eq_true] at hb
      unfold pdL
      rw [List.any_cons, Bool.or_eq_true, ih hb.2, eqv_pt x a hb.1 ha, List.mem_cons]
      exact or_congr eq_comm Iff.rfl
  unfold aIn aNotIn inP
  dsimp only
  rw [hn]
  dsimp only
  rw [h1, h2]
  dsimp only
  rw [if_pos h3, h4, if_pos h3]
  exact ⟨rfl, rfl⟩
mutual
theorem pt_und {n : Nat} : ∀ d : D, d.pt = true → d.und n = true
  | .non, _ => rfl
  | .int _, _ => rfl
  | .str _, _ => rfl
  | .tup xs, h => by unfold D.pt at h; unfold D.und; exact ptL_und xs h
  | .bl _, h => (by cases h)
  | .ob _, h => (by cases h)
  | .ty _, h => (by cases h)
  | .gl _, h => (by cases h)
  | .rl _, h => (by cases h)
  | .kd _ _, h => (by cases h)
  | .xo _ _ _, h => (by cases h)
theorem ptL_und {n : Nat} : ∀ ds : List D, ptL ds = true → undL n ds = true
  | [], _ => rfl
  | d :: ds, h => by
    unfold ptL at h
    rw [Bool.and_eq_true] at h
    unfold undL
    rw [pt_und d h.1, ptL_und ds h.2]
    rfl
end

/-! ### tuples, read -/
theorem ixT {S : Sto} {xs : List D} {i : Int} {d : D} (j : Nat) (h1 : i = (j : Int)) (h2 : xs[j]? = some d) : aIx (.tup xs) (.int i) S = some (d, S) := by
  show (L2.atI xs i).map (fun d => (d, S)) = _
  rw [atI_ok h1 h2]
  rfl
@[simp] theorem ixT0 {S : Sto} {a : D} {r : List D} : aIx (.tup (a :: r)) (.int 0) S = some (a, S) := ixT 0 rfl rfl
@[simp] theorem ixT1 {S : Sto} {a b : D} {r : List D} : aIx (.tup (a :: b :: r)) (.int 1) S = some (b, S) := ixT 1 rfl rfl
@[simp] theorem ixT2 {S : Sto} {a b c : D} {r : List D} : aIx (.tup (a :: b :: c :: r)) (.int 2) S = some (c, S) := ixT 2 rfl rfl
@[simp] theorem ixT3 {S : Sto} {a b c d : D} {r : List D} : aIx (.tup (a :: b :: c :: d :: r)) (.int 3) S = some (d, S) := ixT 3 rfl rfl
@[simp] theorem lenT {S : Sto} {xs : List D} : fLen [.tup xs] S = some (.int xs.length, S) := rfl
theorem cut_tail {α : Type} (a : α) (r : List α) : cutD (a :: r) (some 1) none = r := by
  unfold cutD
  rw [show (some (1 : Int)) = some ((1 : Nat) : Int) from rfl, HT.sIx_nat, HT.sIx_none, List.length_cons, Nat.min_eq_left (by omega), List.drop_succ_cons, List.drop_zero, Nat.add_sub_cancel, List.take_length]
@[simp] theorem slT {S : Sto} {a : D} {r : List D} : aSl (.tup (a :: r)) (some 1) none S = some (.tup r, S) := by
  show some (D.tup (cutD (a :: r) (some 1) none), S) = _
  rw [cut_tail]
theorem cut_head {α : Type} (a : α) (r : List α) : cutD (a :: r) none (some 1) = [a] := by
  unfold cutD
  rw [show (some (1 : Int)) = some ((1 : Nat) : Int) from rfl, HT.sIx_nat, HT.sIx_none, List.length_cons, Nat.min_eq_left (by omega), List.drop_zero, Nat.sub_zero]
  rfl
@[simp] theorem slH {S : Sto} {a : D} {r : List D} : aSl (.tup (a :: r)) none (some 1) S = some (.tup [a], S) := by
  show some (D.tup (cutD (a :: r) none (some 1)), S) = _
  rw [cut_head]
theorem addT {S : Sto} {xs ys : List D} (h : xs.length + ys.length ≤ 1000) : aAdd (.tup xs) (.tup ys) S = some (.tup (xs ++ ys), S) := if_pos (small_line h)

section
variable {S : Sto} {fr : Fr} {i j k l : Nat} {a b c d : D}
@[simp] theorem ev_asg {t : DTg} {f : DenE} : dAsg t f fr S = (f fr S).thn fr fun d S' => match t d fr S' with
  | some fr' => .ok .nx fr' S'
  | none => .no := rfl
@[simp] theorem gT2 : gT 2 (gsCons (gN i) (gsCons (gN j) gsNil)) (.tup [a, b]) fr S = some ((fr.set i (some a)).set j (some b)) := rfl
@[simp] theorem gT3 : gT 3 (gsCons (gN i) (gsCons (gN j) (gsCons (gN k) gsNil))) (.tup [a, b, c]) fr S = some (((fr.set i (some a)).set j (some b)).set k (some c)) := rfl
@[simp] theorem gT4 : gT 4 (gsCons (gN i) (gsCons (gN j) (gsCons (gN k) (gsCons (gN l) gsNil)))) (.tup [a, b, c, d]) fr S = some ((((fr.set i (some a)).set j (some b)).set k (some c)).set l (some d)) := rfl
@[simp] theorem ev_par {h : DenA} : dPar i j h fr S = (h fr S).thn fr fun ds S' => match ds with
  | [d, e] => .ok .nx ((fr.set i (some d)).set j (some e)) S'
  | _ => .no := rfl
end
/-! ### comprehensions and walks without a trace -/
theorem compL_map {ok : Sto → Prop} {t : DTg} {e : DenE} {fr : Fr} {S : Sto} {v : D → D} (hok : ok S) : ∀ (items : List D), (∀ a ∈ items, ∃ fr1, t a fr S = some fr1 ∧ e fr1 S = .ok (v a) S) → compL ok t dYes e fr items S = .ok (items.map v) S
  | [], _ => by
    unfold compL
    exact if_pos hok
  | a :: l, h => by
    obtain ⟨fr1, h1, h2⟩ := h a List.mem_cons_self
    have ih := compL_map (e := e) hok l fun b hb => h b (List.mem_cons_of_mem _ hb)
    unfold compL
    rw [if_pos hok, h1]
    dsimp only [dYes]
    rw [h2]
    dsimp only
    rw [ih]
    rfl
/-- [e for x in (a tuple)] -/
theorem comp_tup {i : Nat} {fi : Fr → Sto → Out Src} {e : DenE} {fr : Fr} {S : Sto} {xs : List D} (v : D → D) (hi : fi fr S = .ok ⟨xs, []⟩ S) (h : ∀ a ∈ xs, e ((wipeD fr [i]).set i (some a)) S = .ok (v a) S) : dComp [i] fi (gN i) dYes e fr S = .ok (xs.map v) S := by
  unfold dComp
  rw [hi]
  exact compL_map noGuard xs fun a ha => ⟨_, rfl, h a ha⟩
/-- [e for x, y in zip(..)] -/
theorem comp_zip {i j : Nat} {fi : Fr → Sto → Out Src} {e : DenE} {fr : Fr} {S : Sto} {xs ys : List D} (v : D → D → D) (hi : fi fr S = .ok ⟨zipD xs ys, []⟩ S) (h : ∀ a ∈ xs, ∀ b ∈ ys, e (((wipeD fr [i, j]).set i (some a)).set j (some b)) S = .ok (v a b) S) :
    dComp [i, j] fi (gT 2 (gsCons (gN i) (gsCons (gN j) gsNil))) dYes e fr S = .ok (List.zipWith v xs ys) S := by
  unfold dComp
  rw [hi]
  show compL _ _ _ _ _ (zipD xs ys) S = _
  have main : ∀ (xs ys : List D), (∀ a ∈ xs, ∀ b ∈ ys, e (((wipeD fr [i, j]).set i (some a)).set j (some b)) S = .ok (v a b) S) → ∀ ok : Sto → Prop, ok S → compL ok (gT 2 (gsCons (gN i) (gsCons (gN j) gsNil))) dYes e (wipeD fr [i, j]) (zipD xs ys) S = .ok (List.zipWith v xs ys) S := by
    intro xs
    induction xs with
    | nil => intro ys _ ok hok; unfold zipD compL; exact if_pos hok
    | cons a xs ih =>
      intro ys h ok hok
      cases ys with
      | nil => unfold zipD compL; exact if_pos hok
      | cons b ys =>
        have q := h a List.mem_cons_self b List.mem_cons_self
        have ih := ih ys (fun a' ha b' hb => h a' (List.mem_cons_of_mem _ ha) b' (List.mem_cons_of_mem _ hb)) ok hok
        unfold zipD compL
        rw [if_pos hok]
        have et : gT 2 (gsCons (gN i) (gsCons (gN j) gsNil)) (.tup [a, b]) (wipeD fr [i, j]) S = some (((wipeD fr [i, j]).set i (some a)).set j (some b)) := rfl
        rw [et]
        dsimp only [dYes]
        rw [q]
        dsimp only
        rw [ih]
        rfl
  exact main xs ys h _ noGuard
@[simp] theorem zip_tup {h : DenA} {fr : Fr} {S S' : Sto} {xs ys : List D} (e : h fr S = .ok [.tup xs, .tup ys] S') : dIZip h fr S = .ok ⟨zipD xs ys, []⟩ S' := by
  unfold dIZip
  rw [e]
  rfl
@[simp] theorem seq_tup {f : DenE} {fr : Fr} {S S' : Sto} {xs : List D} (e : f fr S = .ok (.tup xs) S') : dISeq f fr S = .ok ⟨xs, []⟩ S' := by
  unfold dISeq
  rw [e]
  rfl
theorem fAll_list (bs : List Bool) (S : Sto) : fAll (bs.map D.bl) S = some (.bl (bs.all id), S) := by
  have := fAll_bl (fun b : Bool => b) bs S
  exact this
theorem optAll_ints : ∀ l : List Int, optAll intOf (l.map D.int) = some l := optAll_mk fun _ => rfl
theorem fSum_list (ns : List Int) (S : Sto) : fSum (ns.map D.int) S = some (.int ns.sum, S) := by
  unfold fSum
  rw [optAll_ints]
  rfl
/-- a pure def's call -/
theorem run_p {n : Nat} {b : DenS} {ds : List D} {S : Sto} {d : D} (h : rtOf (b (ds.map some ++ List.replicate (n - ds.length) none) S) = some (d, S)) (hd : d.und S.length = true) : runB n b ds S = .ok d S := runB_of h (gc_pure0 hd)
end
end DL
/-! DK, part b: kinds as data. -/
namespace DL
open PySem PySem.Spec PyProof.Rows L2
noncomputable section
inductive Kd where
  | num | truth | any | fn (a b : Kd) | pr (a b : Kd) | bx (a : Kd)
  deriving DecidableEq
namespace Kd
def word : Kd → Str
  | num => "num" | truth => "truth" | any => "any" | fn _ _ => "fun" | pr _ _ => "pair" | bx _ => "box"
def parts : Kd → List Kd
  | fn a b => [a, b] | pr a b => [a, b] | bx a => [a] | _ => []
def d : Kd → D
  | num => .tup [.str "num"] | truth => .tup [.str "truth"] | any => .tup [.str "any"]
  | fn a b => .tup [.str "fun", a.d, b.d] | pr a b => .tup [.str "pair", a.d, b.d] | bx a => .tup [.str "box", a.d]
def deep : Kd → Nat
  | fn a b => max a.deep b.deep + 1 | pr a b => max a.deep b.deep + 1 | bx a => a.deep + 1 | _ => 1
def many : Kd → Nat
  | fn a b => a.many + b.many + 1 | pr a b => a.many + b.many + 1 | bx a => a.many + 1 | _ => 1
theorem d_eq (k : Kd) : k.d = .tup (.str k.word :: k.parts.map d) := by cases k <;> rfl
theorem pt : ∀ k : Kd, k.d.pt = true
  | num => rfl | truth => rfl | any => rfl
  | fn a b => by
    show (true && (a.d.pt && (b.d.pt && true))) = true
    rw [pt a, pt b]; rfl
  | pr a b => by
    show (true && (a.d.pt && (b.d.pt && true))) = true
    rw [pt a, pt b]; rfl
  | bx a => by
    show (true && (a.d.pt && true)) = true
    rw [pt a]; rfl
@[simp] theorem und {n : Nat} (k : Kd) : k.d.und n = true := pt_und _ k.pt
theorem dep : ∀ k : Kd, k.d.dep = k.deep
  | num => rfl | truth => rfl | any => rfl
  | fn a b => by
    show max 0 (max a.d.dep (max b.d.dep 0)) + 1 = _
    rw [dep a, dep b]; show _ = max a.deep b.deep + 1; omega
  | pr a b => by
    show max 0 (max a.d.dep (max b.d.dep 0)) + 1 = _
    rw [dep a, dep b]; show _ = max a.deep b.deep + 1; omega
  | bx a => by
    show max 0 (max a.d.dep 0) + 1 = _
    rw [dep a]; show _ = a.deep + 1; omega
theorem deep_pos (k : Kd) : 1 ≤ k.deep := by cases k <;> simp [deep]
theorem many_pos (k : Kd) : 1 ≤ k.many := by cases k <;> simp [many]
theorem word_ne : (("num" : Str)) ≠ "truth" ∧ (("num" : Str)) ≠ "any" ∧ (("num" : Str)) ≠ "fun" ∧ (("num" : Str)) ≠ "pair" ∧ (("num" : Str)) ≠ "box" ∧ (("truth" : Str)) ≠ "any" ∧ (("truth" : Str)) ≠ "fun" ∧ (("truth" : Str)) ≠ "pair" ∧ (("truth" : Str)) ≠ "box" ∧
    (("any" : Str)) ≠ "fun" ∧ (("any" : Str)) ≠ "pair" ∧ (("any" : Str)) ≠ "box" ∧ (("fun" : Str)) ≠ "pair" ∧ (("fun" : Str)) ≠ "box" ∧ (("pair" : Str)) ≠ "box" := by decide +kernel
/-- the words, by number -/
def wno : Kd → Nat
  | num => 0 | truth => 1 | any => 2 | fn _ _ => 3 | pr _ _ => 4 | bx _ => 5
theorem word_inj {a b : Kd} : a.word = b.word ↔ a.wno = b.wno := by
  obtain ⟨h1, h2, h3, h4, h5, h6, h7, h8, h9, h10, h11, h12, h13, h14, h15⟩ := word_ne
  cases a <;> cases b <;> simp [word, wno, h1, h2, h3, h4, h5, h6, h7, h8, h9, h10, h11, h12, h13, h14, h15, Ne.symm h1, Ne.symm h2, Ne.symm h3, Ne.symm h4, Ne.symm h5, Ne.symm h6, Ne.symm h7, Ne.symm h8, Ne.symm h9, Ne.symm h10, Ne.symm h11, Ne.symm h12, Ne.symm h13, Ne.symm h14, Ne.symm h15]
theorem inj : ∀ {a b : Kd}, a.d = b.d → a = b := by
  intro a
  induction a with
  | num => intro b h; have hw : num.word = b.word := by rw [d_eq, d_eq b] at h; simpa using (List.cons.inj (D.tup.inj h)).1
           rw [word_inj] at hw; cases b <;> first | rfl | (cases hw)
  | truth => intro b h; have hw : truth.word = b.word := by rw [d_eq, d_eq b] at h; simpa using (List.cons.inj (D.tup.inj h)).1
             rw [word_inj] at hw; cases b <;> first | rfl | (cases hw)
  | any => intro b h; have hw : any.word = b.word := by rw [d_eq, d_eq b] at h; simpa using (List.cons.inj (D.tup.inj h)).1
           rw [word_inj] at hw; cases b <;> first | rfl | (cases hw)
  | fn x y ix iy => intro b h; have hw : (fn x y).word = b.word := by rw [d_eq, d_eq b] at h; simpa using (List.cons.inj (D.tup.inj h)).1
                    rw [word_inj] at hw
                    cases b <;> first | (cases hw; done) | skip
                    simp only [d, D.tup.injEq, List.cons.injEq, and_true, true_and] at h
                    rw [ix h.1, iy h.2]
  | pr x y ix iy => intro b h; have hw : (pr x y).word = b.word := by rw [d_eq, d_eq b] at h; simpa using (List.cons.inj (D.tup.inj h)).1
                    rw [word_inj] at hw
                    cases b <;> first | (cases hw; done) | skip
                    simp only [d, D.tup.injEq, List.cons.injEq, and_true, true_and] at h
                    rw [ix h.1, iy h.2]
  | bx x ix => intro b h; have hw : (bx x).word = b.word := by rw [d_eq, d_eq b] at h; simpa using (List.cons.inj (D.tup.inj h)).1
               rw [word_inj] at hw
               cases b <;> first | (cases hw; done) | skip
               simp only [d, D.tup.injEq, List.cons.injEq, and_true, true_and] at h
               rw [ix h]
theorem d_inj {a b : Kd} : a.d = b.d ↔ a = b := ⟨inj, fun h => by rw [h]⟩
section
variable {S : Sto}
theorem eq {a b : Kd} (h : a.deep ≤ 100) : aEq a.d b.d S = some (.bl (decide (a = b)), S) ∧ aNe a.d b.d S = some (.bl (!decide (a = b)), S) :=
  eq_pt a.pt b.pt (.inl (by rw [dep]; exact h)) (by rw [decide_eq_true_iff, d_inj])
@[simp] theorem eq_any {a : Kd} : aEq a.d (.tup [.str "any"]) S = some (.bl (decide (a = any)), S) :=
  (eq_pt (b := any.d) a.pt any.pt (.inr (by decide +kernel)) (by rw [decide_eq_true_iff, d_inj])).1
@[simp] theorem ne_any {a : Kd} : aNe a.d (.tup [.str "any"]) S = some (.bl (!decide (a = any)), S) :=
  (eq_pt (b := any.d) a.pt any.pt (.inr (by decide +kernel)) (by rw [decide_eq_true_iff, d_inj])).2
@[simp] theorem ne_nil {a : Kd} : aEq a.d (.tup []) S = some (.bl false, S) := (eq_pt (b := .tup []) a.pt rfl (.inr (by decide +kernel)) (by rw [d_eq]; simp)).1
@[simp] theorem ix0 {a : Kd} : aIx a.d (.int 0) S = some (.str a.word, S) := by rw [d_eq]; exact ixT0
@[simp] theorem len {a : Kd} : fLen [a.d] S = some (.int (1 + a.parts.length), S) := by
  rw [d_eq, lenT, List.length_cons, List.length_map]
  congr 3
  omega
@[simp] theorem sl {a : Kd} : aSl a.d (some 1) none S = some (.tup (a.parts.map d), S) := by rw [d_eq]; exact slT
@[simp] theorem slh {a : Kd} : aSl a.d none (some 1) S = some (.tup [.str a.word], S) := by rw [d_eq]; exact slH
@[simp] theorem ty {a : Kd} : tyD a.d S = some "tuple" := by rw [d_eq]; rfl
@[simp] theorem isi_tup {a : Kd} : fIsi [a.d, .ty "tuple"] S = some (.bl true, S) := isi_ok (ty (S := S) (a := a)) (by decide)
@[simp] theorem isi_word {a : Kd} : fIsi [.str a.word, .ty "str"] S = some (.bl true, S) := isi_ok (d := .str a.word) (S := S) rfl (by decide)
theorem eq_word {a b : Kd} : aEq (.str a.word) (.str b.word) S = some (.bl (decide (a.wno = b.wno)), S) ∧ aNe (.str a.word) (.str b.word) S = some (.bl (!decide (a.wno = b.wno)), S) := by
  rw [eq_str, ne_str]
  exact ⟨by simp only [word_inj], by simp only [word_inj]⟩
abbrev table : D := .kd ["num", "truth", "any", "fun", "pair", "box"] [.int 0, .int 0, .int 0, .int 2, .int 2, .int 1]
theorem get (a : Kd) : kdGet ["num", "truth", "any", "fun", "pair", "box"] [.int 0, .int 0, .int 0, .int 2, .int 2, .int 1] a.word = some (.int a.parts.length) := by
  cases a <;> kernel_rfl
@[simp] theorem notin_table {a : Kd} : aNotIn (.str a.word) table S = some (.bl false, S) := by
  show some (D.bl (!(kdGet ["num", "truth", "any", "fun", "pair", "box"] [.int 0, .int 0, .int 0, .int 2, .int 2, .int 1] a.word).isSome), S) = _
  rw [get]
  rfl
@[simp] theorem ix_table {a : Kd} : aIx table (.str a.word) S = some (.int a.parts.length, S) := by
  show (kdGet ["num", "truth", "any", "fun", "pair", "box"] [.int 0, .int 0, .int 0, .int 2, .int 2, .int 1] a.word).map (fun d => (d, S)) = _
  rw [get]
  rfl
end
/-- the parts' measure -/
theorem deep_part {k p : Kd} (h : p ∈ k.parts) : p.deep < k.deep := by
  cases k <;> simp [parts] at h <;> first | (rcases h with rfl | rfl <;> simp [deep] <;> omega) | (subst h; simp [deep])
theorem parts_len (k : Kd) : k.parts.length ≤ 2 := by cases k <;> simp [parts]
end Kd

/-! ### what the program's functions tell of kinds -/
namespace Kd
def alike : Kd → Kd → Bool
  | any, _ => true
  | _, any => true
  | num, num => true
  | truth, truth => true
  | fn a b, fn c e => alike a c && alike b e
  | pr a b, pr c e => alike a c && alike b e
  | bx a, bx c => alike a c
  | _, _ => false
theorem alike_any (a : Kd) : alike a any = true := by cases a <;> simp [alike]
theorem any_alike (a : Kd) : alike any a = true := by cases a <;> simp [alike]
theorem alike_refl : ∀ a : Kd, alike a a = true
  | num => rfl | truth => rfl | any => rfl
  | fn a b => by simp [alike, alike_refl a, alike_refl b]
  | pr a b => by simp [alike, alike_refl a, alike_refl b]
  | bx a => by simp [alike, alike_refl a]
theorem alike_symm : ∀ a b : Kd, alike a b = alike b a
  | any, b => by rw [any_alike, alike_any]
  | a, any => by rw [any_alike, alike_any]
  | num, num => rfl | truth, truth => rfl
  | fn a b, fn c e => by simp [alike, alike_symm a c, alike_symm b e]
  | pr a b, pr c e => by simp [alike, alike_symm a c, alike_symm b e]
  | bx a, bx c => by simp [alike, alike_symm a c]
  | num, truth => rfl | num, fn _ _ => rfl | num, pr _ _ => rfl | num, bx _ => rfl
  | truth, num => rfl | truth, fn _ _ => rfl | truth, pr _ _ => rfl | truth, bx _ => rfl
  | fn _ _, num => rfl | fn _ _, truth => rfl | fn _ _, pr _ _ => rfl | fn _ _, bx _ => rfl
  | pr _ _, num => rfl | pr _ _, truth => rfl | pr _ _, fn _ _ => rfl | pr _ _, bx _ => rfl
  | bx _, num => rfl | bx _, truth => rfl | bx _, fn _ _ => rfl | bx _, pr _ _ => rfl
/-- unlike any, of one word -/
theorem alike_parts {a b : Kd} (h1 : a ≠ any) (h2 : b ≠ any) : alike a b = (decide (a.wno = b.wno) && (List.zipWith alike a.parts b.parts).all id) := by
  cases a <;> cases b <;> first | exact absurd rfl h1 | exact absurd rfl h2 | simp [alike, wno, parts]
/-- the kind of a word, its parts any -/
def opened : Kd → Kd
  | fn _ _ => fn any any | pr _ _ => pr any any | bx _ => bx any | k => k
end Kd
end
end DL
/-! DK, part c: crossings as data, and the plain law of their joining. -/
namespace DL
open PySem PySem.Spec PyProof.Rows L2
noncomputable section
/-- the words of values -/
inductive Wr where
  | num | truth | fn | pr | bx
  deriving DecidableEq
namespace Wr
def s : Wr → Str
  | num => "num" | truth => "truth" | fn => "fun" | pr => "pair" | bx => "box"
def no : Wr → Nat
  | num => 0 | truth => 1 | fn => 3 | pr => 4 | bx => 5
theorem s_inj {a b : Wr} : a.s = b.s ↔ a = b := by
  obtain ⟨h1, h2, h3, h4, h5, h6, h7, h8, h9, h10, h11, h12, h13, h14, h15⟩ := Kd.word_ne
  cases a <;> cases b <;> simp [s, h1, h2, h3, h4, h5, h6, h7, h8, h9, h10, h11, h12, h13, h14, h15, Ne.symm h1, Ne.symm h2, Ne.symm h3, Ne.symm h4, Ne.symm h5, Ne.symm h6, Ne.symm h7, Ne.symm h8, Ne.symm h9, Ne.symm h10, Ne.symm h11, Ne.symm h12, Ne.symm h13, Ne.symm h14, Ne.symm h15]
end Wr
/-- a label and a side -/
structure Lb where
  p : Int
  k : Int
  side : Int
  deriving DecidableEq
namespace Lb
def ok (l : Lb) : Prop := (0 ≤ l.p ∧ l.p ≤ 119) ∧ (0 ≤ l.k ∧ l.k ≤ 2) ∧ 0 ≤ l.side ∧ l.side ≤ 1
def d (l : Lb) : D := .tup [.int l.p, .int l.k]
def turn (l : Lb) : Lb := ⟨l.p, l.k, 1 - l.side⟩
theorem turn_ok {l : Lb} (h : l.ok) : l.turn.ok := ⟨h.1, h.2.1, by show 0 ≤ 1 - l.side; have := h.2.2; omega, by show 1 - l.side ≤ 1; have := h.2.2; omega⟩
end Lb
inductive En where
  | no | into (w : Wr) | fail (l : Lb)
  deriving DecidableEq
/-- a crossing: stay; with the middle same; with a middle of parts -/
inductive Cr where
  | stay
  | leaf (o : Option (Lb × Wr)) (e : En)
  | wrap (o : Option (Lb × Wr)) (w : Wr) (c d : Cr) (e : En)
  deriving DecidableEq
inductive Md where
  | same | wr (w : Wr) (c d : Cr)
  deriving DecidableEq
def outD : Option (Lb × Wr) → D
  | none => .non
  | some (l, w) => .tup [l.d, .int l.side, .str w.s]
def En.d : En → D
  | no => .non
  | into w => .tup [.str "in", .str w.s]
  | fail l => .tup [.str "fail", l.d, .int l.side]
def Cr.d : Cr → D
  | stay => .tup [.str "stay"]
  | leaf o e => .tup [.str "go", outD o, .tup [.str "same"], e.d]
  | wrap o w c d e => .tup [.str "go", outD o, .tup [.str w.s, c.d, d.d], e.d]
def Md.d : Md → D
  | same => .tup [.str "same"]
  | wr w c d => .tup [.str w.s, c.d, d.d]
def Cr.out : Cr → Option (Lb × Wr)
  | stay => none | leaf o _ => o | wrap o _ _ _ _ => o
def Cr.mid : Cr → Md
  | wrap _ w c d _ => .wr w c d | _ => .same
def Cr.en : Cr → En
  | stay => .no | leaf _ e => e | wrap _ _ _ _ e => e
/-- go, out, middle, end -/
def mkC (o : Option (Lb × Wr)) (m : Md) (e : En) : Cr := match m with
  | .same => .leaf o e
  | .wr w c d => .wrap o w c d e
theorem mkC_d (o : Option (Lb × Wr)) (m : Md) (e : En) : (mkC o m e).d = .tup [.str "go", outD o, m.d, e.d] := by cases m <;> rfl
theorem Cr.d_go {c : Cr} (h : c ≠ .stay) : c.d = .tup [.str "go", outD c.out, c.mid.d, c.en.d] := by cases c <;> first | exact absurd rfl h | rfl
theorem Cr.mk_eq {c : Cr} (h : c ≠ .stay) : mkC c.out c.mid c.en = c := by cases c <;> first | exact absurd rfl h | rfl
def En.fails : En → Bool
  | fail _ => true
  | _ => false
def formedC (o : Option (Lb × Wr)) (m : Md) (e : En) : Cr := if e.fails = true then .leaf o e else if o = none ∧ m = .same ∧ e = .no then .stay else mkC o m e
def wrapC (w : Wr) (c d : Cr) : Md := if c = .stay ∧ d = .stay then .same else .wr w c d
/-- the word of a kind that isn't any -/
def Kd.wr : Kd → Wr
  | num => .num | truth => .truth | any => .num | fn _ _ => .fn | pr _ _ => .pr | bx _ => .bx
theorem Kd.wr_s {k : Kd} (h : k ≠ .any) : k.wr.s = k.word := by cases k <;> first | exact absurd rfl h | rfl
/-- the middle of two kinds of one word, by t for their parts -/
def midK (t : Kd → Kd → Lb → Cr) (a b : Kd) (l : Lb) : Md := match a, b with
  | .fn p q, .fn r s => wrapC .fn (t r p l.turn) (t q s l)
  | .pr p q, .pr r s => wrapC .pr (t p r l) (t q s l)
  | .bx p, .bx r => wrapC .bx (t p r l) (t r p l.turn)
  | _, _ => .same
/-- the crossing of a border, by so many turns at the most -/
def btw : Nat → Kd → Kd → Lb → Cr
  | 0, _, _, _ => .stay
  | n + 1, a, b, l => if a = b then .stay else if b = .any then formedC none (midK (btw n) a a.opened l) (.into a.wr) else if a = .any then formedC (some (l, b.wr)) (midK (btw n) b.opened b l) .no else formedC none (midK (btw n) a b l) .no
/-- two middles of one word, one behind the other, by t for their parts -/
def mids (t : Cr → Cr → Cr) : Md → Md → Md
  | .same, m => m
  | .wr w c d, .same => .wr w c d
  | .wr w c d, .wr _ e f => match w with
    | .fn => wrapC .fn (t e c) (t d f)
    | .pr => wrapC .pr (t c e) (t d f)
    | _ => wrapC .bx (t c e) (t f d)
/-- two crossings, one behind the other -/
def tog : Nat → Cr → Cr → Cr
  | 0, c, _ => c
  | n + 1, c, e => if c = .stay then e else if e = .stay then c else if c.en.fails = true then c else
      match e.out, c.en with
      | some (l, w), .into v => if v = w then formedC c.out (mids (tog n) c.mid e.mid) e.en else formedC c.out .same (.fail l)
      | _, _ => formedC c.out (mids (tog n) c.mid e.mid) e.en
def Cr.high : Cr → Nat
  | stay => 0 | leaf _ _ => 1 | wrap _ _ c d _ => max c.high d.high + 1
def Cr.size : Cr → Nat
  | stay => 1 | leaf _ _ => 1 | wrap _ _ c d _ => c.size + d.size + 1
end
end DL
/-! DK, part d: which crossings go from a kind to a kind. -/
namespace DL
open PySem PySem.Spec PyProof.Rows L2
noncomputable section
namespace Kd
def p1 : Kd → Kd
  | fn a _ => a | pr a _ => a | bx a => a | _ => any
def p2 : Kd → Kd
  | fn _ b => b | pr _ b => b | _ => any
theorem same_of {a b : Kd} (h1 : a ≠ any) (h2 : b ≠ any) (h3 : a.wr = b.wr) (h4 : a.p1 = b.p1) (h5 : a.p2 = b.p2) : a = b := by
  cases a <;> cases b <;> first | exact absurd rfl h1 | exact absurd rfl h2 | (cases h3; done) | (simp [p1, p2] at h4 h5; simp [h4, h5]) | rfl
end Kd
def OutT (a : Kd) (w : Wr) : Option (Lb × Wr) → Prop
  | none => a ≠ .any ∧ a.wr = w
  | some (l, v) => a = .any ∧ v = w ∧ l.ok
def EndT (b : Kd) (w : Wr) : En → Prop
  | .no => b ≠ .any ∧ b.wr = w
  | .into v => b = .any ∧ v = w
  | .fail _ => False
/-- a middle from a to b, of the word w, its parts by R -/
def MidT (R : Kd → Kd → Cr → Prop) (a b : Kd) (w : Wr) : Md → Prop
  | .same => a.p1 = b.p1 ∧ a.p2 = b.p2
  | .wr v x y => v = w ∧ ¬ (x = .stay ∧ y = .stay) ∧ match w with
    | .fn => R b.p1 a.p1 x ∧ R a.p2 b.p2 y
    | .pr => R a.p1 b.p1 x ∧ R a.p2 b.p2 y
    | .bx => a.p2 = b.p2 ∧ R a.p1 b.p1 x ∧ R b.p1 a.p1 y
    | _ => False
/-- out, middle, end from a to b -/
def GoT (R : Kd → Kd → Cr → Prop) (a b : Kd) (o : Option (Lb × Wr)) (m : Md) (e : En) : Prop := match e with
  | .fail l => m = .same ∧ l.ok ∧ ∃ w, OutT a w o
  | e => ∃ w, OutT a w o ∧ EndT b w e ∧ MidT R a b w m ∧ ¬ (o = none ∧ m = .same ∧ e = .no)
/-- c goes from a to b, its kinds at most so deep -/
def Ty : Nat → Kd → Kd → Cr → Prop
  | 0, a, b, c => c = .stay ∧ a = b
  | n + 1, a, b, c => (c = .stay ∧ a = b) ∨ (c ≠ .stay ∧ GoT (Ty n) a b c.out c.mid c.en)
theorem Ty.stay_eq : ∀ {n : Nat} {a b : Kd}, Ty n a b .stay → a = b
  | 0, _, _, h => h.2
  | n + 1, _, _, h => by
    rcases h with h | h
    · exact h.2
    · exact absurd rfl h.1
theorem Ty.refl {n : Nat} {a : Kd} : Ty n a a .stay := by
  cases n
  · exact ⟨rfl, rfl⟩
  · exact .inl ⟨rfl, rfl⟩
/-- the formed one -/
theorem formed_ty {n : Nat} {a b : Kd} {o : Option (Lb × Wr)} {m : Md} {e : En} {w : Wr} (ho : OutT a w o) (h : (e.fails = true ∧ ∃ l, e = .fail l ∧ l.ok) ∨ (EndT b w e ∧ MidT (Ty n) a b w m)) : Ty (n + 1) a b (formedC o m e) := by
  unfold formedC
  rcases h with ⟨h1, l, rfl, hl⟩ | ⟨h1, h2⟩
  · rw [if_pos h1]
    exact .inr ⟨(by intro z; cases z), rfl, hl, w, ho⟩
  · have hf : ¬ e.fails = true := by cases e <;> first | exact h1.elim | exact Bool.false_ne_true
    rw [if_neg hf]
    by_cases q : o = none ∧ m = .same ∧ e = .no
    · rw [if_pos q]
      obtain ⟨rfl, rfl, rfl⟩ := q
      refine .inl ⟨rfl, Kd.same_of ho.1 h1.1 (by rw [ho.2, h1.2]) h2.1 h2.2⟩
    · rw [if_neg q]
      refine .inr ⟨by cases m <;> (intro z; cases z), ?_⟩
      have e1 : (mkC o m e).out = o := by cases m <;> rfl
      have e2 : (mkC o m e).mid = m := by cases m <;> rfl
      have e3 : (mkC o m e).en = e := by cases m <;> rfl
      rw [e1, e2, e3]
      cases e with
      | fail l => exact h1.elim
      | no => exact ⟨w, ho, h1, h2, q⟩
      | into v => exact ⟨w, ho, h1, h2, q⟩
theorem wrap_ty {n : Nat} {a b : Kd} {w : Wr} {x y : Cr} (h : match w with
    | .fn => Ty n b.p1 a.p1 x ∧ Ty n a.p2 b.p2 y
    | .pr => Ty n a.p1 b.p1 x ∧ Ty n a.p2 b.p2 y
    | .bx => a.p2 = b.p2 ∧ Ty n a.p1 b.p1 x ∧ Ty n b.p1 a.p1 y
    | _ => False) : MidT (Ty n) a b w (wrapC w x y) := by
  unfold wrapC
  by_cases q : x = .stay ∧ y = .stay
  · rw [if_pos q]
    obtain ⟨rfl, rfl⟩ := q
    cases w with
    | fn => exact ⟨h.1.stay_eq.symm, h.2.stay_eq⟩
    | pr => exact ⟨h.1.stay_eq, h.2.stay_eq⟩
    | bx => exact ⟨h.2.1.stay_eq, h.1⟩
    | num => exact h.elim
    | truth => exact h.elim
  · rw [if_neg q]
    exact ⟨rfl, q, h⟩
/-- a border's crossing -/
theorem btw_ty : ∀ {n : Nat} {a b : Kd} {l : Lb}, a.alike b = true → a.deep ≤ n → b.deep ≤ n → l.ok → Ty n a b (btw n a b l)
  | 0, a, b, l, _, h, _, _ => by have := a.deep_pos; omega
  | n + 1, a, b, l, h, ha, hb, hl => by
    -- middles of one word
    have hm : ∀ {a b : Kd}, a ≠ .any → b ≠ .any → a.alike b = true → a.deep ≤ n + 1 → b.deep ≤ n + 1 → ∀ a' b' : Kd, a'.p1 = a.p1 → a'.p2 = a.p2 → b'.p1 = b.p1 → b'.p2 = b.p2 →
        MidT (Ty n) a' b' a.wr (midK (btw n) a b l) := by
      intro a b h1 h2 h ha hb a' b' e1 e2 e3 e4
      cases a <;> cases b <;> first | exact absurd rfl h1 | exact absurd rfl h2 | (cases h; done) | skip
      · exact ⟨e1.trans e3.symm, e2.trans e4.symm⟩
      · exact ⟨e1.trans e3.symm, e2.trans e4.symm⟩
      · rename_i p q r s
        simp only [Kd.alike, Bool.and_eq_true] at h
        simp only [Kd.deep] at ha hb
        refine wrap_ty (w := .fn) ⟨?_, ?_⟩
        · rw [e1, e3]; exact btw_ty (by rw [Kd.alike_symm]; exact h.1) (by show r.deep ≤ n; omega) (by show p.deep ≤ n; omega) (Lb.turn_ok hl)
        · rw [e2, e4]; exact btw_ty h.2 (by show q.deep ≤ n; omega) (by show s.deep ≤ n; omega) hl
      · rename_i p q r s
        simp only [Kd.alike, Bool.and_eq_true] at h
        simp only [Kd.deep] at ha hb
        refine wrap_ty (w := .pr) ⟨?_, ?_⟩
        · rw [e1, e3]; exact btw_ty h.1 (by show p.deep ≤ n; omega) (by show r.deep ≤ n; omega) hl
        · rw [e2, e4]; exact btw_ty h.2 (by show q.deep ≤ n; omega) (by show s.deep ≤ n; omega) hl
      · rename_i p r
        simp only [Kd.alike] at h
        simp only [Kd.deep] at ha hb
        refine wrap_ty (w := .bx) ⟨by rw [e2, e4]; rfl, ?_, ?_⟩
        · rw [e1, e3]; exact btw_ty h (by show p.deep ≤ n; omega) (by show r.deep ≤ n; omega) hl
        · rw [e1, e3]; exact btw_ty (by rw [Kd.alike_symm]; exact h) (by show r.deep ≤ n; omega) (by show p.deep ≤ n; omega) (Lb.turn_ok hl)
    have hop : ∀ a : Kd, a ≠ .any → a.opened ≠ .any ∧ a.alike a.opened = true ∧ a.opened.alike a = true ∧ a.opened.deep ≤ a.deep ∧ a.opened.p1 = .any ∧ a.opened.p2 = .any ∧ a.opened.wr = a.wr := by
      intro a h
      cases a <;> first | exact absurd rfl h | simp [Kd.opened, Kd.alike, Kd.deep, Kd.p1, Kd.p2, Kd.wr, Kd.alike_any, Kd.any_alike]
      all_goals (have := Kd.deep_pos; first | (rename_i x y; have h1 := this x; have h2 := this y; omega) | (rename_i x; have h1 := this x; omega))
    unfold btw
    by_cases q : a = b
    · rw [if_pos q, q]; exact Ty.refl
    · rw [if_neg q]
      by_cases q2 : b = .any
      · rw [if_pos q2]
        subst q2
        obtain ⟨o1, o2, o3, o4, o5, o6, o7⟩ := hop a q
        exact formed_ty (w := a.wr) ⟨q, rfl⟩ (.inr ⟨⟨rfl, rfl⟩, hm q o1 o2 ha (by omega) a .any rfl rfl o5.symm o6.symm⟩)
      · rw [if_neg q2]
        by_cases q3 : a = .any
        · rw [if_pos q3]
          subst q3
          obtain ⟨o1, o2, o3, o4, o5, o6, o7⟩ := hop b q2
          have := hm o1 q2 o3 (by omega) hb .any b o5.symm o6.symm rfl rfl
          rw [o7] at this
          exact formed_ty (w := b.wr) ⟨rfl, rfl, hl⟩ (.inr ⟨⟨q2, rfl⟩, this⟩)
        · rw [if_neg q3]
          have hw : a.wr = b.wr := by cases a <;> cases b <;> first | exact absurd rfl q2 | exact absurd rfl q3 | (cases h; done) | rfl
          exact formed_ty (w := a.wr) ⟨q3, rfl⟩ (.inr ⟨⟨q2, hw.symm⟩, hm q3 q2 h ha hb a b rfl rfl rfl rfl⟩)
theorem GoT.nofail {R : Kd → Kd → Cr → Prop} {a b : Kd} {o : Option (Lb × Wr)} {m : Md} {e : En} (h : GoT R a b o m e) (hf : ¬ e.fails = true) : ∃ w, OutT a w o ∧ EndT b w e ∧ MidT R a b w m ∧ ¬ (o = none ∧ m = .same ∧ e = .no) := by
  cases e with
  | fail l => exact absurd rfl hf
  | no => exact h
  | into v => exact h
theorem GoT.out {R : Kd → Kd → Cr → Prop} {a b : Kd} {o : Option (Lb × Wr)} {m : Md} {e : En} (h : GoT R a b o m e) : ∃ w, OutT a w o := by
  cases e with
  | fail l => exact h.2.2
  | no => obtain ⟨w, h1, _⟩ := h; exact ⟨w, h1⟩
  | into v => obtain ⟨w, h1, _⟩ := h; exact ⟨w, h1⟩
/-- middles one behind the other -/
theorem mids_ty {n : Nat} (ih : ∀ {a b c : Kd} {x y : Cr}, Ty n a b x → Ty n b c y → Ty n a c (tog n x y)) {a b c : Kd} {w : Wr} : ∀ {m m' : Md}, MidT (Ty n) a b w m → MidT (Ty n) b c w m' → MidT (Ty n) a c w (mids (tog n) m m')
  | .same, .same, h, h' => ⟨h.1.trans h'.1, h.2.trans h'.2⟩
  | .same, .wr v x y, h, h' => by
    refine ⟨h'.1, h'.2.1, ?_⟩
    have := h'.2.2
    rw [h.1, h.2]
    exact this
  | .wr v x y, .same, h, h' => by
    refine ⟨h.1, h.2.1, ?_⟩
    have := h.2.2
    rw [← h'.1, ← h'.2]
    exact this
  | .wr v x y, .wr v' x' y', h, h' => by
    obtain ⟨rfl, _, h2⟩ := h
    obtain ⟨_, _, h3⟩ := h'
    unfold mids
    cases v with
    | fn => exact wrap_ty (w := .fn) ⟨ih h3.1 h2.1, ih h2.2 h3.2⟩
    | pr => exact wrap_ty (w := .pr) ⟨ih h2.1 h3.1, ih h2.2 h3.2⟩
    | bx => exact wrap_ty (w := .bx) ⟨h2.1.trans h3.1, ih h2.2.1 h3.2.1, ih h3.2.2 h2.2.2⟩
    | num => exact h2.elim
    | truth => exact h2.elim
/-- joined -/
theorem tog_ty : ∀ {n : Nat} {a b c : Kd} {x y : Cr}, Ty n a b x → Ty n b c y → Ty n a c (tog n x y)
  | 0, a, b, c, x, y, h, h' => by
    obtain ⟨rfl, rfl⟩ := h
    obtain ⟨rfl, rfl⟩ := h'
    exact ⟨rfl, rfl⟩
  | n + 1, a, b, c, x, y, h, h' => by
    unfold tog
    by_cases q : x = .stay
    · rw [if_pos q]
      subst q
      rw [h.stay_eq]
      exact h'
    · rw [if_neg q]
      by_cases q2 : y = .stay
      · rw [if_pos q2]
        subst q2
        rw [← h'.stay_eq]
        exact h
      · rw [if_neg q2]
        rcases h with h | ⟨_, h⟩
        · exact absurd h.1 q
        rcases h' with h' | ⟨_, h'⟩
        · exact absurd h'.1 q2
        by_cases q3 : x.en.fails = true
        · rw [if_pos q3]
          refine .inr ⟨q, ?_⟩
          cases hx : x.en with
          | fail l => rw [hx] at h; exact h
          | no => rw [hx] at q3; cases q3
          | into v => rw [hx] at q3; cases q3
        · rw [if_neg q3]
          obtain ⟨w, h1, h2, h3, h4⟩ := h.nofail q3
          have fin : (∀ w', OutT b w' y.out → w' = w) → Ty (n + 1) a c (formedC x.out (mids (tog n) x.mid y.mid) y.en) := fun hw => by
            by_cases q4 : y.en.fails = true
            · refine formed_ty (w := w) h1 (.inl ⟨q4, ?_⟩)
              cases hy : y.en with
              | fail l => rw [hy] at h'; exact ⟨l, rfl, h'.2.1⟩
              | no => rw [hy] at q4; cases q4
              | into v => rw [hy] at q4; cases q4
            · obtain ⟨w', k1, k2, k3, k4⟩ := h'.nofail q4
              obtain rfl := hw w' k1
              exact formed_ty (w := w') h1 (.inr ⟨k2, mids_ty tog_ty h3 k3⟩)
          cases ho : y.out with
          | none =>
            dsimp only
            refine fin fun w' z => ?_
            rw [ho] at z
            cases hx : x.en with
            | fail l => rw [hx] at q3; exact absurd rfl q3
            | no => rw [hx] at h2; rw [← z.2, ← h2.2]
            | into v => rw [hx] at h2; exact absurd h2.1 z.1
          | some p =>
            obtain ⟨l, v'⟩ := p
            cases hx : x.en with
            | fail l => rw [hx] at q3; exact absurd rfl q3
            | no =>
              rw [hx] at h2
              obtain ⟨w', z⟩ := h'.out
              rw [ho] at z
              exact absurd z.1 h2.1
            | into v =>
              rw [hx] at h2
              dsimp only
              obtain ⟨w', z⟩ := h'.out
              rw [ho] at z
              by_cases q5 : v = v'
              · rw [if_pos q5]
                exact fin fun w'' z2 => by rw [ho] at z2; rw [← z2.2.1, ← q5, h2.2]
              · rw [if_neg q5]
                exact formed_ty (w := w) h1 (.inl ⟨rfl, l, rfl, z.2.2⟩)
/-- the bounds -/
theorem Ty.high : ∀ {n : Nat} {a b : Kd} {c : Cr}, Ty n a b c → c.high ≤ n ∧ c.size < 2 ^ (n + 1)
  | 0, _, _, _, ⟨rfl, _⟩ => ⟨Nat.le_refl _, by decide⟩
  | n + 1, a, b, c, h => by
    have hp : 2 ^ (n + 1 + 1) = 2 ^ (n + 1) + 2 ^ (n + 1) := by rw [Nat.pow_succ]; omega
    have h1 : 1 ≤ 2 ^ (n + 1) := Nat.one_le_two_pow
    cases c with
    | stay => exact ⟨Nat.zero_le _, by show 1 < _; omega⟩
    | leaf o e => exact ⟨by show 1 ≤ _; omega, by show 1 < _; omega⟩
    | wrap o w x y e =>
      rcases h with h | ⟨_, h⟩
      · cases h.1
      · have hf : ¬ e.fails = true := by
          cases e with
          | fail l => cases h.1
          | no => exact Bool.false_ne_true
          | into v => exact Bool.false_ne_true
        obtain ⟨v, _, _, h3, _⟩ := GoT.nofail h hf
        have key : (x.high ≤ n ∧ x.size < 2 ^ (n + 1)) ∧ (y.high ≤ n ∧ y.size < 2 ^ (n + 1)) := by
          have h4 := h3.2.2
          cases v with
          | fn => exact ⟨h4.1.high, h4.2.high⟩
          | pr => exact ⟨h4.1.high, h4.2.high⟩
          | bx => exact ⟨h4.2.1.high, h4.2.2.high⟩
          | num => exact h4.elim
          | truth => exact h4.elim
        obtain ⟨⟨k1, k2⟩, k3, k4⟩ := key
        exact ⟨by show max x.high y.high + 1 ≤ _; omega, by show x.size + y.size + 1 < _; omega⟩
end
end DL
/-! DK, part e: crossings: loops; what == and in see. -/
namespace DL
open PySem PySem.Spec PyProof.Rows L2
noncomputable section

/-! ### loops -/
theorem mkC_ne (o : Option (Lb × Wr)) (m : Md) (e : En) : mkC o m e ≠ .stay := by cases m <;> (intro z; cases z)
theorem tog_go {n : Nat} {a : Kd} {w : Wr} {c e : Cr} (h1 : c ≠ .stay) (h2 : e ≠ .stay) (h3 : ¬ c.en.fails = true) (h4 : OutT a w e.out) (h5 : EndT a w c.en) : tog (n + 1) c e = formedC c.out (mids (tog n) c.mid e.mid) e.en := by
  unfold tog
  rw [if_neg h1, if_neg h2, if_neg h3]
  cases ho : e.out with
  | none => rfl
  | some p =>
    obtain ⟨l, v⟩ := p
    cases hx : c.en with
    | fail l => rfl
    | no => rfl
    | into v' =>
      rw [ho] at h4
      rw [hx] at h5
      dsimp only
      rw [if_pos (h5.2.trans h4.2.1.symm)]
theorem loop_ty : ∀ {n : Nat} {a : Kd} {g : Cr}, Ty n a a g → (tog n g g = .stay → g = .stay) ∧ tog n (tog n g g) g = tog n g g ∧ tog n g (tog n g g) = tog n g g
  | 0, a, g, h => by
    obtain ⟨rfl, _⟩ := h
    exact ⟨fun _ => rfl, rfl, rfl⟩
  | n + 1, a, g, h => by
    by_cases q : g = .stay
    · subst q
      have e : tog (n + 1) .stay .stay = .stay := rfl
      rw [e]
      exact ⟨fun _ => rfl, e, e⟩
    · rcases h with h | ⟨_, h⟩
      · exact absurd h.1 q
      · by_cases hf : g.en.fails = true
        · have e : tog (n + 1) g g = g := by
            unfold tog
            rw [if_neg q, if_neg q, if_pos hf]
          rw [e]
          exact ⟨fun z => z, e, e⟩
        · obtain ⟨w, h1, h2, h3, h4⟩ := h.nofail hf
          have e1 := tog_go (n := n) q q hf h1 h2
          have hm : (mids (tog n) g.mid g.mid = .same → g.mid = .same) ∧ mids (tog n) (mids (tog n) g.mid g.mid) g.mid = mids (tog n) g.mid g.mid ∧ mids (tog n) g.mid (mids (tog n) g.mid g.mid) = mids (tog n) g.mid g.mid := by
            cases hg : g.mid with
            | same => exact ⟨fun _ => rfl, rfl, rfl⟩
            | wr v x y =>
              rw [hg] at h3
              obtain ⟨rfl, hne, h5⟩ := h3
              have main : ∀ (u : Wr) (x' y' : Cr), (x' = .stay → x = .stay) → (y' = .stay → y = .stay) → wrapC u x' y' = .wr u x' y' := fun u x' y' hx hy => if_neg fun z => hne ⟨hx z.1, hy z.2⟩
              cases v with
              | fn =>
                obtain ⟨a1, a2, a3⟩ := loop_ty h5.1
                obtain ⟨b1, b2, b3⟩ := loop_ty h5.2
                have e : mids (tog n) (.wr .fn x y) (.wr .fn x y) = .wr .fn (tog n x x) (tog n y y) := main _ _ _ a1 b1
                rw [e]
                refine ⟨fun z => (by cases z), ?_, ?_⟩
                · show wrapC .fn (tog n x (tog n x x)) (tog n (tog n y y) y) = _
                  rw [a3, b2]; exact main _ _ _ a1 b1
                · show wrapC .fn (tog n (tog n x x) x) (tog n y (tog n y y)) = _
                  rw [a2, b3]; exact main _ _ _ a1 b1
              | pr =>
                obtain ⟨a1, a2, a3⟩ := loop_ty h5.1
                obtain ⟨b1, b2, b3⟩ := loop_ty h5.2
                have e : mids (tog n) (.wr .pr x y) (.wr .pr x y) = .wr .pr (tog n x x) (tog n y y) := main _ _ _ a1 b1
                rw [e]
                refine ⟨fun z => (by cases z), ?_, ?_⟩
                · show wrapC .pr (tog n (tog n x x) x) (tog n (tog n y y) y) = _
                  rw [a2, b2]; exact main _ _ _ a1 b1
                · show wrapC .pr (tog n x (tog n x x)) (tog n y (tog n y y)) = _
                  rw [a3, b3]; exact main _ _ _ a1 b1
              | bx =>
                obtain ⟨a1, a2, a3⟩ := loop_ty h5.2.1
                obtain ⟨b1, b2, b3⟩ := loop_ty h5.2.2
                have e : mids (tog n) (.wr .bx x y) (.wr .bx x y) = .wr .bx (tog n x x) (tog n y y) := main _ _ _ a1 b1
                rw [e]
                refine ⟨fun z => (by cases z), ?_, ?_⟩
                · show wrapC .bx (tog n (tog n x x) x) (tog n y (tog n y y)) = _
                  rw [a2, b3]; exact main _ _ _ a1 b1
                · show wrapC .bx (tog n x (tog n x x)) (tog n (tog n y y) y) = _
                  rw [a3, b2]; exact main _ _ _ a1 b1
              | num => exact h5.elim
              | truth => exact h5.elim
          obtain ⟨m1, m2, m3⟩ := hm
          have e2 : formedC g.out (mids (tog n) g.mid g.mid) g.en = mkC g.out (mids (tog n) g.mid g.mid) g.en := by
            unfold formedC
            rw [if_neg hf, if_neg fun z => h4 ⟨z.1, m1 z.2.1, z.2.2⟩]
          rw [e2] at e1
          rw [e1]
          have hne := mkC_ne g.out (mids (tog n) g.mid g.mid) g.en
          have k1 : (mkC g.out (mids (tog n) g.mid g.mid) g.en).out = g.out := by cases mids (tog n) g.mid g.mid <;> rfl
          have k2 : (mkC g.out (mids (tog n) g.mid g.mid) g.en).mid = mids (tog n) g.mid g.mid := by cases mids (tog n) g.mid g.mid <;> rfl
          have k3 : (mkC g.out (mids (tog n) g.mid g.mid) g.en).en = g.en := by cases mids (tog n) g.mid g.mid <;> rfl
          refine ⟨fun z => absurd z hne, ?_, ?_⟩
          · rw [tog_go (w := w) (a := a) hne q (by rw [k3]; exact hf) h1 (by rw [k3]; exact h2), k1, k2, m2, e2]
          · rw [tog_go (w := w) (a := a) q hne hf (by rw [k1]; exact h1) h2, k2, k3, m3, e2]

/-! ### what == sees -/
theorem Lb.pt (l : Lb) : l.d.pt = true := rfl
theorem outD_pt (o : Option (Lb × Wr)) : (outD o).pt = true := by cases o <;> rfl
theorem En.pt (e : En) : e.d.pt = true := by cases e <;> rfl
theorem Cr.pt : ∀ c : Cr, c.d.pt = true
  | stay => rfl
  | leaf o e => by
    show (true && ((outD o).pt && (true && (e.d.pt && true)))) = true
    rw [outD_pt, En.pt]; rfl
  | wrap o w c d e => by
    show (true && ((outD o).pt && ((true && (c.d.pt && (d.d.pt && true))) && (e.d.pt && true)))) = true
    rw [outD_pt, En.pt, pt c, pt d]; rfl
theorem Md.pt (m : Md) : m.d.pt = true := by
  cases m with
  | same => rfl
  | wr w c d =>
    show (true && (c.d.pt && (d.d.pt && true))) = true
    rw [c.pt, d.pt]; rfl
@[simp] theorem Cr.und {n : Nat} (c : Cr) : c.d.und n = true := pt_und _ c.pt
@[simp] theorem Md.und {n : Nat} (c : Md) : c.d.und n = true := pt_und _ c.pt
@[simp] theorem En.und {n : Nat} (c : En) : c.d.und n = true := pt_und _ c.pt
@[simp] theorem outD_und {n : Nat} (c : Option (Lb × Wr)) : (outD c).und n = true := pt_und _ (outD_pt c)
theorem outD_dep (o : Option (Lb × Wr)) : (outD o).dep ≤ 2 := by
  cases o with
  | none => decide
  | some p => exact Nat.le_refl 2
theorem En.dep (e : En) : e.d.dep ≤ 2 := by
  cases e with
  | no => decide
  | into v => show 1 ≤ 2; decide
  | fail l => exact Nat.le_refl 2
theorem Cr.dep : ∀ c : Cr, c.d.dep ≤ 2 * c.high + 3
  | stay => by decide
  | leaf o e => by
    have h1 := outD_dep o
    have h2 := e.dep
    show max 0 (max (outD o).dep (max 1 (max e.d.dep 0))) + 1 ≤ 2 * 1 + 3
    omega
  | wrap o w c d e => by
    have h1 := outD_dep o
    have h2 := e.dep
    have h3 := dep c
    have h4 := dep d
    show max 0 (max (outD o).dep (max (max 0 (max c.d.dep (max d.d.dep 0)) + 1) (max e.d.dep 0))) + 1 ≤ 2 * (max c.high d.high + 1) + 3
    omega
theorem go_stay : (("go" : Str)) ≠ "stay" := by decide +kernel
theorem Cr.d_stay {c : Cr} : c.d = .tup [.str "stay"] ↔ c = .stay := by
  constructor
  · intro h
    cases c with
    | stay => rfl
    | leaf o e => simp [Cr.d] at h
    | wrap o w c d e => simp [Cr.d] at h
  · intro h; rw [h]; rfl
theorem Wr.s_same (w : Wr) : w.s ≠ "same" := by cases w <;> decide +kernel
theorem Md.d_same {m : Md} : m.d = .tup [.str "same"] ↔ m = .same := by
  constructor
  · intro h
    cases m with
    | same => rfl
    | wr w c d => simp [Md.d] at h
  · intro h; rw [h]; rfl
section
variable {S : Sto}
@[simp] theorem Cr.eq_stay {c : Cr} : aEq c.d (.tup [.str "stay"]) S = some (.bl (decide (c = .stay)), S) := (eq_pt (b := Cr.stay.d) c.pt rfl (.inr (by decide +kernel)) (by rw [decide_eq_true_iff]; exact Cr.d_stay.symm)).1
@[simp] theorem Cr.ne_stay {c : Cr} : aNe c.d (.tup [.str "stay"]) S = some (.bl (!decide (c = .stay)), S) := (eq_pt (b := Cr.stay.d) c.pt rfl (.inr (by decide +kernel)) (by rw [decide_eq_true_iff]; exact Cr.d_stay.symm)).2
@[simp] theorem Md.eq_same {m : Md} : aEq m.d (.tup [.str "same"]) S = some (.bl (decide (m = .same)), S) := (eq_pt (b := Md.same.d) m.pt rfl (.inr (by decide +kernel)) (by rw [decide_eq_true_iff]; exact Md.d_same.symm)).1
@[simp] theorem Md.ne_same {m : Md} : aNe m.d (.tup [.str "same"]) S = some (.bl (!decide (m = .same)), S) := (eq_pt (b := Md.same.d) m.pt rfl (.inr (by decide +kernel)) (by rw [decide_eq_true_iff]; exact Md.d_same.symm)).2
@[simp] theorem Wr.in_seen {w : Wr} : aIn (.str w.s) (.tup [.str "num", .str "truth", .str "fun", .str "pair", .str "box"]) S = some (.bl true, S) :=
  (in_pt rfl rfl (by decide +kernel) (by cases w <;> simp [Wr.s])).1
theorem Wr.in_wrapped {w : Wr} (h : w ≠ .num ∧ w ≠ .truth) : aNotIn (.str w.s) (.tup [.str "fun", .str "pair", .str "box"]) S = some (.bl false, S) :=
  (in_pt (c := true) rfl rfl (by decide +kernel) (by cases w <;> simp [Wr.s] <;> first | exact absurd rfl h.1 | exact absurd rfl h.2)).2
@[simp] theorem isi_tt {xs : List D} : fIsi [.tup xs, .ty "tuple"] S = some (.bl true, S) := isi_ok (d := .tup xs) (S := S) rfl (by decide)
@[simp] theorem isi_ss {z : Str} : fIsi [.str z, .ty "str"] S = some (.bl true, S) := isi_ok (d := .str z) (S := S) rfl (by decide)
@[simp] theorem isi_ii {i : Int} : fIsi [.int i, .ty "int"] S = some (.bl true, S) := isi_ok (d := .int i) (S := S) rfl (by decide)
@[simp] theorem isi_ib {i : Int} : fIsi [.int i, .ty "bool"] S = some (.bl false, S) := isi_ok (d := .int i) (S := S) rfl (by decide)
@[simp] theorem Cr.isi {c : Cr} : fIsi [c.d, .ty "tuple"] S = some (.bl true, S) := by cases c <;> exact isi_tt
@[simp] theorem Md.isi {c : Md} : fIsi [c.d, .ty "tuple"] S = some (.bl true, S) := by cases c <;> exact isi_tt
@[simp] theorem isNon_n : DL.isNon .non = true := rfl
@[simp] theorem isNon_t {xs : List D} : DL.isNon (.tup xs) = false := rfl
@[simp] theorem isNon_outD {o : Option (Lb × Wr)} : DL.isNon (outD o) = decide (o = none) := by cases o <;> rfl
@[simp] theorem isNon_en {e : En} : DL.isNon e.d = decide (e = .no) := by cases e <;> rfl
@[simp] theorem nofail_fail : ((("in" : Str)) = "fail") = False := eq_false (by decide +kernel)
@[simp] theorem fail_in : ((("fail" : Str)) = "in") = False := eq_false (by decide +kernel)
section
variable {a b : Kd}
@[simp] theorem ixf1 : aIx (Kd.fn a b).d (.int 1) S = some (a.d, S) := ixT1
@[simp] theorem ixf2 : aIx (Kd.fn a b).d (.int 2) S = some (b.d, S) := ixT2
@[simp] theorem ixp1 : aIx (Kd.pr a b).d (.int 1) S = some (a.d, S) := ixT1
@[simp] theorem ixp2 : aIx (Kd.pr a b).d (.int 2) S = some (b.d, S) := ixT2
@[simp] theorem ixb1 : aIx (Kd.bx a).d (.int 1) S = some (a.d, S) := ixT1
end
@[simp] theorem lit_num_truth : ((("num" : Str)) = "truth") = False := eq_false (by decide +kernel)
@[simp] theorem lit_num_any : ((("num" : Str)) = "any") = False := eq_false (by decide +kernel)
@[simp] theorem lit_num_fun : ((("num" : Str)) = "fun") = False := eq_false (by decide +kernel)
@[simp] theorem lit_num_pair : ((("num" : Str)) = "pair") = False := eq_false (by decide +kernel)
@[simp] theorem lit_num_box : ((("num" : Str)) = "box") = False := eq_false (by decide +kernel)
@[simp] theorem lit_truth_num : ((("truth" : Str)) = "num") = False := eq_false (by decide +kernel)
@[simp] theorem lit_truth_any : ((("truth" : Str)) = "any") = False := eq_false (by decide +kernel)
@[simp] theorem lit_truth_fun : ((("truth" : Str)) = "fun") = False := eq_false (by decide +kernel)
@[simp] theorem lit_truth_pair : ((("truth" : Str)) = "pair") = False := eq_false (by decide +kernel)
@[simp] theorem lit_truth_box : ((("truth" : Str)) = "box") = False := eq_false (by decide +kernel)
@[simp] theorem lit_any_num : ((("any" : Str)) = "num") = False := eq_false (by decide +kernel)
@[simp] theorem lit_any_truth : ((("any" : Str)) = "truth") = False := eq_false (by decide +kernel)
@[simp] theorem lit_any_fun : ((("any" : Str)) = "fun") = False := eq_false (by decide +kernel)
@[simp] theorem lit_any_pair : ((("any" : Str)) = "pair") = False := eq_false (by decide +kernel)
@[simp] theorem lit_any_box : ((("any" : Str)) = "box") = False := eq_false (by decide +kernel)
@[simp] theorem lit_fun_num : ((("fun" : Str)) = "num") = False := eq_false (by decide +kernel)
@[simp] theorem lit_fun_truth : ((("fun" : Str)) = "truth") = False := eq_false (by decide +kernel)
@[simp] theorem lit_fun_any : ((("fun" : Str)) = "any") = False := eq_false (by decide +kernel)
@[simp] theorem lit_fun_pair : ((("fun" : Str)) = "pair") = False := eq_false (by decide +kernel)
@[simp] theorem lit_fun_box : ((("fun" : Str)) = "box") = False := eq_false (by decide +kernel)
@[simp] theorem lit_pair_num : ((("pair" : Str)) = "num") = False := eq_false (by decide +kernel)
@[simp] theorem lit_pair_truth : ((("pair" : Str)) = "truth") = False := eq_false (by decide +kernel)
@[simp] theorem lit_pair_any : ((("pair" : Str)) = "any") = False := eq_false (by decide +kernel)
@[simp] theorem lit_pair_fun : ((("pair" : Str)) = "fun") = False := eq_false (by decide +kernel)
@[simp] theorem lit_pair_box : ((("pair" : Str)) = "box") = False := eq_false (by decide +kernel)
@[simp] theorem lit_box_num : ((("box" : Str)) = "num") = False := eq_false (by decide +kernel)
@[simp] theorem lit_box_truth : ((("box" : Str)) = "truth") = False := eq_false (by decide +kernel)
@[simp] theorem lit_box_any : ((("box" : Str)) = "any") = False := eq_false (by decide +kernel)
@[simp] theorem lit_box_fun : ((("box" : Str)) = "fun") = False := eq_false (by decide +kernel)
@[simp] theorem lit_box_pair : ((("box" : Str)) = "pair") = False := eq_false (by decide +kernel)
section
variable {l : Lb} {w : Wr} {x y : Cr}
@[simp] theorem ixO0 : aIx (outD (some (l, w))) (.int 0) S = some (l.d, S) := ixT0
@[simp] theorem ixO1 : aIx (outD (some (l, w))) (.int 1) S = some (.int l.side, S) := ixT1
@[simp] theorem ixO2 : aIx (outD (some (l, w))) (.int 2) S = some (.str w.s, S) := ixT2
@[simp] theorem ixM0 : aIx (Md.wr w x y).d (.int 0) S = some (.str w.s, S) := ixT0
@[simp] theorem ixM1 : aIx (Md.wr w x y).d (.int 1) S = some (x.d, S) := ixT1
@[simp] theorem ixM2 : aIx (Md.wr w x y).d (.int 2) S = some (y.d, S) := ixT2
@[simp] theorem ixI0 : aIx (En.into w).d (.int 0) S = some (.str "in", S) := ixT0
@[simp] theorem ixI1 : aIx (En.into w).d (.int 1) S = some (.str w.s, S) := ixT1
@[simp] theorem ixF0 : aIx (En.fail l).d (.int 0) S = some (.str "fail", S) := ixT0
@[simp] theorem ixF1 : aIx (En.fail l).d (.int 1) S = some (l.d, S) := ixT1
@[simp] theorem ixF2 : aIx (En.fail l).d (.int 2) S = some (.int l.side, S) := ixT2
@[simp] theorem lenO : fLen [outD (some (l, w))] S = some (.int 3, S) := rfl
@[simp] theorem lenM : fLen [(Md.wr w x y).d] S = some (.int 3, S) := rfl
@[simp] theorem lenI : fLen [(En.into w).d] S = some (.int 2, S) := rfl
@[simp] theorem lenF : fLen [(En.fail l).d] S = some (.int 3, S) := rfl
@[simp] theorem isiO : fIsi [outD (some (l, w)), .ty "tuple"] S = some (.bl true, S) := isi_tt
@[simp] theorem isiI : fIsi [(En.into w).d, .ty "tuple"] S = some (.bl true, S) := isi_tt
@[simp] theorem isiF : fIsi [(En.fail l).d, .ty "tuple"] S = some (.bl true, S) := isi_tt
end
@[simp] theorem mty_new {xs : List D} : mtyD (.ob S.length) (S ++ [.lst xs]) = some "list" := by
  have e : (S ++ [O.lst xs])[S.length]? = some (.lst xs) := by rw [List.getElem?_append_right (Nat.le_refl _), Nat.sub_self]; rfl
  unfold mtyD
  dsimp only
  rw [e]
/-- a list that was just made -/
@[simp] theorem app_new {xs : List D} {x : D} (h : xs.length ≤ 999) : mAppend (.ob S.length) [x] (S ++ [.lst xs]) = some (.non, S ++ [.lst (xs ++ [x])]) := by
  have e : (S ++ [O.lst xs])[S.length]? = some (.lst xs) := by rw [List.getElem?_append_right (Nat.le_refl _), Nat.sub_self]; rfl
  unfold mAppend
  dsimp only
  rw [e]
  dsimp only
  rw [if_pos (Nat.lt_of_lt_of_le (show xs.length < 1000 by omega) (small_line (Nat.le_refl _))), List.set_append_right _ _ (Nat.le_refl _), Nat.sub_self]
  rfl
end
end
end DL
/-! DK, part f: drawn comprehensions and loops, with a state. -/
namespace DL
open PySem PySem.Spec PyProof.Rows L2
noncomputable section
/-- drawn, each by its item -/
theorem compL_rel {ok : Sto → Prop} {t : DTg} {e : DenE} {fr : Fr} {cs : List Int} {P : D → D → Prop} {c B : Nat} (hok : ∀ S, ok S) : ∀ (items : List D) (b : Nat) (s : Ds),
    (∀ d ∈ items, ∀ (b : Nat) (s : Ds), Dr b cs s → b ≤ B → ∃ v s', P d v ∧ Dr (b + c) cs s' ∧ ∀ R, ∃ fr1, t d fr (dst cs s R) = some fr1 ∧ e fr1 (dst cs s R) = .ok v (dst cs s' R)) → Dr b cs s → b + c * items.length ≤ B →
    ∃ vs s', Paired P items vs ∧ Dr (b + c * items.length) cs s' ∧ ∀ R, compL ok t dYes e fr items (dst cs s R) = .ok vs (dst cs s' R)
  | [], b, s, _, hd, _ => ⟨[], s, .nil, hd, fun R => (by
      unfold compL
      exact if_pos (hok _))⟩
  | d :: l, b, s, h, hd, hb => by
    rw [List.length_cons, Nat.mul_succ] at hb
    obtain ⟨v, s1, h1, h2, h3⟩ := h d List.mem_cons_self b s hd (by omega)
    obtain ⟨vs, s2, k1, k3, k4⟩ := compL_rel hok l (b + c) s1 (fun d' hd' => h d' (List.mem_cons_of_mem _ hd')) h2 (by omega)
    refine ⟨v :: vs, s2, .cons h1 k1, ?_, fun R => ?_⟩
    · rw [List.length_cons, Nat.mul_succ]
      exact k3.mono (by omega)
    · obtain ⟨fr1, q1, q2⟩ := h3 R
      unfold compL
      rw [if_pos (hok _), q1]
      dsimp only [dYes]
      rw [q2]
      dsimp only
      rw [k4 R]
/-- a loop that draws: a state, its slots, what it has laid behind R -/
theorem forL_st {α : Type} {ok : Sto → Prop} {t : DTg} {b : DenS} {cs : List Int} {c B : Nat} (hok : ∀ S, ok S) (F : α → Nat → Fr) (X : α → Nat → Sto) (I : Nat → α → Prop) (N : Nat) : ∀ (items : List D) (n : Nat) (a : α) (bd : Nat) (s : Ds),
    (∀ d ∈ items, ∀ (n : Nat) (a : α) (bd : Nat) (s : Ds), n < N → I n a → Dr bd cs s → bd ≤ B → ∃ a' s', I (n + 1) a' ∧ Dr (bd + c) cs s' ∧ ∀ R, ∃ fr1, t d (F a R.length) (dst cs s (R ++ X a R.length)) = some fr1 ∧
      (b fr1 (dst cs s (R ++ X a R.length)) = .ok .nx (F a' R.length) (dst cs s' (R ++ X a' R.length)) ∨ b fr1 (dst cs s (R ++ X a R.length)) = .ok .ct (F a' R.length) (dst cs s' (R ++ X a' R.length)))) →
    n + items.length ≤ N → I n a → Dr bd cs s → bd + c * items.length ≤ B → ∃ a' s', I (n + items.length) a' ∧ Dr (bd + c * items.length) cs s' ∧ ∀ R, forL ok t b items (F a R.length) (dst cs s (R ++ X a R.length)) = .ok .nx (F a' R.length) (dst cs s' (R ++ X a' R.length))
  | [], n, a, bd, s, _, _, hI, hd, _ => ⟨a, s, hI, hd, fun R => (by
      unfold forL
      exact if_pos (hok _))⟩
  | d :: l, n, a, bd, s, h, hN, hI, hd, hb => by
    rw [List.length_cons, Nat.mul_succ] at hb
    rw [List.length_cons] at hN
    obtain ⟨a1, s1, h1, h2, h3⟩ := h d List.mem_cons_self n a bd s (by omega) hI hd (by omega)
    obtain ⟨a2, s2, k1, k2, k3⟩ := forL_st hok F X I N l (n + 1) a1 (bd + c) s1 (fun d' hd' => h d' (List.mem_cons_of_mem _ hd')) (by omega) h1 h2 (by omega)
    refine ⟨a2, s2, ?_, ?_, fun R => ?_⟩
    · rw [List.length_cons, Nat.add_comm l.length 1, ← Nat.add_assoc]
      exact k1
    · rw [List.length_cons, Nat.mul_succ]
      exact k2.mono (by omega)
    · obtain ⟨fr1, q1, q2⟩ := h3 R
      unfold forL
      rw [if_pos (hok _), q1]
      dsimp only
      rcases q2 with q2 | q2 <;> (rw [q2]; exact k3 R)
theorem Kd.many_lt : ∀ k : Kd, k.many < 2 ^ k.deep
  | num => by decide
  | truth => by decide
  | any => by decide
  | fn a b => by
    have h1 := many_lt a
    have h2 := many_lt b
    have h3 : 2 ^ a.deep ≤ 2 ^ max a.deep b.deep := Nat.pow_le_pow_right (by decide) (by omega)
    have h4 : 2 ^ b.deep ≤ 2 ^ max a.deep b.deep := Nat.pow_le_pow_right (by decide) (by omega)
    show a.many + b.many + 1 < 2 ^ (max a.deep b.deep + 1)
    rw [Nat.pow_succ]
    omega
  | pr a b => by
    have h1 := many_lt a
    have h2 := many_lt b
    have h3 : 2 ^ a.deep ≤ 2 ^ max a.deep b.deep := Nat.pow_le_pow_right (by decide) (by omega)
    have h4 : 2 ^ b.deep ≤ 2 ^ max a.deep b.deep := Nat.pow_le_pow_right (by decide) (by omega)
    show a.many + b.many + 1 < 2 ^ (max a.deep b.deep + 1)
    rw [Nat.pow_succ]
    omega
  | bx a => by
    have h1 := many_lt a
    show a.many + 1 < 2 ^ (a.deep + 1)
    rw [Nat.pow_succ]
    have := Nat.one_le_two_pow (n := a.deep)
    omega
theorem Kd.many_le {k : Kd} (h : k.deep ≤ 5) : k.many ≤ 31 := by
  have h1 := k.many_lt
  have h2 : 2 ^ k.deep ≤ 2 ^ 5 := Nat.pow_le_pow_right (by decide) h
  omega
/-- a border as the laws have it: two kinds, a label with its side -/
structure Bd where
  a : Kd
  b : Kd
  l : Lb
def Bd.d (x : Bd) : D := .tup [x.a.d, x.b.d, x.l.d, .int x.l.side]
/-- alike kinds, at most so deep -/
structure Bd.ok (n : Nat) (x : Bd) : Prop where
  al : x.a.alike x.b = true
  ha : x.a.deep ≤ n
  hb : x.b.deep ≤ n
  hl : x.l.ok
theorem Bd.pt (x : Bd) : x.d.pt = true := by
  show (x.a.d.pt && (x.b.d.pt && (true && (true && true)))) = true
  rw [x.a.pt, x.b.pt]
  rfl
@[simp] theorem Bd.und {n : Nat} (x : Bd) : x.d.und n = true := pt_und _ x.pt
theorem undL_map {α : Type} {f : α → D} {n : Nat} (h : ∀ a, (f a).und n = true) : ∀ l : List α, undL n (l.map f) = true
  | [] => rfl
  | a :: l => by
    rw [List.map_cons]
    unfold undL
    rw [h, undL_map h l]
    rfl
section
variable {S : Sto} {x : Bd}
@[simp] theorem Bd.ix0 : aIx x.d (.int 0) S = some (x.a.d, S) := ixT0
@[simp] theorem Bd.ix1 : aIx x.d (.int 1) S = some (x.b.d, S) := ixT1
@[simp] theorem Bd.ix2 : aIx x.d (.int 2) S = some (x.l.d, S) := ixT2
@[simp] theorem Bd.ix3 : aIx x.d (.int 3) S = some (.int x.l.side, S) := ixT3
end
/-- behind one another -/
def chain : Kd → List Bd → Kd → Prop
  | k, [], k' => k = k'
  | k, x :: r, k' => x.a = k ∧ chain x.b r k'
theorem chain_app : ∀ {k k' k'' : Kd} {xs ys : List Bd}, chain k xs k' → chain k' ys k'' → chain k (xs ++ ys) k''
  | _, _, _, [], _, h, h' => by cases h; exact h'
  | _, _, _, x :: r, _, h, h' => ⟨h.1, chain_app h.2 h'⟩
theorem mAppend_at {S : Sto} {n : Nat} {xs : List D} {x : D} (hn : S[n]? = some (.lst xs)) (h : xs.length ≤ 999) : mAppend (.ob n) [x] S = some (.non, S.set n (.lst (xs ++ [x]))) := by
  unfold mAppend
  dsimp only
  rw [hn]
  dsimp only
  rw [if_pos (Nat.lt_of_lt_of_le (show xs.length < 1000 by omega) (small_line (Nat.le_refl _)))]
theorem mty_at {S : Sto} {n : Nat} {xs : List D} (hn : S[n]? = some (.lst xs)) : mtyD (.ob n) S = some "list" := by
  unfold mtyD
  dsimp only
  rw [hn]
theorem dst_set {cs : List Int} {s : Ds} {R : Sto} {j : Nat} {o : O} : (dst cs s R).set (j + 3) o = dst cs s (R.set j o) := rfl
/-- the list that stands behind R alone -/
@[simp] theorem dst_last {cs : List Int} {s : Ds} {R : Sto} {o : O} : (dst cs s (R ++ [o]))[R.length + 3]? = some o := by
  rw [dst_get, List.getElem?_append_right (Nat.le_refl _), Nat.sub_self]
  rfl
@[simp] theorem dst_setLast {cs : List Int} {s : Ds} {R : Sto} {o o' : O} : (dst cs s (R ++ [o])).set (R.length + 3) o' = dst cs s (R ++ [o']) := by
  rw [dst_set, List.set_append_right _ _ (Nat.le_refl _), Nat.sub_self]
  rfl
/-- a def's end: one new object is handed out -/
theorem gc_dstN {cs : List Int} {s s' : Ds} {R T : Sto} {j : Nat} {o : O} (hj : T[j]? = some o) (h : o.und (R.length + 3) = true) : gcO (dst cs s R) (.ob (R.length + 3 + j)) (dst cs s' (R ++ T)) = .ok (.ob (R.length + 3)) (dst cs s' (R ++ [o])) := by
  have hl : (dst cs s R).length = R.length + 3 := rfl
  have ho : Olds (dst cs s R) (dst cs s' (R ++ T)) := by
    refine ⟨?_, fun i hi => ?_⟩
    · show R.length + 3 ≤ (R ++ T).length + 3
      rw [List.length_append]; omega
    · match i, hi with
      | 0, _ => exact .inl rfl
      | 1, _ => exact .inl rfl
      | 2, _ =>
        refine .inr ⟨drw s', rfl, ?_⟩
        rw [hl]
        show (decide (1 < R.length + 3) && (true && (true && (true && true)))) = true
        rw [decide_eq_true (by omega)]
        rfl
      | i + 3, hi =>
        refine .inl ?_
        show (R ++ T)[i]? = R[i]?
        exact List.getElem?_append_left (by rw [hl] at hi; omega)
  have e : (dst cs s' (R ++ T))[R.length + 3 + j]? = some o := by rw [dst_new, hj]
  have ht : (dst cs s' (R ++ T)).take (R.length + 3) ++ [o] = dst cs s' (R ++ [o]) := by
    show (.lst [.int 0] :: .lst (cs.map D.int) :: drw s' :: (R ++ T).take R.length) ++ [o] = _
    rw [List.take_left]
    rfl
  unfold gcO
  rw [if_neg (fun z => by
    have z2 := of_decide_eq_true (show decide (R.length + 3 + j < R.length + 3) = true from z.2)
    omega)]
  dsimp only
  rw [e]
  dsimp only
  rw [hl, if_pos ⟨ho, by omega, h⟩, ht]
theorem gc_dstN0 {cs : List Int} {s s' : Ds} {R : Sto} {o : O} (h : o.und (R.length + 3) = true) : gcO (dst cs s R) (.ob (R.length + 3)) (dst cs s' (R ++ [o])) = .ok (.ob (R.length + 3)) (dst cs s' (R ++ [o])) := gc_dstN (T := [o]) (j := 0) rfl h
theorem ev_for {t : DTg} {fi : Fr → Sto → Out Src} {b : DenS} {fr : Fr} {S : Sto} : dFor t fi b fr S = (fi fr S).thn fr fun src S' => forL src.ok t b src.items fr S' := rfl
theorem ev_maxD {h : DenA} {f : DenE} {fr : Fr} {S : Sto} : dMaxD h f fr S = (h fr S).bnd fun xs S' => (f fr S').bnd fun d S2 => .ofO (fMaxD d xs S2) := rfl
end
end DL
/-! the numbers that this law draws -/
namespace K02
open PySem PySem.Spec PyProof.Rows L2 DL
noncomputable section
theorem mix_i (k : Nat) (c j : Int) (S : Sto) (h0 : 0 ≤ j) (h1 : j < 2 ^ 62) : Phi T G (k + 1) i_law_mixed [.int c, .int j] S = .ok (.int (mixI c j)) S := by
  rw [phi_succ (d := f_law_mixed) rfl den_law_mixed]
  exact mixed_run (Φ := Phi T G k) h0 h1
theorem nx {b : Nat} {cs : List Int} {s : Ds} (k : Nat) (m : Int) (hd : Dr b cs s) (hb : b < 2 ^ 61) (hm : 0 < m) (hm2 : m < 1000000000000000000) :
    ∃ r s', 0 ≤ r ∧ r < m ∧ Dr (b + 1) cs s' ∧ ∀ R, Phi T G (k + 2) i_law_next [.ob 2, .int m] (dst cs s R) = .ok (.int r) (dst cs s' R) := by
  obtain ⟨r, s', h1, h2, h3, h4⟩ := next_run (Φ := Phi T G (k + 1)) (mi := i_law_mixed) (mix_i k) hd hb hm hm2
  refine ⟨r, s', h1, h2, h3, fun R => ?_⟩
  rw [phi_succ (d := f_law_next) rfl den_law_next]
  exact h4 R
theorem begin_i {k : Nat} {ns : List Int} (h : ns.length ≤ 63) : Phi T G (k + 1) i_law_begin [.rl (ns.map .int)] [] = .ok (.ob 2) (dst (ns ++ [0]) ⟨0, 0, 0⟩ []) ∧ Dr 0 (ns ++ [0]) ⟨0, 0, 0⟩ := by
  have q := begin_run (Φ := Phi T G k) h
  refine ⟨?_, q.2⟩
  rw [phi_succ (d := f_law_begin) rfl den_law_begin]
  exact q.1
end
end K02
/-! DK, part g: lists at hand: two joined, the last, all but the last, the greatest. -/
namespace DL
open PySem PySem.Spec PyProof.Rows L2
noncomputable section
section
variable {S : Sto} {xs ys : List D} {n : Nat}
theorem seq_at (h : S[n]? = some (.lst xs)) : seqD (.ob n) S = some xs := by
  show (match S[n]? with
      | some (.lst xs) => some xs
      | _ => none) = _
  rw [h]
theorem add_at {m : Nat} (h : S[n]? = some (.lst xs)) (h' : S[m]? = some (.lst ys)) (hl : xs.length + ys.length ≤ 1000) : aAdd (.ob n) (.ob m) S = some (.ob S.length, S ++ [.lst (xs ++ ys)]) := by
  show (match S[n]?, S[m]? with
    | some (.lst xs), some (.lst ys) => if xs.length + ys.length ≤ sizeLine then some (D.ob S.length, S ++ [O.lst (xs ++ ys)]) else none
    | _, _ => none) = _
  rw [h, h']
  dsimp only
  rw [if_pos (small_line hl)]
theorem onLst_at {f : FB} (h : S[n]? = some (.lst xs)) : onLst f [.ob n] S = f xs S := by
  show (match seqD (.ob n) S with
    | some xs => f xs S
    | none => none) = _
  rw [seq_at h]
theorem fMax_ints {l : List Int} (h : l ≠ []) : fMax (l.map D.int) S = some (.int (maxI l), S) := by
  unfold fMax
  rw [optAll_ints]
  cases l with
  | nil => exact absurd rfl h
  | cons a l => rfl
/-- max([0] + [..]) of new lists -/
theorem new1 {a b : O} : (S ++ [a, b])[S.length]? = some a := by
  rw [List.getElem?_append_right (Nat.le_refl _), Nat.sub_self]; rfl
theorem new2 {a b : O} : (S ++ [a, b])[S.length + 1]? = some b := by
  rw [List.getElem?_append_right (by omega), Nat.add_sub_cancel_left]; rfl
theorem new3 {a b c : O} : (S ++ [a, b, c])[S.length + 2]? = some c := by
  rw [List.getElem?_append_right (by omega), Nat.add_sub_cancel_left]; rfl
theorem add_two (hl : xs.length + ys.length ≤ 1000) : aAdd (.ob S.length) (.ob (S.length + 1)) (S ++ [.lst xs, .lst ys]) = some (.ob (S.length + 2), S ++ [.lst xs, .lst ys, .lst (xs ++ ys)]) := by
  rw [add_at new1 new2 hl]
  simp
theorem max_two {l : List Int} (h : l ≠ []) {a b : O} : onLst fMax [.ob (S.length + 2)] (S ++ [a, b, .lst (l.map D.int)]) = some (.int (maxI l), S ++ [a, b, .lst (l.map D.int)]) := by
  rw [onLst_at new3, fMax_ints h]
theorem max0 (l : List Int) (hl : l.length ≤ 900) : ∃ z, aAdd (.ob S.length) (.ob (S.length + 1)) (S ++ [.lst [.int 0], .lst (l.map D.int)]) = some (.ob (S.length + 2), S ++ [.lst [.int 0], .lst (l.map D.int), .lst z]) ∧
    onLst fMax [.ob (S.length + 2)] (S ++ [.lst [.int 0], .lst (l.map D.int), .lst z]) = some (.int (maxI (0 :: l)), S ++ [.lst [.int 0], .lst (l.map D.int), .lst z]) :=
  ⟨(0 :: l).map D.int, add_two (xs := [.int 0]) (by rw [List.length_map]; show 1 + _ ≤ _; omega), max_two (l := 0 :: l) (by simp)⟩
theorem ix_lastS {d : D} (h : S[n]? = some (.lst (xs ++ [d]))) : aIx (.ob n) (.int (-1)) S = some (d, S) := by
  show (match seqD (.ob n) S with
    | some xs => (L2.atI xs (-1)).map fun d => (d, S)
    | none => match S[n]? with
      | some (.dk kvs) => match keyD (.int (-1)) with
        | some k => (valD kvs k).map fun d => (d, S)
        | none => none
      | _ => none) = _
  rw [seq_at h]
  dsimp only
  have : L2.atI (xs ++ [d]) (-1) = some d := by
    unfold L2.atI L2.ixN
    have e : (-1 + ((xs.length : Int) + 1)).toNat = xs.length := by omega
    simp [e, show (1 : Int) ≤ (xs.length : Int) + 1 by omega]
  rw [this]
  rfl
theorem cut_last {d : D} : cutD (xs ++ [d]) none (some (-1)) = xs := by
  unfold cutD HT.sIx
  have e : (-1 + ((xs.length : Int) + 1)).toNat = xs.length := by omega
  simp [e]
theorem sl_last {d : D} (h : S[n]? = some (.lst (xs ++ [d]))) : aSl (.ob n) none (some (-1)) S = some (.ob S.length, S ++ [.lst xs]) := by
  show (match S[n]? with
    | some (.lst xs) => some (D.ob S.length, S ++ [O.lst (cutD xs none (some (-1)))])
    | _ => none) = _
  rw [h]
  dsimp only
  rw [cut_last]
theorem shl_ok {i j : Int} (h : CPow i j) : aShl (.int i) (.int j) S = some (.int (i * 2 ^ j.toNat), S) := by
  show (if CPow i j then some (D.int (i * 2 ^ j.toNat)) else none).map (fun d => (d, S)) = _
  rw [if_pos h]
  rfl
theorem iseq_at {f : DenE} {fr : Fr} {S0 : Sto} (e : f fr S0 = .ok (.ob n) S) (h : S[n]? = some (.lst xs)) : dISeq f fr S0 = .ok ⟨xs, [(n, xs)]⟩ S := by
  unfold dISeq
  rw [e]
  show Out.ofS (match S[n]? with
        | some (.lst xs) => some (Src.mk xs [(n, xs)])
        | _ => none) S = _
  rw [h]
  rfl
/-- a comprehension over a list that stays -/
theorem comp_lst {i : Nat} {fi : Fr → Sto → Out Src} {e : DenE} {fr : Fr} (v : D → D) (hn : S[n]? = some (.lst xs)) (hi : fi fr S = .ok ⟨xs, [(n, xs)]⟩ S) (h : ∀ a ∈ xs, e ((wipeD fr [i]).set i (some a)) S = .ok (v a) S) : dComp [i] fi (gN i) dYes e fr S = .ok (xs.map v) S := by
  unfold dComp
  rw [hi]
  exact compL_map (fun p hp => by rw [List.mem_singleton.mp hp]; exact hn) xs fun a ha => ⟨_, rfl, h a ha⟩
/-- a loop over a list that stays, the store as it was -/
theorem forL_inv {α : Type} {t : DTg} {b : DenS} (hn : S[n]? = some (.lst ys)) (F : α → Fr) (I : List D → α → Prop) : ∀ (items : List D) (a : α),
    (∀ d l a, I (d :: l) a → ∃ a' fr1, t d (F a) S = some fr1 ∧ b fr1 S = .ok .nx (F a') S ∧ I l a') → I items a → ∃ a', I [] a' ∧ forL (Src.mk ys [(n, ys)]).ok t b items (F a) S = .ok .nx (F a') S
  | [], a, _, hI => ⟨a, hI, by
      unfold forL
      exact if_pos (fun p hp => by rw [List.mem_singleton.mp hp]; exact hn)⟩
  | d :: l, a, h, hI => by
    obtain ⟨a1, fr1, h1, h2, h3⟩ := h d l a hI
    obtain ⟨a2, k1, k2⟩ := forL_inv hn F I l a1 h h3
    refine ⟨a2, k1, ?_⟩
    have hok : (Src.mk ys [(n, ys)]).ok S := fun p hp => by rw [List.mem_singleton.mp hp]; exact hn
    unfold forL
    rw [if_pos hok, h1]
    dsimp only
    rw [h2]
    exact k2
end
end
end DL
/-! DK, part h: what borders do to a value, and a crossing by its own form. -/
namespace DL
open PySem PySem.Spec PyProof.Rows L2
noncomputable section
/-- a loop, its state with its store -/
theorem forL_gen {α : Type} {ok : Sto → Prop} {t : DTg} {b : DenS} (F : α → Fr) (X : α → Sto) (I : List D → α → Prop) (hok : ∀ l a, I l a → ok (X a)) : ∀ (items : List D) (a : α),
    (∀ d l a, I (d :: l) a → ∃ a' fr1, t d (F a) (X a) = some fr1 ∧ (b fr1 (X a) = .ok .nx (F a') (X a') ∨ b fr1 (X a) = .ok .ct (F a') (X a')) ∧ I l a') → I items a → ∃ a', I [] a' ∧ forL ok t b items (F a) (X a) = .ok .nx (F a') (X a')
  | [], a, _, hI => ⟨a, hI, by
      unfold forL
      exact if_pos (hok _ _ hI)⟩
  | d :: l, a, h, hI => by
    obtain ⟨a1, fr1, h1, h2, h3⟩ := h d l a hI
    obtain ⟨a2, k1, k2⟩ := forL_gen F X I hok l a1 h h3
    refine ⟨a2, k1, ?_⟩
    unfold forL
    rw [if_pos (hok _ _ hI), h1]
    dsimp only
    rcases h2 with h2 | h2 <;> (rw [h2]; exact k2)
theorem new_at {S T : Sto} (j : Nat) : (S ++ T)[S.length + j]? = T[j]? := by
  rw [List.getElem?_append_right (by omega), Nat.add_sub_cancel_left]
theorem new_at0 {S T : Sto} : (S ++ T)[S.length]? = T[0]? := new_at 0
theorem set_new {S T : Sto} {o : O} (j : Nat) : (S ++ T).set (S.length + j) o = S ++ T.set j o := by
  rw [List.set_append_right _ _ (by omega), Nat.add_sub_cancel_left]
/-- a def's end: one of the new objects is handed out -/
theorem gc_new {S T : Sto} {j : Nat} {o : O} (hj : T[j]? = some o) (h : o.und S.length = true) : gcO S (.ob (S.length + j)) (S ++ T) = .ok (.ob S.length) (S ++ [o]) := by
  unfold gcO
  rw [if_neg (fun z => by
    have z2 := of_decide_eq_true (show decide (S.length + j < S.length) = true from z.2)
    omega)]
  dsimp only
  rw [new_at, hj]
  dsimp only
  rw [if_pos ⟨und_app, by omega, h⟩, List.take_left]
namespace Kd
/-- a kind's part by number; any's part is any -/
def part (k : Kd) (i : Int) : Kd := if i = 1 then k.p1 else k.p2
theorem part_any (i : Int) : part any i = any := by unfold part; split <;> rfl
end Kd
/-- a use of a value of a word: spot, number, back -/
def Wr.uses : Wr → List (Int × Int × Bool)
  | fn => [(1, 1, true), (2, 2, false)]
  | pr => [(1, 1, false), (2, 2, false)]
  | bx => [(1, 1, false), (2, 1, true)]
  | _ => []
def useD (u : Int × Int × Bool) : D := .tup [.int u.1, .int u.2.1, .bl u.2.2]
/-- the borders of a part -/
def Bd.part (x : Bd) (i : Int) (back : Bool) : Bd := if back = true then ⟨x.b.part i, x.a.part i, x.l.turn⟩ else ⟨x.a.part i, x.b.part i, x.l⟩
def partsB (bs : List Bd) (i : Int) (back : Bool) : List Bd := if back = true then (bs.map fun x => x.part i true).reverse else bs.map fun x => x.part i false
/-- where a value of a word is stopped -/
def stopB : List Bd → Wr → Option Lb
  | [], _ => none
  | x :: r, w => if x.a = .any ∧ x.b ≠ .any ∧ x.b.wr ≠ w then some x.l else stopB r w
def stopD : Option Lb → D
  | none => .non
  | some l => .tup [l.d, .int l.side]
/-- what a crossing does to a value of a word, by its own form -/
def doesC (c : Cr) (w : Wr) : Option Lb := if c = .stay then none else match c.out, c.en with
  | some (l, v), .fail m => if v ≠ w then some l else some m
  | some (l, v), _ => if v ≠ w then some l else none
  | none, .fail m => some m
  | none, _ => none
def withinC (c : Cr) (i : Int) : Cr := match c.mid with
  | .same => .stay
  | .wr _ x y => if i = 1 then x else y
theorem stopD_pt (o : Option Lb) : (stopD o).pt = true := by cases o <;> rfl
theorem stopD_inj {o p : Option Lb} : stopD o = stopD p ↔ o = p := by
  cases o with
  | none => cases p with
    | none => simp [stopD]
    | some l => simp [stopD]
  | some l => cases p with
    | none => simp [stopD]
    | some m =>
      obtain ⟨a, b, c⟩ := l
      obtain ⟨d, e, f⟩ := m
      simp [stopD, Lb.d, and_assoc]
theorem stopD_dep (o : Option Lb) : (stopD o).dep ≤ 2 := by
  cases o with
  | none => decide +kernel
  | some l => show max (max 0 (max 0 0) + 1) (max 0 0) + 1 ≤ 2; decide
theorem stopD_ne {o p : Option Lb} {S : Sto} : aNe (stopD o) (stopD p) S = some (.bl (!decide (o = p)), S) :=
  (eq_pt (S := S) (stopD_pt o) (stopD_pt p) (.inl (by have := stopD_dep o; omega)) (by rw [decide_eq_true_iff]; exact stopD_inj.symm)).2
theorem stopD_non {o : Option Lb} : DL.isNon (stopD o) = decide (o = none) := by cases o <;> rfl
/-- the words of the values that are tried -/
def wordsB (k : Kd) : List Wr := if k = .any then [.num, .truth, .fn, .pr, .bx] else [k.wr]
/-- a row of borders and a crossing that does what they do -/
structure Does (Ok : List Bd → Cr → Prop) : Prop where
  ne : ∀ {bs c}, Ok bs c → bs ≠ []
  le : ∀ {bs c}, Ok bs c → bs.length ≤ 100
  deep : ∀ {bs c}, Ok bs c → ∀ x ∈ bs, x.a.deep ≤ 100
  stay : ∀ {bs c}, Ok bs c → (∀ x ∈ bs, x.a = x.b) → c = .stay
  does : ∀ {x bs c w}, Ok (x :: bs) c → ¬ (∀ y ∈ x :: bs, y.a = y.b) → w ∈ wordsB x.a → doesC c w = stopB (x :: bs) w
  fit : ∀ {x bs c w}, Ok (x :: bs) c → w ∈ wordsB x.a → stopB (x :: bs) w = none → ∀ y ∈ x :: bs, (y.a = .any ∨ y.a.wr = w) ∧ (y.b = .any ∨ y.b.wr = w)
  within : ∀ {x bs c w}, Ok (x :: bs) c → ¬ (∀ y ∈ x :: bs, y.a = y.b) → w ∈ wordsB x.a → stopB (x :: bs) w = none → ∀ u ∈ w.uses, Ok (partsB (x :: bs) u.2.1 u.2.2) (withinC c u.1)
end
end DL
/-! DK, part i: the crossing of one border does what the border does. -/
namespace DL
open PySem PySem.Spec PyProof.Rows L2
noncomputable section
theorem mkC_out (o : Option (Lb × Wr)) (m : Md) (e : En) : (mkC o m e).out = o := by cases m <;> rfl
theorem mkC_mid (o : Option (Lb × Wr)) (m : Md) (e : En) : (mkC o m e).mid = m := by cases m <;> rfl
theorem mkC_en (o : Option (Lb × Wr)) (m : Md) (e : En) : (mkC o m e).en = e := by cases m <;> rfl
/-- a middle's part -/
def withM (m : Md) (i : Int) : Cr := match m with
  | .same => .stay
  | .wr _ x y => if i = 1 then x else y
theorem withM_wrap (w : Wr) (c d : Cr) (i : Int) : withM (wrapC w c d) i = if i = 1 then c else d := by
  unfold wrapC
  by_cases h : c = .stay ∧ d = .stay
  · rw [if_pos h, h.1, h.2]; show Cr.stay = _; split <;> rfl
  · rw [if_neg h]; rfl
/-- the three ways of a border between unlike kinds -/
theorem btw_any {n : Nat} {a : Kd} {l : Lb} (h : a ≠ .any) : btw (n + 1) a .any l = mkC none (midK (btw n) a a.opened l) (.into a.wr) := by
  unfold btw
  rw [if_neg h, if_pos rfl]
  unfold formedC
  rw [if_neg (by simp [En.fails]), if_neg (by simp)]
theorem any_btw {n : Nat} {b : Kd} {l : Lb} (h : b ≠ .any) : btw (n + 1) .any b l = mkC (some (l, b.wr)) (midK (btw n) b.opened b l) .no := by
  unfold btw
  rw [if_neg (Ne.symm h), if_neg h, if_pos rfl]
  unfold formedC
  rw [if_neg (by simp [En.fails]), if_neg (by simp)]
theorem btw_mid {n : Nat} {a b : Kd} {l : Lb} (h1 : a ≠ .any) (h2 : b ≠ .any) (h3 : a ≠ b) : (btw (n + 1) a b l = .stay ∧ midK (btw n) a b l = .same) ∨ btw (n + 1) a b l = mkC none (midK (btw n) a b l) .no := by
  unfold btw
  rw [if_neg h3, if_neg h2, if_neg h1]
  unfold formedC
  rw [if_neg (by simp [En.fails])]
  by_cases h : midK (btw n) a b l = .same
  · exact .inl ⟨if_pos ⟨rfl, h, rfl⟩, h⟩
  · exact .inr (if_neg fun z => h z.2.1)
theorem doesC_mk (o : Option (Lb × Wr)) (m : Md) (e : En) (w : Wr) : doesC (mkC o m e) w = match o, e with
  | some (l, v), .fail m => if v ≠ w then some l else some m
  | some (l, v), _ => if v ≠ w then some l else none
  | none, .fail m => some m
  | none, _ => none := by
  unfold doesC
  rw [if_neg (mkC_ne o m e), mkC_out, mkC_en]
  all_goals (cases o <;> cases e <;> rfl)
theorem withinC_mk (o : Option (Lb × Wr)) (m : Md) (e : En) (i : Int) : withinC (mkC o m e) i = withM m i := by
  unfold withinC
  rw [mkC_mid]
  rfl
theorem Kd.alike_wr {a b : Kd} (h : a.alike b = true) (h1 : a ≠ .any) (h2 : b ≠ .any) : a.wr = b.wr := by
  cases a <;> cases b <;> first | rfl | exact absurd rfl h1 | exact absurd rfl h2 | (simp [Kd.alike] at h)
/-- one border, and its crossing -/
def One (bs : List Bd) (c : Cr) : Prop := ∃ n x, bs = [x] ∧ x.a.alike x.b = true ∧ x.a.deep ≤ n ∧ x.b.deep ≤ n ∧ n ≤ 100 ∧ c = btw n x.a x.b x.l
theorem one_within {m : Nat} {a b : Kd} {l : Lb} {w : Wr} (h : a.alike b = true) (ha : a.deep ≤ m + 1) (hb : b.deep ≤ m + 1) (hm : m + 1 ≤ 100) (hne : a ≠ b) (fa : a = .any ∨ a.wr = w) (fb : b = .any ∨ b.wr = w) :
    ∀ u ∈ w.uses, One (partsB [⟨a, b, l⟩] u.2.1 u.2.2) (withinC (btw (m + 1) a b l) u.1) := by
  have hdp := fun (k : Kd) => k.deep_pos
  have key : ∀ (p q : Kd) (l' : Lb) (c : Cr), p.alike q = true → p.deep ≤ m → q.deep ≤ m → c = btw m p q l' → ∀ bs, bs = [⟨p, q, l'⟩] → One bs c := fun p q l' c h1 h2 h3 h4 bs hbs => ⟨m, _, hbs, h1, h2, h3, by omega, h4⟩
  by_cases a1 : a = .any
  · subst a1
    have b1 : b ≠ .any := fun z => hne z.symm
    rw [any_btw b1]
    intro u hu
    rw [withinC_mk]
    rcases fb with fb | fb
    · exact absurd fb b1
    subst fb
    cases b with
    | num => cases hu
    | truth => cases hu
    | any => exact absurd rfl b1
    | fn r s =>
      have hb : max r.deep s.deep + 1 ≤ m + 1 := hb
      have hr := hdp r
      rcases List.mem_cons.mp hu with rfl | hu
      · exact key r .any l.turn _ (Kd.alike_any r) (by omega) (by show 1 ≤ m; omega) (withM_wrap _ _ _ _) _ rfl
      · rcases List.mem_cons.mp hu with rfl | hu
        · exact key .any s l _ (Kd.any_alike s) (by show 1 ≤ m; omega) (by omega) (withM_wrap _ _ _ _) _ rfl
        · cases hu
    | pr r s =>
      have hb : max r.deep s.deep + 1 ≤ m + 1 := hb
      have hr := hdp r
      rcases List.mem_cons.mp hu with rfl | hu
      · exact key .any r l _ (Kd.any_alike r) (by show 1 ≤ m; omega) (by omega) (withM_wrap _ _ _ _) _ rfl
      · rcases List.mem_cons.mp hu with rfl | hu
        · exact key .any s l _ (Kd.any_alike s) (by show 1 ≤ m; omega) (by omega) (withM_wrap _ _ _ _) _ rfl
        · cases hu
    | bx r =>
      have hb : r.deep + 1 ≤ m + 1 := hb
      have hr := hdp r
      rcases List.mem_cons.mp hu with rfl | hu
      · exact key .any r l _ (Kd.any_alike r) (by show 1 ≤ m; omega) (by omega) (withM_wrap _ _ _ _) _ rfl
      · rcases List.mem_cons.mp hu with rfl | hu
        · exact key r .any l.turn _ (Kd.alike_any r) (by omega) (by show 1 ≤ m; omega) (withM_wrap _ _ _ _) _ rfl
        · cases hu
  · by_cases b1 : b = .any
    · subst b1
      rw [btw_any a1]
      intro u hu
      rw [withinC_mk]
      rcases fa with fa | fa
      · exact absurd fa a1
      subst fa
      cases a with
      | num => cases hu
      | truth => cases hu
      | any => exact absurd rfl a1
      | fn r s =>
        have ha : max r.deep s.deep + 1 ≤ m + 1 := ha
        have hr := hdp r
        rcases List.mem_cons.mp hu with rfl | hu
        · exact key .any r l.turn _ (Kd.any_alike r) (by show 1 ≤ m; omega) (by omega) (withM_wrap _ _ _ _) _ rfl
        · rcases List.mem_cons.mp hu with rfl | hu
          · exact key s .any l _ (Kd.alike_any s) (by omega) (by show 1 ≤ m; omega) (withM_wrap _ _ _ _) _ rfl
          · cases hu
      | pr r s =>
        have ha : max r.deep s.deep + 1 ≤ m + 1 := ha
        have hr := hdp r
        rcases List.mem_cons.mp hu with rfl | hu
        · exact key r .any l _ (Kd.alike_any r) (by omega) (by show 1 ≤ m; omega) (withM_wrap _ _ _ _) _ rfl
        · rcases List.mem_cons.mp hu with rfl | hu
          · exact key s .any l _ (Kd.alike_any s) (by omega) (by show 1 ≤ m; omega) (withM_wrap _ _ _ _) _ rfl
          · cases hu
      | bx r =>
        have ha : r.deep + 1 ≤ m + 1 := ha
        have hr := hdp r
        rcases List.mem_cons.mp hu with rfl | hu
        · exact key r .any l _ (Kd.alike_any r) (by omega) (by show 1 ≤ m; omega) (withM_wrap _ _ _ _) _ rfl
        · rcases List.mem_cons.mp hu with rfl | hu
          · exact key .any r l.turn _ (Kd.any_alike r) (by show 1 ≤ m; omega) (by omega) (withM_wrap _ _ _ _) _ rfl
          · cases hu
    · intro u hu
      have hwc : withinC (btw (m + 1) a b l) u.1 = withM (midK (btw m) a b l) u.1 := by
        rcases btw_mid (n := m) (l := l) a1 b1 hne with ⟨e1, e2⟩ | e
        · rw [e1, e2]; rfl
        · rw [e, withinC_mk]
      rw [hwc]
      rcases fa with fa | fa
      · exact absurd fa a1
      rcases fb with fb | fb
      · exact absurd fb b1
      subst fa
      cases a with
      | num => cases hu
      | truth => cases hu
      | any => exact absurd rfl a1
      | fn r s =>
        cases b with
        | fn r' s' =>
          have ha : max r.deep s.deep + 1 ≤ m + 1 := ha
          have hb : max r'.deep s'.deep + 1 ≤ m + 1 := hb
          simp [Kd.alike] at h
          rcases List.mem_cons.mp hu with rfl | hu
          · exact key r' r l.turn _ (by rw [Kd.alike_symm]; exact h.1) (by omega) (by omega) (withM_wrap _ _ _ _) _ rfl
          · rcases List.mem_cons.mp hu with rfl | hu
            · exact key s s' l _ h.2 (by omega) (by omega) (withM_wrap _ _ _ _) _ rfl
            · cases hu
        | _ => first | exact absurd rfl b1 | cases fb
      | pr r s =>
        cases b with
        | pr r' s' =>
          have ha : max r.deep s.deep + 1 ≤ m + 1 := ha
          have hb : max r'.deep s'.deep + 1 ≤ m + 1 := hb
          simp [Kd.alike] at h
          rcases List.mem_cons.mp hu with rfl | hu
          · exact key r r' l _ h.1 (by omega) (by omega) (withM_wrap _ _ _ _) _ rfl
          · rcases List.mem_cons.mp hu with rfl | hu
            · exact key s s' l _ h.2 (by omega) (by omega) (withM_wrap _ _ _ _) _ rfl
            · cases hu
        | _ => first | exact absurd rfl b1 | cases fb
      | bx r =>
        cases b with
        | bx r' =>
          have ha : r.deep + 1 ≤ m + 1 := ha
          have hb : r'.deep + 1 ≤ m + 1 := hb
          simp [Kd.alike] at h
          rcases List.mem_cons.mp hu with rfl | hu
          · exact key r r' l _ h (by omega) (by omega) (withM_wrap _ _ _ _) _ rfl
          · rcases List.mem_cons.mp hu with rfl | hu
            · exact key r' r l.turn _ (by rw [Kd.alike_symm]; exact h) (by omega) (by omega) (withM_wrap _ _ _ _) _ rfl
            · cases hu
        | _ => first | exact absurd rfl b1 | cases fb
theorem one_does : Does One where
  ne := fun ⟨n, x, e, _⟩ z => by rw [e] at z; cases z
  le := fun ⟨n, x, e, _⟩ => by rw [e]; show 1 ≤ 100; omega
  deep := fun ⟨n, x, e, _, h, _, h', _⟩ y hy => by rw [e] at hy; rw [List.mem_singleton.mp hy]; omega
  stay := fun ⟨n, x, e, _, _, _, _, hc⟩ h => by
    rw [hc, h x (by rw [e]; exact List.mem_cons_self)]
    cases n with
    | zero => rfl
    | succ n => unfold btw; rw [if_pos rfl]
  does := fun {x bs c w} h' h hw => by
    obtain ⟨n, y, e, hal, ha, hb, _, hc⟩ := h'
    obtain ⟨rfl, rfl⟩ : y = x ∧ bs = [] := by cases e; exact ⟨rfl, rfl⟩
    clear e
    have hne : y.a ≠ y.b := fun z => h fun v hv => by rw [List.mem_singleton.mp hv]; exact z
    subst hc
    obtain ⟨a, b, l⟩ := y
    have hap := a.deep_pos
    dsimp only at *
    cases n with
    | zero => omega
    | succ n =>
      by_cases a1 : a = .any
      · subst a1
        have b1 : b ≠ .any := fun z => hne z.symm
        rw [any_btw b1, doesC_mk]
        by_cases q : b.wr = w
        · simp [stopB, q, b1]
        · simp [stopB, q, b1]
      · by_cases b1 : b = .any
        · subst b1
          rw [btw_any a1, doesC_mk]
          simp [stopB]
        · have hz : stopB [⟨a, b, l⟩] w = none := by simp [stopB, a1]
          rw [hz]
          rcases btw_mid (n := n) (l := l) a1 b1 hne with ⟨e1, e2⟩ | e
          · rw [e1]; rfl
          · rw [e, doesC_mk]
  fit := fun {x bs c w} h' hw hs z hz => by
    obtain ⟨n, y, e, hal, _⟩ := h'
    obtain ⟨rfl, rfl⟩ : y = x ∧ bs = [] := by cases e; exact ⟨rfl, rfl⟩
    clear e
    rw [List.mem_singleton.mp hz]
    obtain ⟨a, b, l⟩ := y
    dsimp only at *
    unfold wordsB at hw
    by_cases a1 : a = .any
    · refine ⟨.inl a1, ?_⟩
      by_cases b1 : b = .any
      · exact .inl b1
      · refine .inr (Classical.not_not.mp fun q => ?_)
        unfold stopB at hs
        rw [if_pos ⟨a1, b1, q⟩] at hs
        cases hs
    · rw [if_neg a1] at hw
      have hw := List.mem_singleton.mp hw
      refine ⟨.inr hw.symm, ?_⟩
      by_cases b1 : b = .any
      · exact .inl b1
      · exact .inr (by rw [hw, Kd.alike_wr hal a1 b1])
  within := fun {x bs c w} h' h hw hs u hu => by
    have hfit : ∀ y ∈ x :: bs, (y.a = .any ∨ y.a.wr = w) ∧ (y.b = .any ∨ y.b.wr = w) := by
      obtain ⟨n, y, e, hal, _⟩ := h'
      obtain ⟨rfl, rfl⟩ : y = x ∧ bs = [] := by cases e; exact ⟨rfl, rfl⟩
      clear e
      intro z hz
      rw [List.mem_singleton.mp hz]
      obtain ⟨a, b, l⟩ := y
      dsimp only at *
      unfold wordsB at hw
      by_cases a1 : a = .any
      · refine ⟨.inl a1, ?_⟩
        by_cases b1 : b = .any
        · exact .inl b1
        · refine .inr (Classical.not_not.mp fun q => ?_)
          unfold stopB at hs
          rw [if_pos ⟨a1, b1, q⟩] at hs
          cases hs
      · rw [if_neg a1] at hw
        have hw := List.mem_singleton.mp hw
        refine ⟨.inr hw.symm, ?_⟩
        by_cases b1 : b = .any
        · exact .inl b1
        · exact .inr (by rw [hw, Kd.alike_wr hal a1 b1])
    obtain ⟨n, y, e, hal, ha, hb, hn, hc⟩ := h'
    obtain ⟨rfl, rfl⟩ : y = x ∧ bs = [] := by cases e; exact ⟨rfl, rfl⟩
    clear e
    subst hc
    have hne : y.a ≠ y.b := fun z => h fun v hv => by rw [List.mem_singleton.mp hv]; exact z
    have hf := hfit y List.mem_cons_self
    have hap := y.a.deep_pos
    cases n with
    | zero => omega
    | succ m => exact one_within hal ha hb hn hne hf.1 hf.2 u hu
end
end DL
/-! DK, part j: repr of a crossing. -/
namespace DL
open PySem PySem.Spec PyProof.Rows L2
noncomputable section
def Shw (d : D) (n : Nat) : Prop := d.pd.showable = true ∧ d.pd.hasDict = false ∧ d.pd.shown.length ≤ n
def ShwL (ds : List D) (n : Nat) : Prop := PyData.showableAll (pdL ds) = true ∧ PyData.hasDictAll (pdL ds) = false ∧ piled (PyData.shownAll (pdL ds)) ≤ n
theorem ShwL.nil : ShwL [] 0 := ⟨rfl, rfl, Nat.le_refl _⟩
theorem ShwL.cons {d : D} {ds : List D} {n m : Nat} (h : Shw d n) (h' : ShwL ds m) : ShwL (d :: ds) (n + 2 + m) := by
  obtain ⟨h1, h2, h3⟩ := h
  obtain ⟨k1, k2, k3⟩ := h'
  refine ⟨?_, ?_, ?_⟩
  · unfold pdL PyData.showableAll; rw [h1, k1]; rfl
  · unfold pdL PyData.hasDictAll; rw [h2, k2]; rfl
  · unfold pdL PyData.shownAll
    show (d.pd.shown.length + 2) + piled (PyData.shownAll (pdL ds)) ≤ _
    omega
theorem tupleText_le (ts : List Str) : (tupleText ts).length ≤ piled ts + 3 := by
  unfold tupleText
  rw [app_len, app_len]
  have e1 : ((("(" : String) : Str)).length = 1 := by decide +kernel
  have e2 : (((if ts.length == 1 then ",)" else ")" : String) : Str)).length ≤ 2 := by split <;> decide +kernel
  rw [e1]
  by_cases h : ts = []
  · subst h
    have : (Str.join ", " ([] : List Str)).length = 0 := by decide +kernel
    omega
  · have := join_length_add ts h
    omega
theorem Shw.tup {ds : List D} {n : Nat} (h : ShwL ds n) : Shw (.tup ds) (n + 3) := by
  obtain ⟨h1, h2, h3⟩ := h
  refine ⟨?_, ?_, ?_⟩
  · show PyData.showable (.tuple (pdL ds)) = true
    unfold PyData.showable; exact h1
  · show PyData.hasDict (.tuple (pdL ds)) = false
    unfold PyData.hasDict; exact h2
  · show (PyData.shown (.tuple (pdL ds))).length ≤ _
    unfold PyData.shown
    have := tupleText_le (PyData.shownAll (pdL ds))
    omega
theorem Shw.mono {d : D} {n m : Nat} (h : Shw d n) (q : n ≤ m) : Shw d m := ⟨h.1, h.2.1, Nat.le_trans h.2.2 q⟩
theorem shw_int {i : Int} (h0 : 0 ≤ i) (h1 : i ≤ 119) : Shw (.int i) 3 := by
  have key : ∀ n : Fin 120, PyData.showable (.int (n.val : Int)) = true ∧ PyData.hasDict (.int (n.val : Int)) = false ∧ (PyData.shown (.int (n.val : Int))).length ≤ 3 := by decide +kernel
  have := key ⟨i.toNat, by omega⟩
  rw [show ((i.toNat : Nat) : Int) = i by omega] at this
  exact this
theorem shw_go : Shw (.str "go") 4 := by unfold Shw; decide +kernel
theorem shw_in : Shw (.str "in") 4 := by unfold Shw; decide +kernel
theorem shw_fail : Shw (.str "fail") 6 := by unfold Shw; decide +kernel
theorem shw_wr (w : Wr) : Shw (.str w.s) 7 := by
  cases w <;> (unfold Shw; decide +kernel)
theorem shw_non : Shw .non 4 := by unfold Shw; decide +kernel
theorem shw_stay : Shw Cr.stay.d 9 := by unfold Shw; decide +kernel
theorem shw_same : Shw Md.same.d 9 := by unfold Shw; decide +kernel
theorem shw_lb {l : Lb} (h : l.ok) : Shw l.d 13 := Shw.tup (.cons (shw_int h.1.1 h.1.2) (.cons (shw_int h.2.1.1 (by have := h.2.1.2; omega)) .nil))
theorem shw_out {o : Option (Lb × Wr)} {a : Kd} {w : Wr} (h : OutT a w o) : Shw (outD o) 32 := by
  cases o with
  | none => exact shw_non.mono (by omega)
  | some p =>
    obtain ⟨l, v⟩ := p
    obtain ⟨_, _, hl⟩ := h
    exact Shw.tup (.cons (shw_lb hl) (.cons (shw_int hl.2.2.1 (by have := hl.2.2.2; omega)) (.cons (shw_wr v) .nil)))
theorem shw_end (e : En) (h : ∀ l, e = .fail l → l.ok) : Shw e.d 31 := by
  cases e with
  | no => exact shw_non.mono (by omega)
  | into v => exact (Shw.tup (.cons shw_in (.cons (shw_wr v) .nil))).mono (by omega)
  | fail l =>
    have hl := h l rfl
    exact Shw.tup (.cons shw_fail (.cons (shw_lb hl) (.cons (shw_int hl.2.2.1 (by have := hl.2.2.2; omega)) .nil)))
theorem Ty.shw : ∀ {n : Nat} {a b : Kd} {c : Cr}, Ty n a b c → Shw c.d (150 * c.size)
  | 0, a, b, c, h => by
    rw [h.1]
    exact shw_stay.mono (by decide)
  | n + 1, a, b, c, h => by
    rcases h with h | ⟨h, g⟩
    · rw [h.1]
      exact shw_stay.mono (by decide)
    · obtain ⟨w, ho⟩ := g.out
      have he : ∀ l, c.en = .fail l → l.ok := fun l e => by
        rw [e] at g
        exact g.2.1
      rw [Cr.d_go h]
      have hso : 1 ≤ c.size := by cases c <;> simp [Cr.size]
      by_cases hm : c.mid = .same
      · rw [hm]
        exact (Shw.tup (.cons shw_go (.cons (shw_out ho) (.cons shw_same (.cons (shw_end _ he) .nil))))).mono (by omega)
      · have hf : ¬ c.en.fails = true := fun z => by
          cases q : c.en with
          | fail l => rw [q] at g; exact hm g.1
          | no => rw [q] at z; cases z
          | into v => rw [q] at z; cases z
        obtain ⟨w', _, _, hM, _⟩ := g.nofail hf
        cases c with
        | stay => exact absurd rfl h
        | leaf o e => exact absurd rfl hm
        | wrap o v x y e =>
          have hM : MidT (Ty n) a b w' (.wr v x y) := hM
          obtain ⟨rfl, _, h2⟩ := hM
          have hxy : Shw x.d (150 * x.size) ∧ Shw y.d (150 * y.size) := by
            cases v with
            | fn => exact ⟨Ty.shw h2.1, Ty.shw h2.2⟩
            | pr => exact ⟨Ty.shw h2.1, Ty.shw h2.2⟩
            | bx => exact ⟨Ty.shw h2.2.1, Ty.shw h2.2.2⟩
            | num => exact h2.elim
            | truth => exact h2.elim
          have hmid : Shw (Md.wr v x y).d (7 + 2 + (150 * x.size + 2 + (150 * y.size + 2 + 0)) + 3) := Shw.tup (.cons (shw_wr v) (.cons hxy.1 (.cons hxy.2 .nil)))
          refine (Shw.tup (.cons shw_go (.cons (shw_out ho) (.cons hmid (.cons (shw_end _ he) .nil))))).mono ?_
          show _ ≤ 150 * (x.size + y.size + 1)
          omega
theorem Ty.repr {n : Nat} {a b : Kd} {c : Cr} {S : Sto} (h : Ty n a b c) (hn : n ≤ 8) : fRepr [c.d] S = some (.str c.d.pd.shown, S) := by
  have h1 := Ty.shw h
  have h2 := h.high
  have h3 : (2 : Nat) ^ (n + 1) ≤ 2 ^ 9 := Nat.pow_le_pow_right (by decide) (by omega)
  have h4 := (toP_pt (f := obP 11 S) c.d c.pt).2
  have h5 := Cr.dep c
  have hok : reprOk c.d.pd := ⟨⟨h1.1, h1.2.1⟩, by omega, by have := h1.2.2; rw [sizeLine_eq]; omega⟩
  unfold fRepr
  dsimp only
  rw [dP_pt c.pt]
  dsimp only
  rw [if_pos hok]
end
end DL
/-! DK, part n: things of any sort, looked at as kinds; levels of parts. -/
namespace DL
open PySem PySem.Spec PyProof.Rows L2
noncomputable section

/-! ### things -/
mutual
/-- a thing whose type is told, all its parts too -/
def thg (S : Sto) : D → Bool
  | .non => true
  | .bl _ => true
  | .int _ => true
  | .str _ => true
  | .tup xs => thgL S xs
  | .ob n => (match S[n]? with
    | some (.lst _) => true
    | some (.dk _) => true
    | _ => false)
  | .rl _ => false
  | .kd _ _ => false
  | .ty _ => false
  | .gl _ => false
  | .xo _ _ _ => false
def thgL (S : Sto) : List D → Bool
  | [] => true
  | d :: ds => thg S d && thgL S ds
end
theorem thgL_mem {S : Sto} : ∀ {ds : List D}, thgL S ds = true ↔ ∀ d ∈ ds, thg S d = true
  | [] => by simp [thgL]
  | d :: ds => by
    unfold thgL
    rw [Bool.and_eq_true, thgL_mem, List.forall_mem_cons]
def isTpl : D → Bool
  | .tup _ => true
  | _ => false
def isStr : D → Bool
  | .str _ => true
  | _ => false
theorem thg_ty {S : Sto} {d : D} (h : thg S d = true) : ∃ t, tyD d S = some t ∧ isTy t "tuple" = isTpl d ∧ isTy t "str" = isStr d := by
  cases d with
  | non => exact ⟨"NoneType", rfl, by kernel_rfl, by kernel_rfl⟩
  | bl b => exact ⟨"bool", rfl, by kernel_rfl, by kernel_rfl⟩
  | int i => exact ⟨"int", rfl, by kernel_rfl, by kernel_rfl⟩
  | str x => exact ⟨"str", rfl, by kernel_rfl, by kernel_rfl⟩
  | tup xs => exact ⟨"tuple", rfl, by kernel_rfl, by kernel_rfl⟩
  | ob n =>
    unfold thg at h
    unfold tyD
    dsimp only
    cases e : S[n]? with
    | none => rw [e] at h; cases h
    | some o =>
      rw [e] at h
      cases o with
      | lst xs => exact ⟨"list", rfl, by kernel_rfl, by kernel_rfl⟩
      | dk xs => exact ⟨"dict", rfl, by kernel_rfl, by kernel_rfl⟩
      | ins c fs => cases h
  | rl xs => cases h
  | kd a b => cases h
  | ty a => cases h
  | gl a => cases h
  | xo a b c => cases h
theorem thg_tup {S : Sto} {d : D} (h : thg S d = true) : fIsi [d, .ty "tuple"] S = some (.bl (isTpl d), S) := by
  obtain ⟨t, h1, h2, h3⟩ := thg_ty h
  rw [isi_ok h1 (by decide), h2]
theorem thg_str {S : Sto} {d : D} (h : thg S d = true) : fIsi [d, .ty "str"] S = some (.bl (isStr d), S) := by
  obtain ⟨t, h1, h2, h3⟩ := thg_ty h
  rw [isi_ok h1 (by decide), h3]
mutual
theorem thg_und {S : Sto} : ∀ d : D, thg S d = true → d.und S.length = true
  | .non, _ => rfl
  | .bl _, _ => rfl
  | .int _, _ => rfl
  | .str _, _ => rfl
  | .tup xs, h => by unfold thg at h; unfold D.und; exact thgL_und xs h
  | .ob n, h => by
    unfold thg at h
    unfold D.und
    cases e : S[n]? with
    | none => rw [e] at h; cases h
    | some o => exact decide_eq_true (List.getElem?_eq_some_iff.mp e).1
  | .rl _, h => by cases h
  | .kd _ _, h => by cases h
  | .ty _, h => by cases h
  | .gl _, h => by cases h
  | .xo _ _ _, h => by cases h
theorem thgL_und {S : Sto} : ∀ ds : List D, thgL S ds = true → undL S.length ds = true
  | [], _ => rfl
  | d :: ds, h => by
    unfold thgL at h
    rw [Bool.and_eq_true] at h
    unfold undL
    rw [thg_und d h.1, thgL_und ds h.2]
    rfl
end
mutual
/-- .. also where more stands -/
theorem thg_mono {S S' : Sto} (hs : ∀ (n : Nat) (o : O), S[n]? = some o → ∃ o', S'[n]? = some o' ∧ (o = o' ∨ (∃ a, o = .dk a) ∧ ∃ b, o' = .dk b)) : ∀ d : D, thg S d = true → thg S' d = true
  | .non, _ => rfl
  | .bl _, _ => rfl
  | .int _, _ => rfl
  | .str _, _ => rfl
  | .tup xs, h => by unfold thg at h ⊢; exact thgL_mono hs xs h
  | .ob n, h => by
    unfold thg at h ⊢
    cases e : S[n]? with
    | none => rw [e] at h; cases h
    | some o =>
      rw [e] at h
      obtain ⟨o', e', q⟩ := hs n o e
      rw [e']
      rcases q with rfl | ⟨_, b, rfl⟩
      · exact h
      · rfl
  | .rl _, h => by cases h
  | .kd _ _, h => by cases h
  | .ty _, h => by cases h
  | .gl _, h => by cases h
  | .xo _ _ _, h => by cases h
theorem thgL_mono {S S' : Sto} (hs : ∀ (n : Nat) (o : O), S[n]? = some o → ∃ o', S'[n]? = some o' ∧ (o = o' ∨ (∃ a, o = .dk a) ∧ ∃ b, o' = .dk b)) : ∀ ds : List D, thgL S ds = true → thgL S' ds = true
  | [], _ => rfl
  | d :: ds, h => by
    unfold thgL at h ⊢
    rw [Bool.and_eq_true] at h
    rw [thg_mono hs d h.1, thgL_mono hs ds h.2]
    rfl
end
theorem thg_kd {S : Sto} : ∀ k : Kd, thg S k.d = true
  | .num => rfl | .truth => rfl | .any => rfl
  | .fn a b => by show (true && (thg S a.d && (thg S b.d && true))) = true; rw [thg_kd a, thg_kd b]; rfl
  | .pr a b => by show (true && (thg S a.d && (thg S b.d && true))) = true; rw [thg_kd a, thg_kd b]; rfl
  | .bx a => by show (true && (thg S a.d && true)) = true; rw [thg_kd a]; rfl
/-- a tuple and the empty one -/
theorem eq_nil {S : Sto} {xs : List D} : aEq (.tup xs) (.tup []) S = some (.bl xs.isEmpty, S) := by
  have hb : dP S (.tup []) = some (.tuple []) := rfl
  have he : (PyData.tuple []).depth = 1 := by decide +kernel
  unfold aEq eqP
  rw [hb]
  cases q : dP S (.tup xs) with
  | none => rfl
  | some p =>
    dsimp only
    rw [if_pos (by rw [he]; omega)]
    unfold dP toP at q
    cases q2 : toPs (obP 12 S) xs with
    | none => rw [q2] at q; cases q
    | some ps =>
      rw [q2] at q
      cases q
      cases xs with
      | nil => cases q2; rfl
      | cons x r =>
        unfold toPs at q2
        split at q2
        · cases q2
          simp [PyData.eqv, PyData.eqvAll]
        · cases q2

/-! ### kinds among things -/
abbrev kWords : List Str := ["num", "truth", "any", "fun", "pair", "box"]
abbrev kArs : List D := [.int 0, .int 0, .int 0, .int 2, .int 2, .int 1]
/-- how many parts a word wants -/
def arOf (w : Str) : Option Nat := if w = "num" then some 0 else if w = "truth" then some 0 else if w = "any" then some 0 else if w = "fun" then some 2 else if w = "pair" then some 2 else if w = "box" then some 1 else none
theorem kd_ar {w : Str} : kdGet kWords kArs w = (arOf w).map fun n => .int n := by
  unfold kdGet arOf
  show List.lookup w [("num", D.int 0), ("truth", D.int 0), ("any", D.int 0), ("fun", D.int 2), ("pair", D.int 2), ("box", D.int 1)] = _
  by_cases h1 : w = "num"
  · subst h1; rw [if_pos rfl]; rfl
  rw [if_neg h1]
  by_cases h2 : w = "truth"
  · subst h2; rw [if_pos rfl]; kernel_rfl
  rw [if_neg h2]
  by_cases h3 : w = "any"
  · subst h3; rw [if_pos rfl]; kernel_rfl
  rw [if_neg h3]
  by_cases h4 : w = "fun"
  · subst h4; rw [if_pos rfl]; kernel_rfl
  rw [if_neg h4]
  by_cases h5 : w = "pair"
  · subst h5; rw [if_pos rfl]; kernel_rfl
  rw [if_neg h5]
  by_cases h6 : w = "box"
  · subst h6; rw [if_pos rfl]; kernel_rfl
  rw [if_neg h6]
  have hb : ∀ z : Str, w ≠ z → (w == z) = false := fun z h => by simpa using h
  simp only [List.lookup_cons, hb _ h1, hb _ h2, hb _ h3, hb _ h4, hb _ h5, hb _ h6]
  rfl
theorem ar_word (k : Kd) : arOf k.word = some k.parts.length := by cases k <;> kernel_rfl
theorem ar_cases {w : Str} {n : Nat} (h : arOf w = some n) : (n = 0 ∧ (w = "num" ∨ w = "truth" ∨ w = "any")) ∨ (n = 2 ∧ (w = "fun" ∨ w = "pair")) ∨ (n = 1 ∧ w = "box") := by
  unfold arOf at h
  split at h
  · cases h; exact .inl ⟨rfl, .inl (by assumption)⟩
  split at h
  · cases h; exact .inl ⟨rfl, .inr (.inl (by assumption))⟩
  split at h
  · cases h; exact .inl ⟨rfl, .inr (.inr (by assumption))⟩
  split at h
  · cases h; exact .inr (.inl ⟨rfl, .inl (by assumption)⟩)
  split at h
  · cases h; exact .inr (.inl ⟨rfl, .inr (by assumption)⟩)
  split at h
  · cases h; exact .inr (.inr ⟨rfl, by assumption⟩)
  · cases h
/-- a thing's form, so deep -/
def fm : Nat → D → Bool
  | n + 1, .tup (.str w :: ps) => decide (arOf w = some ps.length) && ps.all (fm n)
  | _, _ => false
theorem fm_zero (d : D) : fm 0 d = false := rfl
theorem fm_kd : ∀ {n : Nat} {d : D}, fm n d = true → ∃ k : Kd, d = k.d ∧ k.deep ≤ n
  | 0, d, h => by cases h
  | n + 1, d, h => by
    cases d with
    | tup xs =>
      cases xs with
      | nil => cases h
      | cons x ps =>
        cases x with
        | str w =>
          unfold fm at h
          rw [Bool.and_eq_true, decide_eq_true_eq, List.all_eq_true] at h
          obtain ⟨h1, h2⟩ := h
          rcases ar_cases h1 with ⟨hn, hw⟩ | ⟨hn, hw⟩ | ⟨hn, hw⟩
          · have : ps = [] := List.length_eq_zero_iff.mp hn
            subst this
            rcases hw with rfl | rfl | rfl
            · exact ⟨.num, rfl, by show 1 ≤ n + 1; omega⟩
            · exact ⟨.truth, rfl, by show 1 ≤ n + 1; omega⟩
            · exact ⟨.any, rfl, by show 1 ≤ n + 1; omega⟩
          · match ps, hn, h2 with
            | [a, b], _, h2 =>
              obtain ⟨ka, rfl, ha⟩ := fm_kd (h2 a (by simp))
              obtain ⟨kb, rfl, hb⟩ := fm_kd (h2 b (by simp))
              rcases hw with rfl | rfl
              · exact ⟨.fn ka kb, rfl, by show max ka.deep kb.deep + 1 ≤ n + 1; omega⟩
              · exact ⟨.pr ka kb, rfl, by show max ka.deep kb.deep + 1 ≤ n + 1; omega⟩
          · match ps, hn, h2 with
            | [a], _, h2 =>
              obtain ⟨ka, rfl, ha⟩ := fm_kd (h2 a (by simp))
              subst hw
              exact ⟨.bx ka, rfl, by show ka.deep + 1 ≤ n + 1; omega⟩
        | _ => cases h
    | _ => cases h
theorem kd_fm : ∀ {n : Nat} {k : Kd}, k.deep ≤ n → fm n k.d = true
  | 0, k, h => by have := k.deep_pos; omega
  | n + 1, k, h => by
    rw [k.d_eq]
    unfold fm
    rw [Bool.and_eq_true, decide_eq_true_eq, List.all_eq_true, ar_word, List.length_map]
    refine ⟨rfl, fun d hd => ?_⟩
    obtain ⟨p, hp, rfl⟩ := List.mem_map.mp hd
    have := Kd.deep_part hp
    exact kd_fm (by omega)
theorem fm_deep {n : Nat} {k : Kd} (h : fm n k.d = true) : k.deep ≤ n := by
  obtain ⟨k', e, h'⟩ := fm_kd h
  rw [Kd.inj e]
  exact h'
theorem fm_mono {n m : Nat} {d : D} (h : fm n d = true) (hm : n ≤ m) : fm m d = true := by
  obtain ⟨k, rfl, hk⟩ := fm_kd h
  exact kd_fm (by omega)

/-! ### levels -/
def kidsD : D → Option (List D)
  | .tup (.str w :: ps) => if arOf w = some ps.length then some ps else none
  | _ => none
def allKids : List D → Option (List D)
  | [] => some []
  | d :: r => match kidsD d, allKids r with
    | some a, some b => some (a ++ b)
    | _, _ => none
def levs : Nat → List D → Option (List Nat)
  | 0, _ => some []
  | n + 1, L => if L.isEmpty = true then some [] else match allKids L with
    | none => none
    | some L' => (levs n L').map (L.length :: ·)
theorem kids_kd (k : Kd) : kidsD k.d = some (k.parts.map Kd.d) := by
  rw [k.d_eq]
  unfold kidsD
  dsimp only
  rw [if_pos (by rw [ar_word, List.length_map])]
theorem allKids_kd : ∀ ks : List Kd, allKids (ks.map Kd.d) = some ((ks.flatMap Kd.parts).map Kd.d)
  | [] => rfl
  | k :: r => by
    rw [List.map_cons]
    unfold allKids
    rw [kids_kd, allKids_kd r]
    simp
def deepL : List Kd → Nat
  | [] => 0
  | k :: r => max k.deep (deepL r)
def manyL (ks : List Kd) : Nat := (ks.map Kd.many).sum
theorem deepL_app : ∀ (a b : List Kd), deepL (a ++ b) = max (deepL a) (deepL b)
  | [], b => by show deepL b = max 0 _; omega
  | k :: a, b => by
    show max k.deep (deepL (a ++ b)) = max (max k.deep (deepL a)) (deepL b)
    rw [deepL_app a b]; omega
theorem deep_parts (k : Kd) : k.deep = deepL k.parts + 1 := by cases k <;> simp [Kd.deep, Kd.parts, deepL]
theorem many_parts (k : Kd) : k.many = manyL k.parts + 1 := by cases k <;> simp [Kd.many, Kd.parts, manyL]
theorem deepL_flat : ∀ ks : List Kd, ks ≠ [] → deepL ks = deepL (ks.flatMap Kd.parts) + 1
  | [k], _ => by
    show max k.deep 0 = _
    rw [deep_parts k]; simp
  | k :: b :: r, _ => by
    show max k.deep (deepL (b :: r)) = deepL (k.parts ++ (b :: r).flatMap Kd.parts) + 1
    rw [deepL_app, deep_parts k, deepL_flat (b :: r) (by simp)]; omega
theorem manyL_flat : ∀ ks : List Kd, manyL ks = manyL (ks.flatMap Kd.parts) + ks.length
  | [] => rfl
  | k :: r => by
    have ih := manyL_flat r
    have e : manyL (k.parts ++ r.flatMap Kd.parts) = manyL k.parts + manyL (r.flatMap Kd.parts) := by simp [manyL]
    show k.many + manyL r = manyL (k.parts ++ r.flatMap Kd.parts) + (r.length + 1)
    rw [e, many_parts k]; omega
theorem levs_kd : ∀ (m : Nat) (ks : List Kd), deepL ks ≤ m → ∃ l, levs m (ks.map Kd.d) = some l ∧ l.length = deepL ks ∧ l.sum = manyL ks
  | 0, ks, h => by
    cases ks with
    | nil => exact ⟨[], rfl, rfl, rfl⟩
    | cons k r =>
      have := k.deep_pos
      have h : max k.deep (deepL r) ≤ 0 := h
      omega
  | m + 1, ks, h => by
    by_cases hk : ks = []
    · subst hk; exact ⟨[], rfl, rfl, rfl⟩
    · have h1 := deepL_flat ks hk
      obtain ⟨l, e, h2, h3⟩ := levs_kd m (ks.flatMap Kd.parts) (by omega)
      refine ⟨ks.length :: l, ?_, by rw [List.length_cons, h2, h1], by rw [List.sum_cons, h3, manyL_flat ks]; omega⟩
      unfold levs
      rw [if_neg (by simp [hk]), allKids_kd]
      dsimp only
      rw [e, List.length_map]
      rfl
theorem allKids_fm {n : Nat} : ∀ {L L' : List D}, allKids L = some L' → (∀ d ∈ L', fm n d = true) → ∀ d ∈ L, fm (n + 1) d = true
  | [], _, _, _, d, hd => by cases hd
  | x :: r, L', h, hf, d, hd => by
    unfold allKids at h
    split at h
    · rename_i a b e1 e2
      cases h
      rcases List.mem_cons.mp hd with rfl | hd
      · unfold kidsD at e1
        split at e1
        · rename_i w ps
          split at e1
          · rename_i har
            cases e1
            unfold fm
            rw [Bool.and_eq_true, decide_eq_true_eq, List.all_eq_true]
            exact ⟨har, fun p hp => hf p (List.mem_append_left _ hp)⟩
          · cases e1
        · cases e1
      · exact allKids_fm e2 (fun p hp => hf p (List.mem_append_right _ hp)) d hd
    · cases h
theorem levs_fm : ∀ {m : Nat} {L : List D} {l : List Nat}, levs m L = some l → l.length < m → ∀ d ∈ L, fm l.length d = true
  | 0, _, _, _, h => by omega
  | m + 1, L, l, e, h => by
    unfold levs at e
    split at e
    · rename_i hL
      intro d hd
      rw [List.isEmpty_iff.mp hL] at hd
      cases hd
    · split at e
      · cases e
      · rename_i L' eL
        cases e2 : levs m L' with
        | none => rw [e2] at e; cases e
        | some l' =>
          rw [e2] at e
          cases e
          rw [List.length_cons] at h ⊢
          exact allKids_fm eL (levs_fm e2 (by omega))
/-- what the law's look tells: a kind, or none -/
theorem due_of (d : D) : (∃ (k : Kd) (l : List Nat), d = k.d ∧ k.deep ≤ 8 ∧ levs 12 [d] = some l ∧ l.length = k.deep ∧ l.sum = k.many) ∨ (fm 8 d = false ∧ ∀ l, levs 12 [d] = some l → 9 ≤ l.length) := by
  cases h : fm 8 d with
  | true =>
    obtain ⟨k, rfl, hk⟩ := fm_kd h
    obtain ⟨l, e, h1, h2⟩ := levs_kd 12 [k] (by show max k.deep 0 ≤ 12; omega)
    refine .inl ⟨k, l, rfl, hk, e, ?_, ?_⟩
    · rw [h1]; show max k.deep 0 = _; omega
    · rw [h2]; simp [manyL]
  | false =>
    refine .inr ⟨rfl, fun l e => ?_⟩
    refine Classical.byContradiction fun hn => ?_
    have := levs_fm e (by omega) d (by simp)
    rw [fm_mono this (by omega)] at h
    cases h

/-! ### stores that grow -/
def Ext (S S' : Sto) : Prop := ∃ T, S' = S ++ T
theorem Ext.refl (S : Sto) : Ext S S := ⟨[], by simp⟩
theorem Ext.trans {A B C : Sto} (h : Ext A B) (h' : Ext B C) : Ext A C := by
  obtain ⟨T, rfl⟩ := h
  obtain ⟨U, rfl⟩ := h'
  exact ⟨T ++ U, by simp⟩
theorem Ext.app {S S' : Sto} (h : Ext S S') (T : Sto) : Ext S (S' ++ T) := h.trans ⟨T, rfl⟩
theorem Ext.set {S S' : Sto} (h : Ext S S') {n : Nat} (hn : S.length ≤ n) (o : O) : Ext S (S'.set n o) := by
  obtain ⟨T, rfl⟩ := h
  exact ⟨T.set (n - S.length) o, by rw [List.set_append_right _ _ hn]⟩
theorem Ext.at_ {S S' : Sto} (h : Ext S S') {n : Nat} {o : O} (e : S[n]? = some o) : S'[n]? = some o := by
  obtain ⟨T, rfl⟩ := h
  rw [List.getElem?_append_left (List.getElem?_eq_some_iff.mp e).1]
  exact e
theorem Ext.len {S S' : Sto} (h : Ext S S') : S.length ≤ S'.length := by
  obtain ⟨T, rfl⟩ := h
  rw [List.length_append]; omega
theorem Ext.thg {S S' : Sto} (h : Ext S S') {d : D} (t : thg S d = true) : DL.thg S' d = true := thg_mono (fun _ _ e => ⟨_, h.at_ e, .inl rfl⟩) d t
theorem gc_ext {S S' : Sto} {d : D} (h : Ext S S') (u : d.und S.length = true) : gcO S d S' = .ok d S := by
  obtain ⟨T, rfl⟩ := h
  exact gc_pure u
theorem gc_extN {S S' : Sto} {n : Nat} {o : O} (h : Ext S S') (hn : S.length ≤ n) (e : S'[n]? = some o) (u : o.und S.length = true) : gcO S (.ob n) S' = .ok (.ob S.length) (S ++ [o]) := by
  obtain ⟨T, rfl⟩ := h
  have := gc_new (S := S) (T := T) (j := n - S.length) (o := o) (by rw [List.getElem?_append_right hn] at e; exact e) u
  rw [show S.length + (n - S.length) = n by omega] at this
  exact this
theorem runX_of {n : Nat} {b : DenS} {ds : List D} {S S' : Sto} {e : Ex} {fr : Fr} (h : b (ds.map some ++ List.replicate (n - ds.length) none) S = .ex e fr S') (hx : Ext S S') (hu : e.und S.length = true) : runB n b ds S = .ex e S := by
  unfold runB
  rw [h]
  obtain ⟨T, rfl⟩ := hx
  show gcX S e (S ++ T) = _
  unfold gcX
  rw [if_pos ⟨und_app, hu⟩, List.take_left]
theorem forL_nil {ok : Sto → Prop} {t : DTg} {b : DenS} {fr : Fr} {S : Sto} (h : ok S) : forL ok t b [] fr S = .ok .nx fr S := by
  unfold forL
  exact if_pos h
theorem forL_nx1 {ok : Sto → Prop} {t : DTg} {b : DenS} {d : D} {l : List D} {fr fr1 fr2 : Fr} {S S2 : Sto} (h : ok S) (ht : t d fr S = some fr1) (hb : b fr1 S = .ok .nx fr2 S2) : forL ok t b (d :: l) fr S = forL ok t b l fr2 S2 := by
  rw [forL, if_pos h, ht]
  dsimp only
  rw [hb]
theorem forL_rt1 {ok : Sto → Prop} {t : DTg} {b : DenS} {d v : D} {l : List D} {fr fr1 fr2 : Fr} {S S2 : Sto} (h : ok S) (ht : t d fr S = some fr1) (hb : b fr1 S = .ok (.rt v) fr2 S2) : forL ok t b (d :: l) fr S = .ok (.rt v) fr2 S2 := by
  rw [forL, if_pos h, ht]
  dsimp only
  rw [hb]
/-- xs != [] -/
theorem ne_nilL {S : Sto} {n m : Nat} {xs : List D} (h : S[n]? = some (.lst xs)) (h' : S[m]? = some (.lst [])) : aNe (.ob n) (.ob m) S = some (.bl (!xs.isEmpty), S) := by
  have hb : dP S (.ob m) = some (.list []) := by
    show (match S[m]? with | some (.lst xs) => (toPs (obP 11 S) xs).map PyData.list | _ => none) = _
    rw [h']
    rfl
  have he : (PyData.list []).depth = 1 := by decide +kernel
  unfold aNe eqP
  rw [hb]
  cases q : dP S (.ob n) with
  | none =>
    dsimp only
    rw [h, h']
    dsimp only
    cases xs with
    | nil =>
      exfalso
      have : dP S (.ob n) = some (.list []) := by
        show (match S[n]? with | some (.lst xs) => (toPs (obP 11 S) xs).map PyData.list | _ => none) = _
        rw [h]
        rfl
      rw [this] at q
      cases q
    | cons x r => rfl
  | some p =>
    dsimp only
    rw [if_pos (by rw [he]; omega)]
    have q' : (toPs (obP 11 S) xs).map PyData.list = some p := by
      rw [← q]
      show _ = (match S[n]? with | some (.lst xs) => (toPs (obP 11 S) xs).map PyData.list | _ => none)
      rw [h]
    cases q2 : toPs (obP 11 S) xs with
    | none => rw [q2] at q'; cases q'
    | some ps =>
      rw [q2] at q'
      cases q'
      cases xs with
      | nil => cases q2; rfl
      | cons x r =>
        unfold toPs at q2
        split at q2
        · cases q2
          simp [PyData.eqv, PyData.eqvAll]
        · cases q2
theorem add_atL {S : Sto} {n m : Nat} {xs ys : List D} (h : S[n]? = some (.lst xs)) (h' : S[m]? = some (.lst ys)) (hl : xs.length + ys.length ≤ 100000) : aAdd (.ob n) (.ob m) S = some (.ob S.length, S ++ [.lst (xs ++ ys)]) := by
  show (match S[n]?, S[m]? with
    | some (.lst xs), some (.lst ys) => if xs.length + ys.length ≤ sizeLine then some (D.ob S.length, S ++ [O.lst (xs ++ ys)]) else none
    | _, _ => none) = _
  rw [h, h']
  dsimp only
  rw [if_pos (by rw [sizeLine_eq]; omega)]
end
end DL
/-! the refusals made by hand, and of which classes they are -/
namespace K02
open PySem PySem.Spec PyProof.Rows L2 DL
noncomputable section
def cls : List Str := ["BadAsked", "BadCore", "BadKind", "BadLimit", "BadLine", "BadPaper", "BadProgram", "BadSpot", "BadTerm", "BadText", "TooGreat", "TooMany", "WrongKind"]
def x6 : List D := [.xo "BadAsked" [] [], .xo "BadCore" [] [], .xo "BadKind" [] [], .xo "BadLimit" [] [], .xo "BadLine" [] [], .xo "BadPaper" [] []]
def y6 (r : Int) : List D := [.xo "BadProgram" [] [], .xo "BadSpot" [] [], .xo "BadTerm" [] [], .xo "BadText" ["word"] [.int r], .xo "TooGreat" [] [], .xo "TooMany" [] []]
def z1 (r : Int) : List D := [.xo "WrongKind" ["place"] [.int r]]
def made (r : Int) : List D := x6 ++ y6 r ++ z1 r
theorem new_last {S : Sto} {o : O} : (S ++ [o])[S.length]? = some o := by simp
theorem made_i {k : Nat} {r : Int} {z : Str} (S : Sto) : Phi T G (k + 1) i_law_made [.int r, .str z] S = .ok (.ob S.length) (S ++ [.lst (made r)]) := by
  refine run_law_made (S' := S ++ [.lst x6, .lst (y6 r), .lst (x6 ++ y6 r), .lst (z1 r), .lst (made r)]) (r := .ob (S.length + 4)) ?_ (gc_new (j := 4) rfl ?_)
  · unfold b_law_made
    have t1 : ∀ (fr : Fr), fr = [some (D.int r), some (.str z), none] → dSet 2 (dLst (dACons (dXo0 "BadAsked" (dACons (dVar 1) dANil)) (dACons (dXo0 "BadCore" (dACons (dVar 1) dANil)) (dACons (dXo0 "BadKind" (dACons (dVar 1) dANil)) (dACons (dXo0 "BadLimit" (dACons (dVar 1) dANil)) (dACons (dXo0 "BadLine" (dACons (dVar 1) dANil)) (dACons (dXo0 "BadPaper" (dACons (dVar 1) dANil)) dANil))))))) fr S
        = .ok .nx [some (D.int r), some (.str z), some (.ob S.length)] (S ++ [.lst x6]) := by
      rintro _ rfl
      simp [dXo0, Out.bnd, x6]
    rw [ev_seq, t1 _ rfl]; dsimp only
    have a2 : aAdd (.ob S.length) (.ob (S.length + 1)) (S ++ [.lst x6, .lst (y6 r)]) = some (.ob (S.length + 2), S ++ [.lst x6, .lst (y6 r), .lst (x6 ++ y6 r)]) := add_two (by simp [x6, y6])
    have t2 : ∀ (fr : Fr), fr = [some (D.int r), some (.str z), some (.ob S.length)] → dSet 2 (dOp aAdd (dVar 2) (dLst (dACons (dXo0 "BadProgram" (dACons (dVar 1) dANil)) (dACons (dXo0 "BadSpot" (dACons (dVar 1) dANil)) (dACons (dXo0 "BadTerm" (dACons (dVar 1) dANil)) (dACons (dXo1 "BadText" "word" (dACons (dVar 0) dANil)) (dACons (dXo0 "TooGreat" (dACons (dVar 1) dANil)) (dACons (dXo0 "TooMany" (dACons (dVar 1) dANil)) dANil)))))))) fr (S ++ [.lst x6])
        = .ok .nx [some (D.int r), some (.str z), some (.ob (S.length + 2))] (S ++ [.lst x6, .lst (y6 r), .lst (x6 ++ y6 r)]) := by
      rintro _ rfl
      simp only [y6] at a2
      simp [dXo0, dXo1, Out.bnd, y6, a2]
    rw [ev_seq, t2 _ rfl]; dsimp only
    have a3 : aAdd (.ob (S.length + 2)) (.ob (S.length + 3)) (S ++ [.lst x6, .lst (y6 r), .lst (x6 ++ y6 r), .lst (z1 r)]) = some (.ob (S.length + 4), S ++ [.lst x6, .lst (y6 r), .lst (x6 ++ y6 r), .lst (z1 r), .lst (made r)]) := by
      have q := add_at (n := S.length + 2) (m := S.length + 3) (S := S ++ [.lst x6, .lst (y6 r), .lst (x6 ++ y6 r), .lst (z1 r)]) (xs := x6 ++ y6 r) (ys := z1 r) (by simp) (by simp) (by simp [x6, y6, z1])
      rw [q]
      simp [made]
    generalize x6 ++ y6 r = w12 at *
    generalize made r = mr at *
    simp only [z1] at a3
    simp [dXo1, Out.bnd, z1, a3]
  · rfl
/-! ### of which classes -/
theorem isx : ∀ c ∈ cls, ∀ y ∈ cls, isOne (upOf G) c (.gl y) = some (decide (y = c)) := by decide +kernel
theorem isb : ∀ c ∈ cls, isOne (upOf G) c (.gl "BorderError") = some true ∧ isOne (upOf G) c (.ty "ValueError") = some true := by decide +kernel
theorem fx {c : Str} (hc : c ∈ cls) (ks : List Str) (vs : List D) {y : Str} (hy : y ∈ cls) (S : Sto) : fIsiX (upOf G) [.xo c ks vs, .gl y] S = some (.bl (decide (y = c)), S) := by
  show (isOne (upOf G) c (.gl y)).map _ = _
  rw [isx c hc y hy]
  rfl
theorem fb {c : Str} (hc : c ∈ cls) (ks : List Str) (vs : List D) (S : Sto) : fIsiX (upOf G) [.xo c ks vs, .gl "BorderError"] S = some (.bl true, S) ∧ fIsiX (upOf G) [.xo c ks vs, .ty "ValueError"] S = some (.bl true, S) := by
  refine ⟨?_, ?_⟩
  · show (isOne (upOf G) c (.gl "BorderError")).map _ = _
    rw [(isb c hc).1]
    rfl
  · show (isOne (upOf G) c (.ty "ValueError")).map _ = _
    rw [(isb c hc).2]
    rfl
def kb (c : Str) : List Bool := cls.map fun y => decide (y = c)
def kIs (y : Str) : DenE := dB (fIsiX (upOf G)) (dACons (dVar 0) (dACons (dC (.gl y)) dANil))
theorem kinds_g {k : Nat} {x : D} {q : Str → Bool} (f : ∀ y ∈ cls, ∀ S, fIsiX (upOf G) [x, .gl y] S = some (.bl (q y), S)) (S : Sto) : Phi T G (k + 1) i_law_kinds [x] S = .ok (.ob S.length) (S ++ [.lst (cls.map fun y => D.bl (q y))]) := by
  have fe : ∀ y ∈ cls, ∀ o S, kIs y [some x, o] S = .ok (.bl (q y)) S := fun y hy o S => by
    have := f y hy S
    unfold kIs
    generalize fIsiX (upOf G) = F at *
    simp [Out.bnd, this]
  let l1 : List D := [.bl (q "BadAsked"), .bl (q "BadCore"), .bl (q "BadKind"), .bl (q "BadLimit")]
  let l2 : List D := [.bl (q "BadLine"), .bl (q "BadPaper"), .bl (q "BadProgram"), .bl (q "BadSpot")]
  let l3 : List D := [.bl (q "BadTerm"), .bl (q "BadText"), .bl (q "TooGreat"), .bl (q "TooMany")]
  let l4 : List D := [.bl (q "WrongKind")]
  have e1 : ∀ o S, dLst (dACons (kIs "BadAsked") (dACons (kIs "BadCore") (dACons (kIs "BadKind") (dACons (kIs "BadLimit") dANil)))) [some x, o] S = .ok (.ob S.length) (S ++ [.lst l1]) := fun o S => by
    simp [Out.bnd, fe "BadAsked" (by decide +kernel), fe "BadCore" (by decide +kernel), fe "BadKind" (by decide +kernel), fe "BadLimit" (by decide +kernel), l1]
  have e2 : ∀ o S, dLst (dACons (kIs "BadLine") (dACons (kIs "BadPaper") (dACons (kIs "BadProgram") (dACons (kIs "BadSpot") dANil)))) [some x, o] S = .ok (.ob S.length) (S ++ [.lst l2]) := fun o S => by
    simp [Out.bnd, fe "BadLine" (by decide +kernel), fe "BadPaper" (by decide +kernel), fe "BadProgram" (by decide +kernel), fe "BadSpot" (by decide +kernel), l2]
  have e3 : ∀ o S, dLst (dACons (kIs "BadTerm") (dACons (kIs "BadText") (dACons (kIs "TooGreat") (dACons (kIs "TooMany") dANil)))) [some x, o] S = .ok (.ob S.length) (S ++ [.lst l3]) := fun o S => by
    simp [Out.bnd, fe "BadTerm" (by decide +kernel), fe "BadText" (by decide +kernel), fe "TooGreat" (by decide +kernel), fe "TooMany" (by decide +kernel), l3]
  have e4 : ∀ o S, dLst (dACons (kIs "WrongKind") dANil) [some x, o] S = .ok (.ob S.length) (S ++ [.lst l4]) := fun o S => by
    simp [Out.bnd, fe "WrongKind" (by decide +kernel), l4]
  have el : (cls.map fun y => D.bl (q y)) = l1 ++ l2 ++ l3 ++ l4 := rfl
  have h1 : l1.length = 4 := rfl
  have h2 : l2.length = 4 := rfl
  have h3 : l3.length = 4 := rfl
  have h4 : l4.length = 1 := rfl
  have hu : O.und S.length (.lst (l1 ++ l2 ++ l3 ++ l4)) = true := rfl
  rw [el]
  clear_value l1 l2 l3 l4
  clear el fe f
  refine run_law_kinds (S' := S ++ [.lst l1, .lst l2, .lst (l1 ++ l2), .lst l3, .lst (l1 ++ l2 ++ l3), .lst l4, .lst (l1 ++ l2 ++ l3 ++ l4)]) (r := .ob (S.length + 6)) ?_ (gc_new (j := 6) rfl hu)
  have eb : ∀ Φ, b_law_kinds Φ = dSeq (dSet 1 (dLst (dACons (kIs "BadAsked") (dACons (kIs "BadCore") (dACons (kIs "BadKind") (dACons (kIs "BadLimit") dANil)))))) (dSeq (dSet 1 (dOp aAdd (dVar 1) (dLst (dACons (kIs "BadLine") (dACons (kIs "BadPaper") (dACons (kIs "BadProgram") (dACons (kIs "BadSpot") dANil))))))) (dSeq (dSet 1 (dOp aAdd (dVar 1) (dLst (dACons (kIs "BadTerm") (dACons (kIs "BadText") (dACons (kIs "TooGreat") (dACons (kIs "TooMany") dANil))))))) (dSeq (dRet (dOp aAdd (dVar 1) (dLst (dACons (kIs "WrongKind") dANil)))) dNil))) := fun _ => rfl
  rw [eb]
  have e1 := e1 none S
  have e2 := e2 (some (.ob S.length)) (S ++ [.lst l1])
  have e3 := e3 (some (.ob (S.length + 2))) (S ++ [.lst l1, .lst l2, .lst (l1 ++ l2)])
  have e4 := e4 (some (.ob (S.length + 4))) (S ++ [.lst l1, .lst l2, .lst (l1 ++ l2), .lst l3, .lst (l1 ++ l2 ++ l3)])
  generalize dLst (dACons (kIs "BadAsked") (dACons (kIs "BadCore") (dACons (kIs "BadKind") (dACons (kIs "BadLimit") dANil)))) = E1 at *
  generalize dLst (dACons (kIs "BadLine") (dACons (kIs "BadPaper") (dACons (kIs "BadProgram") (dACons (kIs "BadSpot") dANil)))) = E2 at *
  generalize dLst (dACons (kIs "BadTerm") (dACons (kIs "BadText") (dACons (kIs "TooGreat") (dACons (kIs "TooMany") dANil)))) = E3 at *
  generalize dLst (dACons (kIs "WrongKind") dANil) = E4 at *
  have a2 := add_at (n := S.length) (m := S.length + 1) (S := S ++ [.lst l1, .lst l2]) (xs := l1) (ys := l2) (by simp) (by simp) (by omega)
  have a3 := add_at (n := S.length + 2) (m := S.length + 3) (S := S ++ [.lst l1, .lst l2, .lst (l1 ++ l2), .lst l3]) (xs := l1 ++ l2) (ys := l3) (by simp) (by simp) (by rw [List.length_append]; omega)
  have a4 := add_at (n := S.length + 4) (m := S.length + 5) (S := S ++ [.lst l1, .lst l2, .lst (l1 ++ l2), .lst l3, .lst (l1 ++ l2 ++ l3), .lst l4]) (xs := l1 ++ l2 ++ l3) (ys := l4) (by simp) (by simp) (by rw [List.length_append, List.length_append]; omega)
  generalize e12 : l1 ++ l2 = l12 at *
  generalize e123 : l12 ++ l3 = l123 at *
  generalize e1234 : l123 ++ l4 = l1234 at *
  simp at e2 e3 e4 a2 a3 a4
  simp [Out.bnd, e1, e2, e3, e4, a2, a3, a4]
theorem kinds_i {k : Nat} {c : Str} (hc : c ∈ cls) (ks : List Str) (vs : List D) (S : Sto) : Phi T G (k + 1) i_law_kinds [.xo c ks vs] S = .ok (.ob S.length) (S ++ [.lst ((kb c).map D.bl)]) := by
  rw [kinds_g (q := fun y => decide (y = c)) (fun y hy S => fx hc ks vs hy S) S]
  unfold kb
  rw [List.map_map]
  rfl
end
end K02
/-! one refusal asked -/
namespace K02
open PySem PySem.Spec PyProof.Rows L2 DL
noncomputable section
theorem ne_same {S : Sto} {i j : Nat} {xs : List D} {ps : List PyData} (hi : S[i]? = some (.lst xs)) (hj : S[j]? = some (.lst xs)) (hp : ∀ f, toPs f xs = some ps) (hd : PyData.depth (.list ps) ≤ 100) (he : PyData.eqv (.list ps) (.list ps) = true) :
    aNe (.ob i) (.ob j) S = some (.bl false, S) := by
  have h1 : dP S (.ob i) = some (.list ps) := by
    show (match S[i]? with | some (.lst xs) => (toPs (obP 11 S) xs).map PyData.list | _ => none) = _
    rw [hi]
    dsimp only
    rw [hp]
    rfl
  have h2 : dP S (.ob j) = some (.list ps) := by
    show (match S[j]? with | some (.lst xs) => (toPs (obP 11 S) xs).map PyData.list | _ => none) = _
    rw [hj]
    dsimp only
    rw [hp]
    rfl
  show eqP true (.ob i) (.ob j) S = _
  unfold eqP
  rw [h1, h2]
  dsimp only
  rw [if_pos (by omega), he]
  rfl
theorem toPs_bls (f : Nat → Option PyData) : ∀ l : List Bool, toPs f (l.map D.bl) = some (l.map PyData.bool)
  | [] => rfl
  | b :: l => by
    rw [List.map_cons, toPs, toPs_bls f l]
    rfl
theorem kb_d : ∀ c ∈ cls, PyData.depth (.list ((kb c).map PyData.bool)) ≤ 100 ∧ PyData.eqv (.list ((kb c).map PyData.bool)) (.list ((kb c).map PyData.bool)) = true := by decide +kernel
def vj (n : Nat) : D → D
  | .int j => .bl (decide (j = (n : Int)))
  | _ => .non
def ib (n : Nat) : List Bool := (List.range 13).map fun j : Nat => decide ((j : Int) = (n : Int))
theorem kb_ib : ∀ n < 13, ∀ c, cls[n]? = some c → kb c = ib n := by
  intro n hn c hc
  have h : ∀ n < 13, (cls[n]?).map kb = some (ib n) := by decide +kernel
  have := h n hn
  rw [hc] at this
  exact Option.some.inj this
theorem up13 (n : Nat) : (DL.upTo 0 13).map (vj n) = (ib n).map D.bl := by
  unfold ib DL.upTo
  simp only [List.map_map]
  rfl
def tC (Φ : PhT) : DenS := (dIfS (dCmpT aNe (dCall 1 (Φ i_law_kinds) (dACons (dVar 7) dANil)) (dKeep (dComp [8] (dIRange1 (dACons (dC (.int 13)) dANil)) (gN 8) dYes (dOp aEq (dVar 8) (dVar 6))))) (dSeq (dRet (dC (.bl false)))
    dNil) dNil)
def tD (Φ : PhT) : DenS := (dIfS (dTOr (dTNot (dTr (dB (fIsiX (upOf G)) (dACons (dVar 7) (dACons (dC (.gl "BorderError")) dANil))))) (dTNot (dTr (dB (fIsiX (upOf G)) (dACons (dVar 7) (dACons (dC (.ty "ValueError")) dANil)))))) (dSeq (dRet (dC (.bl false)))
    dNil) dNil)
def tB (Φ : PhT) : DenS := dSeq (tC Φ) (dSeq (tD Φ) dNil)
theorem turn_run {k : Nat} {n : Nat} {c : Str} {ks : List Str} {vs : List D} (hn : n < 13) (hc : cls[n]? = some c) (x0 x1 x2 x3 x4 x5 x8 : Option D) (S : Sto) :
    ∃ U, tB (Phi T G (k + 1)) [x0, x1, x2, x3, x4, x5, some (.int n), some (.xo c ks vs), x8] S = .ok .nx [x0, x1, x2, x3, x4, x5, some (.int n), some (.xo c ks vs), x8] (S ++ U) := by
  have hm : c ∈ cls := List.mem_of_getElem? hc
  have ek := kinds_i (k := k) hm ks vs S
  have ib := kb_ib n hn c hc
  have ef := fb hm ks vs
  let S1 := S ++ [.lst ((kb c).map D.bl)]
  have hcomp : dComp [8] (dIRange1 (dACons (dC (.int 13)) dANil)) (gN 8) dYes (dOp aEq (dVar 8) (dVar 6)) [x0, x1, x2, x3, x4, x5, some (.int n), some (.xo c ks vs), x8] S1 = .ok ((kb c).map D.bl) S1 := by
    have hr : dIRange1 (dACons (dC (.int 13)) dANil) [x0, x1, x2, x3, x4, x5, some (.int n), some (.xo c ks vs), x8] S1 = .ok ⟨DL.upTo 0 13, []⟩ S1 := range1 (n := 13) (by simp [Out.bnd]) (by omega) (by omega)
    unfold dComp
    rw [hr, ib, ← up13 n]
    refine compL_map (fun p hp => by cases hp) _ fun a ha => ?_
    obtain ⟨j, rfl⟩ : ∃ j : Int, a = .int j := by
      have : ∀ a ∈ DL.upTo 0 13, ∃ j : Int, a = .int j := fun a ha => by
        obtain ⟨i, hi, rfl⟩ := List.mem_map.mp ha
        exact ⟨_, rfl⟩
      exact this a ha
    refine ⟨_, rfl, ?_⟩
    have he : aEq (.int j) (.int (n : Int)) S1 = some (.bl (decide (j = (n : Int))), S1) := eq_int
    simp [Out.bnd, wipeD, he, vj]
  have hne : aNe (.ob S.length) (.ob (S.length + 1)) (S ++ [.lst ((kb c).map D.bl), .lst ((kb c).map D.bl)]) = some (.bl false, S ++ [.lst ((kb c).map D.bl), .lst ((kb c).map D.bl)]) := ne_same (by simp) (by simp) (fun f => toPs_bls f (kb c)) (kb_d c hm).1 (kb_d c hm).2
  have hl : ((kb c).map D.bl).length ≤ sizeLine := by
    rw [List.length_map]
    unfold kb
    rw [List.length_map]
    decide
  have hcomp : dComp [8] (dIRange1 (dACons (dC (.int 13)) dANil)) (gN 8) dYes (dOp aEq (dVar 8) (dVar 6)) [x0, x1, x2, x3, x4, x5, some (.int n), some (.xo c ks vs), x8] (S ++ [.lst ((kb c).map D.bl)]) = .ok ((kb c).map D.bl) (S ++ [.lst ((kb c).map D.bl)]) := hcomp
  clear_value S1
  refine ⟨[.lst ((kb c).map D.bl), .lst ((kb c).map D.bl)], ?_⟩
  generalize (kb c).map D.bl = L at *
  have t1 : tC (Phi T G (k + 1)) [x0, x1, x2, x3, x4, x5, some (.int n), some (.xo c ks vs), x8] S = .ok .nx [x0, x1, x2, x3, x4, x5, some (.int n), some (.xo c ks vs), x8] (S ++ [.lst L, .lst L]) := by
    unfold tC
    generalize dComp [8] (dIRange1 (dACons (dC (.int 13)) dANil)) (gN 8) dYes (dOp aEq (dVar 8) (dVar 6)) = Cmp at *
    generalize Phi T G (k + 1) = Φ at *
    simp [Out.bnd, dKeep, ek, hcomp, hne, hl]
  have t2 : tD (Phi T G (k + 1)) [x0, x1, x2, x3, x4, x5, some (.int n), some (.xo c ks vs), x8] (S ++ [.lst L, .lst L]) = .ok .nx [x0, x1, x2, x3, x4, x5, some (.int n), some (.xo c ks vs), x8] (S ++ [.lst L, .lst L]) := by
    have e1 := (ef (S ++ [.lst L, .lst L])).1
    have e2 := (ef (S ++ [.lst L, .lst L])).2
    unfold tD
    generalize fIsiX (upOf G) = F at *
    simp [Out.bnd, e1, e2]
  unfold tB
  rw [ev_seq, t1]; dsimp only
  rw [ev_seq, t2]; dsimp only
  rfl
end
end K02
/-! the law whole -/
namespace K02
open PySem PySem.Spec PyProof.Rows L2 DL
noncomputable section
theorem range1' {h : DenA} {fr : Fr} {S S' : Sto} {n : Nat} (e : h fr S = .ok [.int n] S') (hn : n ≤ 100000) : dIRange1 h fr S = .ok ⟨DL.upTo 0 n, []⟩ S' := by
  unfold dIRange1
  rw [e]
  show (if -(2 ^ 62) ≤ (n : Int) ∧ (n : Int) ≤ 16777216 then Out.ok (Src.mk (DL.upTo 0 (n : Int).toNat) []) S' else .no) = _
  rw [if_pos ⟨by omega, by omega⟩, Int.toNat_natCast]
/-- a loop that makes a kind greater, turn by turn -/
theorem turns {k idx : Nat} {xs : List D} {x0 x1 x2 x3 x4 x5 x8 : Option D} : ∀ (items : List D) (S : Sto) (y6 y7 : Option D), (∀ it ∈ items, ∃ (n : Nat) (c : Str) (ks : List Str) (vs : List D), it = .tup [.int n, .xo c ks vs] ∧ n < 13 ∧ cls[n]? = some c) → S[idx]? = some (.lst xs) →
    ∃ U z6 z7, forL (Src.mk (enumD xs 0) [(idx, xs)]).ok (gT 2 (gsCons (gN 6) (gsCons (gN 7) gsNil))) (tB (Phi T G (k + 1))) items [x0, x1, x2, x3, x4, x5, y6, y7, x8] S = .ok .nx [x0, x1, x2, x3, x4, x5, z6, z7, x8] (S ++ U)
  | [], S, y6, y7, _, hS => ⟨[], y6, y7, by
      unfold forL
      rw [if_pos (show (Src.mk (enumD xs 0) [(idx, xs)]).ok S from fun p hp => by rw [List.mem_singleton.mp hp]; exact hS), List.append_nil]⟩
  | it :: l, S, y6, y7, h, hS => by
    obtain ⟨n, c, ks, vs, rfl, hn, hc⟩ := h it List.mem_cons_self
    obtain ⟨U, eU⟩ := turn_run (k := k) (ks := ks) (vs := vs) hn hc x0 x1 x2 x3 x4 x5 x8 S
    obtain ⟨U2, z6, z7, e2⟩ := turns (k := k) (x0 := x0) (x1 := x1) (x2 := x2) (x3 := x3) (x4 := x4) (x5 := x5) (x8 := x8) l (S ++ U) (some (.int n)) (some (.xo c ks vs)) (fun d hd => h d (List.mem_cons_of_mem _ hd))
      (by rw [List.getElem?_append_left (List.getElem?_eq_some_iff.mp hS).1]; exact hS)
    refine ⟨U ++ U2, z6, z7, ?_⟩
    rw [forL_nx1 (fr1 := [x0, x1, x2, x3, x4, x5, some (.int n), some (.xo c ks vs), x8]) (fun p hp => by rw [List.mem_singleton.mp hp]; exact hS) rfl eU, e2, List.append_assoc]
theorem made_en (r : Int) : ∀ it ∈ enumD (made r) 0, ∃ (n : Nat) (c : Str) (ks : List Str) (vs : List D), it = .tup [.int n, .xo c ks vs] ∧ n < 13 ∧ cls[n]? = some c := by
  intro it hit
  have e : enumD (made r) 0 = [.tup [.int (0 : Nat), .xo "BadAsked" [] []], .tup [.int (1 : Nat), .xo "BadCore" [] []], .tup [.int (2 : Nat), .xo "BadKind" [] []], .tup [.int (3 : Nat), .xo "BadLimit" [] []], .tup [.int (4 : Nat), .xo "BadLine" [] []], .tup [.int (5 : Nat), .xo "BadPaper" [] []],
    .tup [.int (6 : Nat), .xo "BadProgram" [] []], .tup [.int (7 : Nat), .xo "BadSpot" [] []], .tup [.int (8 : Nat), .xo "BadTerm" [] []], .tup [.int (9 : Nat), .xo "BadText" ["word"] [.int r]], .tup [.int (10 : Nat), .xo "TooGreat" [] []], .tup [.int (11 : Nat), .xo "TooMany" [] []], .tup [.int (12 : Nat), .xo "WrongKind" ["place"] [.int r]]] := rfl
  rw [e] at hit
  simp only [List.mem_cons, List.not_mem_nil, or_false] at hit
  rcases hit with rfl | rfl | rfl | rfl | rfl | rfl | rfl | rfl | rfl | rfl | rfl | rfl | rfl
  all_goals exact ⟨_, _, _, _, rfl, by decide, rfl⟩
def w1 (Φ : PhT) : DenS := (dSet 3 (dCall 2 (Φ i_law_next) (dACons (dVar 1) (dACons (dC (.int 1000001)) dANil))))
def wC (Φ : PhT) : DenA := (dComp [8] (dIRange1 (dACons (dOp aAdd (dC (.int 1)) (dCall 2 (Φ i_law_next) (dACons (dVar 1) (dACons (dC (.int 8)) dANil)))) dANil)) (gN 8) dYes (dOp aIx (dC (.str "abcdefghijklmnopqrstuvwxyz")) (dCall 2 (Φ i_law_next) (dACons (dVar 1) (dACons (dC (.int 26)) dANil)))))
def w2 (Φ : PhT) : DenS := (dSet 4 (dM "str" mJoinT (dC (.str "")) (wC Φ)))
def w3 (Φ : PhT) : DenS := (dSet 5 (dCall 2 (Φ i_law_made) (dACons (dVar 3) (dACons (dVar 4) dANil))))
def w4 (Φ : PhT) : DenS := (dFor (gT 2 (gsCons (gN 6) (gsCons (gN 7) gsNil))) (dIEnum (dACons (dVar 5) dANil)) (tB Φ))
def wW : DenE := (dAttr (fun _ => none) (xiOf G) "word" (dOp aIx (dVar 5) (dC (.int 9))))
def wP : DenE := (dAttr (fun _ => none) (xiOf G) "place" (dOp aIx (dVar 5) (dC (.int 12))))
def w5 : DenS := (dIfS (dCmpT aNe (dLst (dACons wW (dACons wP dANil))) (dLst (dACons (dVar 3) (dACons (dVar 3) dANil)))) (dSeq (dRet (dC (.bl false)))
   dNil) dNil)
def wB (Φ : PhT) : DenS := dSeq (w1 Φ) (dSeq (w2 Φ) (dSeq (w3 Φ) (dSeq (w4 Φ) (dSeq w5 dNil))))
theorem b_law_eq (Φ : PhT) : b_law Φ = (dSeq (dSet 1 (dCall 1 (Φ i_law_begin) (dACons (dVar 0) dANil)))
 (dSeq (dFor (gN 2) (dIRange1 (dACons (dOp aAdd (dB fMin2 (dACons (dC (.int 63)) (dACons (dB fLen (dACons (dVar 0) dANil)) dANil))) (dC (.int 1))) dANil)) (wB Φ))
 (dSeq (dRet (dC (.bl true))) dNil))) := rfl
theorem att {S : Sto} {fr : Fr} {f c : Str} {i : DenE} {v : D} (h : i fr S = .ok (.xo c [f] [v]) S) (hx : xiOf G c = some f) : dAttr (fun _ => none) (xiOf G) f i fr S = .ok v S := by
  unfold dAttr
  rw [h]
  dsimp only
  unfold dXf
  rw [h]
  show Out.ofO ((xfD (xiOf G) f (.xo c [f] [v])).map fun v => (v, S)) = _
  unfold xfD
  dsimp only
  rw [if_pos ⟨hx, rfl⟩]
  rfl
theorem word_dr {b : Nat} {cs : List Int} {s : Ds} (hd : Dr b cs s) (hb : b + 100 ≤ 2 ^ 60) (x x2 x3 x4 x5 x6 x7 x8 : Option D) :
    ∃ (s' : Ds) (z : Str), Dr (b + 9) cs s' ∧ ∀ R, w2 (Phi T G 114) [x, some (.ob 2), x2, x3, x4, x5, x6, x7, x8] (dst cs s R) = .ok .nx [x, some (.ob 2), x2, x3, some (.str z), x5, x6, x7, x8] (dst cs s' R) := by
  obtain ⟨r, s1, r0, r1, d1, e1⟩ := nx 112 8 hd (by omega) (by decide) (by decide)
  obtain ⟨vs, s2, p1, d2, e2⟩ := compL_rel (ok := (Src.mk (DL.upTo 0 (r + 1).toNat) []).ok) (t := gN 8) (e := (dOp aIx (dC (.str "abcdefghijklmnopqrstuvwxyz")) (dCall 2 (Phi T G 114 i_law_next) (dACons (dVar 1) (dACons (dC (.int 26)) dANil)))))
    (fr := [x, some (.ob 2), x2, x3, x4, x5, x6, x7, none]) (cs := cs) (P := fun _ v => ∃ c, v = D.str ⟨#[c]⟩) (c := 1) (B := 2 ^ 60) (fun _ => noGuard) (DL.upTo 0 (r + 1).toNat) (b + 1) s1 (fun d _ b' s' hd' hb' => by
      obtain ⟨q, s3, q0, q1, d3, e3⟩ := nx 112 26 hd' (by omega) (by decide) (by decide)
      obtain ⟨c, _, hc⟩ := ix_str (z := "abcdefghijklmnopqrstuvwxyz") q0 (by rw [show (("abcdefghijklmnopqrstuvwxyz" : Str).length : Int) = 26 from by decide +kernel]; exact q1) (by decide +kernel)
      refine ⟨_, s3, ⟨c, rfl⟩, d3, fun R => ⟨_, rfl, ?_⟩⟩
      have e3 := e3 R
      have hc := hc (dst cs s3 R)
      rw [show 112 + 2 = 114 from rfl] at e3
      generalize Phi T G 114 = Φ at *
      simp [Out.bnd, e3, hc]) d1 (by rw [upTo_len]; omega)
  have hlen : vs.length ≤ 8 := by
    rw [← p1.length, upTo_len]
    omega
  obtain ⟨z, _, hz⟩ := join_one (vs := vs) (fun v hv => by
    have : ∀ {l l' : List D}, Paired (fun _ v => ∃ c, v = D.str ⟨#[c]⟩) l l' → ∀ v ∈ l', ∃ c, v = D.str ⟨#[c]⟩ := fun p => by
      induction p with
      | nil => intro v hv; cases hv
      | cons h1 h2 ih =>
        intro v hv
        rcases List.mem_cons.mp hv with rfl | hv
        · exact h1
        · exact ih v hv
    exact this p1 v hv) (by omega)
  refine ⟨s2, z, d2.mono (by rw [upTo_len]; omega), fun R => ?_⟩
  have hw : wC (Phi T G 114) [x, some (.ob 2), x2, x3, x4, x5, x6, x7, x8] (dst cs s R) = .ok vs (dst cs s2 R) := by
    unfold wC dComp
    have hr : dIRange1 (dACons (dOp aAdd (dC (.int 1)) (dCall 2 (Phi T G 114 i_law_next) (dACons (dVar 1) (dACons (dC (.int 8)) dANil)))) dANil) [x, some (.ob 2), x2, x3, x4, x5, x6, x7, x8] (dst cs s R) = .ok ⟨DL.upTo 0 (r + 1).toNat, []⟩ (dst cs s1 R) := by
      refine range1 (n := r + 1) ?_ (by omega) (by omega)
      have e1 := e1 R
      rw [show 112 + 2 = 114 from rfl] at e1
      generalize Phi T G 114 = Φ at *
      have hc : (1 : Int) + r = r + 1 := by omega
      simp [Out.bnd, e1, hc]
    rw [hr]
    exact e2 R
  unfold w2
  have hz := hz (dst cs s2 R)
  generalize wC (Phi T G 114) = wc at *
  simp [Out.bnd, hw, hz]
theorem body_run {b : Nat} {cs : List Int} {s : Ds} (hd : Dr b cs s) (hb : b + 1000 ≤ 2 ^ 60) (R : Sto) (x x2 x3 x4 x5 x6 x7 : Option D) :
    ∃ (s' : Ds) (R' : Sto) (y3 y4 y5 y6 y7 : Option D), Dr (b + 10) cs s' ∧ wB (Phi T G 114) [x, some (.ob 2), x2, x3, x4, x5, x6, x7, none] (dst cs s R) = .ok .nx [x, some (.ob 2), x2, y3, y4, y5, y6, y7, none] (dst cs s' R') := by
  obtain ⟨r, s1, r0, r1, d1, e1⟩ := nx 112 1000001 hd (by omega) (by decide) (by decide)
  obtain ⟨s2, z, d2, e2⟩ := word_dr d1 (by omega) x x2 (some (.int r)) x4 x5 x6 x7 none
  have e3 := made_i (k := 113) (r := r) (z := z) (dst cs s2 R)
  have e1 := e1 R
  have e2 := e2 R
  have t1 : w1 (Phi T G 114) [x, some (.ob 2), x2, x3, x4, x5, x6, x7, none] (dst cs s R) = .ok .nx [x, some (.ob 2), x2, some (.int r), x4, x5, x6, x7, none] (dst cs s1 R) := by
    rw [show 112 + 2 = 114 from rfl] at e1
    generalize Phi T G 114 = Φ at *
    simp [w1, Out.bnd, e1]
  have t3 : w3 (Phi T G 114) [x, some (.ob 2), x2, some (.int r), some (.str z), x5, x6, x7, none] (dst cs s2 R) = .ok .nx [x, some (.ob 2), x2, some (.int r), some (.str z), some (.ob (dst cs s2 R).length), x6, x7, none] (dst cs s2 R ++ [.lst (made r)]) := by
    rw [show 113 + 1 = 114 from rfl] at e3
    generalize Phi T G 114 = Φ at *
    generalize made r = mr at *
    generalize dst cs s2 R = S at *
    simp [w3, Out.bnd, e3]
  have hidx : (dst cs s2 R ++ [.lst (made r)])[(dst cs s2 R).length]? = some (.lst (made r)) := new_last
  generalize hS : dst cs s2 R ++ [.lst (made r)] = S at *
  generalize hn : (dst cs s2 R).length = n at *
  obtain ⟨U, z6, z7, e4⟩ := turns (k := 113) (x0 := x) (x1 := some (.ob 2)) (x2 := x2) (x3 := some (.int r)) (x4 := some (.str z)) (x5 := some (.ob n)) (x8 := none) (enumD (made r) 0) S x6 x7 (made_en r) hidx
  have t4 : w4 (Phi T G 114) [x, some (.ob 2), x2, some (.int r), some (.str z), some (.ob n), x6, x7, none] S = .ok .nx [x, some (.ob 2), x2, some (.int r), some (.str z), some (.ob n), z6, z7, none] (S ++ U) := by
    unfold w4
    have hi : dIEnum (dACons (dVar 5) dANil) [x, some (.ob 2), x2, some (.int r), some (.str z), some (.ob n), x6, x7, none] S = .ok ⟨enumD (made r) 0, [(n, made r)]⟩ S := by
      unfold dIEnum
      generalize made r = mr at *
      simp [Out.bnd, hidx]
    rw [ev_for, hi, ev_tok]
    exact e4
  have hidx2 : (S ++ U)[n]? = some (.lst (made r)) := by rw [List.getElem?_append_left (List.getElem?_eq_some_iff.mp hidx).1]; exact hidx
  generalize hS2 : S ++ U = S2 at *
  have t5 : w5 [x, some (.ob 2), x2, some (.int r), some (.str z), some (.ob n), z6, z7, none] S2 = .ok .nx [x, some (.ob 2), x2, some (.int r), some (.str z), some (.ob n), z6, z7, none] (S2 ++ [.lst [.int r, .int r], .lst [.int r, .int r]]) := by
    have hsq : seqD (.ob n) S2 = some (made r) := by
      show (match S2[n]? with | some (.lst xs) => some xs | _ => none) = _
      rw [hidx2]
    have h9 : (dOp aIx (dVar 5) (dC (.int 9))) [x, some (.ob 2), x2, some (.int r), some (.str z), some (.ob n), z6, z7, none] S2 = .ok (.xo "BadText" ["word"] [.int r]) S2 := by
      have : aIx (.ob n) (.int 9) S2 = some (.xo "BadText" ["word"] [.int r], S2) := by
        unfold aIx
        dsimp only
        rw [hsq]
        rfl
      simp [Out.bnd, this]
    have h12 : (dOp aIx (dVar 5) (dC (.int 12))) [x, some (.ob 2), x2, some (.int r), some (.str z), some (.ob n), z6, z7, none] S2 = .ok (.xo "WrongKind" ["place"] [.int r]) S2 := by
      have : aIx (.ob n) (.int 12) S2 = some (.xo "WrongKind" ["place"] [.int r], S2) := by
        unfold aIx
        dsimp only
        rw [hsq]
        rfl
      simp [Out.bnd, this]
    have hw := att h9 (by decide +kernel)
    have hp := att h12 (by decide +kernel)
    have hne : aNe (.ob S2.length) (.ob (S2.length + 1)) (S2 ++ [.lst [.int r, .int r], .lst [.int r, .int r]]) = some (.bl false, S2 ++ [.lst [.int r, .int r], .lst [.int r, .int r]]) := ne_same (xs := [.int r, .int r]) (ps := [.int r, .int r]) (by simp) (by simp) (fun f => rfl) (by simp [PyData.depth, PyData.depthAll]) (by simp [PyData.eqv, PyData.eqvAll])
    have hw : wW [x, some (.ob 2), x2, some (.int r), some (.str z), some (.ob n), z6, z7, none] S2 = .ok (.int r) S2 := hw
    have hp : wP [x, some (.ob 2), x2, some (.int r), some (.str z), some (.ob n), z6, z7, none] S2 = .ok (.int r) S2 := hp
    unfold w5
    generalize wW = ww at *
    generalize wP = wp at *
    simp [Out.bnd, hw, hp, hne]
  obtain ⟨V, hV⟩ : ∃ V, S2 ++ [.lst [.int r, .int r], .lst [.int r, .int r]] = dst cs s2 V := by
    rw [← hS2, ← hS]
    exact ⟨R ++ [.lst (made r)] ++ U ++ [.lst [.int r, .int r], .lst [.int r, .int r]], rfl⟩
  refine ⟨s2, V, some (.int r), some (.str z), some (.ob n), z6, z7, d2.mono (by omega), ?_⟩
  rw [← hV]
  unfold wB
  rw [ev_seq, t1]; dsimp only
  rw [ev_seq, e2]; dsimp only
  rw [ev_seq, t3]; dsimp only
  rw [ev_seq, t4]; dsimp only
  rw [ev_seq, t5]; dsimp only
  rfl
theorem law_run {ns : List Int} (h : ns.length ≤ 63) : ∃ S', Phi T G 115 i_law [.rl (ns.map D.int)] [] = .ok (.bl true) S' := by
  obtain ⟨e0, d0⟩ := begin_i (k := 113) h
  have hmin : fMin2 [.int 63, .int (ns.length : Int)] (dst (ns ++ [0]) ⟨0, 0, 0⟩ []) = some (.int (ns.length : Int), dst (ns ++ [0]) ⟨0, 0, 0⟩ []) := by
    show some (D.int (if (ns.length : Int) < 63 then (ns.length : Int) else 63), _) = _
    congr 3
    split <;> omega
  have hbody := fun (b : Nat) (s : Ds) hd hb R x x2 x3 x4 x5 x6 x7 => body_run (b := b) (cs := ns ++ [0]) (s := s) hd hb R x x2 x3 x4 x5 x6 x7
  obtain ⟨fr', S', e, s, R, y2, y3, y4, y5, y6, y7, h1, h2, h3⟩ := forL_nx (ok := (Src.mk (DL.upTo 0 (ns.length + 1)) []).ok) (t := gN 2) (b := wB (Phi T G 114)) (fun _ => noGuard) 64
    (fun n fr S => ∃ s R y2 y3 y4 y5 y6 y7, fr = [some (.rl (ns.map D.int)), some (.ob 2), y2, y3, y4, y5, y6, y7, none] ∧ S = dst (ns ++ [0]) s R ∧ Dr (n * 10) (ns ++ [0]) s) (DL.upTo 0 (ns.length + 1)) (fun d _ n fr S hn hI => by
      obtain ⟨s, R, y2, y3, y4, y5, y6, y7, rfl, rfl, hd⟩ := hI
      obtain ⟨s', R', z3, z4, z5, z6, z7, d', e⟩ := hbody (n * 10) s hd (by omega) R (some (.rl (ns.map D.int))) (some d) y3 y4 y5 y6 y7
      exact ⟨_, _, _, rfl, .inl e, s', R', some d, z3, z4, z5, z6, z7, rfl, rfl, by rw [Nat.succ_mul]; exact d'⟩)
    0 [some (.rl (ns.map D.int)), some (.ob 2), none, none, none, none, none, none, none] (dst (ns ++ [0]) ⟨0, 0, 0⟩ []) (by rw [upTo_len]; omega) ⟨_, _, _, _, _, _, _, _, rfl, rfl, by rw [Nat.zero_mul]; exact d0⟩
  subst h1 h2
  have hlen : ∀ S, fLen [.rl (ns.map D.int)] S = some (.int (ns.length : Int), S) := fun S => by
    show some (D.int ((ns.map D.int).length : Int), S) = _
    rw [List.length_map]
  refine ⟨_, run_law (k := 114) (d0 := .rl (ns.map D.int)) (S' := dst (ns ++ [0]) s R) (r := .bl true) ?_ (gc_pure (S := []) (T := dst (ns ++ [0]) s R) rfl)⟩
  rw [b_law_eq]
  rw [show 113 + 1 = 114 from rfl] at e0
  clear hbody
  generalize Phi T G 114 = Φ at *
  have a1 : dSet 1 (dCall 1 (Φ i_law_begin) (dACons (dVar 0) dANil)) [some (.rl (ns.map D.int)), none, none, none, none, none, none, none, none] [] = .ok .nx [some (.rl (ns.map D.int)), some (.ob 2), none, none, none, none, none, none, none] (dst (ns ++ [0]) ⟨0, 0, 0⟩ []) := by
    simp [Out.bnd, e0, -List.map_append]
  have hr : dIRange1 (dACons (dOp aAdd (dB fMin2 (dACons (dC (.int 63)) (dACons (dB fLen (dACons (dVar 0) dANil)) dANil))) (dC (.int 1))) dANil) [some (.rl (ns.map D.int)), some (.ob 2), none, none, none, none, none, none, none] (dst (ns ++ [0]) ⟨0, 0, 0⟩ []) = .ok ⟨DL.upTo 0 (ns.length + 1), []⟩ (dst (ns ++ [0]) ⟨0, 0, 0⟩ []) :=
    range1' (n := ns.length + 1) (by
      rw [show ((ns.length + 1 : Nat) : Int) = (ns.length : Int) + 1 by omega]
      simp [Out.bnd, hlen, hmin]) (by omega)
  rw [ev_seq, a1]; dsimp only
  rw [ev_seq, ev_for, hr, ev_tok]
  dsimp only
  rw [e]
  dsimp only
  simp [Out.bnd]
end
end K02

theorem PySem.Challenge.cw_borderkin_k02_refusals_by_hand_holds : PySem.Challenge.rw_borderkin_k02_refusals_by_hand.Holds := by
  exact K02.head fun _ h => K02.law_run h
