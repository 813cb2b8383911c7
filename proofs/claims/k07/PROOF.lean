import PyProof.Rows.All
import Wide.All
import OpenK.AllK
import Wide.FinOn
import HandS.ForMost
import HandS.More
import HandS.Exc
import HandS.ExcOwn
import HandS.TryOnly
import HandS.CallSlots
import HandS.IsInst
import HandS.WordsExc
import HandS.Wide
import HandS.Defaults
import HandS.HeadEnd
import HandS.Deep
import HandS.TupAny
import KE.DataEq
import HandS.TupMul
import HandS.TupLe
import HandS.Text
import HandS.Replace
import HandS.Style
import HandS.Flow
import HandS.WordsDict
import HandS.StrMore
import PyProof.AutoSeq1
import HandS.Zip
import KE.GoesMore
import KE.GoesZip
import HandS.SortKw
import PyProof.ReprRoads
import PyProof.CallFns
import KE.KExcIs
import KE.KIsAll
import HandS.ExcInit
import HandS.ExcField
import HandS.Small
import HandS.ExcValue
import HandS.SetFor
import HandS.HeadHook1
import HandS.HeadHook2
import HandS.Iter
import HandS.Conv
import HandS.List
import KE.KStateDown
import HandS.Head0
import HandS.Head1
import HandS.Head2
import HandS.HeadHook3
import KE.KxText
import KE.IntTextLaws
import PySem.Challenge.RW_borderkin_k07_terms_told
set_option Elab.async false
set_option linter.all false
set_option maxRecDepth 100000
set_option maxHeartbeats 0
/-! DL, part a: data without addresses, and how it lies in the hand layer's abstract heap. -/
namespace DL
open PySem PySem.Spec PyProof.Rows L2

abbrev St := L2.St
/-- data: what a value is, its tuples opened; ob n is the n-th tracked object, gl x what the module's name x holds, rl a list that is read alone, xo an exception of an own class that was kept -/
inductive D where
  | non | bl (b : Bool) | int (i : Int) | str (x : Str) | tup (xs : List D) | ob (n : Nat) | ty (n : String) | gl (x : Str) | rl (xs : List D) | kd (ks : List Str) (vs : List D)
  | xo (c : Str) (ks : List Str) (vs : List D)
instance : Inhabited D := ⟨.non⟩
/-- an exception: its class, its own fields -/
structure Ex where
  cls : D
  fs : Option (List (Str × D))
/-- a tracked object -/
inductive O where
  | lst (xs : List D)
  | dk (kvs : List (Key × D))
  | ins (c : Str) (fs : List (Str × D))
abbrev Sto := List O
abbrev Fr := List (Option D)
/-- what comes of an expression -/
inductive Out (α : Type) where
  | ok (a : α) (S : Sto)
  | ex (e : Ex) (S : Sto)
  | no
@[reducible] def Out.bnd {α β : Type} (x : Out α) (f : α → Sto → Out β) : Out β := match x with
  | .ok a S => f a S
  | .ex e S => .ex e S
  | .no => .no
/-- what comes of a statement -/
inductive Fl where
  | nx | rt (d : D) | bk | ct
inductive OutS where
  | ok (f : Fl) (fr : Fr) (S : Sto)
  | ex (e : Ex) (fr : Fr) (S : Sto)
  | no

/-- the ground -/
structure Gnd where
  K : PySem.W.Frag
  mg : Str → Option Value
  w : World
/-- where the tracked objects lie -/
structure Wd where
  m : Nat → Addr
  n : Nat
  H : Hp

/-- a list that nobody writes: the script, or a list of the module -/
def SqF (K : PySem.W.Frag) (H : Hp) (a : Addr) (xs : List V) : Prop := (∃ o, H a = some (.frz o (.lst xs))) ∨
  ∃ (o : Obj) (its : Array Value) (n : Nat), K.lookup a = some o ∧ o.cls = .type "list" ∧ o.dict = none ∧ o.data = .seq its n ∧ its.size ≤ sizeLine ∧ Vals xs its.toList
theorem SqF.sql {K : PySem.W.Frag} {H : Hp} {a : Addr} {xs : List V} (h : SqF K H a xs) : SqL K H a xs := by
  rcases h with ⟨o, h⟩ | h
  · exact .inl (.inr ⟨o, h⟩)
  · exact .inr h
/-- an object that stands and is never written -/
def AtE (a : Addr) (oe : Obj) : Heap → Prop := fun h => h.get? a = some oe
mutual
inductive Rep (g : Gnd) (w : Wd) : D → V → Prop
  | non : Rep g w .non .non
  | bl (b : Bool) : Rep g w (.bl b) (.bl b)
  | int (i : Int) : Rep g w (.int i) (.int i)
  | str (x : Str) : Rep g w (.str x) (.str x)
  | ty (n : String) : Rep g w (.ty n) (.ty n)
  | tup {a : Addr} {vs : List V} {ds : List D} : SqT g.K w.H a vs → ds.length ≤ sizeLine → Reps g w ds vs → Rep g w (.tup ds) (.ref a)
  | rl {a : Addr} {vs : List V} {ds : List D} : SqF g.K w.H a vs → ds.length ≤ sizeLine → Reps g w ds vs → Rep g w (.rl ds) (.ref a)
  | ob {n : Nat} : n < w.n → Rep g w (.ob n) (.ref (w.m n))
  | kd {a : Addr} {es : Array DictEntry} {n : Nat} {ks : List Str} {ws : List Value} {us : List V} {vs : List D} : KDict g.K g.w a es n → (∀ z, PySem.W.nsIn g.K a z = some ((ks.zip ws).lookup z)) → Vals us ws → Reps g w vs us → Rep g w (.kd ks vs) (.ref a)
  | gl {x : Str} {a : Addr} : g.mg x = some (.ref a) → Rep g w (.gl x) (.ref a)
  | xo0 {c : Str} {C a : Addr} {oe : Obj} : g.mg c = some (.ref C) → w.H a = some (.frz oe (.ext (AtE a oe))) → Zc (.ref C) none oe → (∃ vs, oe.data = .fields vs) → Rep g w (.xo c [] []) (.ref a)
  | xo1 {c : Str} {C a dd : Addr} {oe : Obj} {us : List (Str × V)} {vs : List D} : g.mg c = some (.ref C) → w.H a = some (.frz oe (.ext (AtE a oe))) → Zc (.ref C) (some dd) oe → (∃ vs, oe.data = .fields vs) → w.H dd = some (.xd us) → Reps g w vs (us.map (·.2)) → Rep g w (.xo c (us.map (·.1)) vs) (.ref a)
inductive Reps (g : Gnd) (w : Wd) : List D → List V → Prop
  | nil : Reps g w [] []
  | cons {d : D} {ds : List D} {v : V} {vs : List V} : Rep g w d v → Reps g w ds vs → Reps g w (d :: ds) (v :: vs)
end
inductive RepO (g : Gnd) (w : Wd) : O → HO → Prop
  | lst {ds : List D} {vs : List V} : ds.length ≤ sizeLine → Reps g w ds vs → RepO g w (.lst ds) (.lst vs)
  | dk {kvs : List (Key × D)} {kus : List (Key × V)} : kvs.length ≤ sizeLine → kvs.map (·.1) = kus.map (·.1) → Reps g w (kvs.map (·.2)) (kus.map (·.2)) → RepO g w (.dk kvs) (.dK kus)
  | ins {c : Str} {C dx : Addr} {fs : List (Str × D)} {us : List (Str × V)} : g.mg c = some (.ref C) → fs.map (·.1) = us.map (·.1) → Reps g w (fs.map (·.2)) (us.map (·.2)) → RepO g w (.ins c fs) (.ins C dx us)
/-- an exception's class and fields -/
structure RepX (g : Gnd) (w : Wd) (e : Ex) (c : Value) (dx : Option Addr) : Prop where
  cls : ∃ v, Rep g w e.cls v ∧ RelV v c
  fs : match e.fs with
    | none => dx = none
    | some fs => ∃ d us, dx = some d ∧ w.H d = some (.xd us) ∧ (∀ i, i < w.n → w.m i ≠ d) ∧ fs.map (·.1) = us.map (·.1) ∧ Reps g w (fs.map (·.2)) (us.map (·.2))
structure SOk (g : Gnd) (w : Wd) (S : Sto) : Prop where
  len : w.n = S.length
  ob : ∀ (i : Nat) (o : O), S[i]? = some o → ∃ h, w.H (w.m i) = some h ∧ RepO g w o h
  inj : ∀ i j, i < w.n → j < w.n → w.m i = w.m j → i = j
structure FrOk (g : Gnd) (w : Wd) (fr : Fr) (σ : St) : Prop where
  len : fr.length = σ.length
  at_ : ∀ (i : Nat) (d : D), fr[i]? = some (some d) → ∃ v, σ[i]? = some (some v) ∧ Rep g w d v
/-- what data leans on is kept -/
structure Mono (w w' : Wd) : Prop where
  le : w.n ≤ w'.n
  ag : ∀ i, i < w.n → w'.m i = w.m i
  tp : ∀ a xs, w.H a = some (.tup xs) → w'.H a = some (.tup xs)
  fz : ∀ a o u, w.H a = some (.frz o u) → w'.H a = some (.frz o u)
  xd : ∀ a us, w.H a = some (.xd us) → w'.H a = some (.xd us)
/-- all that is not tracked is kept -/
structure Step (w w' : Wd) : Prop extends Mono w w' where
  kp : ∀ a o, w.H a = some o → (∀ i, i < w.n → w.m i ≠ a) → w'.H a = some o
  fr : ∀ i, w.n ≤ i → i < w'.n → w.H (w'.m i) = none
  al : ∀ i, i < w'.n → ∃ o, w'.H (w'.m i) = some o

section
variable {g : Gnd} {w w' w2 : Wd} {S : Sto}
theorem Mono.refl (w : Wd) : Mono w w := ⟨Nat.le_refl _, fun _ _ => rfl, fun _ _ h => h, fun _ _ _ h => h, fun _ _ h => h⟩
theorem Mono.trans (a : Mono w w') (b : Mono w' w2) : Mono w w2 :=
  ⟨Nat.le_trans a.le b.le, fun i h => (b.ag i (Nat.lt_of_lt_of_le h a.le)).trans (a.ag i h), fun c xs h => b.tp c xs (a.tp c xs h), fun c o u h => b.fz c o u (a.fz c o u h), fun c us h => b.xd c us (a.xd c us h)⟩
theorem Mono.sqt (a : Mono w w') {K : PySem.W.Frag} {b : Addr} {vs : List V} (h : SqT K w.H b vs) : SqT K w'.H b vs := by
  rcases h with (h | ⟨o, h⟩) | h
  · exact .inl (.inl (a.tp _ _ h))
  · exact .inl (.inr ⟨o, a.fz _ _ _ h⟩)
  · exact .inr h
theorem Mono.sqf (a : Mono w w') {K : PySem.W.Frag} {b : Addr} {vs : List V} (h : SqF K w.H b vs) : SqF K w'.H b vs := by
  rcases h with ⟨o, h⟩ | h
  · exact .inl ⟨o, a.fz _ _ _ h⟩
  · exact .inr h
mutual
theorem Rep.mono (s : Mono w w') : ∀ (d : D) (v : V), Rep g w d v → Rep g w' d v
  | .non, _, h => by cases h; exact .non
  | .bl _, _, h => by cases h; exact .bl _
  | .int _, _, h => by cases h; exact .int _
  | .str _, _, h => by cases h; exact .str _
  | .ty _, _, h => by cases h; exact .ty _
  | .gl _, _, h => by cases h with | gl e => exact .gl e
  | .xo c ks vs, _, h => by
    cases h with
    | xo0 e1 e2 e3 e4 => exact .xo0 e1 (s.fz _ _ _ e2) e3 e4
    | xo1 e1 e2 e3 e4 e5 r => exact .xo1 e1 (s.fz _ _ _ e2) e3 e4 (s.xd _ _ e5) (Reps.mono s vs _ r)
  | .ob i, _, h => by
    cases h with
    | ob e =>
      have := s.ag i e
      rw [← this]
      exact .ob (Nat.lt_of_lt_of_le e s.le)
  | .tup ds, _, h => by
    cases h with
    | tup e l r => exact .tup (s.sqt e) l (Reps.mono s ds _ r)
  | .rl ds, _, h => by
    cases h with
    | rl e l r => exact .rl (s.sqf e) l (Reps.mono s ds _ r)
  | .kd ks vs, _, h => by
    cases h with
    | kd k e l r => exact .kd k e l (Reps.mono s vs _ r)
theorem Reps.mono (s : Mono w w') : ∀ (ds : List D) (vs : List V), Reps g w ds vs → Reps g w' ds vs
  | [], _, h => by cases h; exact .nil
  | d :: ds, _, h => by
    cases h with
    | cons a b => exact .cons (Rep.mono s d _ a) (Reps.mono s ds _ b)
end
theorem RepO.mono (s : Mono w w') {o : O} {h : HO} (r : RepO g w o h) : RepO g w' o h := by
  cases r with
  | lst l r => exact .lst l (Reps.mono s _ _ r)
  | dk l e r => exact .dk l e (Reps.mono s _ _ r)
  | ins e e2 r => exact .ins e e2 (Reps.mono s _ _ r)
theorem FrOk.mono (s : Mono w w') {fr : Fr} {σ : St} (f : FrOk g w fr σ) : FrOk g w' fr σ :=
  ⟨f.len, fun i d h => let ⟨v, e, r⟩ := f.at_ i d h; ⟨v, e, Rep.mono s d v r⟩⟩
theorem Reps.length : ∀ {ds : List D} {vs : List V}, Reps g w ds vs → ds.length = vs.length
  | [], _, h => by cases h; rfl
  | d :: ds, _, h => by
    cases h with
    | cons a b => rw [List.length_cons, List.length_cons, Reps.length b]
theorem Reps.get : ∀ {ds : List D} {vs : List V} {i : Nat} {d : D}, Reps g w ds vs → ds[i]? = some d → ∃ v, vs[i]? = some v ∧ Rep g w d v
  | _, _, _, _, .nil, e => by simp at e
  | _, _, 0, _, .cons r _, e => by simp at e; subst e; exact ⟨_, rfl, r⟩
  | _, _, i + 1, _, .cons _ t, e => by
    obtain ⟨v, h1, h2⟩ := Reps.get (i := i) t (by simpa using e)
    exact ⟨v, by simpa using h1, h2⟩
theorem Reps.getV : ∀ {ds : List D} {vs : List V} {i : Nat} {v : V}, Reps g w ds vs → vs[i]? = some v → ∃ d, ds[i]? = some d ∧ Rep g w d v
  | _, _, _, _, .nil, e => by simp at e
  | _, _, 0, _, .cons r _, e => by simp at e; subst e; exact ⟨_, rfl, r⟩
  | _, _, i + 1, _, .cons _ t, e => by
    obtain ⟨v, h1, h2⟩ := Reps.getV (i := i) t (by simpa using e)
    exact ⟨v, by simpa using h1, h2⟩
theorem Reps.append : ∀ {ds es : List D} {vs us : List V}, Reps g w ds vs → Reps g w es us → Reps g w (ds ++ es) (vs ++ us)
  | _, _, _, _, .nil, s => s
  | _, _, _, _, .cons r t, s => .cons r (Reps.append t s)
theorem Reps.set {x : D} {u : V} (r : Rep g w x u) : ∀ {ds : List D} {vs : List V} (i : Nat), Reps g w ds vs → Reps g w (ds.set i x) (vs.set i u)
  | _, _, _, .nil => .nil
  | _, _, 0, .cons _ t => .cons r t
  | _, _, i + 1, .cons q t => .cons q (Reps.set r i t)
theorem Reps.take : ∀ {ds : List D} {vs : List V} (n : Nat), Reps g w ds vs → Reps g w (ds.take n) (vs.take n)
  | _, _, 0, _ => .nil
  | _, _, _ + 1, .nil => .nil
  | _, _, n + 1, .cons r t => .cons r (Reps.take n t)
theorem Reps.drop : ∀ {ds : List D} {vs : List V} (n : Nat), Reps g w ds vs → Reps g w (ds.drop n) (vs.drop n)
  | _, _, 0, r => r
  | _, _, _ + 1, .nil => .nil
  | _, _, n + 1, .cons _ t => Reps.drop n t
theorem Reps.ints : ∀ {ns : List Int} {vs : List V}, Reps g w (ns.map D.int) vs → vs = ns.map V.int
  | [], _, h => by cases h; rfl
  | n :: ns, _, h => by
    cases h with
    | cons a b => cases a; rw [Reps.ints b]; rfl
theorem Reps.of_ints : ∀ (ns : List Int), Reps g w (ns.map D.int) (ns.map V.int)
  | [] => .nil
  | n :: ns => .cons (.int n) (Reps.of_ints ns)
theorem Reps.bls : ∀ {ns : List Bool} {vs : List V}, Reps g w (ns.map D.bl) vs → vs = ns.map V.bl
  | [], _, h => by cases h; rfl
  | n :: ns, _, h => by
    cases h with
    | cons a b => cases a; rw [Reps.bls b]; rfl
theorem Reps.strs : ∀ {ns : List Str} {vs : List V}, Reps g w (ns.map D.str) vs → vs = ns.map V.str
  | [], _, h => by cases h; rfl
  | n :: ns, _, h => by
    cases h with
    | cons a b => cases a; rw [Reps.strs b]; rfl
theorem Reps.of_strs : ∀ (ns : List Str), Reps g w (ns.map D.str) (ns.map V.str)
  | [] => .nil
  | n :: ns => .cons (.str n) (Reps.of_strs ns)

theorem RepO.notTup {o : O} {h : HO} (r : RepO g w o h) : (∀ xs, h ≠ .tup xs) ∧ (∀ a u, h ≠ .frz a u) ∧ ∀ us, h ≠ .xd us := by
  cases r <;> exact ⟨fun _ z => (by cases z), fun _ _ z => (by cases z), fun _ z => (by cases z)⟩
theorem SOk.al (s : SOk g w S) : ∀ i, i < w.n → ∃ o, w.H (w.m i) = some o := fun i h => by
  have h' : i < S.length := by rw [← s.len]; exact h
  obtain ⟨ho, e, _⟩ := s.ob i S[i] (List.getElem?_eq_getElem h')
  exact ⟨ho, e⟩
theorem SOk.at_ (s : SOk g w S) {i : Nat} (h : i < w.n) : ∃ o ho, S[i]? = some o ∧ w.H (w.m i) = some ho ∧ RepO g w o ho := by
  have h' : i < S.length := by rw [← s.len]; exact h
  obtain ⟨ho, e, r⟩ := s.ob i S[i] (List.getElem?_eq_getElem h')
  exact ⟨_, ho, List.getElem?_eq_getElem h', e, r⟩
/-- tracked objects are no tuples -/
theorem SOk.tupNe (s : SOk g w S) {a : Addr} {xs : List V} (h : w.H a = some (.tup xs)) : ∀ i, i < w.n → w.m i ≠ a := fun i hi e => by
  obtain ⟨o, ho, _, e2, r⟩ := s.at_ hi
  rw [e, h] at e2
  cases e2
  exact r.notTup.1 _ rfl
theorem SOk.frzNe (s : SOk g w S) {a : Addr} {o : Obj} {u : HO} (h : w.H a = some (.frz o u)) : ∀ i, i < w.n → w.m i ≠ a := fun i hi e => by
  obtain ⟨o, ho, _, e2, r⟩ := s.at_ hi
  rw [e, h] at e2
  cases e2
  exact r.notTup.2.1 _ _ rfl
theorem SOk.xdNe (s : SOk g w S) {a : Addr} {us : List (Str × V)} (h : w.H a = some (.xd us)) : ∀ i, i < w.n → w.m i ≠ a := fun i hi e => by
  obtain ⟨o, ho, _, e2, r⟩ := s.at_ hi
  rw [e, h] at e2
  cases e2
  exact r.notTup.2.2 _ rfl
theorem Step.refl (s : SOk g w S) : Step w w := ⟨Mono.refl w, fun _ _ h _ => h, fun i h1 h2 => absurd h2 (Nat.not_lt.mpr h1), s.al⟩
theorem Step.trans (a : Step w w') (b : Step w' w2) : Step w w2 := by
  refine ⟨a.toMono.trans b.toMono, fun c o h hn => b.kp c o (a.kp c o h hn) fun i hi e => ?_, fun i h1 h2 => ?_, b.al⟩
  · by_cases hi' : i < w.n
    · exact hn i hi' ((a.ag i hi').symm.trans e)
    · have z := a.fr i (Nat.not_lt.mp hi') hi
      rw [e, h] at z
      cases z
  · by_cases hi' : i < w'.n
    · rw [b.ag i hi']
      exact a.fr i h1 hi'
    · have z := b.fr i (Nat.not_lt.mp hi') h2
      cases q : w.H (w2.m i) with
      | none => rfl
      | some o =>
        by_cases hx : ∃ j, j < w.n ∧ w.m j = w2.m i
        · obtain ⟨j, hj, e⟩ := hx
          obtain ⟨o', e'⟩ := a.al j (Nat.lt_of_lt_of_le hj a.le)
          rw [a.ag j hj, e, z] at e'
          cases e'
        · have := a.kp _ o q fun j hj e => hx ⟨j, hj, e⟩
          rw [z] at this
          cases this
/-- what stands untracked stays so -/
theorem Step.untracked (a : Step w w') {p : Addr} {o : HO} (h : w.H p = some o) (hn : ∀ i, i < w.n → w.m i ≠ p) : w'.H p = some o ∧ ∀ i, i < w'.n → w'.m i ≠ p := by
  refine ⟨a.kp p o h hn, fun i hi e => ?_⟩
  by_cases hi' : i < w.n
  · exact hn i hi' ((a.ag i hi').symm.trans e)
  · have z := a.fr i (Nat.not_lt.mp hi') hi
    rw [e, h] at z
    cases z
theorem Step.back (a : Step w w') {p : Addr} (h : w'.H p = none) : w.H p = none := by
  cases q : w.H p with
  | none => rfl
  | some o =>
    by_cases hx : ∃ j, j < w.n ∧ w.m j = p
    · obtain ⟨j, hj, e⟩ := hx
      obtain ⟨o', e'⟩ := a.al j (Nat.lt_of_lt_of_le hj a.le)
      rw [a.ag j hj, e, h] at e'
      cases e'
    · have := a.kp _ o q fun j hj e => hx ⟨j, hj, e⟩
      rw [h] at this
      cases this
theorem SOk.mono {w' : Wd} (s : SOk g w S) (a : Mono w w') (hn : w'.n = w.n) (hk : ∀ i, i < w.n → w'.H (w.m i) = w.H (w.m i)) : SOk g w' S := by
  refine ⟨hn.trans s.len, fun i o e => ?_, fun i j hi hj e => ?_⟩
  · obtain ⟨h, e2, r⟩ := s.ob i o e
    have hi : i < w.n := by rw [s.len]; exact (List.getElem?_eq_some_iff.mp e).1
    exact ⟨h, by rw [a.ag i hi, hk i hi]; exact e2, r.mono a⟩
  · rw [hn] at hi hj
    rw [a.ag i hi, a.ag j hj] at e
    exact s.inj i j hi hj e
/-- a new untracked object is laid -/
def Wd.put (w : Wd) (p : Addr) (o : HO) : Wd := ⟨w.m, w.n, upd w.H p o⟩
theorem Step.put (s : SOk g w S) {p : Addr} (hp : w.H p = none) (o : HO) : Step w (w.put p o) ∧ SOk g (w.put p o) S ∧ ∀ i, i < w.n → w.m i ≠ p := by
  have hne : ∀ i, i < w.n → w.m i ≠ p := fun i hi e => by
    obtain ⟨o', e'⟩ := s.al i hi
    rw [e, hp] at e'
    cases e'
  have hk : ∀ b u, w.H b = some u → (upd w.H p o) b = some u := fun b u e => by
    rw [upd_ne (ne_of_none e hp)]
    exact e
  have mo : Mono w (w.put p o) := ⟨Nat.le_refl _, fun _ _ => rfl, fun a xs e => hk _ _ e, fun a ob u e => hk _ _ e, fun a us e => hk _ _ e⟩
  refine ⟨⟨mo, fun a u e _ => hk _ _ e, fun i h1 h2 => absurd h2 (Nat.not_lt.mpr h1), fun i hi => ?_⟩, s.mono mo rfl fun i hi => ?_, hne⟩
  · obtain ⟨o', e'⟩ := s.al i hi
    exact ⟨o', hk _ _ e'⟩
  · show upd w.H p o (w.m i) = _
    rw [upd_ne (hne i hi)]
/-- a new tracked object is laid -/
def Wd.new (w : Wd) (p : Addr) (o : HO) : Wd := ⟨fun i => if i = w.n then p else w.m i, w.n + 1, upd w.H p o⟩
theorem Step.new (s : SOk g w S) {p : Addr} (hp : w.H p = none) {o : O} {ho : HO} (r : RepO g w o ho) :
    Step w (w.new p ho) ∧ SOk g (w.new p ho) (S ++ [o]) ∧ Rep g (w.new p ho) (.ob S.length) (.ref p) := by
  have hne : ∀ i, i < w.n → w.m i ≠ p := fun i hi e => by
    obtain ⟨o', e'⟩ := s.al i hi
    rw [e, hp] at e'
    cases e'
  have hk : ∀ b u, w.H b = some u → (upd w.H p ho) b = some u := fun b u e => by
    rw [upd_ne (ne_of_none e hp)]
    exact e
  have hm : ∀ i, i < w.n → (w.new p ho).m i = w.m i := fun i hi => if_neg (Nat.ne_of_lt hi)
  have hmn : (w.new p ho).m w.n = p := if_pos rfl
  have mo : Mono w (w.new p ho) := ⟨Nat.le_succ _, hm, fun a xs e => hk _ _ e, fun a ob u e => hk _ _ e, fun a us e => hk _ _ e⟩
  have alw : ∀ i, i < w.n + 1 → ∃ o', (w.new p ho).H ((w.new p ho).m i) = some o' := fun i hi => by
    by_cases e : i = w.n
    · subst e
      rw [hmn]
      exact ⟨ho, upd_same⟩
    · have hi' : i < w.n := Nat.lt_of_le_of_ne (Nat.le_of_lt_succ hi) e
      rw [hm i hi']
      obtain ⟨o', e'⟩ := s.al i hi'
      exact ⟨o', hk _ _ e'⟩
  refine ⟨⟨mo, fun a u e _ => hk _ _ e, fun i h1 h2 => ?_, alw⟩, ⟨?_, fun i u e => ?_, fun i j hi hj e => ?_⟩, ?_⟩
  rotate_right
  · have q : Rep g (w.new p ho) (.ob w.n) (.ref ((w.new p ho).m w.n)) := .ob (show w.n < w.n + 1 from Nat.lt_succ_self _)
    rw [hmn, s.len] at q
    exact q
  · have e : i = w.n := Nat.le_antisymm (Nat.le_of_lt_succ h2) h1
    subst e
    rw [hmn]
    exact hp
  · show w.n + 1 = _
    rw [List.length_append, s.len]
    rfl
  · by_cases hi : i < S.length
    · rw [List.getElem?_append_left hi] at e
      obtain ⟨h, e2, r2⟩ := s.ob i u e
      have hi' : i < w.n := by rw [s.len]; exact hi
      exact ⟨h, by rw [hm i hi']; exact hk _ _ e2, r2.mono mo⟩
    · rw [List.getElem?_append_right (Nat.not_lt.mp hi)] at e
      have hz : i - S.length = 0 := by
        have := (List.getElem?_eq_some_iff.mp e).1
        simp at this
        omega
      rw [hz] at e
      cases e
      have hi2 : i = w.n := by rw [s.len]; omega
      subst hi2
      exact ⟨ho, by rw [hmn]; exact upd_same, r.mono mo⟩
  · have hi : i < w.n + 1 := hi
    have hj : j < w.n + 1 := hj
    by_cases e1 : i = w.n
    · by_cases e2 : j = w.n
      · rw [e1, e2]
      · have hj' : j < w.n := Nat.lt_of_le_of_ne (Nat.le_of_lt_succ hj) e2
        rw [e1, hmn, hm j hj'] at e
        exact absurd e.symm (hne j hj')
    · have hi' : i < w.n := Nat.lt_of_le_of_ne (Nat.le_of_lt_succ hi) e1
      by_cases e2 : j = w.n
      · rw [e2, hmn, hm i hi'] at e
        exact absurd e (hne i hi')
      · have hj' : j < w.n := Nat.lt_of_le_of_ne (Nat.le_of_lt_succ hj) e2
        rw [hm i hi', hm j hj'] at e
        exact s.inj i j hi' hj' e
/-- a tracked object is written -/
theorem Step.write (s : SOk g w S) {i : Nat} (hi : i < w.n) {o : O} {ho : HO} (r : RepO g w o ho) : Step w (w.put (w.m i) ho) ∧ SOk g (w.put (w.m i) ho) (S.set i o) := by
  obtain ⟨ho', e0⟩ := s.al i hi
  have hk : ∀ b, b ≠ w.m i → (upd w.H (w.m i) ho) b = w.H b := fun b e => upd_ne e
  have mo : Mono w (w.put (w.m i) ho) := ⟨Nat.le_refl _, fun _ _ => rfl, fun a xs e => by
    show upd w.H (w.m i) ho a = _
    rw [hk a (s.tupNe e i hi).symm]; exact e, fun a ob u e => by
    show upd w.H (w.m i) ho a = _
    rw [hk a (s.frzNe e i hi).symm]; exact e, fun a us e => by
    show upd w.H (w.m i) ho a = _
    rw [hk a (s.xdNe e i hi).symm]; exact e⟩
  refine ⟨⟨mo, fun a u e hn => ?_, fun j h1 h2 => absurd h2 (Nat.not_lt.mpr h1), fun j hj => ?_⟩, ⟨by rw [List.length_set]; exact s.len, fun j u e => ?_, s.inj⟩⟩
  · show upd w.H (w.m i) ho a = _
    rw [hk a (hn i hi).symm]; exact e
  · show ∃ o', upd w.H (w.m i) ho (w.m j) = some o'
    by_cases e : w.m j = w.m i
    · rw [e]; exact ⟨ho, upd_same⟩
    · rw [hk _ e]; exact s.al j hj
  · show ∃ h, upd w.H (w.m i) ho (w.m j) = some h ∧ _
    by_cases hj : j = i
    · subst hj
      have hl : j < S.length := by rw [← s.len]; exact hi
      rw [List.getElem?_set_self hl] at e
      cases e
      exact ⟨ho, upd_same, r.mono mo⟩
    · rw [List.getElem?_set_ne (Ne.symm hj)] at e
      obtain ⟨h, e2, r2⟩ := s.ob j u e
      have hjl : j < w.n := by rw [s.len]; exact (List.getElem?_eq_some_iff.mp e).1
      refine ⟨h, ?_, r2.mono mo⟩
      rw [hk _ fun z => hj (s.inj j i hjl hi z)]
      exact e2

/-! ### readings -/
/-- what is asked of an outcome: R says how a result lies -/
def Post {α β : Type} (g : Gnd) (w : Wd) (R : Wd → α → β → Prop) (out : Out α) (Q : β → Hp → Prop) (E : XK) : Prop := match out with
  | .ok a S => ∀ w' b, Step w w' → SOk g w' S → R w' a b → Q b w'.H
  | .ex e S => ∀ w' c dx, Step w w' → SOk g w' S → RepX g w' e c dx → E c dx w'.H
  | .no => False
theorem Post.step {α β : Type} {R : Wd → α → β → Prop} {out : Out α} {Q : β → Hp → Prop} {E : XK} (a : Step w w') (p : Post g w R out Q E) : Post g w' R out Q E := by
  cases out with
  | ok x S => exact fun w2 b s o r => p w2 b (a.trans s) o r
  | ex e S => exact fun w2 c dx s o r => p w2 c dx (a.trans s) o r
  | no => exact p
def tG {α β : Type} (g : Gnd) (W : WX) (R : Wd → α → β → Prop) (f : Fr → Sto → Out α) : St → Hp → (β → Hp → Prop) → Prop := fun σ H Q =>
  ∃ w S fr, w.H = H ∧ SOk g w S ∧ FrOk g w fr σ ∧ Post g w R (f fr S) Q (fun c d H' => W c d σ H')
abbrev tE (g : Gnd) (W : WX) (f : Fr → Sto → Out D) : TE := tG g W (Rep g) f
abbrev tT (g : Gnd) (W : WX) (f : Fr → Sto → Out Bool) : TT := tG g W (fun _ a b => a = b) f
abbrev tA (g : Gnd) (W : WX) (f : Fr → Sto → Out (List D)) : TA := tG g W (Reps g) f
/-- a list that was just made and that nothing else holds -/
def RepT (g : Gnd) (w : Wd) (xs : List D) (v : V) : Prop := ∃ p vs, v = .ref p ∧ w.H p = some (.lst vs) ∧ (∀ i, i < w.n → w.m i ≠ p) ∧ xs.length ≤ sizeLine ∧ Reps g w xs vs
def PostL (g : Gnd) (w : Wd) (out : Out (List D)) (Q : VK) (E : XK) : Prop := match out with
  | .ok xs S => ∀ w' p, Step w w' → SOk g w' S → w.H p = none → RepT g w' xs (.ref p) → Q (.ref p) w'.H
  | .ex e S => ∀ w' c dx, Step w w' → SOk g w' S → RepX g w' e c dx → E c dx w'.H
  | .no => False
def tL (g : Gnd) (W : WX) (f : Fr → Sto → Out (List D)) : TE := fun σ H Q =>
  ∃ w S fr, w.H = H ∧ SOk g w S ∧ FrOk g w fr σ ∧ PostL g w (f fr S) Q (fun c d H' => W c d σ H')
theorem RepT.step (a : Step w w') {xs : List D} {v : V} (r : RepT g w xs v) : RepT g w' xs v := by
  obtain ⟨p, vs, rfl, e, hn, l, q⟩ := r
  obtain ⟨e', hn'⟩ := a.untracked e hn
  exact ⟨p, vs, rfl, e', hn', l, Reps.mono a.toMono _ _ q⟩
end
theorem PE.weaken {X : Cx} {e : Expr} {t t' : TE} (h : PE X e t) (k : ∀ σ H Q, t' σ H Q → t σ H Q) : PE X e t' := ⟨fun pins s σ H Q I hw => h.run pins s σ H Q I (k σ H Q hw)⟩
theorem PT.weaken {X : Cx} {e : Expr} {t t' : TT} (h : PT X e t) (k : ∀ σ H Q, t' σ H Q → t σ H Q) : PT X e t' := ⟨fun pins s σ H Q I hw => h.run pins s σ H Q I (k σ H Q hw)⟩
theorem PW.weaken {X : Cx} {e : Expr} {t t' : TT} (h : PW X e t) (k : ∀ σ H Q, t' σ H Q → t σ H Q) : PW X e t' := ⟨fun whole pins s σ H Q I hw => h.run whole pins s σ H Q I (k σ H Q hw)⟩
theorem PA.weaken {X : Cx} {es : List Expr} {t t' : TA} (h : PA X es t) (k : ∀ σ H Q, t' σ H Q → t σ H Q) : PA X es t' := ⟨fun pos pins s σ H Q I hw => h.run pos pins s σ H Q I (k σ H Q hw)⟩
theorem PS.weaken {X : Cx} {st : Stmt} {t t' : TS} (h : PS X st t) (k : ∀ D σ H, t' D σ H → t D σ H) : PS X st t' := ⟨fun pins s σ H D I hw => h.run pins s σ H D I (k D σ H hw)⟩
theorem PSs.weaken {X : Cx} {st : List Stmt} {t t' : TS} (h : PSs X st t) (k : ∀ D σ H, t' D σ H → t D σ H) : PSs X st t' := ⟨fun pins s σ H D I hw => h.run pins s σ H D I (k D σ H hw)⟩
theorem PG.weaken {X : Cx} {e : Expr} {t t' : TG} (h : PG X e t) (k : ∀ v σ H Q, t' v σ H Q → t v σ H Q) : PG X e t' := ⟨fun pins s σ H v u Q I r hw => h.run pins s σ H v u Q I r (k v σ H Q hw)⟩
theorem PI.weaken {X : Cx} {tg e : Expr} {t t' : TI} (h : PI X tg e t) (k : ∀ σ H Q, t' σ H Q → t σ H Q) : PI X tg e t' := ⟨fun pins s σ H Q I hw => h.run pins s σ H Q I (k σ H Q hw)⟩
end DL
/-! DM, part b: defs called where no repr is under way (guards known to be none). -/
namespace DL
open PySem PySem.Spec PyProof.Rows L2
/-- the def at f keeps sp, wherever no guard stands around -/
structure FnG (P : Program) (w0 : World) (K : PySem.W.Frag) (mg : Str → Option Value) (base : Heap) (C : CXT) (k : Nat) (f : Addr) (fd : FuncData) (ps : List Str) (sp : Sp) : Prop where
  len : ∀ vs H Q E, sp vs H Q E → vs.length = ps.length
  run : ∀ (A : Around) (out : List Env) (s : Shared) (H : Hp) (args : Args) (us : List Value) (vs : List V) (Q : VK) (E : XK), Room k A → A.guards = some [] → Env0 P w0 K mg base A out s H → BindsTo s fd args (ps.zip us) → Vals vs us → sp vs H Q E →
    codeAny (model P w0) A (.call (.ref f) args) (CR C out P w0 H s Q E) s
section
variable {P : Program} {w0 : World} {K : PySem.W.Frag} {mg : Str → Option Value} {base : Heap} {C : CXT}
theorem FnG.ctx {C' : CXT} {k : Nat} {f : Addr} {fd : FuncData} {ps : List Str} {sp : Sp} (F : FnG P w0 K mg base C k f fd ps sp) (h : ∀ a b c d e f, C a b c d e f → C' a b c d e f) : FnG P w0 K mg base C' k f fd ps sp :=
  ⟨F.len, fun A out s H args us vs Q E hr hg he hb hv hs => codeAny_mono (F.run A out s H args us vs Q E hr hg he hb hv hs) fun r s' q => by
    cases r with
    | ok fl => cases fl <;> first | exact q | exact q.elim
    | error e => exact h _ _ _ _ _ _ q⟩
/-- from a def's text to its promise -/
theorem FunD.okG {x qual : Str} {params : Arguments} {body : List Stmt} {scope : Scope} {dvs : List V} {kws : List (Str × V)} {f : Addr} {fd : FuncData} {N ps : List Str} {k : Nat} {sp : Sp} (F : FunD K x qual params body scope dvs kws f fd) (sc : FnScope N ps scope)
    (len : ∀ vs H Q E, sp vs H Q E → vs.length = ps.length)
    (walk : ∀ (cdv : Value) (A : Around) (out : List Env) (s : Shared) (H : Hp) (vs : List V) (Q : VK) (E : XK), Room k (A.deeper (envOfC qual scope s.heap.objs.size f cdv)) → A.guards = some [] → sp vs H Q E →
      ∃ t, PSs (cxOf C P w0 K mg base N qual scope f cdv A out s H E) body t ∧ t { nx := fun _ H' => Q .non H', rt := Q } (start N vs) H) : FnG P w0 K mg base C (k + 1) f fd ps sp := by
  obtain ⟨oc, od, dV, kV, doc, pm, an, cdv, ct, osl, rfl, lk, hcd, _, _⟩ := F.ex
  refine ⟨len, fun A out s H args us vs Q E hr hg he hb hv hs => ?_⟩
  have hK := he.mod.kin.keeps fun b o e => (he.bs b o e).1
  have hL := he.mod.nolimit.keeps fun b o e => (he.bs b o e).1
  refine codeAny_call_function hr.depth (hK _ _ lk) rfl sc.co sc.gen rfl (PySem.W.codeRec_of hK hcd) (hb _ _ _ _ (wpAny_newFunctionEnv_cells sc.kind ?slots fun env he1 s1 x1 => ?_))
  case slots =>
    rintro ⟨n, v⟩ hy
    rcases sc.par n (List.of_mem_zip hy).1 with q | q
    · exact .inl q
    · exact .inr ⟨q, PySem.W.cellsFrom_some _ _ _ (.inl q)⟩
  subst he1
  obtain ⟨t, ht, hq⟩ := walk cdv A out s H vs Q E (hr.deeper _) hg hs
  have J := inv_start (CX := C) (P := P) (w := w0) (N := N) (qual := qual) (E := E) sc hr.hd he (len _ _ _ _ hs) hv x1
  refine ⟨hL.keeps x1.toInCall.keep, codeAny_func (wpAny_mono (ht.run [] s1 (start N vs) H _ J hq) (fun fl s' z => ?_) fun e s' z => z)⟩
  cases fl with
  | ret u =>
    obtain ⟨v, σ', H', J', rv, z⟩ := z
    exact ⟨v, H', J'.os, J'.bare, J'.base, J'.hok, rv, z⟩
  | next =>
    obtain ⟨σ', H', J', z⟩ := z
    exact ⟨.non, H', J'.os, J'.bare, J'.base, J'.hok, rfl, z⟩
  | brk => obtain ⟨_, _, _, z⟩ := z; exact z.elim
  | cont => obtain ⟨_, _, _, z⟩ := z; exact z.elim
end
section
variable {X : Cx} {W : WX} {k : Nat} {f : Addr} {fd : FuncData} {ps : List Str} {sp : Sp}
/-- the call, its arguments being there -/
theorem run_fnG {pins : List (Addr × Obj)} {σ : L2.St} {H : Hp} {s : Shared} {Q : VK} {us : List Value} {vs : List V} (F : FnG X.prog X.w X.K X.mg X.base (L2.CX X.prog X.w) k f fd ps sp) (hr : Room k X.A) (hg : X.A.guards = some []) (hb : Binds X.K fd ps []) (tk : Takes X W)
    (I : Inv X pins σ H s) (r : Vals vs us) (h : sp vs H Q (WE W σ)) : wpAny (model X.prog X.w) X.A (call (.ref f) us) (EP X pins σ Q) X.xe s := by
  have hl : (us ++ []).length = ps.length := by rw [List.append_nil, ← r.length]; exact F.len _ _ _ _ h
  have hB := hb s us I.kIn hl
  rw [List.append_nil] at hB
  refine wpAny_call (codeAny_mono (F.run X.A X.stack s H ⟨us, []⟩ us vs Q (WE W σ) hr hg I.env0 hB r h) fun z s' hq => ?_)
  cases z with
  | error e => exact passAt tk σ pins H s e s' I hq
  | ok fl =>
    cases fl with
    | ret u => exact I.after hq
    | next => exact False.elim hq
    | brk => exact False.elim hq
    | cont => exact False.elim hq
/-- what is asked of a call -/
def tCallG (sp : Sp) (W : WX) (t : TA) : TE := fun σ H Q => t σ H fun vs H1 => sp vs H1 Q (WE W σ)
theorem pe_callG {x : Str} {p pos : Pos} {e : Expr} {es : List Expr} {t : TA} (F : FnG X.prog X.w X.K X.mg X.base (L2.CX X.prog X.w) k f fd ps sp) (hr : Room k X.A) (hgd : X.A.guards = some []) (hg : Gl X x) (hm : X.mg x = some (.ref f)) (hk : PySem.W.keepIn X.K (.ref f) = true)
    (hb : Binds X.K fd ps []) (tk : Takes X W) (ha : PA X (e :: es) t) (hdb : (x == ("__debug__" : Str)) = false) (he : starEach (e :: es) X.env = (false, eval e X.env) :: starEach es X.env) (hpl : (backTo pos (starEach es X.env)).any (·.1) = false) :
    PE X (.Call (.Name x p) (e :: es) [] pos) (tCallG sp W t) :=
  ⟨fun pins s σ H Q I h => wpAny_Call_Name_kw (ld_glob I hg hm (PySem.W.callWith_K (h₀ := X.base) I.ok.mod.kin hk
    (thn (ha.run pos pins s σ H _ I h) fun us s1 ⟨vs, H1, I1, r, q⟩ => ⟨I1.kIn, run_fnG F hr hgd hb tk I1 r q⟩) he hpl) hdb)⟩
theorem pe_callG0 {x : Str} {p pos : Pos} (F : FnG X.prog X.w X.K X.mg X.base (L2.CX X.prog X.w) k f fd ps sp) (hr : Room k X.A) (hgd : X.A.guards = some []) (hg : Gl X x) (hm : X.mg x = some (.ref f)) (hk : PySem.W.keepIn X.K (.ref f) = true)
    (hb : Binds X.K fd ps []) (tk : Takes X W) (hdb : (x == ("__debug__" : Str)) = false) : PE X (.Call (.Name x p) [] [] pos) (tCallG sp W tNil) :=
  ⟨fun pins s σ H Q I h => wpAny_Call_Name_kw (ld_glob I hg hm (PySem.W.callWith_K0 I.kIn hk (run_fnG (us := []) (vs := []) F hr hgd hb tk I .nil h)) hdb)⟩
end

/-! ### the law's own call, from outside -/
/-- no tracked thing but the script -/
def scr (a : Addr) (o : Obj) (ns : List Int) : Hp := fun b => if b = a then some (.frz o (.lst (ns.map V.int))) else none
theorem entry {P : Program} {w0 : World} {K : PySem.W.Frag} {mg mb : Str → Option Value} {C : CXT} {k : Nat} {fa a : Addr} {fd : FuncData} {x : Str} {sp : Sp} {s : Shared} {vs : List Value}
    (KX : K.In s.heap) (hns : s.heap.Ns mainGlobals mg) (hb : s.heap.Ns builtinsNs mb) (hbb : ∀ x : Str, x ≠ "__name__" → mb x = bootBuiltins x) (hlim : s.heap.NoLimit) (hg : s.gens = #[])
    (ha : s.heap.get? a = some { cls := .type "list", data := .seq vs.toArray }) (hr : Room k callerA)
    (F : ∀ base : Heap, K.In base → base.Ns mainGlobals mg → FnG P w0 K mg base C k fa fd [x] sp) (hbind : ∀ (s : Shared) (u : Value), BindsTo s fd ⟨[u], []⟩ [(x, u)])
    (H : Hp) (hO : Only H) (hok : HOk P w0 H s.heap) (hA : ∀ b, H b ≠ none → b = a) (hK : H a ≠ none → K.lookup a = none)
    (hsp : sp [.ref a] H (fun v _ => v = .bl true) fun _ _ _ => False) (hC : ∀ e s', C [] H s (fun _ _ _ => False) e s' → False) :
    codeAny (model P w0) callerA (.call (.ref fa) ⟨[.ref a], []⟩) (fun r s' => r = .ok (.ret (.bool true)) ∧ OldK s.heap s'.heap ∧ s'.os = s.os ∧ AllBare s'.gens) s := by
  -- an object that is no list stands outside H
  have free : ∀ {b : Addr} {o : Obj}, s.heap.get? b = some o → (∀ n, o.data ≠ .seq vs.toArray n) → H b = none := fun {b o} e hd => by
    by_cases q : H b = none
    · exact q
    · have e1 := hA b q
      rw [e1, ha] at e
      cases e
      exact absurd rfl (hd _)
  have nsOf : ∀ {b : Addr} {m : Str → Option Value}, s.heap.Ns b m → (hidT s.heap H).Ns b m := fun {b m} ⟨o, es, ep, e, d, r⟩ => ⟨o, es, ep, hidT_get e (free e fun n z => by rw [d] at z; cases z), d, r⟩
  have kOf : K.In (hidT s.heap H) := fun b o e => by
    refine hidT_get (KX b o e) (Classical.byContradiction fun q => ?_)
    have e1 := hA b q
    rw [e1] at e q
    rw [hK q] at e
    cases e
  have env : Env0 P w0 K mg (hidT s.heap H) callerA [] s H :=
    { frames := rfl, mod := ⟨kOf, nsOf hns, ⟨mb, nsOf hb, hbb⟩, let ⟨mc, h1, h2⟩ := hlim; ⟨mc, nsOf h1, h2⟩⟩, bs := fun b o e => of_hidT e, bsz := Nat.le_of_eq (hidT_size _ _), funs := trivial, frf := fun b hb => (nomatch hb), hok := hok, bare := .of_eq hg }
  refine codeAny_mono ((F _ kOf (nsOf hns)).run callerA [] s H ⟨[.ref a], []⟩ [.ref a] [.ref a] _ _ hr rfl env (hbind s (.ref a)) (.cons rfl .nil) hsp) fun r s' h => ?_
  cases r with
  | error e => exact (hC e s' h).elim
  | ok fl =>
    cases fl with
    | ret u =>
      obtain ⟨v, H', os, bare, un, hok', r', q⟩ := h
      obtain rfl : v = .bl true := q
      obtain rfl : u = Value.bool true := r'
      refine ⟨rfl, OldK.of_keep fun b o e => ?_, os, bare⟩
      rcases hO b with z | ⟨ob, xs, z⟩
      · exact un.keep b o e z (fun y => (nomatch y)) (fun y => (nomatch y))
      · obtain ⟨e1, _⟩ := hok b _ z
        rw [e] at e1
        cases e1
        exact (hok' b _ (un.frzs b o _ z)).1
    | next => exact False.elim h
    | brk => exact False.elim h
    | cont => exact False.elim h
/-- the end of a law's row -/
theorem walk_G {l : PySem.W.OpenLaw} {n k : Nat} {q : Program} {loose : List Str} {XP : (Str → Option Value) → Heap → Prop} {YP : World → Heap → Prop} {d : DefRec} {C : CXT} {x : Str}
    (hn : l.most = some n) (hn2 : n ≤ sizeLine) (hdf : d.params.defaults = []) (hr : Room k callerA)
    (F : ∀ (w0 : World) (mg : Str → Option Value) (fa : Addr) (h : Heap), YP w0 h → h.Ns mainGlobals mg → mg d.name = some (.ref fa) →
      ∃ (K : PySem.W.Frag) (fd : FuncData) (sp : Sp), K.In h ∧ (∀ (s : Shared) (u : Value), BindsTo s fd ⟨[u], []⟩ [(x, u)]) ∧
        (∀ (H : Hp) (a : Addr) (ns : List Int), ns.length ≤ n → Only H → SqL K H a (ns.map V.int) → sp [.ref a] H (fun v _ => v = .bl true) fun _ _ _ => False) ∧
        ∀ base : Heap, K.In base → base.Ns mainGlobals mg → FnG l.prog w0 K mg base C k fa fd [x] sp)
    (hC : ∀ (H : Hp) (s : Shared) (e : Value) (s' : Shared), C [] H s (fun _ _ _ => False) e s' → False) : PySem.W.WalkO q loose XP YP l.row.toRowW d [] (fun f vs => PySem.call f vs) := by
  refine Att.attach_call hn hdf fun w0 s₀ s mg mb fa o pm cd doc a vs ns G Y ho hd hcd hmg hobj hints hlen hg => ?_
  obtain ⟨K, fd, sp, KX, hb, hsp, hF⟩ := F w0 mg fa _ Y G.T.g hmg
  have rv := vals_ints hints
  have hz : ns.length ≤ sizeLine := Nat.le_trans hlen hn2
  have lenV := hints.length
  cases hk : K.lookup a with
  | some ob =>
    have e := KX a ob hk
    rw [hobj] at e
    cases e
    have hO : Only fun _ => none := fun _ => .inl rfl
    exact entry KX G.T.g G.T.b G.T.builtins G.T.nolimit hg hobj hr hF hb (fun _ => none) hO (fun b u z => (nomatch z)) (fun b z => absurd rfl z) (fun z => absurd rfl z)
      (hsp _ a ns hlen hO (.inr ⟨_, vs.toArray, _, hk, rfl, rfl, rfl, by rw [List.size_toArray, lenV]; exact hz, by simpa using rv⟩)) (hC _ s)
  | none =>
    have here : scr a { cls := .type "list", data := .seq vs.toArray } ns a = some (.frz { cls := .type "list", data := .seq vs.toArray } (.lst (ns.map V.int))) := if_pos rfl
    have off : ∀ b, b ≠ a → scr a { cls := .type "list", data := .seq vs.toArray } ns b = none := fun b hb => if_neg hb
    have hO : Only (scr a { cls := .type "list", data := .seq vs.toArray } ns) := fun b => by
      by_cases hb : b = a
      · rw [hb]; exact .inr ⟨_, _, here⟩
      · exact .inl (off b hb)
    refine entry KX G.T.g G.T.b G.T.builtins G.T.nolimit hg hobj hr hF hb _ hO (fun b u z => ?_) (fun b z => Classical.byContradiction fun hb => z (off b hb)) (fun _ => hk) (hsp _ a ns hlen hO (.inl (.inr ⟨_, here⟩))) (hC _ s)
    by_cases hb : b = a
    · subst hb
      rw [here] at z
      cases z
      exact ⟨hobj, by rw [List.length_map]; exact hz, vs, _, rv, hobj⟩
    · rw [off b hb] at z
      cases z
end DL
/-! DN, part a: an exception that is caught and kept: try: .. except X as n: suite; what was caught lies frozen behind it. -/
namespace DL
open PySem PySem.Spec PyProof.Rows L2

/-- the heap with a caught exception at a -/
noncomputable def frozen (H : Hp) (a : Addr) (oe : Obj) : Hp := upd H a (.frz oe (.ext (AtE a oe)))
/-- what a try asks of an exception that leaves its body -/
def wFrz (K : PySem.W.Frag) (c : Value) (i : Nat) (ts : Addr → Value → Option Addr → TS) (Wout : WX) (D : Ends) : WX := fun cls d σ H =>
  ∃ b, PySem.W.exmOne K cls c = some b ∧
    (b = true → ∀ (a : Addr) (oe : Obj), H a = none → Zc cls d oe → (∃ vs, oe.data = .fields vs) →
      ts a cls d { nx := fun σ' H' => D.nx (σ'.set i none) (frozen H' a oe), rt := fun _ _ => False } (σ.set i (some (.ref a))) H) ∧
    (b = false → Wout cls d σ H)
/-- an entry more -/
theorem inv_upd {X : Cx} {pins : List (Addr × Obj)} {σ : L2.St} {H : Hp} {s : Shared} {p : Addr} {o : HO} (J : L2.Inv X pins σ H s) (ho : ObjOk X.prog X.w (upd H p o) s.heap p o)
    (hp : H p = none ∧ X.s_0.heap.get? p = none ∧ p ≠ X.env.locals ∧ (∀ (x : Str) (c : Addr), X.env.cells.lookup x = some c → c ≠ p) ∧ ∀ q ∈ X.pn ++ pins, q.1 ≠ p) : L2.Inv X pins σ (upd H p o) s := by
  obtain ⟨hp, hn, nL, nc, np⟩ := hp
  have h1 : ∀ b u, H b = some u → upd H p o b = some u := fun b u e => by
    rw [upd_ne fun z => by rw [z, hp] at e; cases e]
    exact e
  have h2 : ∀ b, H b = none → b ≠ p → upd H p o b = none := fun b e hb => by rw [upd_ne hb]; exact e
  refine ⟨J.ok, J.os, J.bare, ⟨J.base.keep, J.base.slot, fun b u e hb hx => ?_, J.base.there, fun b xs e => h1 b _ (J.base.tups b xs e), fun b u v e => h1 b _ (J.base.frzs b u v e), fun b ps e => ?_⟩, J.loc, J.cell, h2 _ J.free nL.symm,
    fun x c e => h2 _ (J.freeC x c e) (nc x c e), fun q hq => ?_, fun b u e => ?_, J.len⟩
  · exact h2 b (J.base.free b u e hb hx) fun y => by rw [y, hn] at e; cases e
  · obtain ⟨more, z⟩ := J.base.tbls b ps e
    exact ⟨more, h1 b _ z⟩
  · obtain ⟨q1, q2, q3, q4, q5⟩ := J.pin q hq
    exact ⟨q1, h2 _ q2 (np q hq), q3, q4, q5⟩
  · by_cases y : b = p
    · subst y
      rw [upd_same] at e
      cases e
      exact ho
    · rw [upd_ne y] at e
      exact (J.hok b u e).stay (fun _ _ _ e => e) (fun c e => h1 c _ e) (fun c xs e => h1 c _ e)
theorem frozen_ok {X : Cx} {pins : List (Addr × Obj)} {σ : L2.St} {H : Hp} {s : Shared} {a : Addr} {oe : Obj} (J : L2.Inv X pins σ H s) (he : s.heap.get? a = some oe) (hn : X.s_0.heap.get? a = none) (na : H a = none)
    (nL : a ≠ X.env.locals) (nc : ∀ (x : Str) (c : Addr), X.env.cells.lookup x = some c → c ≠ a) (np : ∀ p ∈ X.pn ++ pins, p.1 ≠ a) : L2.Inv X pins σ (frozen H a oe) s := by
  refine inv_upd J ?_ ⟨na, hn, nL, nc, np⟩
  unfold ObjOk
  refine ⟨he, ?_⟩
  unfold ObjOk
  exact ⟨he, ⟨oe, he⟩, fun h1 h2 z k => k _ z⟩
theorem ps_try_frz {X : Cx} {x n : Str} {c : Value} {i : Nat} {body suite : List Stmt} {b₀ : Stmt} {np pos pos' : Pos} {tb : WX → TS} {ts : Addr → Value → Option Addr → TS} {Wout : WX}
    (hs : X.stack = X.env :: X.outer) (hf : X.env.frame = some X.env.locals) (hex : X.ex = []) (hN : X.N.Nodup) (hi : X.N[i]? = some n) (hln : X.env.kindOf n = some .local) (hc : Names X x c) (tk : Takes X Wout)
    (hb : ∀ (W : WX) (pn : List (Addr × Obj)) (xe : Value → Shared → Prop), Takes (X.tr pn xe) W → PassesOwn (model X.prog X.w) X.A X.env xe → PSs (X.tr pn xe) body (tb W))
    (hsu : ∀ (a : Addr) (oe : Obj) (cls : Value) (d : Option Addr) (pn : List (Addr × Obj)), Zc cls d oe → (∃ vs, oe.data = .fields vs) → PSs (X.suite a ((a, oe) :: pn)) (b₀ :: suite) (ts a cls d)) :
    PS X (.Try body [.ExceptHandler (some (.Name x np)) (some n) (b₀ :: suite) pos'] [] [] pos) (fun D σ H => tb (wFrz X.K c i ts Wout D) D σ H) := ⟨fun pins s σ H D I h => by
  have ok := I.ok
  have hfr : X.A.frames = some (X.env :: X.outer) := by rw [ok.frames, hs]
  have hloc : L2.Loc X.env.scope n := .inl hln
  refine wpAny_Try_except (wpAny_mono ((hb (wFrz X.K c i ts Wout D) (X.pn ++ pins) (fun e s₁ => wpAny (model X.prog X.w) X.A (noteFrame e X.env) (fun _ s₂ => wpAny (model X.prog X.w) X.A (setFlight e none)
    (fun _ s₃ => wpAny (model X.prog X.w) X.A (handleBy e X.env [.ExceptHandler (some (.Name x np)) (some n) (b₀ :: suite) pos']) (SP X pins D) X.xe s₃) X.xe s₂) X.xe s₁) (fun u s' xx => ?_) PassesOwn.looking).run [] s σ H D (I.toTry _) h) (fun f s1 hsp => ?_) fun e s1 he => he)
  · obtain ⟨a, B, sI, pins', σ', H', cls, d, rfl, J', nb, up, sky, na, os, ag, b, hb1, hyes, hno⟩ := xx
    have J : L2.Inv X pins σ' H' sI := J'.ofTry ok
    have sky' : Sky B (X.env :: X.outer) a (Zc cls d) X.env.locals s'.heap := by rw [← hs]; exact sky
    refine Sky.land Zc.steady hfr hf sky' fun h3 fl3 up3 => ?_
    have J3 := J.landed (s' := { s' with heap := h3 }) nb fl3.1 (up.trans up3) os ag
    obtain ⟨oe3, vs3, he3, hz3, hd3⟩ := fl3.there
    have nfr : a ∉ frs (X.env :: X.outer) := fun hm => by
      obtain ⟨_, o', e', hnf⟩ := fl3.2.2.1.mem hm
      rw [he3] at e'
      cases e'
      exact hnf _ hd3
    have nL : a ≠ X.env.locals := fun z => nfr (List.mem_filterMap.mpr ⟨X.env, List.mem_cons_self, by rw [hf, z]⟩)
    have nF : a ∉ X.fs := fun hm => by
      obtain ⟨e, he, q⟩ := List.mem_filterMap.mp hm
      exact nfr (List.mem_filterMap.mpr ⟨e, List.mem_cons_of_mem _ he, q⟩)
    have S3 := J3.suite he3 hd3 na nL nF
    have nI : sI.heap.get? a = none := by
      cases e : sI.heap.get? a with
      | none => rfl
      | some o =>
        have z := nb a o e (by rw [hs]; exact nfr)
        rw [fl3.2.1] at z
        cases z
    have n0 : X.s_0.heap.get? a = none := by
      cases e : X.s_0.heap.get? a with
      | none => rfl
      | some o =>
        obtain ⟨o', z⟩ := J.base.there a o e (by rw [hex]; intro z; cases z)
        rw [nI] at z
        cases z
    have nc : ∀ (x : Str) (c : Addr), X.env.cells.lookup x = some c → c ≠ a := fun x c e z => by
      obtain ⟨v, o, q, _⟩ := J.cell x c e
      rw [z, nI] at q
      cases q
    have npn : ∀ p ∈ X.pn ++ pins, p.1 ≠ a := fun p hp z => by
      have q := (J.pin p hp).1
      rw [z, nI] at q
      cases q
    refine wpAny_handleBy_cons (codeAny_handlers_test ?_) (fun q => by cases q)
    have LM := PySem.W.exm_one (M := model X.prog X.w) (c := c) (cls := cls) (e := a) (b := b) J3.kIn (fun A Q E s k q => wpAny_typeOf_ref (k a oe3 he3) (by rw [hz3.1]; exact q)) hb1
    have test : ∀ {Q : Value → Shared → Prop} {E : Value → Shared → Prop}, Q c { s' with heap := h3 } → wpAny (model X.prog X.w) (X.A.mark (some (.ref a))) (eval (.Name x np) X.env) Q E { s' with heap := h3 } := fun {Q E} q => by
      obtain ⟨hg, hdbg, hm | ⟨hm, hv, hnn⟩⟩ := hc
      · exact ld_glob S3 hg hm q hdbg
      · exact ld_blt S3 hg hm hv q hnn hdbg
    refine test (LM.here ?_)
    cases b with
    | false =>
      refine wpAny_handleBy_nil ?_
      obtain ⟨k1, k2, k3, oe, vs, T, oT, ts', he, hz, hd, h1, hr⟩ := id fl3
      refine wpAny_bind (wpAny_field he hd h1 ?_)
      rw [if_neg (by simp)]
      refine wpAny_bind ?_
      rw [hf]
      refine HandSPX.setFlight_upZ fl3 fun h4 hh4 up4 => wpAny_throw (tk _ _ ⟨a, B, sI, pins, σ', H', cls, d, rfl, J, nb, (up.trans up3).trans up4, .inr (.inr (by rw [hs]; exact hh4)), na, os, ag, hno rfl⟩)
    | true =>
      refine codeAny_handlers_suite_as (HandSPX.lands_againZ fl3 fun h4 fl4 up4 => ?_)
      have J4 := J.landed (s' := { s' with heap := h4 }) nb fl4.1 ((up.trans up3).trans up4) os ag
      obtain ⟨oe4, vs4, he4, hz4, hd4⟩ := fl4.there
      have S4 := J4.suite he4 hd4 na nL nF
      refine store_ok (X := X.suite a ((a, oe4) :: (X.pn ++ pins))) (v := .ref a) S4 hN hi hloc rfl (fun s5 S5 => ?_) (.inr hln)
      refine wpAny_mono ((hsu a oe4 cls d (X.pn ++ pins) hz4 ⟨vs4, hd4⟩).run [] s5 _ H' _ S5 (hyes rfl a oe4 na hz4 ⟨vs4, hd4⟩)) (fun f s6 hsp => ?_) (fun _ _ z => z.elim)
      cases f with
      | next =>
        obtain ⟨σ6, H6, S6, q6⟩ := hsp
        have pin := S6.pin (a, oe4) (by simp)
        have J6 := frozen_ok (S6.unsuite ok) pin.1 n0 pin.2.1 nL nc npn
        exact gone_ok J6 hN hi hln fun s7 J7 => ⟨_, _, J7, q6⟩
      | brk => obtain ⟨σ6, H6, S6, q6⟩ := hsp; exact q6.elim
      | cont => obtain ⟨σ6, H6, S6, q6⟩ := hsp; exact q6.elim
      | ret u => obtain ⟨v6, σ6, H6, S6, r6, q6⟩ := hsp; exact q6.elim
  · cases f with
    | next =>
      obtain ⟨σ', H', J', q⟩ := hsp
      exact wpAny_execs_nil ⟨σ', H', J'.ofTry ok, q⟩
    | brk => obtain ⟨σ', H', J', q⟩ := hsp; exact ⟨σ', H', J'.ofTry ok, q⟩
    | cont => obtain ⟨σ', H', J', q⟩ := hsp; exact ⟨σ', H', J'.ofTry ok, q⟩
    | ret u => obtain ⟨v, σ', H', J', r, q⟩ := hsp; exact ⟨v, σ', H', J'.ofTry ok, r, q⟩⟩
end DL
/-! DL, part b: expressions: names, constants, operators, comparisons, tests. -/
namespace DL
open PySem PySem.Spec PyProof.Rows L2

def Out.ofO {α : Type} : Option (α × Sto) → Out α
  | some (a, S) => .ok a S
  | none => .no
abbrev DenE := Fr → Sto → Out D
abbrev DenT := Fr → Sto → Out Bool
abbrev DenA := Fr → Sto → Out (List D)
abbrev DenS := Fr → Sto → OutS

section
variable {g : Gnd} {W : WX} {σ : St} {H : Hp}
/-- a value of R1 has come, k goes on -/
def K1 {α β γ δ : Type} (g : Gnd) (W : WX) (R1 : Wd → α → β → Prop) (R : Wd → γ → δ → Prop) (σ : St) (k : α → Fr → Sto → Out γ) (Q : δ → Hp → Prop) (x : β) (H1 : Hp) : Prop :=
  ∃ w S fr a, w.H = H1 ∧ SOk g w S ∧ FrOk g w fr σ ∧ R1 w a x ∧ Post g w R (k a fr S) Q (fun c d H' => W c d σ H')
theorem tG_mono {α β : Type} {R : Wd → α → β → Prop} {f : Fr → Sto → Out α} {Q Q' : β → Hp → Prop} (h : tG g W R f σ H Q) (k : ∀ b H', Q b H' → Q' b H') : tG g W R f σ H Q' := by
  obtain ⟨w, S, fr, e, so, fo, p⟩ := h
  refine ⟨w, S, fr, e, so, fo, ?_⟩
  cases q : f fr S with
  | ok a S1 =>
    rw [q] at p
    exact fun w1 b st so1 r => k _ _ (p w1 b st so1 r)
  | ex e S1 =>
    rw [q] at p
    exact p
  | no =>
    rw [q] at p
    exact p
theorem lift1 {α β γ δ : Type} {R1 : Wd → α → β → Prop} {R : Wd → γ → δ → Prop} {f : Fr → Sto → Out α} {k : α → Fr → Sto → Out γ} {Q : δ → Hp → Prop}
    (h : tG g W R (fun fr S => (f fr S).bnd fun a S' => k a fr S') σ H Q) : tG g W R1 f σ H (K1 g W R1 R σ k Q) := by
  obtain ⟨w, S, fr, e, so, fo, p⟩ := h
  refine ⟨w, S, fr, e, so, fo, ?_⟩
  have p : Post g w R ((f fr S).bnd fun a S' => k a fr S') Q (fun c d H' => W c d σ H') := p
  cases q : f fr S with
  | ok a S1 =>
    rw [q] at p
    intro w1 b st so1 r
    exact ⟨w1, S1, fr, a, rfl, so1, fo.mono st.toMono, r, Post.step st p⟩
  | ex e S1 =>
    rw [q] at p
    exact p
  | no =>
    rw [q] at p
    exact p
theorem lift1L {γ δ : Type} {R : Wd → γ → δ → Prop} {f : Fr → Sto → Out (List D)} {k : List D → Fr → Sto → Out γ} {Q : δ → Hp → Prop}
    (h : tG g W R (fun fr S => (f fr S).bnd fun a S' => k a fr S') σ H Q) (Q' : VK) (hq : ∀ v H', K1 g W (RepT g) R σ k Q v H' → Q' v H') : tL g W f σ H Q' := by
  obtain ⟨w, S, fr, e, so, fo, p⟩ := h
  refine ⟨w, S, fr, e, so, fo, ?_⟩
  have p : Post g w R ((f fr S).bnd fun a S' => k a fr S') Q (fun c d H' => W c d σ H') := p
  cases q : f fr S with
  | ok a S1 =>
    rw [q] at p
    intro w1 b st so1 _ r
    exact hq _ _ ⟨w1, S1, fr, a, rfl, so1, fo.mono st.toMono, r, Post.step st p⟩
  | ex e S1 =>
    rw [q] at p
    exact p
  | no =>
    rw [q] at p
    exact p
/-- what was evaluated stays known -/
abbrev Stays {α β : Type} (R1 : Wd → α → β → Prop) : Prop := ∀ w w' a x, Step w w' → R1 w a x → R1 w' a x
def K2 {α β α' β' γ δ : Type} (g : Gnd) (W : WX) (R1 : Wd → α → β → Prop) (R2 : Wd → α' → β' → Prop) (R : Wd → γ → δ → Prop) (σ : St) (k : α → α' → Fr → Sto → Out γ) (Q : δ → Hp → Prop) (x : β) (y : β') (H1 : Hp) : Prop :=
  K1 g W (fun w (p : α × α') (q : β × β') => R1 w p.1 q.1 ∧ R2 w p.2 q.2) R σ (fun p => k p.1 p.2) Q (x, y) H1
theorem next1 {α β α' β' γ δ : Type} {R1 : Wd → α → β → Prop} {R2 : Wd → α' → β' → Prop} {R : Wd → γ → δ → Prop} {f' : Fr → Sto → Out α'} {k : α → α' → Fr → Sto → Out γ} {Q : δ → Hp → Prop} (hm : Stays R1) {x : β}
    (h : K1 g W R1 R σ (fun a fr S => (f' fr S).bnd fun b S' => k a b fr S') Q x H) : tG g W R2 f' σ H fun y H2 => K2 g W R1 R2 R σ k Q x y H2 := by
  obtain ⟨w, S, fr, a, e, so, fo, r1, p⟩ := h
  refine ⟨w, S, fr, e, so, fo, ?_⟩
  cases q : f' fr S with
  | ok b S1 =>
    have p : Post g w R ((f' fr S).bnd fun b S' => k a b fr S') Q (fun c d H' => W c d σ H') := p
    rw [q] at p
    intro w1 y st so1 r
    exact ⟨w1, S1, fr, (a, b), rfl, so1, fo.mono st.toMono, ⟨hm _ _ _ _ st r1, r⟩, Post.step st p⟩
  | ex e S1 =>
    have p : Post g w R ((f' fr S).bnd fun b S' => k a b fr S') Q (fun c d H' => W c d σ H') := p
    rw [q] at p
    exact p
  | no =>
    have p : Post g w R ((f' fr S).bnd fun b S' => k a b fr S') Q (fun c d H' => W c d σ H') := p
    rw [q] at p
    exact p
theorem Stays.and {α β α' β' : Type} {R1 : Wd → α → β → Prop} {R2 : Wd → α' → β' → Prop} (h1 : Stays R1) (h2 : Stays R2) : Stays (fun w (p : α × α') (q : β × β') => R1 w p.1 q.1 ∧ R2 w p.2 q.2) :=
  fun w w' a x st r => ⟨h1 _ _ _ _ st r.1, h2 _ _ _ _ st r.2⟩
theorem lift2 {α β α' β' γ δ : Type} {R1 : Wd → α → β → Prop} {R2 : Wd → α' → β' → Prop} {R : Wd → γ → δ → Prop} {f : Fr → Sto → Out α} {f' : Fr → Sto → Out α'} {k : α → α' → Fr → Sto → Out γ} {Q : δ → Hp → Prop}
    (hm : Stays R1) (h : tG g W R (fun fr S => (f fr S).bnd fun a S' => (f' fr S').bnd fun b S'' => k a b fr S'') σ H Q) :
    tG g W R1 f σ H fun x H1 => tG g W R2 f' σ H1 fun y H2 => K2 g W R1 R2 R σ k Q x y H2 := tG_mono (lift1 h) fun x H1 q => next1 hm q
theorem rmono {w w' : Wd} {a : D} {x : V} (s : Step w w') (r : Rep g w a x) : Rep g w' a x := Rep.mono s.toMono _ _ r
theorem Post.ofO {α β : Type} {w : Wd} {R : Wd → α → β → Prop} {o : Option (α × Sto)} {Q : β → Hp → Prop} {E E' : XK} (p : Post g w R (.ofO o) Q E) : Post g w R (.ofO o) Q E' := by
  cases o with
  | none => exact p
  | some q => exact p
/-- one more reading -/
theorem PE_or {X : Cx} {e : Expr} {t t' : TE} (h : PE X e t) (h' : PE X e t') : PE X e (fun σ H Q => t σ H Q ∨ t' σ H Q) :=
  ⟨fun pins s σ H Q I q => q.elim (h.run pins s σ H Q I) (h'.run pins s σ H Q I)⟩
theorem PS_or {X : Cx} {e : Stmt} {t t' : TS} (h : PS X e t) (h' : PS X e t') : PS X e (fun D σ H => t D σ H ∨ t' D σ H) :=
  ⟨fun pins s σ H D I q => q.elim (h.run pins s σ H D I) (h'.run pins s σ H D I)⟩
theorem PI_or {X : Cx} {tg e : Expr} {t t' : TI} (h : PI X tg e t) (h' : PI X tg e t') : PI X tg e (fun σ H Q => t σ H Q ∨ t' σ H Q) :=
  ⟨fun pins s σ H Q I q => q.elim (h.run pins s σ H Q I) (h'.run pins s σ H Q I)⟩
end

/-! ### names and constants -/
def dVar (i : Nat) : DenE := fun fr S => match fr[i]? with
  | some (some d) => .ok d S
  | _ => .no
def dC (d : D) : DenE := fun _ S => .ok d S
section
variable {X : Cx} {W : WX} {g : Gnd}
theorem de_var {i : Nat} {e : Expr} (h : PE X e (tVar i)) : PE X e (tE g W (dVar i)) := by
  refine PE.weaken h fun σ H Q q => ?_
  obtain ⟨w, S, fr, rfl, so, fo, p⟩ := q
  unfold dVar at p
  split at p
  · rename_i d e
    obtain ⟨v, e1, r⟩ := fo.at_ i d e
    exact ⟨v, e1, p w v (Step.refl so) so r⟩
  · exact p.elim
/-- a value that hangs on nothing -/
theorem de_con {d : D} {v : V} {e : Expr} (hr : ∀ w, Rep g w d v) (h : PE X e (tC v)) : PE X e (tE g W (dC d)) := by
  refine PE.weaken h fun σ H Q q => ?_
  obtain ⟨w, S, fr, rfl, so, fo, p⟩ := q
  exact p w v (Step.refl so) so (hr w)
end

/-! ### two-place operators -/
abbrev F2 := D → D → Sto → Option (D × Sto)
def dOp (f : F2) (a b : DenE) : DenE := fun fr S => (a fr S).bnd fun x S' => (b fr S').bnd fun y S'' => .ofO (f x y S'')
/-- f, by values -/
def r2 (g : Gnd) (f : F2) : R2 := fun x y H Q => ∃ w S a b, w.H = H ∧ SOk g w S ∧ Rep g w a x ∧ Rep g w b y ∧ Post g w (Rep g) (.ofO (f a b S)) Q (fun _ _ _ => False)
section
variable {X : Cx} {W : WX} {g : Gnd} {a b : Expr} {fa fb : DenE} {f : F2} {pos : Pos}
theorem lift_op {σ : St} {H : Hp} {Q : VK} (h : tE g W (dOp f fa fb) σ H Q) : tOp (r2 g f) (tE g W fa) (tE g W fb) σ H Q := by
  refine tG_mono (lift2 (R1 := Rep g) (R2 := Rep g) (R := Rep g) (k := fun x y fr S => .ofO (f x y S)) (fun _ _ _ _ s r => rmono s r) h) fun x H1 h1 => tG_mono h1 fun y H2 h2 => ?_
  obtain ⟨w, S, fr, p, e, so, fo, ⟨rx, ry⟩, q⟩ := h2
  exact ⟨w, S, p.1, p.2, e, so, rx, ry, Post.ofO q⟩
theorem de_op {op : Operator} (ho : OpR X (binaryOp op) (r2 g f)) (ha : PE X a (tE g W fa)) (hb : PE X b (tE g W fb)) : PE X (.BinOp a op b pos) (tE g W (dOp f fa fb)) :=
  PE.weaken (pe_op ho ha hb) fun _ _ _ h => lift_op h
theorem de_cmp {op : CmpOp} (ho : OpR X (compareOp op) (r2 g f)) (ha : PE X a (tE g W fa)) (hb : PE X b (tE g W fb)) (hm : behindInMarks op b = false) : PE X (.Compare a [op] [b] pos) (tE g W (dOp f fa fb)) :=
  PE.weaken (pe_cmpR ho ha hb hm) fun _ _ _ h => lift_op h
end
end DL
/-! DM, part d: tuple * int, list * int. -/
namespace DMd
open PySem PySem.Spec PyProof.Rows L2
section
variable (l : Addr) (items : Array Value) (n : Nat) (dd : Option Addr) (sl : Array (Option Value)) (u : Tok)
theorem once (hne : items.isEmpty = false) : Meets (Builtin.«tuple.__mul__» ⟨[.ref l, .int 1 u], []⟩) (fun _ R s => s.heap.get? l = some { cls := .type "tuple", dict := dd, data := .seq items n, slots := sl } ∧ R (.ok (.ret (.ref l))) s) :=
  .of_wp fun prog w A R s h => by
    obtain ⟨hp, g, d, tk, os⟩ := s
    obtain ⟨hl, h⟩ := h
    have f1 := AutoSeq1.idx_int
    wp_walk using wpAny_loadPart' hl
    repeat (first
      | (refine wpAny_ite_false (decide_eq_false (by simp)) ?_; wp_walk using wpAny_loadPart' hl)
      | (refine wpAny_ite_true (decide_eq_true (by simp)) ?_; wp_walk using wpAny_loadPart' hl))
    exact ⟨_, rfl, h⟩
theorem none_ (x : Int) (hx : -(2 ^ 63) ≤ x) (h0 : x ≤ 0) (hne : items.isEmpty = false) : Meets (Builtin.«tuple.__mul__» ⟨[.ref l, .int x u], []⟩) (fun _ R s => s.heap.get? l = some { cls := .type "tuple", dict := dd, data := .seq items n, slots := sl } ∧
      R (.ok (.ret (.ref s.heap.objs.size))) { s with heap := s.heap.push { cls := Value.type "tuple", data := Data.seq #[] }, toks := s.toks }) :=
  .of_wp fun prog w A R s h => by
    obtain ⟨hp, g, d, tk, os⟩ := s
    obtain ⟨hl, h⟩ := h
    have f1 := AutoSeq1.idx_int
    have c0 : (decide (x < -(2 ^ 63)) || decide (x ≥ 2 ^ 63)) = false := by
      rw [decide_eq_false (by omega), decide_eq_false (by omega)]; rfl
    have c1 : (items.isEmpty || x == 1) = false := by
      rw [hne, Bool.false_or]
      exact beq_eq_false_iff_ne.mpr (by omega)
    have c2 : (decide (x ≤ 0) || items.isEmpty) = true := by rw [decide_eq_true h0]; rfl
    wp_walk using wpAny_loadPart' hl
    repeat (first
      | (refine wpAny_ite_false (decide_eq_false (by rw [c0]; exact Bool.false_ne_true)) ?_; wp_walk using wpAny_loadPart' hl)
      | (refine wpAny_ite_false (decide_eq_false (by rw [c1]; exact Bool.false_ne_true)) ?_; wp_walk using wpAny_loadPart' hl)
      | (refine wpAny_ite_true (decide_eq_true c2) ?_; wp_walk using wpAny_loadPart' hl))
    exact ⟨_, rfl, h⟩
end
/-- tuple * k, k not negative -/
def rMulT (K : PySem.W.Frag) : R2 := fun x y H Q => ∃ l k xs, x = .ref l ∧ y = .int k ∧ SqT K H l xs ∧ xs ≠ [] ∧ 0 ≤ k ∧ k ≤ 1000 ∧ xs.length ≤ 1000 ∧ (k = 1 → Q (.ref l) H) ∧ (k ≠ 1 → ∀ p, H p = none → Q (.ref p) (upd H p (.tup (List.replicate k.toNat xs).flatten)))
theorem op_mulT {X : Cx} : OpR X (binaryOp .Mult) (rMulT X.K) := by
  intro pins s σ H x y v u Q I rx ry h
  obtain ⟨l, k, xs, rfl, rfl, hT, hne, h1, h2, hz, q1, q2⟩ := h
  by_cases hk : 2 ≤ k
  · exact op_repT pins s σ H _ _ v u Q I rx ry ⟨l, k, xs, rfl, rfl, hT, hne, hk, h2, hz, q2 (by omega)⟩
  · cases rx
    obtain ⟨t, rfl⟩ := ry
    obtain ⟨its, r, ⟨⟨cls, dd, data, sl⟩, ho, hc, n, hd⟩, hs⟩ := I.tuple hT
    simp only at hc hd
    subst hc hd
    have hi : its.toArray.isEmpty = false := by
      cases r with
      | nil => exact absurd rfl hne
      | cons a b => rfl
    by_cases hk1 : k = 1
    · subst hk1
      exact wpAny_binaryOp_repeat_ref (T := "tuple") (U := "int") (by decide) ⟨_, ho, rfl⟩ (fun s' => typeIs_int s' 1 t) noFill_tuple_mul F.fills_int_mul F.slot_int_rmul repeat_tuple F.slot_int_index.lookup
        (call_meets F.slot_int_rmul (typeIs_int s 1 t) F.entry_int_rmul (F.args_int_rmul_2 _ _) (int_rmul_tuple 1 t l its.toArray n dd sl)
          ⟨ho, rfl, ⟨_, ho, rfl⟩, call_meets F.slot_tuple_mul ⟨_, ho, rfl⟩ F.entry_tuple_mul (F.args_tuple_mul_2 _ _) (once l its.toArray n dd sl t hi) ⟨ho, ⟨.ref l, _, I, rfl, q1 rfl⟩⟩⟩)
    · obtain rfl : k = 0 := by omega
      refine wpAny_binaryOp_repeat_ref (T := "tuple") (U := "int") (by decide) ⟨_, ho, rfl⟩ (fun s' => typeIs_int s' 0 t) noFill_tuple_mul F.fills_int_mul F.slot_int_rmul repeat_tuple F.slot_int_index.lookup
        (call_meets F.slot_int_rmul (typeIs_int s 0 t) F.entry_int_rmul (F.args_int_rmul_2 _ _) (int_rmul_tuple 0 t l its.toArray n dd sl)
          ⟨ho, rfl, ⟨_, ho, rfl⟩, call_meets F.slot_tuple_mul ⟨_, ho, rfl⟩ F.entry_tuple_mul (F.args_tuple_mul_2 _ _) (none_ l its.toArray n dd sl t 0 (by decide) (by decide) hi) ⟨ho, ?_⟩⟩)
      exact ⟨.ref s.heap.objs.size, _, I.laid (t' := s.toks) (o := .tup []) (fun b ob q => Heap.get?_push_of_some _ q) (Nat.le_refl _) ⟨Nat.zero_le _, [], .nil, IsTup.new _ _⟩, rfl, q2 (by decide) _ (I.hok.fresh (Nat.le_refl _))⟩
end DMd
/-! DL, part c: the operators by data. -/
namespace DL
open PySem PySem.Spec PyProof.Rows L2

/-! ### + -/
def aAdd : F2 := fun a b S => match a, b with
  | .int i, .int j => some (.int (i + j), S)
  | .int i, .bl k => some (.int (i + b2i k), S)
  | .str x, .str y => if x.length + y.length ≤ sizeLine then some (.str (x ++ y), S) else none
  | .tup xs, .tup ys => if xs.length + ys.length ≤ sizeLine then some (.tup (xs ++ ys), S) else none
  | .ob i, .ob j => match S[i]?, S[j]? with
    | some (.lst xs), some (.lst ys) => if xs.length + ys.length ≤ sizeLine then some (.ob S.length, S ++ [.lst (xs ++ ys)]) else none
    | _, _ => none
  | .rl xs, .ob j => match S[j]? with
    | some (.lst ys) => if xs.length + ys.length ≤ sizeLine then some (.ob S.length, S ++ [.lst (xs ++ ys)]) else none
    | _ => none
  | _, _ => none
section
variable {X : Cx} {g : Gnd}
/-- a list that is read, whatever it is -/
theorem lst_exact {pins : List (Addr × Obj)} {σ : St} {H : Hp} {s : Shared} {a : Addr} {xs : List V} (I : Inv X pins σ H s) (h : SqL X.K H a xs) :
    ∃ (its : List Value) (n : Nat) (dd : Option Addr) (sl : Array (Option Value)), Vals xs its ∧ s.heap.get? a = some ⟨.type "list", dd, .seq its.toArray n, sl⟩ ∧ xs.length ≤ sizeLine := by
  obtain ⟨its, r, ⟨⟨c, d, dt, sl⟩, n, e, h1, h2, h3⟩, z⟩ := I.list h
  simp only at h1 h2 h3
  subst h1 h2 h3
  exact ⟨its, n, _, sl, r, e, z⟩
def rCatL (K : PySem.W.Frag) : R2 := fun x y H Q => ∃ l b xs zs, x = .ref l ∧ y = .ref b ∧ SqL K H l xs ∧ SqL K H b zs ∧ xs.length + zs.length ≤ sizeLine ∧ ∀ p, H p = none → Q (.ref p) (upd H p (.lst (xs ++ zs)))
theorem op_catL : OpR X (binaryOp .Add) (rCatL X.K) := by
  intro pins s σ H x y v u Q I rx ry h
  obtain ⟨l, b, xs, zs, rfl, rfl, hH, hB, hz, q⟩ := h
  obtain rfl : v = .ref l := rx
  obtain rfl : u = .ref b := ry
  obtain ⟨its, n, dd, sl, r, e, z⟩ := lst_exact I hH
  obtain ⟨its2, n2, dd2, sl2, r2, e2, z2⟩ := lst_exact I hB
  have h1 := r.length
  have h2 := r2.length
  have gives := list_addW l b its.toArray its2.toArray n n2 dd dd2 sl sl2 (by rw [List.size_toArray, List.size_toArray]; omega)
  refine concat_meets (T := "list") ⟨_, e, rfl⟩ ⟨_, e2, rfl⟩ noFill_list_add seq_list_add PySem.F.slot_list_add
    PySem.F.entry_list_add (PySem.F.args_list_add_2 _ _) gives ⟨e, e2, ?_⟩
  have ea : its.toArray ++ its2.toArray = (its ++ its2).toArray := by simp
  rw [ea]
  exact ⟨.ref _, _, I.lnew (t' := s.toks) (r.append r2) (by rw [List.length_append]; omega), rfl, q _ I.fresh⟩
theorem SOk.sql {w : Wd} {S : Sto} (so : SOk g w S) {i : Nat} {xs : List D} (e : S[i]? = some (.lst xs)) : ∃ vs, w.H (w.m i) = some (.lst vs) ∧ Reps g w xs vs ∧ xs.length ≤ sizeLine := by
  obtain ⟨h, e2, r⟩ := so.ob i _ e
  cases r with
  | lst l r => exact ⟨_, e2, r, l⟩
theorem opr_add : OpR X (binaryOp .Add) (r2 ⟨X.K, X.mg, X.w⟩ aAdd) := by
  intro pins s σ H x y v u Q I rx ry h
  obtain ⟨w, S, a, b, rfl, so, ra, rb, p⟩ := h
  have stp := Step.refl so
  unfold aAdd at p
  split at p
  · cases ra; cases rb
    exact op_add pins s σ _ _ _ v u Q I rx ry ⟨_, _, rfl, rfl, p w _ stp so (.int _)⟩
  · cases ra; cases rb
    exact op_add_ib pins s σ _ _ _ v u Q I rx ry ⟨_, _, rfl, rfl, p w _ stp so (.int _)⟩
  · cases ra; cases rb
    split at p
    · rename_i hl
      exact op_add_str pins s σ _ _ _ v u Q I rx ry ⟨_, _, rfl, rfl, hl, p w _ stp so (.str _)⟩
    · exact p.elim
  · cases ra with
    | tup ta la ra =>
      cases rb with
      | tup tb lb rb =>
        split at p
        · rename_i hl
          have l1 := ra.length
          have l2 := rb.length
          refine op_catA pins s σ _ _ _ v u Q I rx ry ⟨_, _, _, _, rfl, rfl, ta, tb, by omega, fun e => ?_, fun _ e => ?_, fun _ _ q hq => ?_⟩
          · subst e
            cases ra
            exact p w _ stp so (.tup tb lb rb)
          · subst e
            cases rb
            rw [List.append_nil] at p
            exact p w _ stp so (.tup ta la ra)
          · obtain ⟨st, so', _⟩ := Step.put so hq (.tup _)
            exact p _ _ st so' (.tup (SqT.of upd_same) (by rw [List.length_append]; exact hl) (Reps.mono st.toMono _ _ (ra.append rb)))
        · exact p.elim
  · cases ra; cases rb
    split at p
    · rename_i ea eb
      obtain ⟨vs, h1, r1, _⟩ := so.sql ea
      obtain ⟨us, h2, r2, _⟩ := so.sql eb
      split at p
      · rename_i hl
        have l1 := r1.length
        have l2 := r2.length
        refine op_catL pins s σ _ _ _ v u Q I rx ry ⟨_, _, _, _, rfl, rfl, SqL.of h1, SqL.of h2, by omega, fun q hq => ?_⟩
        obtain ⟨st, so', em⟩ := Step.new so hq (.lst (by rw [List.length_append]; exact hl) (r1.append r2))
        exact p _ _ st so' em
      · exact p.elim
    · exact p.elim
  · cases ra with
    | rl ta la ra =>
      cases rb
      split at p
      · rename_i eb
        obtain ⟨us, h2, r2, _⟩ := so.sql eb
        split at p
        · rename_i hl
          have l1 := ra.length
          have l2 := r2.length
          refine op_catL pins s σ _ _ _ v u Q I rx ry ⟨_, _, _, _, rfl, rfl, ta.sql, SqL.of h2, by omega, fun q hq => ?_⟩
          obtain ⟨st, so', em⟩ := Step.new so hq (.lst (by rw [List.length_append]; exact hl) (ra.append r2))
          exact p _ _ st so' em
        · exact p.elim
      · exact p.elim
  · exact p.elim
end

/-! ### ints -/
/-- two ints in, a value out -/
def iOp (f : Int → Int → Option D) : F2 := fun a b S => match a, b with
  | .int i, .int j => (f i j).map fun d => (d, S)
  | _, _ => none
instance (i j : Int) : Decidable (CMul i j) := inferInstanceAs (Decidable (_ ∨ _))
instance (i j : Int) : Decidable (CDivN i j) := inferInstanceAs (Decidable (_ ∧ _))
instance (i j : Int) : Decidable (CPow i j) := inferInstanceAs (Decidable (_ ∧ _))
def aSub : F2 := iOp fun i j => some (.int (i - j))
def aMul : F2 := fun a b S => match a, b with
  | .int i, .int j => if CMul i j then some (.int (i * j), S) else none
  | .tup xs, .int k => if xs.isEmpty = false ∧ 0 ≤ k ∧ k ≤ 1000 ∧ xs.length ≤ 1000 then some (.tup (List.replicate k.toNat xs).flatten, S) else none
  | .ob n, .int k => match S[n]? with
    | some (.lst xs) => if 0 ≤ k ∧ k ≤ 1000 ∧ xs.length ≤ 1000 then some (.ob S.length, S ++ [.lst (List.replicate k.toNat xs).flatten]) else none
    | _ => none
  | _, _ => none
def aMod : F2 := iOp fun i j => if j ≠ 0 then some (.int (i.fmod j)) else none
/-- a divisor that the layer takes -/
def DivOk (i j : Int) : Prop := CDivN i j ∨ (0 < j ∧ j.natAbs < 2 ^ 100)
instance (i j : Int) : Decidable (DivOk i j) := inferInstanceAs (Decidable (_ ∨ _))
def aFDiv : F2 := iOp fun i j => if DivOk i j then some (.int (i.fdiv j)) else none
def aPow : F2 := iOp fun i j => if CPow i j then some (.int (i ^ j.toNat)) else none
def aShl : F2 := iOp fun i j => if CPow i j then some (.int (i * 2 ^ j.toNat)) else none
section
variable {X : Cx} {g : Gnd}
theorem opr_int {f : Value → Value → Sem Value} {C : Int → Int → Prop} {k : Int → Int → Int} {q : Int → Int → Option D} (ho : OpR X f (rI C fun i j => .int (k i j))) (hq : ∀ i j d, q i j = some d → C i j ∧ d = .int (k i j)) :
    OpR X f (r2 ⟨X.K, X.mg, X.w⟩ (iOp q)) := by
  intro pins s σ H x y v u Q I rx ry h
  obtain ⟨w, S, a, b, rfl, so, ra, rb, p⟩ := h
  unfold iOp at p
  split at p
  · rename_i i j
    cases ra; cases rb
    cases e : q i j with
    | none => rw [e] at p; exact p.elim
    | some d =>
      rw [e] at p
      obtain ⟨c, rfl⟩ := hq i j d e
      exact ho pins s σ _ _ _ v u Q I rx ry ⟨i, j, rfl, rfl, c, p w _ (Step.refl so) so (.int _)⟩
  · exact p.elim
theorem opr_sub : OpR X (binaryOp .Sub) (r2 ⟨X.K, X.mg, X.w⟩ aSub) := by
  refine opr_int (C := fun _ _ => True) (k := fun i j => i - j) (fun pins s σ H x y v u Q I rx ry h => ?_) fun i j d e => ⟨trivial, (Option.some.inj e).symm⟩
  obtain ⟨i, j, e1, e2, _, q⟩ := h
  exact op_sub pins s σ H x y v u Q I rx ry ⟨i, j, e1, e2, q⟩
theorem opt_if {c : Prop} [Decidable c] {d e : D} (h : (if c then some d else none) = some e) : c ∧ e = d := by
  by_cases q : c
  · rw [if_pos q] at h
    exact ⟨q, (Option.some.inj h).symm⟩
  · rw [if_neg q] at h
    cases h
theorem Reps.rep {g : Gnd} {w : Wd} {xs : List D} {vs : List V} (r : Reps g w xs vs) : ∀ k : Nat, Reps g w (List.replicate k xs).flatten (List.replicate k vs).flatten
  | 0 => .nil
  | k + 1 => by
    rw [List.replicate_succ, List.replicate_succ, List.flatten_cons, List.flatten_cons]
    exact r.append (Reps.rep r k)
theorem rep_len {α : Type} (xs : List α) : ∀ k : Nat, (List.replicate k xs).flatten.length = k * xs.length
  | 0 => by simp
  | k + 1 => by rw [List.replicate_succ, List.flatten_cons, List.length_append, rep_len xs k, Nat.succ_mul, Nat.add_comm]
theorem opr_mul : OpR X (binaryOp .Mult) (r2 ⟨X.K, X.mg, X.w⟩ aMul) := by
  intro pins s σ H x y v u Q I rx ry h
  obtain ⟨w, S, a, b, rfl, so, ra, rb, p⟩ := h
  have stp := Step.refl so
  have small : ∀ {k : Int} {n : Nat}, 0 ≤ k → k ≤ 1000 → n ≤ 1000 → k.toNat * n ≤ sizeLine := fun {k n} h1 h2 h3 => by
    have a1 : k.toNat * n ≤ 1000 * 1000 := Nat.mul_le_mul (by omega) h3
    rw [sizeLine_eq]
    omega
  unfold aMul at p
  split at p
  · cases ra; cases rb
    split at p
    · rename_i hc
      exact op_mul pins s σ _ _ _ v u Q I rx ry ⟨_, _, rfl, rfl, hc, p w _ stp so (.int _)⟩
    · exact p.elim
  · rename_i xs k
    cases ra with
    | tup ta la ra =>
      cases rb
      split at p
      · rename_i hc
        obtain ⟨h1, h2, h3, h4⟩ := hc
        have el := ra.length
        refine DMd.op_mulT pins s σ _ _ _ v u Q I rx ry ⟨_, _, _, rfl, rfl, ta, fun e => ?_, h2, h3, by omega, fun e => ?_, fun _ q hq => ?_⟩
        · subst e
          cases ra
          cases h1
        · subst e
          have e1 : (List.replicate (Int.toNat 1) xs).flatten = xs := by simp
          rw [e1] at p
          exact p w _ stp so (.tup ta la ra)
        · obtain ⟨st, so', _⟩ := Step.put so hq (.tup _)
          exact p _ _ st so' (.tup (SqT.of upd_same) (by rw [rep_len]; exact small h2 h3 h4) (Reps.mono st.toMono _ _ (ra.rep _)))
      · exact p.elim
  · cases ra; cases rb
    split at p
    · rename_i ea
      obtain ⟨vs, h1, r1, _⟩ := so.sql ea
      split at p
      · rename_i hc
        obtain ⟨h2, h3, h4⟩ := hc
        have el := r1.length
        refine op_rep pins s σ _ _ _ v u Q I rx ry ⟨_, _, _, rfl, rfl, h1, by omega, by omega, by rw [← el, Nat.mul_comm]; exact small h2 h3 h4, fun q hq => ?_⟩
        obtain ⟨st, so', em⟩ := Step.new so hq (.lst (by rw [rep_len]; exact small h2 h3 h4) (r1.rep _))
        exact p _ _ st so' em
      · exact p.elim
    · exact p.elim
  · exact p.elim
theorem opr_mod : OpR X (binaryOp .Mod) (r2 ⟨X.K, X.mg, X.w⟩ aMod) := opr_int op_modN fun _ _ _ e => opt_if e
theorem op_fdivB : OpR X (binaryOp .FloorDiv) (rI DivOk fun i j => .int (i.fdiv j)) := by
  intro pins s σ H x y v u Q I rx ry h
  obtain ⟨i, j, rfl, rfl, hc, q⟩ := h
  rcases hc with hc | ⟨h0, h1⟩
  · exact op_fdivN pins s σ H _ _ v u Q I rx ry ⟨i, j, rfl, rfl, hc, q⟩
  · refine op_fdivW pins s σ H _ _ v u Q I rx ry ⟨i, j, rfl, rfl, wide_div h0 h1 (by decide) (by decide), ?_⟩
    have e : i.fdiv j = i / j := Int.fdiv_eq_ediv_of_nonneg i (by omega)
    show Q (.int (i / j)) H
    rw [← e]
    exact q
theorem opr_fdiv : OpR X (binaryOp .FloorDiv) (r2 ⟨X.K, X.mg, X.w⟩ aFDiv) := opr_int op_fdivB fun _ _ _ e => opt_if e
theorem opr_pow : OpR X (binaryOp .Pow) (r2 ⟨X.K, X.mg, X.w⟩ aPow) := opr_int op_pow fun _ _ _ e => opt_if e
theorem opr_shl : OpR X (binaryOp .LShift) (r2 ⟨X.K, X.mg, X.w⟩ aShl) := opr_int op_shl fun _ _ _ e => opt_if e
end
end DL
/-! DL, part d: comparisons, truth. -/
namespace DL
open PySem PySem.Spec PyProof.Rows L2

/-! ### order -/
def oOp (p : Int → Int → Bool) (q : List Nat → List Nat → Bool) : F2 := fun a b S => match a, b with
  | .int i, .int j => some (.bl (p i j), S)
  | .str x, .str y => some (.bl (q x.cps.toList y.cps.toList), S)
  | _, _ => none
def aLt : F2 := oOp (fun i j => decide (i < j)) fun x y => decide (x < y)
def aLe : F2 := oOp (fun i j => decide (i ≤ j)) fun x y => !decide (y < x)
def aGt : F2 := oOp (fun i j => decide (j < i)) fun x y => decide (y < x)
def aGe : F2 := oOp (fun i j => decide (j ≤ i)) fun x y => !decide (x < y)
section
variable {X : Cx}
theorem opr_ord {f : Value → Value → Sem Value} {p : Int → Int → Bool} {q : List Nat → List Nat → Bool} (h1 : OpR X f (rI0 fun i j => .bl (p i j)))
    (h2 : OpR X f (fun x y H Q => ∃ i j, x = .str i ∧ y = .str j ∧ Q (.bl (q i.cps.toList j.cps.toList)) H)) : OpR X f (r2 ⟨X.K, X.mg, X.w⟩ (oOp p q)) := by
  intro pins s σ H x y v u Q I rx ry h
  obtain ⟨w, S, a, b, rfl, so, ra, rb, k⟩ := h
  unfold oOp at k
  split at k
  · cases ra; cases rb
    exact h1 pins s σ _ _ _ v u Q I rx ry ⟨_, _, rfl, rfl, k w _ (Step.refl so) so (.bl _)⟩
  · cases ra; cases rb
    exact h2 pins s σ _ _ _ v u Q I rx ry ⟨_, _, rfl, rfl, k w _ (Step.refl so) so (.bl _)⟩
  · exact k.elim
theorem opr_lt : OpR X (compareOp .Lt) (r2 ⟨X.K, X.mg, X.w⟩ aLt) := opr_ord op_lt op_lt_str
theorem opr_le : OpR X (compareOp .LtE) (r2 ⟨X.K, X.mg, X.w⟩ aLe) := opr_ord op_le op_le_str
theorem opr_gt : OpR X (compareOp .Gt) (r2 ⟨X.K, X.mg, X.w⟩ aGt) := opr_ord op_gt op_gt_str
theorem opr_ge : OpR X (compareOp .GtE) (r2 ⟨X.K, X.mg, X.w⟩ aGe) := opr_ord op_ge op_ge_str
end

/-! ### data as the library's data -/
mutual
def toP (f : Nat → Option PyData) : D → Option PyData
  | .non => some .none
  | .bl b => some (.bool b)
  | .int i => some (.int i)
  | .str x => some (.str x)
  | .tup xs => (toPs f xs).map .tuple
  | .rl xs => (toPs f xs).map .list
  | .ob n => f n
  | .ty _ => none
  | .gl _ => none
  | .kd _ _ => none
  | .xo _ _ _ => none
def toPs (f : Nat → Option PyData) : List D → Option (List PyData)
  | [] => some []
  | d :: ds => match toP f d, toPs f ds with
    | some p, some ps => some (p :: ps)
    | _, _ => none
end
def obP : Nat → Sto → Nat → Option PyData
  | 0, _, _ => none
  | k + 1, S, n => match S[n]? with
    | some (.lst xs) => (toPs (obP k S) xs).map .list
    | _ => none
/-- what == sees -/
def dP (S : Sto) (d : D) : Option PyData := toP (obP 12 S) d
section
variable {g : Gnd} {w : Wd} {S : Sto}
mutual
theorem toP_ok {f : Nat → Option PyData} (hf : ∀ n p, f n = some p → n < w.n → Dp g.K w.H (.ref (w.m n)) p ∧ p.plain = true) : ∀ (d : D) (v : V) (p : PyData), Rep g w d v → toP f d = some p → Dp g.K w.H v p ∧ p.plain = true
  | .non, _, _, r, e => by cases r; cases e; exact ⟨.non, rfl⟩
  | .bl b, _, _, r, e => by cases r; cases e; exact ⟨.bl b, rfl⟩
  | .int i, _, _, r, e => by cases r; cases e; exact ⟨.int i, rfl⟩
  | .str x, _, _, r, e => by cases r; cases e; exact ⟨.str x, rfl⟩
  | .ob n, _, p, r, e => by
    cases r with
    | ob h => exact hf n p e h
  | .ty _, _, _, _, e => by cases e
  | .gl _, _, _, _, e => by cases e
  | .kd _ _, _, _, _, e => by cases e
  | .xo _ _ _, _, _, _, e => by cases e
  | .tup xs, _, _, r, e => by
    cases r with
    | tup t l r =>
      unfold toP at e
      cases q : toPs f xs with
      | none => rw [q] at e; cases e
      | some ps =>
        rw [q] at e
        cases e
        obtain ⟨h1, h2⟩ := toPs_ok hf xs _ ps r q
        exact ⟨.tup t h1, by unfold PyData.plain; exact h2⟩
  | .rl xs, _, _, r, e => by
    cases r with
    | rl t l r =>
      unfold toP at e
      cases q : toPs f xs with
      | none => rw [q] at e; cases e
      | some ps =>
        rw [q] at e
        cases e
        obtain ⟨h1, h2⟩ := toPs_ok hf xs _ ps r q
        exact ⟨.lst t.sql h1, by unfold PyData.plain; exact h2⟩
theorem toPs_ok {f : Nat → Option PyData} (hf : ∀ n p, f n = some p → n < w.n → Dp g.K w.H (.ref (w.m n)) p ∧ p.plain = true) : ∀ (ds : List D) (vs : List V) (ps : List PyData), Reps g w ds vs → toPs f ds = some ps → DpAll g.K w.H vs ps ∧ PyData.plainAll ps = true
  | [], _, _, r, e => by cases r; cases e; exact ⟨.nil, rfl⟩
  | d :: ds, _, _, r, e => by
    cases r with
    | cons r1 r2 =>
      unfold toPs at e
      split at e
      · rename_i p ps e1 e2
        cases e
        obtain ⟨a, b⟩ := toP_ok hf d _ p r1 e1
        obtain ⟨c, dd⟩ := toPs_ok hf ds _ ps r2 e2
        refine ⟨.cons a c, ?_⟩
        unfold PyData.plainAll
        rw [b, dd]
        rfl
      · cases e
end
theorem obP_ok (so : SOk g w S) : ∀ (k n : Nat) (p : PyData), obP k S n = some p → n < w.n → Dp g.K w.H (.ref (w.m n)) p ∧ p.plain = true
  | 0, _, _, e, _ => by cases e
  | k + 1, n, p, e, h => by
    unfold obP at e
    split at e
    · rename_i xs q
      obtain ⟨vs, hv, rv, l⟩ := so.sql q
      cases e2 : toPs (obP k S) xs with
      | none => rw [e2] at e; cases e
      | some ps =>
        rw [e2] at e
        cases e
        obtain ⟨h1, h2⟩ := toPs_ok (fun n p => obP_ok so k n p) xs _ ps rv e2
        exact ⟨.lst (SqL.of hv) h1, by unfold PyData.plain; exact h2⟩
    · cases e
theorem dP_ok (so : SOk g w S) {d : D} {v : V} {p : PyData} (r : Rep g w d v) (e : dP S d = some p) : Dp g.K w.H v p ∧ p.plain = true := toP_ok (fun n p => obP_ok so 12 n p) d v p r e
end
/-- == by data -/
def eqP (neg : Bool) : F2 := fun a b S => match dP S a, dP S b with
  | some p, some q => if min p.depth q.depth ≤ 100 then some (.bl (if neg then !PyData.eqv p q else PyData.eqv p q), S) else none
  | _, _ => match neg, a, b with
    | false, .tup xs, .tup [] => some (.bl xs.isEmpty, S)
    | neg, .ob n, .ob m => (match S[n]?, S[m]? with
      | some (.lst xs), some (.lst ys) => if xs.length ≠ ys.length then some (.bl neg, S) else none
      | _, _ => none)
    | _, _, _ => none
abbrev aEq : F2 := eqP false
abbrev aNe : F2 := eqP true
section
variable {X : Cx}
theorem plainL_list {h : Heap} {a : Addr} {vs : Array Value} (p : PlainL h a vs) : h.IsList a vs := let ⟨o, n, h1, h2, _, h4⟩ := p; ⟨o, h1, h2, n, h4⟩
theorem two_lists {pins : List (Addr × Obj)} {σ : L2.St} {s : Shared} {w : Wd} {S : Sto} {n m : Nat} {x y : V} {v u : Value} {xs ys : List D} (so : SOk ⟨X.K, X.mg, X.w⟩ w S) (I : Inv X pins σ w.H s) (ra : Rep ⟨X.K, X.mg, X.w⟩ w (.ob n) x) (rb : Rep ⟨X.K, X.mg, X.w⟩ w (.ob m) y) (rx : RelV x v) (ry : RelV y u)
    (e1 : S[n]? = some (.lst xs)) (e2 : S[m]? = some (.lst ys)) : ∃ (l b : Addr) (i1 i2 : Array Value) (_ : True), v = .ref l ∧ u = .ref b ∧ s.heap.IsList l i1 ∧ s.heap.IsList b i2 ∧ xs.length = i1.size ∧ ys.length = i2.size := by
  cases ra with
  | ob h1 =>
    cases rb with
    | ob h2 =>
      obtain rfl : v = .ref _ := rx
      obtain rfl : u = .ref _ := ry
      obtain ⟨vs, hv, rv, _⟩ := so.sql e1
      obtain ⟨us, hu, ru, _⟩ := so.sql e2
      obtain ⟨i1, q1, q2, _⟩ := I.list (SqL.of hv)
      obtain ⟨i2, q3, q4, _⟩ := I.list (SqL.of hu)
      exact ⟨_, _, i1.toArray, i2.toArray, trivial, rfl, rfl, plainL_list q2, plainL_list q4, by rw [rv.length]; simpa using q1.length, by rw [ru.length]; simpa using q3.length⟩
theorem opr_eq (hu : X.A.units + 200 < cLine) : OpR X (compareOp .Eq) (r2 ⟨X.K, X.mg, X.w⟩ aEq) := by
  intro pins s σ H x y v u Q I rx ry h
  obtain ⟨w, S, a, b, rfl, so, ra, rb, k⟩ := h
  unfold aEq eqP at k
  split at k
  · rename_i p q ep eq
    split at k
    · rename_i hd
      obtain ⟨d1, p1⟩ := dP_ok so ra ep
      obtain ⟨d2, p2⟩ := dP_ok so rb eq
      obtain ⟨as, r1⟩ := Dp.reads I p x v d1 rx
      obtain ⟨bs, r2⟩ := Dp.reads I q y u d2 ry
      exact SeqAt.eq_plain r1 r2 p1 p2 (by omega) ⟨.bl _, _, I, rfl, k w _ (Step.refl so) so (.bl _)⟩
    · exact k.elim
  · split at k
    · rename_i xs _ hh
      cases ra with
      | tup ha la rsa =>
        cases rb with
        | tup hb lb rsb =>
          cases rsb
          obtain rfl : v = .ref _ := rx
          obtain rfl : u = .ref _ := ry
          obtain ⟨its, hv, ht, _⟩ := I.tuple ha
          obtain ⟨its2, hv2, ht2, _⟩ := I.tuple hb
          cases hv2
          refine SeqAt.eq_tupleAt (e := fun _ => true) ht ht2 (by omega) (fun j h1 h2 => absurd h2 (by simp)) ⟨.bl xs.isEmpty, _, I, ?_, k w _ (Step.refl so) so (.bl _)⟩
          show Value.bool _ = Value.bool _
          congr 1
          have l1 : xs.length = its.length := by rw [rsa.length]; exact hv.length
          cases xs <;> cases its <;> simp_all
    · rename_i n m _ hh _
      split at k
      · rename_i xs ys e1 e2
        split at k
        · rename_i hl
          obtain ⟨l1, l2, z1, z2, _, rfl, rfl, q1, q2, q3⟩ := two_lists so I ra rb rx ry e1 e2
          exact SeqAt.eq_list_lengthsAt q1 q2 (by rw [bne_iff_ne]; rw [← q3.1, ← q3.2]; exact hl) (by omega) ⟨.bl _, _, I, rfl, k w _ (Step.refl so) so (.bl _)⟩
        · exact k.elim
      · exact k.elim
    · exact k.elim
theorem opr_ne (hu : X.A.units + 200 < cLine) : OpR X (compareOp .NotEq) (r2 ⟨X.K, X.mg, X.w⟩ aNe) := by
  intro pins s σ H x y v u Q I rx ry h
  obtain ⟨w, S, a, b, rfl, so, ra, rb, k⟩ := h
  unfold aNe eqP at k
  split at k
  · rename_i p q ep eq
    split at k
    · rename_i hd
      obtain ⟨d1, p1⟩ := dP_ok so ra ep
      obtain ⟨d2, p2⟩ := dP_ok so rb eq
      obtain ⟨as, r1⟩ := Dp.reads I p x v d1 rx
      obtain ⟨bs, r2⟩ := Dp.reads I q y u d2 ry
      exact SeqAt.ne_plain r1 r2 p1 p2 (by omega) ⟨.bl _, _, I, rfl, k w _ (Step.refl so) so (.bl _)⟩
    · exact k.elim
  · split at k
    · rename_i h _
      cases h
    · rename_i n m _ hh _
      split at k
      · rename_i xs ys e1 e2
        split at k
        · rename_i hl
          obtain ⟨l1, l2, z1, z2, _, rfl, rfl, q1, q2, q3⟩ := two_lists so I ra rb rx ry e1 e2
          exact SeqAt.RcNeAt.lists_lengths q1 q2 (by rw [bne_iff_ne]; rw [← q3.1, ← q3.2]; exact hl) (by omega) X.prog X.w X.xe _ ⟨.bl _, _, I, rfl, k w _ (Step.refl so) so (.bl _)⟩
        · exact k.elim
      · exact k.elim
    · exact k.elim
end

/-! ### in -/
def keyD : D → Option Key
  | .int i => some (.inl i)
  | .str x => some (.inr x)
  | _ => none
def valD (kvs : List (Key × D)) (k : Key) : Option D := (kvs.find? fun kv => decide (kv.1 = k)).map (·.2)
theorem keyD_ok {g : Gnd} {w : Wd} {d : D} {v : V} {k : Key} (r : Rep g w d v) (e : keyD d = some k) : v = kV k := by
  cases r <;> cases e <;> rfl
theorem valD_ok {g : Gnd} {w : Wd} {k : Key} : ∀ {kvs : List (Key × D)} {kus : List (Key × V)}, kvs.map (·.1) = kus.map (·.1) → Reps g w (kvs.map (·.2)) (kus.map (·.2)) →
    (∀ d, valD kvs k = some d → ∃ v, valV kus k = some v ∧ Rep g w d v) ∧ (valD kvs k = none → valV kus k = none)
  | [], [], _, _ => ⟨fun d e => (by cases e), fun _ => rfl⟩
  | [], _ :: _, e, _ => by cases e
  | _ :: _, [], e, _ => by cases e
  | (a, d) :: kvs, (b, v) :: kus, e, r => by
    simp only [List.map_cons, List.cons.injEq] at e
    obtain ⟨e1, e2⟩ := e
    subst e1
    cases r with
    | cons r1 r2 =>
      obtain ⟨h1, h2⟩ := valD_ok (k := k) e2 r2
      unfold valD valV
      simp only [List.find?_cons]
      by_cases q : a = k
      · simp only [q, decide_true, Option.map_some]
        exact ⟨fun d' e => by cases e; exact ⟨v, rfl, r1⟩, fun e => by cases e⟩
      · simp only [q, decide_false]
        exact ⟨h1, h2⟩
theorem valD_isSome {g : Gnd} {w : Wd} {k : Key} {kvs : List (Key × D)} {kus : List (Key × V)} (e : kvs.map (·.1) = kus.map (·.1)) (r : Reps g w (kvs.map (·.2)) (kus.map (·.2))) : (valV kus k).isSome = (valD kvs k).isSome := by
  obtain ⟨q1, q2⟩ := valD_ok (k := k) e r
  cases z : valD kvs k with
  | none => rw [q2 z]; rfl
  | some d =>
    obtain ⟨v', ev, _⟩ := q1 d z
    rw [ev]
    rfl
theorem SOk.dka {g : Gnd} {w : Wd} {S : Sto} (so : SOk g w S) {i : Nat} {kvs : List (Key × D)} (e : S[i]? = some (.dk kvs)) :
    ∃ kus, w.H (w.m i) = some (.dK kus) ∧ kvs.length ≤ sizeLine ∧ kvs.map (·.1) = kus.map (·.1) ∧ Reps g w (kvs.map (·.2)) (kus.map (·.2)) := by
  obtain ⟨h, e2, r⟩ := so.ob i _ e
  cases r with
  | dk l e r => exact ⟨_, e2, l, e, r⟩
/-- a written dict, read -/
def kdGet (ks : List Str) (vs : List D) (x : Str) : Option D := (ks.zip vs).lookup x
theorem kd_look {g : Gnd} {w : Wd} {z : Str} : ∀ {ks : List Str} {ws : List Value} {us : List V} {vs : List D}, Vals us ws → Reps g w vs us →
    (∀ d, kdGet ks vs z = some d → ∃ u v, (ks.zip ws).lookup z = some u ∧ RelV v u ∧ Rep g w d v) ∧ (kdGet ks vs z = none → (ks.zip ws).lookup z = none)
  | [], _, _, _, _, _ => ⟨fun d e => (by cases e), fun _ => rfl⟩
  | k :: ks, _, _, _, .nil, .nil => ⟨fun d e => (by cases e), fun _ => rfl⟩
  | k :: ks, _, _, _, .cons r1 t1, .cons r2 t2 => by
    obtain ⟨h1, h2⟩ := kd_look (z := z) (ks := ks) t1 t2
    unfold kdGet
    simp only [List.zip_cons_cons, List.lookup_cons]
    by_cases q : z == k
    · rw [q]
      exact ⟨fun d e => by cases e; exact ⟨_, _, rfl, r1, r2⟩, fun e => by cases e⟩
    · rw [Bool.not_eq_true] at q
      rw [q]
      exact ⟨h1, h2⟩
theorem kd_some {g : Gnd} {w : Wd} {z : Str} {ks : List Str} {ws : List Value} {us : List V} {vs : List D} (h1 : Vals us ws) (h2 : Reps g w vs us) : ((ks.zip ws).lookup z).isSome = (kdGet ks vs z).isSome := by
  obtain ⟨q1, q2⟩ := kd_look (z := z) (ks := ks) h1 h2
  cases e : kdGet ks vs z with
  | none => rw [q2 e]; rfl
  | some d =>
    obtain ⟨u, v, e2, _⟩ := q1 d e
    rw [e2]
    rfl
/-- one sign, or a text, within a text -/
def subS (x y : Str) : Bool := match x.cps.toList with
  | [c] => decide (c ∈ y.cps.toList)
  | _ => !(Builtin.Str.occurrences y x 0 y.length 1).isEmpty
def inP (neg : Bool) : F2 := fun a b S => match b with
  | .str y => match a with
    | .str x => some (.bl (if neg then !subS x y else subS x y), S)
    | _ => none
  | .kd ks vs => match a with
    | .str x => some (.bl (if neg then !(kdGet ks vs x).isSome else (kdGet ks vs x).isSome), S)
    | _ => none
  | _ => match (match b with | .ob n => S[n]? | _ => none) with
    | some (.dk kvs) => match keyD a with
      | some k => some (.bl (if neg then !(valD kvs k).isSome else (valD kvs k).isSome), S)
      | none => none
    | _ => match dP S a, dP S b with
      | some p, some (.list qs) => if PyData.depthAll qs ≤ 100 then some (.bl (if neg then !(qs.any fun z => PyData.eqv z p) else qs.any fun z => PyData.eqv z p), S) else none
      | some p, some (.tuple qs) => if PyData.depthAll qs ≤ 100 then some (.bl (if neg then !(qs.any fun z => PyData.eqv z p) else qs.any fun z => PyData.eqv z p), S) else none
      | _, _ => none
abbrev aIn : F2 := inP false
abbrev aNotIn : F2 := inP true
theorem str_one {x : Str} {c : Nat} (h : x.cps.toList = [c]) : x = ⟨#[c]⟩ := by
  obtain ⟨a⟩ := x
  have : a = #[c] := by
    apply Array.toList_inj.mp
    exact h
  rw [this]
section
variable {X : Cx}
theorem opr_in (hu : X.A.units + 200 < cLine) : OpR X (compareOp .In) (r2 ⟨X.K, X.mg, X.w⟩ aIn) := by
  intro pins s σ H x y v u Q I rx ry h
  obtain ⟨w, S, a, b, rfl, so, ra, rb, k⟩ := h
  have stp := Step.refl so
  unfold aIn inP at k
  split at k
  · rename_i y0
    split at k
    · rename_i x0
      cases ra; cases rb
      replace k := k w _ stp so (.bl _)
      simp only [Bool.false_eq_true, if_false] at k
      unfold subS at k
      split at k
      · rename_i c e
        have e := str_one e
        subst e
        exact op_in_sign pins s σ _ _ _ v u Q I rx ry ⟨c, y0, rfl, rfl, k⟩
      · exact op_in_str pins s σ _ _ _ v u Q I rx ry ⟨x0, y0, rfl, rfl, k⟩
    · exact k.elim
  · split at k
    · cases ra
      cases rb with
      | kd kk ke kl kr =>
        replace k := k w _ stp so (.bl _)
        simp only [Bool.false_eq_true, if_false] at k
        rw [← kd_some kl kr] at k
        exact op_in_kd kk pins s σ _ _ _ v u Q I rx ry ⟨_, _, rfl, rfl, ke _, k⟩
    · exact k.elim
  · split at k
    · rename_i kvs e
      split at k
      · rename_i kk ek
        have e1 := keyD_ok ra ek
        subst e1
        cases b with
        | ob n =>
          obtain ⟨kus, eh, l, e2, r2⟩ := so.dka e
          cases rb
          obtain rfl : u = .ref (w.m n) := ry
          refine d_in (by omega) I (DGet.k (k := kk) eh) rx fun s3 I3 => ⟨.bl _, _, I3, rfl, ?_⟩
          have k := k w _ stp so (.bl _)
          simp only [Bool.false_eq_true, if_false] at k
          rw [valD_isSome e2 r2]
          exact k
        | _ => cases e
      · exact k.elim
    · split at k
      · rename_i p qs ep eq
        split at k
        · rename_i hd
          obtain ⟨d1, p1⟩ := dP_ok so ra ep
          obtain ⟨d2, p2⟩ := dP_ok so rb eq
          obtain ⟨as, r1⟩ := Dp.reads I p x v d1 rx
          obtain ⟨bs, r2⟩ := Dp.reads I _ y u d2 ry
          have k := k w _ stp so (.bl _)
          simp only [Bool.false_eq_true, if_false] at k
          exact SeqAt.in_list_data r2 r1 (by unfold PyData.plain at p2; exact p2) p1 (by omega) ⟨.bl _, _, I, rfl, k⟩
        · exact k.elim
      · rename_i p qs ep eq
        split at k
        · rename_i hd
          obtain ⟨d1, p1⟩ := dP_ok so ra ep
          obtain ⟨d2, p2⟩ := dP_ok so rb eq
          obtain ⟨as, r1⟩ := Dp.reads I p x v d1 rx
          obtain ⟨bs, r2⟩ := Dp.reads I _ y u d2 ry
          have k := k w _ stp so (.bl _)
          simp only [Bool.false_eq_true, if_false] at k
          exact SeqAt.in_tuple_data r2 r1 (by unfold PyData.plain at p2; exact p2) p1 (by omega) ⟨.bl _, _, I, rfl, k⟩
        · exact k.elim
      · exact k.elim
theorem opr_notIn (hu : X.A.units + 200 < cLine) : OpR X (compareOp .NotIn) (r2 ⟨X.K, X.mg, X.w⟩ aNotIn) := by
  intro pins s σ H x y v u Q I rx ry h
  obtain ⟨w, S, a, b, rfl, so, ra, rb, k⟩ := h
  have stp := Step.refl so
  unfold aNotIn inP at k
  split at k
  · rename_i y0
    split at k
    · rename_i x0
      cases ra; cases rb
      replace k := k w _ stp so (.bl _)
      simp only [if_true] at k
      unfold subS at k
      split at k
      · rename_i c e
        have e := str_one e
        subst e
        exact op_notIn_sign pins s σ _ _ _ v u Q I rx ry ⟨c, y0, rfl, rfl, k⟩
      · exact op_notIn_str pins s σ _ _ _ v u Q I rx ry ⟨x0, y0, rfl, rfl, k⟩
    · exact k.elim
  · split at k
    · cases ra
      cases rb with
      | kd kk ke kl kr =>
        replace k := k w _ stp so (.bl _)
        simp only [if_true] at k
        rw [← kd_some kl kr] at k
        exact op_notIn_kd kk pins s σ _ _ _ v u Q I rx ry ⟨_, _, rfl, rfl, ke _, k⟩
    · exact k.elim
  · split at k
    · rename_i kvs e
      split at k
      · rename_i kk ek
        have e1 := keyD_ok ra ek
        subst e1
        cases b with
        | ob n =>
          obtain ⟨kus, eh, l, e2, r2⟩ := so.dka e
          cases rb
          obtain rfl : u = .ref (w.m n) := ry
          refine d_notIn (by omega) I (DGet.k (k := kk) eh) rx fun s3 I3 => ⟨.bl _, _, I3, rfl, ?_⟩
          have k := k w _ stp so (.bl _)
          simp only [if_true] at k
          rw [valD_isSome e2 r2]
          exact k
        | _ => cases e
      · exact k.elim
    · split at k
      · rename_i p qs ep eq
        split at k
        · rename_i hd
          obtain ⟨d1, p1⟩ := dP_ok so ra ep
          obtain ⟨d2, p2⟩ := dP_ok so rb eq
          obtain ⟨as, r1⟩ := Dp.reads I p x v d1 rx
          obtain ⟨bs, r2⟩ := Dp.reads I _ y u d2 ry
          have k := k w _ stp so (.bl _)
          simp only [if_true] at k
          exact SeqAt.notIn_list_data r2 r1 (by unfold PyData.plain at p2; exact p2) p1 (by omega) ⟨.bl _, _, I, rfl, k⟩
        · exact k.elim
      · rename_i p qs ep eq
        split at k
        · rename_i hd
          obtain ⟨d1, p1⟩ := dP_ok so ra ep
          obtain ⟨d2, p2⟩ := dP_ok so rb eq
          obtain ⟨as, r1⟩ := Dp.reads I p x v d1 rx
          obtain ⟨bs, r2⟩ := Dp.reads I _ y u d2 ry
          have k := k w _ stp so (.bl _)
          simp only [if_true] at k
          exact SeqAt.notIn_tuple_data r2 r1 (by unfold PyData.plain at p2; exact p2) p1 (by omega) ⟨.bl _, _, I, rfl, k⟩
        · exact k.elim
      · exact k.elim
end

/-! ### is None, is True -/
def isNon : D → Bool
  | .non => true
  | _ => false
def isP (neg : Bool) : F2 := fun a b S => match b with
  | .non => some (.bl (if neg then !isNon a else isNon a), S)
  | .bl k => match a with
    | .bl j => some (.bl (if neg then !decide (j = k) else decide (j = k)), S)
    | _ => none
  | _ => none
abbrev aIs : F2 := isP false
abbrev aIsNot : F2 := isP true
theorem isNon_ok {g : Gnd} {w : Wd} {d : D} {v : V} (r : Rep g w d v) : decide (v = .non) = isNon d := by
  cases r <;> simp [isNon]
section
variable {X : Cx}
theorem opr_is : OpR X (compareOp .Is) (r2 ⟨X.K, X.mg, X.w⟩ aIs) := by
  intro pins s σ H x y v u Q I rx ry h
  obtain ⟨w, S, a, b, rfl, so, ra, rb, k⟩ := h
  have stp := Step.refl so
  unfold aIs isP at k
  split at k
  · cases rb
    have k := k w _ stp so (.bl _)
    simp only [Bool.false_eq_true, if_false] at k
    exact op_isN pins s σ _ _ _ v u Q I rx ry ⟨rfl, by rw [isNon_ok ra]; exact k⟩
  · split at k
    · cases ra; cases rb
      have k := k w _ stp so (.bl _)
      simp only [Bool.false_eq_true, if_false] at k
      exact op_isBl pins s σ _ _ _ v u Q I rx ry ⟨_, _, rfl, rfl, k⟩
    · exact k.elim
  · exact k.elim
theorem opr_isNot : OpR X (compareOp .IsNot) (r2 ⟨X.K, X.mg, X.w⟩ aIsNot) := by
  intro pins s σ H x y v u Q I rx ry h
  obtain ⟨w, S, a, b, rfl, so, ra, rb, k⟩ := h
  have stp := Step.refl so
  unfold aIsNot isP at k
  split at k
  · cases rb
    have k := k w _ stp so (.bl _)
    simp only [if_true] at k
    exact op_notN pins s σ _ _ _ v u Q I rx ry ⟨rfl, by rw [isNon_ok ra]; exact k⟩
  · split at k
    · cases ra; cases rb
      have k := k w _ stp so (.bl _)
      simp only [if_true] at k
      exact op_notBl pins s σ _ _ _ v u Q I rx ry ⟨_, _, rfl, rfl, k⟩
    · exact k.elim
  · exact k.elim
end

/-! ### truth -/
def truD (d : D) (S : Sto) : Option Bool := match d with
  | .non => some false
  | .bl b => some b
  | .int i => some (i != 0)
  | .str x => if x.length ≤ sizeLine then some ((x.length : Int) != 0) else none
  | .tup xs => some (!xs.isEmpty)
  | .rl xs => some (!xs.isEmpty)
  | .ob n => match S[n]? with
    | some (.lst xs) => some (!xs.isEmpty)
    | some (.dk kvs) => some (!kvs.isEmpty)
    | _ => none
  | _ => none
theorem Reps.empty {g : Gnd} {w : Wd} {ds : List D} {vs : List V} (r : Reps g w ds vs) : ds.isEmpty = vs.isEmpty := by
  cases r <;> rfl
theorem truD_ok {g : Gnd} {w : Wd} {S : Sto} (so : SOk g w S) {d : D} {v : V} {b : Bool} (r : Rep g w d v) (e : truD d S = some b) : TruV g.K v w.H b := by
  unfold truD at e
  split at e
  · cases r; cases e; exact rfl
  · cases r; cases e; exact rfl
  · cases r; cases e; exact rfl
  · cases r
    split at e
    · cases e; exact ⟨by assumption, rfl⟩
    · cases e
  · cases r with
    | tup t l r =>
      cases e
      exact .inr (.inl ⟨_, t, by rw [r.empty]⟩)
  · cases r with
    | rl t l r =>
      cases e
      exact .inl ⟨_, t.sql, by rw [r.empty]⟩
  · cases r
    split at e
    · rename_i q
      obtain ⟨vs, hv, rv, l⟩ := so.sql q
      cases e
      exact .inl ⟨_, SqL.of hv, by rw [rv.empty]⟩
    · rename_i kvs q
      obtain ⟨h, eh, rh⟩ := so.ob _ _ q
      cases rh with
      | dk l e2 r2 =>
        cases e
        refine .inr (.inr ⟨_, eh, ?_⟩)
        have := congrArg List.length e2
        rw [List.length_map, List.length_map] at this
        rename_i kus
        cases kvs <;> cases kus <;> first | rfl | (simp at this)
    · cases e
  · cases e
end DL
/-! DL, part e: tests, and or not, displays, subscripts, slices, built-in functions. -/
namespace DL
open PySem PySem.Spec PyProof.Rows L2

/-! ### tests -/
def dTr (f : DenE) : DenT := fun fr S => (f fr S).bnd fun d S' => match truD d S' with
  | some b => .ok b S'
  | none => .no
def dTAnd (t u : DenT) : DenT := fun fr S => (t fr S).bnd fun b S' => match b with
  | true => u fr S'
  | false => .ok false S'
def dTOr (t u : DenT) : DenT := fun fr S => (t fr S).bnd fun b S' => match b with
  | true => .ok true S'
  | false => u fr S'
def dTNot (t : DenT) : DenT := fun fr S => (t fr S).bnd fun b S' => .ok (!b) S'
def dIf {α : Type} (t : DenT) (f h : Fr → Sto → Out α) : Fr → Sto → Out α := fun fr S => (t fr S).bnd fun b S' => match b with
  | true => f fr S'
  | false => h fr S'
def dAndV (f h : DenE) : DenE := fun fr S => (f fr S).bnd fun d S' => match truD d S' with
  | some true => h fr S'
  | some false => .ok d S'
  | none => .no
def dOrV (f h : DenE) : DenE := fun fr S => (f fr S).bnd fun d S' => match truD d S' with
  | some true => .ok d S'
  | some false => h fr S'
  | none => .no
def dNotV (f : DenE) : DenE := fun fr S => (f fr S).bnd fun d S' => match truD d S' with
  | some b => .ok (.bl (!b)) S'
  | none => .no
section
variable {X : Cx} {W : WX} {a b : Expr} {pos : Pos} {fa fb : DenE} {ft fu : DenT} {rest : List Expr}
theorem dt_truth (ha : PE X a (tE ⟨X.K, X.mg, X.w⟩ W fa)) (he : ∀ whole, isTrue a X.env whole = (do let v ← whole; standAt a.pos; holding [v] (truthy v))) : PT X a (tT ⟨X.K, X.mg, X.w⟩ W (dTr fa)) := by
  refine PT.weaken (pt_truth ha he) fun σ H Q h => tG_mono (lift1 h) fun x H1 q => ?_
  obtain ⟨w, S, fr, d, rfl, so, fo, r, p⟩ := q
  dsimp only at p
  cases e : truD d S with
  | none => rw [e] at p; exact p.elim
  | some k =>
    rw [e] at p
    exact ⟨k, truD_ok so r e, p w k (Step.refl so) so rfl⟩
theorem dt_not (ha : PT X a (tT ⟨X.K, X.mg, X.w⟩ W ft)) : PT X (.UnaryOp .Not a pos) (tT ⟨X.K, X.mg, X.w⟩ W (dTNot ft)) := by
  refine PT.weaken (pt_not ha) fun σ H Q h => tG_mono (lift1 h) fun x H1 q => ?_
  obtain ⟨w, S, fr, d, rfl, so, fo, rfl, p⟩ := q
  exact p w _ (Step.refl so) so rfl
theorem dw_and (ha : PT X a (tT ⟨X.K, X.mg, X.w⟩ W ft)) (hb : PW X (.BoolOp .And (b :: rest) pos) (tT ⟨X.K, X.mg, X.w⟩ W fu)) : PW X (.BoolOp .And (a :: b :: rest) pos) (tT ⟨X.K, X.mg, X.w⟩ W (dTAnd ft fu)) := by
  refine PW.weaken (pw_and ha hb) fun σ H Q h => tG_mono (lift1 h) fun x H1 q => ?_
  obtain ⟨w, S, fr, d, rfl, so, fo, rfl, p⟩ := q
  cases d with
  | true => exact iteT ⟨w, S, fr, rfl, so, fo, p⟩
  | false => exact iteF (p w _ (Step.refl so) so rfl)
theorem dw_or (ha : PT X a (tT ⟨X.K, X.mg, X.w⟩ W ft)) (hb : PW X (.BoolOp .Or (b :: rest) pos) (tT ⟨X.K, X.mg, X.w⟩ W fu)) : PW X (.BoolOp .Or (a :: b :: rest) pos) (tT ⟨X.K, X.mg, X.w⟩ W (dTOr ft fu)) := by
  refine PW.weaken (pw_or ha hb) fun σ H Q h => tG_mono (lift1 h) fun x H1 q => ?_
  obtain ⟨w, S, fr, d, rfl, so, fo, rfl, p⟩ := q
  cases d with
  | true => exact iteT (p w _ (Step.refl so) so rfl)
  | false => exact iteF ⟨w, S, fr, rfl, so, fo, p⟩
theorem de_if {c : Expr} (hc : PT X c (tT ⟨X.K, X.mg, X.w⟩ W ft)) (ha : PE X a (tE ⟨X.K, X.mg, X.w⟩ W fa)) (hb : PE X b (tE ⟨X.K, X.mg, X.w⟩ W fb)) : PE X (.IfExp c a b pos) (tE ⟨X.K, X.mg, X.w⟩ W (dIf ft fa fb)) := by
  refine PE.weaken (pe_ifExp hc ha hb) fun σ H Q h => tG_mono (lift1 h) fun x H1 q => ?_
  obtain ⟨w, S, fr, d, rfl, so, fo, rfl, p⟩ := q
  cases d with
  | true => exact iteT ⟨w, S, fr, rfl, so, fo, p⟩
  | false => exact iteF ⟨w, S, fr, rfl, so, fo, p⟩
theorem de_and (ha : PE X a (tE ⟨X.K, X.mg, X.w⟩ W fa)) (hb : PE X (.BoolOp .And (b :: rest) pos) (tE ⟨X.K, X.mg, X.w⟩ W fb)) : PE X (.BoolOp .And (a :: b :: rest) pos) (tE ⟨X.K, X.mg, X.w⟩ W (dAndV fa fb)) := by
  refine PE.weaken (pe_andT ha hb) fun σ H Q h => tG_mono (lift1 h) fun x H1 q => ?_
  obtain ⟨w, S, fr, d, rfl, so, fo, r, p⟩ := q
  dsimp only at p
  cases e : truD d S with
  | none => rw [e] at p; exact p.elim
  | some k =>
    rw [e] at p
    refine ⟨k, truD_ok so r e, ?_⟩
    cases k with
    | true => exact iteT ⟨w, S, fr, rfl, so, fo, p⟩
    | false => exact iteF (p w _ (Step.refl so) so r)
theorem de_or (ha : PE X a (tE ⟨X.K, X.mg, X.w⟩ W fa)) (hb : PE X (.BoolOp .Or (b :: rest) pos) (tE ⟨X.K, X.mg, X.w⟩ W fb)) : PE X (.BoolOp .Or (a :: b :: rest) pos) (tE ⟨X.K, X.mg, X.w⟩ W (dOrV fa fb)) := by
  refine PE.weaken (pe_orT ha hb) fun σ H Q h => tG_mono (lift1 h) fun x H1 q => ?_
  obtain ⟨w, S, fr, d, rfl, so, fo, r, p⟩ := q
  dsimp only at p
  cases e : truD d S with
  | none => rw [e] at p; exact p.elim
  | some k =>
    rw [e] at p
    refine ⟨k, truD_ok so r e, ?_⟩
    cases k with
    | true => exact iteT (p w _ (Step.refl so) so r)
    | false => exact iteF ⟨w, S, fr, rfl, so, fo, p⟩
theorem de_not (ha : PE X a (tE ⟨X.K, X.mg, X.w⟩ W fa)) : PE X (.UnaryOp .Not a pos) (tE ⟨X.K, X.mg, X.w⟩ W (dNotV fa)) := by
  refine PE.weaken (pe_notT ha) fun σ H Q h => tG_mono (lift1 h) fun x H1 q => ?_
  obtain ⟨w, S, fr, d, rfl, so, fo, r, p⟩ := q
  dsimp only at p
  cases e : truD d S with
  | none => rw [e] at p; exact p.elim
  | some k =>
    rw [e] at p
    exact ⟨k, truD_ok so r e, p w _ (Step.refl so) so (.bl _)⟩
end

/-! ### a comparison as a test; a < b < c -/
def dCmpT (f : F2) (a b : DenE) : DenT := fun fr S => (a fr S).bnd fun x S' => (b fr S').bnd fun y S'' => match f x y S'' with
  | some (.bl k, S3) => .ok k S3
  | _ => .no
def dChain (f f' : F2) (a b c : DenE) : DenE := fun fr S => (a fr S).bnd fun x S' => (b fr S').bnd fun y S'' => match f x y S'' with
  | some (.bl true, S3) => (c fr S3).bnd fun z S4 => .ofO (f' y z S4)
  | some (.bl false, S3) => .ok (.bl false) S3
  | _ => .no
def dChainT (f f' : F2) (a b c : DenE) : DenT := fun fr S => (dChain f f' a b c fr S).bnd fun d S' => match d with
  | .bl k => .ok k S'
  | _ => .no
section
variable {X : Cx} {W : WX} {a b c : Expr} {pos : Pos} {fa fb fc : DenE} {f f' : F2} {op op' : CmpOp}
theorem tB_of {e : Expr} {t : TE} {fe : DenE} {ft : DenT} (h : PT X e (tTest t)) (hk : ∀ σ H Q, tE ⟨X.K, X.mg, X.w⟩ W fe σ H Q → t σ H Q)
    (hf : ∀ fr S, ft fr S = (fe fr S).bnd fun d S' => match d with | .bl k => .ok k S' | _ => .no) : PT X e (tT ⟨X.K, X.mg, X.w⟩ W ft) := by
  refine PT.weaken h fun σ H Q q => hk σ H _ ?_
  obtain ⟨w, S, fr, e, so, fo, p⟩ := q
  rw [hf] at p
  refine tG_mono (lift1 (R1 := Rep _) (R := fun _ (a b : Bool) => a = b) (k := fun d fr S' => match d with | .bl k => .ok k S' | _ => .no) ⟨w, S, fr, e, so, fo, p⟩) fun x H1 z => ?_
  obtain ⟨w, S, fr, d, rfl, so, fo, r, p⟩ := z
  dsimp only at p
  cases r with
  | bl k => exact ⟨k, rfl, p w k (Step.refl so) so rfl⟩
  | _ => exact p.elim
theorem dt_cmp (ho : OpR X (compareOp op) (r2 ⟨X.K, X.mg, X.w⟩ f)) (ha : PE X a (tE ⟨X.K, X.mg, X.w⟩ W fa)) (hb : PE X b (tE ⟨X.K, X.mg, X.w⟩ W fb)) (hm : behindInMarks op b = false) : PT X (.Compare a [op] [b] pos) (tT ⟨X.K, X.mg, X.w⟩ W (dCmpT f fa fb)) := by
  refine tB_of (fe := dOp f fa fb) (pt_cmpR ho ha hb hm) (fun _ _ _ h => lift_op h) fun fr S => ?_
  unfold dCmpT dOp
  cases fa fr S with
  | no => rfl
  | ex e S' => rfl
  | ok x S' =>
    dsimp only [Out.bnd]
    cases fb fr S' with
    | no => rfl
    | ex e S' => rfl
    | ok y S2 =>
      dsimp only
      cases f x y S2 with
      | none => rfl
      | some q =>
        obtain ⟨d, S3⟩ := q
        cases d <;> rfl
theorem lift_chain {σ : L2.St} {H : Hp} {Q : VK} {g : Gnd} (h : tE g W (dChain f f' fa fb fc) σ H Q) : tChain (r2 g f) (r2 g f') (tE g W fa) (tE g W fb) (tE g W fc) σ H Q := by
  refine tG_mono (lift2 (R1 := Rep g) (R2 := Rep g) (R := Rep g) (k := fun x y fr S => match f x y S with
    | some (.bl true, S3) => (fc fr S3).bnd fun z S4 => .ofO (f' y z S4)
    | some (.bl false, S3) => .ok (.bl false) S3
    | _ => .no) (fun _ _ _ _ s r => rmono s r) h) fun x H1 h1 => tG_mono h1 fun y H2 h2 => ?_
  obtain ⟨w, S, fr, q, e, so, fo, ⟨rx, ry⟩, p⟩ := h2
  obtain ⟨x0, y0⟩ := q
  have p : Post g w (Rep g) (match f x0 y0 S with
    | some (.bl true, S3) => (fc fr S3).bnd fun z S4 => .ofO (f' y0 z S4)
    | some (.bl false, S3) => .ok (.bl false) S3
    | _ => .no) Q (fun c d H' => W c d σ H') := p
  refine ⟨w, S, x0, y0, e, so, rx, ry, ?_⟩
  cases ef : f x0 y0 S with
  | none => rw [ef] at p; exact p.elim
  | some q =>
    obtain ⟨d, S3⟩ := q
    rw [ef] at p
    intro w1 v st so1 r
    cases d with
    | bl k =>
      cases r
      refine ⟨k, rfl, ?_⟩
      cases k with
      | false => exact iteF (p w1 _ st so1 (.bl _))
      | true =>
        refine iteT ?_
        have ry1 := rmono st ry
        refine tG_mono (next1 (R1 := Rep g) (R2 := Rep g) (R := Rep g) (x := y) (f' := fc) (k := fun y0 z fr S4 => .ofO (f' y0 z S4)) (fun _ _ _ _ s r => rmono s r) ⟨w1, S3, fr, y0, rfl, so1, fo.mono st.toMono, ry1, Post.step st p⟩) fun z H4 h4 => ?_
        obtain ⟨w4, S4, fr4, q4, e4, so4, fo4, ⟨r41, r42⟩, p4⟩ := h4
        exact ⟨w4, S4, q4.1, q4.2, e4, so4, r41, r42, Post.ofO p4⟩
    | _ => exact p.elim
theorem de_chain (ho : OpR X (compareOp op) (r2 ⟨X.K, X.mg, X.w⟩ f)) (ho' : OpR X (compareOp op') (r2 ⟨X.K, X.mg, X.w⟩ f')) (ha : PE X a (tE ⟨X.K, X.mg, X.w⟩ W fa)) (hb : PE X b (tE ⟨X.K, X.mg, X.w⟩ W fb)) (hc : PE X c (tE ⟨X.K, X.mg, X.w⟩ W fc))
    (hm : lastMarks [op, op'] [b, c] = false) : PE X (.Compare a [op, op'] [b, c] pos) (tE ⟨X.K, X.mg, X.w⟩ W (dChain f f' fa fb fc)) := PE.weaken (pe_chain ho ho' ha hb hc hm) fun _ _ _ h => lift_chain h
theorem dt_chain (ho : OpR X (compareOp op) (r2 ⟨X.K, X.mg, X.w⟩ f)) (ho' : OpR X (compareOp op') (r2 ⟨X.K, X.mg, X.w⟩ f')) (ha : PE X a (tE ⟨X.K, X.mg, X.w⟩ W fa)) (hb : PE X b (tE ⟨X.K, X.mg, X.w⟩ W fb)) (hc : PE X c (tE ⟨X.K, X.mg, X.w⟩ W fc))
    (hm : lastMarks [op, op'] [b, c] = false) : PT X (.Compare a [op, op'] [b, c] pos) (tT ⟨X.K, X.mg, X.w⟩ W (dChainT f f' fa fb fc)) :=
  tB_of (fe := dChain f f' fa fb fc) (pt_chain ho ho' ha hb hc hm) (fun _ _ _ h => lift_chain h) fun fr S => rfl
end

/-! ### argument lists, displays -/
def dANil : DenA := fun _ S => .ok [] S
def dACons (f : DenE) (h : DenA) : DenA := fun fr S => (f fr S).bnd fun d S' => (h fr S').bnd fun ds S'' => .ok (d :: ds) S''
def dTup (h : DenA) : DenE := fun fr S => (h fr S).bnd fun ds S' => if ds.length ≤ sizeLine then .ok (.tup ds) S' else .no
def dLst (h : DenA) : DenE := fun fr S => (h fr S).bnd fun ds S' => if ds.length ≤ sizeLine then .ok (.ob S'.length) (S' ++ [.lst ds]) else .no
/-- a list that is used at once and by nobody else -/
def dLstT (h : DenA) : DenA := fun fr S => (h fr S).bnd fun ds S' => if ds.length ≤ sizeLine then .ok ds S' else .no
/-- such a list kept -/
def dKeep (h : DenA) : DenE := fun fr S => (h fr S).bnd fun ds S' => .ok (.ob S'.length) (S' ++ [.lst ds])
section
variable {X : Cx} {W : WX} {e : Expr} {es : List Expr} {pos : Pos} {f : DenE} {h : DenA}
theorem da_nil : PA X [] (tA ⟨X.K, X.mg, X.w⟩ W dANil) := by
  refine PA.weaken pa_nil fun σ H Q q => ?_
  obtain ⟨w, S, fr, rfl, so, fo, p⟩ := q
  exact p w _ (Step.refl so) so .nil
theorem da_cons (he : PE X e (tE ⟨X.K, X.mg, X.w⟩ W f)) (hr : PA X es (tA ⟨X.K, X.mg, X.w⟩ W h)) (hs : starEach (e :: es) X.env = (false, eval e X.env) :: starEach es X.env) : PA X (e :: es) (tA ⟨X.K, X.mg, X.w⟩ W (dACons f h)) := by
  refine PA.weaken (pa_cons he hr hs) fun σ H Q q => ?_
  refine tG_mono (lift2 (R1 := Rep _) (R2 := Reps _) (k := fun d ds fr S => .ok (d :: ds) S) (fun _ _ _ _ s r => rmono s r) q) fun x H1 h1 => tG_mono h1 fun y H2 h2 => ?_
  obtain ⟨w, S, fr, q, rfl, so, fo, ⟨rx, ry⟩, p⟩ := h2
  exact p w _ (Step.refl so) so (.cons rx ry)
theorem de_tup {k : Nat} (ha : PA X es (tA ⟨X.K, X.mg, X.w⟩ W h)) : PE X (.Tuple es k pos) (tE ⟨X.K, X.mg, X.w⟩ W (dTup h)) := by
  refine PE.weaken (pe_tup ha) fun σ H Q q => tG_mono (lift1 q) fun x H1 h1 => ?_
  obtain ⟨w, S, fr, d, rfl, so, fo, r, p⟩ := h1
  have l := r.length
  dsimp only at p
  split at p
  · rename_i hl
    refine ⟨by omega, fun a ha => ?_⟩
    obtain ⟨st, so', _⟩ := Step.put so ha (.tup x)
    exact p _ _ st so' (.tup (SqT.of upd_same) hl (Reps.mono st.toMono _ _ r))
  · exact p.elim
theorem de_lst (ha : PA X es (tA ⟨X.K, X.mg, X.w⟩ W h)) : PE X (.List es pos) (tE ⟨X.K, X.mg, X.w⟩ W (dLst h)) := by
  refine PE.weaken (pe_lst ha) fun σ H Q q => tG_mono (lift1 q) fun x H1 h1 => ?_
  obtain ⟨w, S, fr, d, rfl, so, fo, r, p⟩ := h1
  have l := r.length
  dsimp only at p
  split at p
  · rename_i hl
    refine ⟨by omega, fun a ha => ?_⟩
    obtain ⟨st, so', rr⟩ := Step.new so ha (.lst hl r)
    exact p _ _ st so' rr
  · exact p.elim
theorem dl_lst (ha : PA X es (tA ⟨X.K, X.mg, X.w⟩ W h)) : PE X (.List es pos) (tL ⟨X.K, X.mg, X.w⟩ W (dLstT h)) := by
  refine PE.weaken (pe_lst ha) fun σ H Q q => ?_
  obtain ⟨w, S, fr, e, so, fo, p⟩ := q
  refine ⟨w, S, fr, e, so, fo, ?_⟩
  have p : PostL _ w ((h fr S).bnd fun ds S' => if ds.length ≤ sizeLine then .ok ds S' else .no) Q (fun c d H' => W c d σ H') := p
  cases q : h fr S with
  | no => rw [q] at p; exact p
  | ex e S1 => rw [q] at p; exact p
  | ok ds S1 =>
    rw [q] at p
    intro w1 vs st so1 r
    have l := r.length
    have p : PostL _ w (if ds.length ≤ sizeLine then .ok ds S1 else .no) Q (fun c d H' => W c d σ H') := p
    split at p
    · rename_i hl
      refine ⟨by omega, fun a ha => ?_⟩
      obtain ⟨st2, so2, hn⟩ := Step.put so1 ha (.lst vs)
      exact p _ a (st.trans st2) so2 (st.back ha) ⟨a, vs, rfl, upd_same, hn, hl, Reps.mono st2.toMono _ _ r⟩
    · exact p.elim
/-- a list that nothing else holds is tracked from here on -/
def Wd.adopt (w : Wd) (p : Addr) : Wd := ⟨fun i => if i = w.n then p else w.m i, w.n + 1, w.H⟩
theorem Step.adoptO {g : Gnd} {w : Wd} {S : Sto} (s : SOk g w S) {p : Addr} {ob : O} {ho : HO} (hp : w.H p = some ho) (hne : ∀ i, i < w.n → w.m i ≠ p) (r : RepO g w ob ho) :
    SOk g (w.adopt p) (S ++ [ob]) ∧ Mono w (w.adopt p) ∧ Rep g (w.adopt p) (.ob S.length) (.ref p) := by
  have hm : ∀ i, i < w.n → (w.adopt p).m i = w.m i := fun i hi => if_neg (Nat.ne_of_lt hi)
  have hmn : (w.adopt p).m w.n = p := if_pos rfl
  have mo : Mono w (w.adopt p) := ⟨Nat.le_succ _, hm, fun a xs e => e, fun a ob u e => e, fun a us e => e⟩
  refine ⟨⟨?_, fun i u e => ?_, fun i j hi hj e => ?_⟩, mo, ?_⟩
  · show w.n + 1 = _
    rw [List.length_append, s.len]
    rfl
  · by_cases hi : i < S.length
    · rw [List.getElem?_append_left hi] at e
      obtain ⟨h, e2, r2⟩ := s.ob i u e
      have hi' : i < w.n := by rw [s.len]; exact hi
      exact ⟨h, by rw [hm i hi']; exact e2, r2.mono mo⟩
    · rw [List.getElem?_append_right (Nat.not_lt.mp hi)] at e
      have hz : i - S.length = 0 := by
        have := (List.getElem?_eq_some_iff.mp e).1
        simp at this
        omega
      rw [hz] at e
      cases e
      have hi2 : i = w.n := by rw [s.len]; omega
      subst hi2
      exact ⟨_, by rw [hmn]; exact hp, r.mono mo⟩
  · have hi : i < w.n + 1 := hi
    have hj : j < w.n + 1 := hj
    by_cases e1 : i = w.n
    · by_cases e2 : j = w.n
      · rw [e1, e2]
      · have hj' : j < w.n := Nat.lt_of_le_of_ne (Nat.le_of_lt_succ hj) e2
        rw [e1, hmn, hm j hj'] at e
        exact absurd e.symm (hne j hj')
    · have hi' : i < w.n := Nat.lt_of_le_of_ne (Nat.le_of_lt_succ hi) e1
      by_cases e2 : j = w.n
      · rw [e2, hmn, hm i hi'] at e
        exact absurd e (hne i hi')
      · have hj' : j < w.n := Nat.lt_of_le_of_ne (Nat.le_of_lt_succ hj) e2
        rw [hm i hi', hm j hj'] at e
        exact s.inj i j hi' hj' e
  · have q : Rep g (w.adopt p) (.ob w.n) (.ref ((w.adopt p).m w.n)) := .ob (show w.n < w.n + 1 from Nat.lt_succ_self _)
    rw [hmn, s.len] at q
    exact q
theorem Step.adopt {g : Gnd} {w : Wd} {S : Sto} (s : SOk g w S) {p : Addr} {vs : List V} {ds : List D} (hp : w.H p = some (.lst vs)) (hne : ∀ i, i < w.n → w.m i ≠ p) (hl : ds.length ≤ sizeLine) (r : Reps g w ds vs) :
    SOk g (w.adopt p) (S ++ [.lst ds]) ∧ Mono w (w.adopt p) ∧ Rep g (w.adopt p) (.ob S.length) (.ref p) := Step.adoptO s hp hne (.lst hl r)
theorem de_keep (he : PE X e (tL ⟨X.K, X.mg, X.w⟩ W h)) : PE X e (tE ⟨X.K, X.mg, X.w⟩ W (dKeep h)) := by
  refine PE.weaken he fun σ H Q q => ?_
  obtain ⟨w, S, fr, e, so, fo, p⟩ := q
  refine ⟨w, S, fr, e, so, fo, ?_⟩
  have p : Post _ w (Rep _) ((h fr S).bnd fun ds S' => .ok (.ob S'.length) (S' ++ [.lst ds])) Q (fun c d H' => W c d σ H') := p
  cases q : h fr S with
  | no => rw [q] at p; exact p
  | ex e S1 => rw [q] at p; exact p
  | ok ds S1 =>
    rw [q] at p
    intro w1 a st so1 fresh r
    obtain ⟨a', vs, ea, ha, hn, hl, rv⟩ := r
    cases ea
    obtain ⟨so2, mo, rr⟩ := Step.adopt so1 ha hn hl rv
    refine p (w1.adopt a) _ ⟨st.toMono.trans mo, fun b o hb hx => st.kp b o hb hx, fun i h1 h2 => ?_, fun i hi => so2.al i hi⟩ so2 rr
    have h2 : i < w1.n + 1 := h2
    by_cases e : i = w1.n
    · show w.H (if i = w1.n then a else w1.m i) = none
      rw [if_pos e]
      exact fresh
    · show w.H (if i = w1.n then a else w1.m i) = none
      rw [if_neg e]
      exact st.fr i h1 (by omega)
end
end DL
/-! DL, part f: subscripts, slices, built-in functions and methods by data. -/
namespace DL
open PySem PySem.Spec PyProof.Rows L2

/-! ### subscripts -/
/-- the items of a list or a tuple -/
def seqD (d : D) (S : Sto) : Option (List D) := match d with
  | .tup xs => some xs
  | .rl xs => some xs
  | .ob n => match S[n]? with
    | some (.lst xs) => some xs
    | _ => none
  | _ => none
theorem seqD_ok {g : Gnd} {w : Wd} {S : Sto} (so : SOk g w S) {d : D} {v : V} {xs : List D} (r : Rep g w d v) (e : seqD d S = some xs) :
    ∃ a vs, v = .ref a ∧ (SqL g.K w.H a vs ∨ SqT g.K w.H a vs) ∧ Reps g w xs vs ∧ xs.length ≤ sizeLine := by
  unfold seqD at e
  split at e
  · cases e
    cases r with
    | tup t l r => exact ⟨_, _, rfl, .inr t, r, l⟩
  · cases e
    cases r with
    | rl t l r => exact ⟨_, _, rfl, .inl t.sql, r, l⟩
  · cases r
    split at e
    · rename_i q
      cases e
      obtain ⟨vs, hv, rv, l⟩ := so.sql q
      exact ⟨_, _, rfl, .inl (SqL.of hv), rv, l⟩
    · cases e
  · cases e
theorem seqL_ok {g : Gnd} {w : Wd} {S : Sto} (so : SOk g w S) {d : D} {v : V} {xs : List D} (r : Rep g w d v) (e : seqD d S = some xs) (hn : ∀ ys, d ≠ .tup ys) :
    ∃ a vs, v = .ref a ∧ SqL g.K w.H a vs ∧ Reps g w xs vs ∧ xs.length ≤ sizeLine := by
  unfold seqD at e
  split at e
  · exact (hn _ rfl).elim
  · cases e
    cases r with
    | rl t l r => exact ⟨_, _, rfl, t.sql, r, l⟩
  · cases r
    split at e
    · rename_i q
      cases e
      obtain ⟨vs, hv, rv, l⟩ := so.sql q
      exact ⟨_, _, rfl, SqL.of hv, rv, l⟩
    · cases e
  · cases e
def aIx : F2 := fun a b S => match a with
  | .str z => match b with
    | .int i => if z.length ≤ sizeLine then (atI z.cps.toList i).map fun c => (.str ⟨#[c]⟩, S) else none
    | _ => none
  | .kd ks vs => match b with
    | .str x => (kdGet ks vs x).map fun d => (d, S)
    | _ => none
  | _ => match seqD a S with
    | some xs => match b with
      | .int i => (atI xs i).map fun d => (d, S)
      | _ => none
    | none => match a with
      | .ob n => match S[n]? with
        | some (.dk kvs) => match keyD b with
          | some k => (valD kvs k).map fun d => (d, S)
          | none => none
        | _ => none
      | _ => none
theorem Reps.atI {g : Gnd} {w : Wd} {xs : List D} {vs : List V} {i : Int} {d : D} (r : Reps g w xs vs) (e : L2.atI xs i = some d) : ∃ v, L2.atI vs i = some v ∧ Rep g w d v := by
  unfold L2.atI at e ⊢
  rw [← r.length]
  cases q : ixN xs.length i with
  | none => rw [q] at e; cases e
  | some j =>
    rw [q] at e
    exact r.get e
section
variable {X : Cx}
def rIxD : R2 := fun x y H Q => ∃ a v, x = .ref a ∧ DGet H a y (some v) ∧ Q v H
theorem ix_dict (hu : X.A.units + 200 < cLine) : IxR X rIxD := by
  intro value slice pins s σ H x y v u Q I rx ry h hs
  obtain ⟨a, z, rfl, gt, q⟩ := h
  obtain rfl : v = .ref a := rx
  exact tail_any (dict_typeIs I gt) PySem.F.slot_dict_getitem.lookup (d_getItem (by omega) I gt ry fun w' s3 I3 rw' => ⟨z, H, I3, rw', q⟩) hs
theorem ixr (hu : X.A.units + 200 < cLine) : IxR X (r2 ⟨X.K, X.mg, X.w⟩ aIx) := by
  intro value slice pins s σ H x y v u Q I rx ry h hs
  obtain ⟨w, S, a, b, rfl, so, ra, rb, k⟩ := h
  have stp := Step.refl so
  unfold aIx at k
  split at k
  · split at k
    · cases ra; cases rb
      split at k
      · rename_i hz
        cases e : atI _ _ with
        | none => rw [e] at k; exact k.elim
        | some c =>
          rw [e] at k
          exact ix_str value slice pins s σ _ _ _ v u Q I rx ry ⟨_, _, c, rfl, rfl, hz, e, k w _ stp so (.str _)⟩ hs
      · exact k.elim
    · exact k.elim
  · split at k
    · rename_i x
      cases rb
      cases ra with
      | kd kk ke kl kr =>
        cases e : kdGet _ _ x with
        | none => rw [e] at k; exact k.elim
        | some d =>
          rw [e] at k
          obtain ⟨u0, v0, e2, r1, r2⟩ := (kd_look kl kr).1 d e
          exact ix_kdict value slice pins s σ _ _ _ v u Q I rx ry ⟨_, _, v0, rfl, rfl, ⟨_, _, u0, kk.at_, kk.lit, by rw [ke, e2], r1⟩, k w _ stp so r2⟩ hs
    · exact k.elim
  · split at k
    · rename_i xs e
      obtain ⟨p, vs, rfl, hq, rv, l⟩ := seqD_ok so ra e
      split at k
      · cases rb
        cases e2 : atI xs _ with
        | none => rw [e2] at k; exact k.elim
        | some d =>
          rw [e2] at k
          obtain ⟨z, ez, rz⟩ := rv.atI e2
          rcases hq with hq | hq
          · exact ix_list value slice pins s σ _ _ _ v u Q I rx ry ⟨_, _, _, z, rfl, rfl, hq, ez, k w _ stp so rz⟩ hs
          · exact ix_tup value slice pins s σ _ _ _ v u Q I rx ry ⟨_, _, _, z, rfl, rfl, hq, ez, k w _ stp so rz⟩ hs
      · exact k.elim
    · split at k
      · split at k
        · rename_i n kvs e
          split at k
          · rename_i kk ek
            have e1 := keyD_ok rb ek
            subst e1
            cases e2 : valD kvs kk with
            | none => rw [e2] at k; exact k.elim
            | some d =>
              rw [e2] at k
              cases ra
              obtain ⟨kus, eh, l, e3, r2⟩ := so.dka e
              obtain ⟨z, ez, rz⟩ := (valD_ok (k := kk) e3 r2).1 d e2
              exact ix_dict hu value slice pins s σ _ _ _ v u Q I rx ry ⟨_, z, rfl, by rw [← ez]; exact DGet.k eh, k w _ stp so rz⟩ hs
          · exact k.elim
        · exact k.elim
      · exact k.elim
variable {W : WX} {a b : Expr} {pos : Pos} {fa fb : DenE} {f : F2}
theorem de_ix (hu : X.A.units + 200 < cLine) (ha : PE X a (tE ⟨X.K, X.mg, X.w⟩ W fa)) (hb : PE X b (tE ⟨X.K, X.mg, X.w⟩ W fb)) (hs : PlainIx b) : PE X (.Subscript a b pos) (tE ⟨X.K, X.mg, X.w⟩ W (dOp aIx fa fb)) :=
  PE.weaken (pe_ix (ixr hu) ha hb hs) fun _ _ _ h => lift_op h
end

/-! ### slices -/
def cutD {α : Type} (xs : List α) (lo hi : Option Int) : List α := (xs.drop (HT.sIx xs.length 0 lo)).take (HT.sIx xs.length xs.length hi - HT.sIx xs.length 0 lo)
def aSl (d : D) (lo hi : Option Int) (S : Sto) : Option (D × Sto) := match d with
  | .str z => if z.length ≤ sizeLine then some (.str (cutS z lo hi), S) else none
  | .tup xs => some (.tup (cutD xs lo hi), S)
  | .ob n => match S[n]? with
    | some (.lst xs) => some (.ob S.length, S ++ [.lst (cutD xs lo hi)])
    | _ => none
  | .rl xs => some (.ob S.length, S ++ [.lst (cutD xs lo hi)])
  | _ => none
def dPart (o : Option DenE) : Fr → Sto → Out (Option Int) := match o with
  | none => fun _ S => .ok none S
  | some f => fun fr S => (f fr S).bnd fun d S' => match d with
    | .int i => .ok (some i) S'
    | _ => .no
def dSl (f : DenE) (lo hi : Option DenE) : DenE := fun fr S => (f fr S).bnd fun d S' => (dPart lo fr S').bnd fun l S2 => (dPart hi fr S2).bnd fun h S3 => .ofO (aSl d l h S3)
section
variable {X : Cx}
def rSl (g : Gnd) : V → Option Int → Option Int → Hp → VK → Prop := fun x lo hi H Q => ∃ w S d, w.H = H ∧ SOk g w S ∧ Rep g w d x ∧ Post g w (Rep g) (.ofO (aSl d lo hi S)) Q (fun _ _ _ => False)
theorem cutD_le {α : Type} (xs : List α) (lo hi : Option Int) : (cutD xs lo hi).length ≤ xs.length := by
  unfold cutD
  rw [List.length_take, List.length_drop]
  omega
theorem Reps.cut {g : Gnd} {w : Wd} {xs : List D} {vs : List V} (r : Reps g w xs vs) (lo hi : Option Int) : Reps g w (cutD xs lo hi) (cutV vs lo hi) := by
  unfold cutD cutV
  rw [← r.length]
  exact (r.drop _).take _
theorem slr : SlR X (rSl ⟨X.K, X.mg, X.w⟩) := by
  intro pins s σ H x v vl vu lo hi sl Q I rx hs pl pu h
  obtain ⟨w, S, d, rfl, so, r, k⟩ := h
  have stp := Step.refl so
  unfold aSl at k
  split at k
  · cases r
    split at k
    · rename_i hz
      exact sl_str pins s σ _ _ v vl vu lo hi sl Q I rx hs pl pu ⟨_, rfl, hz, k w _ stp so (.str _)⟩
    · exact k.elim
  · cases r with
    | tup t l r =>
      have hc := cutD_le ‹List D› lo hi
      refine sl_tupA pins s σ _ _ v vl vu lo hi sl Q I rx hs pl pu ⟨_, _, rfl, t, fun e => ?_, fun _ p hp => ?_⟩
      · refine k w _ stp so (.tup t (by omega) ?_)
        have q := r.cut lo hi
        have e2 : cutV ‹List V› lo hi = ‹List V› := by
          unfold cutV
          rw [e.1, e.2, List.drop_zero, Nat.sub_zero, List.take_length]
        rw [e2] at q
        exact q
      · obtain ⟨st, so', _⟩ := Step.put so hp (.tup (cutV _ lo hi))
        exact k _ _ st so' (.tup (SqT.of upd_same) (by omega) (Reps.mono st.toMono _ _ (r.cut lo hi)))
  · cases r
    split at k
    · rename_i xs q
      obtain ⟨vs, hv, rv, l⟩ := so.sql q
      have hc := cutD_le xs lo hi
      refine sl_list pins s σ _ _ v vl vu lo hi sl Q I rx hs pl pu ⟨_, _, rfl, SqL.of hv, fun p hp => ?_⟩
      obtain ⟨st, so', rr⟩ := Step.new so hp (.lst (by omega) (rv.cut lo hi))
      exact k _ _ st so' rr
    · exact k.elim
  · cases r with
    | rl t l r =>
      have hc := cutD_le ‹List D› lo hi
      refine sl_list pins s σ _ _ v vl vu lo hi sl Q I rx hs pl pu ⟨_, _, rfl, t.sql, fun p hp => ?_⟩
      obtain ⟨st, so', rr⟩ := Step.new so hp (.lst (by omega) (r.cut lo hi))
      exact k _ _ st so' rr
  · exact k.elim
abbrev tO (g : Gnd) (W : WX) (f : Fr → Sto → Out (Option Int)) : TO := tG g W (fun _ a b => a = b) f
variable {W : WX} {e : Expr} {pos p2 : Pos} {f : DenE} {lo hi : Option Expr} {fl fh : Option DenE}
theorem do_none : PO X none (tO ⟨X.K, X.mg, X.w⟩ W (dPart none)) := by
  refine ⟨fun pins s σ H Q I h => po_none.run pins s σ H Q I ?_⟩
  obtain ⟨w, S, fr, rfl, so, fo, p⟩ := h
  exact p w _ (Step.refl so) so rfl
theorem do_some (he : PE X e (tE ⟨X.K, X.mg, X.w⟩ W f)) : PO X (some e) (tO ⟨X.K, X.mg, X.w⟩ W (dPart (some f))) := by
  refine ⟨fun pins s σ H Q I h => (po_some he).run pins s σ H Q I (tG_mono (lift1 h) fun x H1 q => ?_)⟩
  obtain ⟨w, S, fr, d, rfl, so, fo, r, p⟩ := q
  dsimp only at p
  cases r with
  | int i => exact ⟨i, rfl, p w _ (Step.refl so) so rfl⟩
  | _ => exact p.elim
theorem de_sl (he : PE X e (tE ⟨X.K, X.mg, X.w⟩ W f)) (hl : PO X lo (tO ⟨X.K, X.mg, X.w⟩ W (dPart fl))) (hh : PO X hi (tO ⟨X.K, X.mg, X.w⟩ W (dPart fh))) : PE X (.Subscript e (.Slice lo hi none p2) pos) (tE ⟨X.K, X.mg, X.w⟩ W (dSl f fl fh)) := by
  refine PE.weaken (pe_slice slr he hl hh) fun σ H Q h => tG_mono (lift2 (R1 := Rep _) (R2 := fun _ a b => a = b) (k := fun d l fr S2 => (dPart fh fr S2).bnd fun h S3 => .ofO (aSl d l h S3)) (fun _ _ _ _ s r => rmono s r) h) fun x H1 h1 => tG_mono h1 fun y H2 h2 => ?_
  refine tG_mono (next1 (R1 := fun w (p : D × Option Int) (q : V × Option Int) => Rep ⟨X.K, X.mg, X.w⟩ w p.1 q.1 ∧ p.2 = q.2) (R2 := fun _ a b => a = b) (k := fun (p : D × Option Int) h fr S3 => .ofO (aSl p.1 p.2 h S3)) (fun _ _ _ _ s r => ⟨rmono s r.1, r.2⟩) h2) fun z H3 h3 => ?_
  obtain ⟨w, S, fr, q, e, so, fo, ⟨⟨rx, ry⟩, rz⟩, p⟩ := h3
  dsimp only at rx ry rz p
  subst ry rz
  exact ⟨w, S, q.1.1, e, so, rx, Post.ofO p⟩
end

/-! ### xs[::-1] -/
def aRev (d : D) (S : Sto) : Option (D × Sto) := match d with
  | .tup _ => none
  | _ => match seqD d S with
    | some xs => some (.ob S.length, S ++ [.lst xs.reverse])
    | none => none
def dRev (f : DenE) : DenE := fun fr S => (f fr S).bnd fun d S' => .ofO (aRev d S')
theorem Reps.rev {g : Gnd} {w : Wd} : ∀ {xs : List D} {vs : List V}, Reps g w xs vs → Reps g w xs.reverse vs.reverse
  | _, _, .nil => .nil
  | _, _, .cons a b => by
    rw [List.reverse_cons, List.reverse_cons]
    exact (Reps.rev b).append (.cons a .nil)
theorem de_rev {X : Cx} {W : WX} {e : Expr} {f : DenE} {k : Nat} {p1 p2 p3 pos : Pos} (he : PE X e (tE ⟨X.K, X.mg, X.w⟩ W f)) : PE X (.Subscript e (.Slice none none (some (.UnaryOp .USub (.Constant (.int 1) k p1) p2)) p3) pos) (tE ⟨X.K, X.mg, X.w⟩ W (dRev f)) := by
  refine PE.weaken (pe_revL he) fun σ H Q h => tG_mono (lift1 h) fun x H1 q => ?_
  obtain ⟨w, S, fr, d, rfl, so, fo, r, p⟩ := q
  dsimp only at p
  unfold aRev at p
  split at p
  · exact p.elim
  · rename_i hn
    cases e : seqD d S with
    | none => rw [e] at p; exact p.elim
    | some xs =>
      rw [e] at p
      obtain ⟨a, vs, rfl, hq, rv, l⟩ := seqL_ok so r e fun ys z => hn ys z
      refine ⟨a, vs, rfl, hq, fun b hb => ?_⟩
      obtain ⟨st, so', rr⟩ := Step.new so hb (.lst (by rw [List.length_reverse]; exact l) rv.rev)
      exact p _ _ st so' rr

/-! ### built-in functions -/
abbrev FB := List D → Sto → Option (D × Sto)
def dB (f : FB) (h : DenA) : DenE := fun fr S => (h fr S).bnd fun ds S' => .ofO (f ds S')
def rB (g : Gnd) (f : FB) : List V → Hp → VK → Prop := fun vs H Q => ∃ w S ds, w.H = H ∧ SOk g w S ∧ Reps g w ds vs ∧ Post g w (Rep g) (.ofO (f ds S)) Q (fun _ _ _ => False)
/-- on one list that was just made -/
def rBT (g : Gnd) (f : FB) : List V → Hp → VK → Prop := fun vs H Q => ∃ w S xs v, vs = [v] ∧ w.H = H ∧ SOk g w S ∧ RepT g w xs v ∧ Post g w (Rep g) (.ofO (f xs S)) Q (fun _ _ _ => False)
section
variable {X : Cx} {W : WX} {x : Str} {p pos : Pos} {e : Expr} {es : List Expr} {h : DenA} {f : FB} {id T : String}
theorem lift_b {g : Gnd} {σ : L2.St} {H : Hp} {Q : VK} (q : tE g W (dB f h) σ H Q) : tCB (rB g f) (tA g W h) σ H Q := by
  refine tG_mono (lift1 q) fun x H1 h1 => ?_
  obtain ⟨w, S, fr, ds, e, so, fo, r, p⟩ := h1
  exact ⟨w, S, ds, e, so, r, Post.ofO p⟩
theorem de_callB (hc : CallR X (.builtin id) (rB ⟨X.K, X.mg, X.w⟩ f)) (hg : Gl X x) (hm : X.mg x = none) (hv : bootBuiltins x = some (.builtin id)) (ha : PA X (e :: es) (tA ⟨X.K, X.mg, X.w⟩ W h)) (hn : x ≠ "__name__") (hdb : (x == ("__debug__" : Str)) = false)
    (he : starEach (e :: es) X.env = (false, eval e X.env) :: starEach es X.env) (hpl : (backTo pos (starEach es X.env)).any (·.1) = false) : PE X (.Call (.Name x p) (e :: es) [] pos) (tE ⟨X.K, X.mg, X.w⟩ W (dB f h)) :=
  PE.weaken (pe_callB hc hg hm hv ha hn hdb he hpl) fun _ _ _ q => lift_b q
theorem de_callTy (hc : CallR X (.type T) (rB ⟨X.K, X.mg, X.w⟩ f)) (hg : Gl X x) (hm : X.mg x = none) (hv : bootBuiltins x = some (.type T)) (ha : PA X (e :: es) (tA ⟨X.K, X.mg, X.w⟩ W h)) (hn : x ≠ "__name__") (hdb : (x == ("__debug__" : Str)) = false)
    (he : starEach (e :: es) X.env = (false, eval e X.env) :: starEach es X.env) (hpl : (backTo pos (starEach es X.env)).any (·.1) = false) : PE X (.Call (.Name x p) (e :: es) [] pos) (tE ⟨X.K, X.mg, X.w⟩ W (dB f h)) :=
  PE.weaken (pe_callTy hc hg hm hv ha hn hdb he hpl) fun _ _ _ q => lift_b q
theorem lift_bt {g : Gnd} {σ : L2.St} {H : Hp} {Q : VK} (q : tE g W (dB f h) σ H Q) : tCB (rBT g f) (tCons (tL g W h) tNil) σ H Q := by
  refine lift1L q _ fun v H1 h1 => ?_
  obtain ⟨w, S, fr, ds, e, so, fo, r, p⟩ := h1
  exact ⟨w, S, ds, v, rfl, e, so, r, Post.ofO p⟩
theorem de_callBT (hc : CallR X (.builtin id) (rBT ⟨X.K, X.mg, X.w⟩ f)) (hg : Gl X x) (hm : X.mg x = none) (hv : bootBuiltins x = some (.builtin id)) (ha : PE X e (tL ⟨X.K, X.mg, X.w⟩ W h)) (hn : x ≠ "__name__") (hdb : (x == ("__debug__" : Str)) = false)
    (he : starEach [e] X.env = (false, eval e X.env) :: starEach [] X.env) (hpl : (backTo pos (starEach [] X.env)).any (·.1) = false) : PE X (.Call (.Name x p) [e] [] pos) (tE ⟨X.K, X.mg, X.w⟩ W (dB f h)) :=
  PE.weaken (pe_callB hc hg hm hv (pa_cons ha pa_nil he) hn hdb he hpl) fun _ _ _ q => lift_bt q
theorem de_callTyT (hc : CallR X (.type T) (rBT ⟨X.K, X.mg, X.w⟩ f)) (hg : Gl X x) (hm : X.mg x = none) (hv : bootBuiltins x = some (.type T)) (ha : PE X e (tL ⟨X.K, X.mg, X.w⟩ W h)) (hn : x ≠ "__name__") (hdb : (x == ("__debug__" : Str)) = false)
    (he : starEach [e] X.env = (false, eval e X.env) :: starEach [] X.env) (hpl : (backTo pos (starEach [] X.env)).any (·.1) = false) : PE X (.Call (.Name x p) [e] [] pos) (tE ⟨X.K, X.mg, X.w⟩ W (dB f h)) :=
  PE.weaken (pe_callTy hc hg hm hv (pa_cons ha pa_nil he) hn hdb he hpl) fun _ _ _ q => lift_bt q
end
/-- on one list's items -/
def onSeq (f : FB) : FB := fun ds S => match ds with
  | [d] => match seqD d S with
    | some xs => f xs S
    | none => none
  | _ => none
/-- .. of a list, no tuple -/
def onLst (f : FB) : FB := fun ds S => match ds with
  | [.tup _] => none
  | _ => onSeq f ds S
def rLst (g : Gnd) (f : FB) : List V → Hp → VK → Prop := fun vs H Q => ∃ w S xs a us, vs = [.ref a] ∧ w.H = H ∧ SOk g w S ∧ SqL g.K H a us ∧ Reps g w xs us ∧ xs.length ≤ sizeLine ∧ Post g w (Rep g) (.ofO (f xs S)) Q (fun _ _ _ => False)
theorem rLst_T {g : Gnd} {f : FB} {vs : List V} {H : Hp} {Q : VK} (h : rBT g f vs H Q) : rLst g f vs H Q := by
  obtain ⟨w, S, xs, v, rfl, rfl, so, ⟨p, us, rfl, e, hn, l, r⟩, k⟩ := h
  exact ⟨w, S, xs, p, us, rfl, rfl, so, SqL.of e, r, l, k⟩
theorem rLst_D {g : Gnd} {f : FB} {vs : List V} {H : Hp} {Q : VK} (h : rB g (onLst f) vs H Q) : rLst g f vs H Q := by
  obtain ⟨w, S, ds, rfl, so, r, k⟩ := h
  unfold onLst onSeq at k
  split at k
  · exact k.elim
  · rename_i hnt
    split at k
    · rename_i d
      split at k
      · rename_i xs e
        cases r with
        | cons r1 r2 =>
          cases r2
          obtain ⟨a, us, rfl, hq, rv, l⟩ := seqL_ok so r1 e fun ys q => hnt ys (by rw [q])
          exact ⟨w, S, xs, a, us, rfl, rfl, so, hq, rv, l, k⟩
      · exact k.elim
    · exact k.elim
end DL
/-! DL, part g: the built-in functions and methods that are served. -/
namespace DL
open PySem PySem.Spec PyProof.Rows L2

def optAll {α : Type} (f : D → Option α) : List D → Option (List α)
  | [] => some []
  | d :: ds => match f d, optAll f ds with
    | some a, some as => some (a :: as)
    | _, _ => none
def blOf : D → Option Bool
  | .bl b => some b
  | _ => none
def intOf : D → Option Int
  | .int b => some b
  | _ => none
def strOf : D → Option Str
  | .str b => some b
  | _ => none
theorem optAll_map {α : Type} {f : D → Option α} {c : α → D} (hc : ∀ d a, f d = some a → d = c a) : ∀ {ds : List D} {as : List α}, optAll f ds = some as → ds = as.map c
  | [], _, e => by cases e; rfl
  | d :: ds, as, e => by
    unfold optAll at e
    split at e
    · rename_i a as' e1 e2
      cases e
      rw [hc d a e1, optAll_map hc e2]
      rfl
    · cases e
theorem blOf_ok {ds : List D} {bs : List Bool} (e : optAll blOf ds = some bs) : ds = bs.map D.bl := optAll_map (fun d a h => by cases d <;> cases h; rfl) e
theorem intOf_ok {ds : List D} {bs : List Int} (e : optAll intOf ds = some bs) : ds = bs.map D.int := optAll_map (fun d a h => by cases d <;> cases h; rfl) e
theorem strOf_ok {ds : List D} {bs : List Str} (e : optAll strOf ds = some bs) : ds = bs.map D.str := optAll_map (fun d a h => by cases d <;> cases h; rfl) e
theorem optAll_mk {α : Type} {f : D → Option α} {c : α → D} (hc : ∀ a, f (c a) = some a) : ∀ as : List α, optAll f (as.map c) = some as
  | [] => rfl
  | a :: as => by
    show (match f (c a), optAll f (as.map c) with | some a, some as => some (a :: as) | _, _ => none) = _
    rw [hc, optAll_mk hc]

def fAll : FB := fun xs S => (optAll blOf xs).map fun bs => (.bl (bs.all id), S)
def fAny : FB := fun xs S => (optAll blOf xs).map fun bs => (.bl (bs.any id), S)
def fSum : FB := fun xs S => (optAll intOf xs).map fun bs => (.int bs.sum, S)
def maxI : List Int → Int
  | [] => 0
  | n :: ns => ns.foldl max n
def minI : List Int → Int
  | [] => 0
  | n :: ns => ns.foldl min n
def fMax : FB := fun xs S => match optAll intOf xs with
  | some (n :: ns) => some (.int (maxI (n :: ns)), S)
  | _ => none
def fMin : FB := fun xs S => match optAll intOf xs with
  | some (n :: ns) => some (.int (minI (n :: ns)), S)
  | _ => none
def fTup : FB := fun xs S => some (.tup xs, S)
def fList : FB := fun xs S => some (.ob S.length, S ++ [.lst xs])
def fLen : FB := fun ds S => match ds with
  | [.str z] => if z.length ≤ sizeLine then some (.int z.length, S) else none
  | [d] => match seqD d S with
    | some xs => some (.int xs.length, S)
    | none => match d with
      | .ob n => match S[n]? with
        | some (.dk kvs) => some (.int kvs.length, S)
        | _ => none
      | _ => none
  | _ => none
def fAbs : FB := fun ds S => match ds with
  | [.int i] => some (.int (if i < 0 then -i else i), S)
  | _ => none
def fMax2 : FB := fun ds S => match ds with
  | [.int i, .int j] => some (.int (if j > i then j else i), S)
  | _ => none
def fMin2 : FB := fun ds S => match ds with
  | [.int i, .int j] => some (.int (if j < i then j else i), S)
  | _ => none
def fInt : FB := fun ds S => match ds with
  | [.int i] => some (.int i, S)
  | [.bl k] => some (.int (if k then 1 else 0), S)
  | [.str a] => if a.length ≤ 640 then (PySem.intText? a).map fun n => (.int n, S) else none
  | _ => none
def fStr : FB := fun ds S => match ds with
  | [.int i] => if i.natAbs.log2 < 1920 then some (.str (toString i), S) else none
  | _ => none
/-- the type of a thing that is no instance of an own class -/
def tyD (d : D) (S : Sto) : Option String := match d with
  | .non => some "NoneType"
  | .bl _ => some "bool"
  | .int _ => some "int"
  | .str _ => some "str"
  | .tup _ => some "tuple"
  | .rl _ => some "list"
  | .ob n => match S[n]? with
    | some (.lst _) => some "list"
    | some (.dk _) => some "dict"
    | _ => none
  | _ => none
def tyNames : List String := ["NoneType", "bool", "int", "str", "tuple", "list", "dict"]
def isTy (a b : String) : Bool := a == b || (a == "bool" && b == "int")
def fIsi : FB := fun ds S => match ds with
  | [d, .ty b] => match tyD d S with
    | some a => if b ∈ tyNames then some (.bl (isTy a b), S) else none
    | none => none
  | _ => none
section
variable {X : Cx}
theorem lst_bl {f : FB} {id : String} {q : List Bool → Bool} (hc : CallR X (.builtin id) (fun vs H Q => ∃ (a : Addr) (bs : List Bool), vs = [V.ref a] ∧ SqL X.K H a (bs.map V.bl) ∧ Q (.bl (q bs)) H))
    (hf : ∀ xs S, f xs S = (optAll blOf xs).map fun bs => (.bl (q bs), S)) : CallR X (.builtin id) (rLst ⟨X.K, X.mg, X.w⟩ f) := by
  intro pins s σ H xs us Q I r h
  obtain ⟨w, S, ds, a, vs, rfl, rfl, so, hq, rv, l, k⟩ := h
  rw [hf] at k
  cases e : optAll blOf ds with
  | none => rw [e] at k; exact k.elim
  | some bs =>
    rw [e] at k
    have e1 := blOf_ok e
    subst e1
    have e2 := rv.bls
    subst e2
    exact hc pins s σ _ _ us Q I r ⟨a, bs, rfl, hq, k w _ (Step.refl so) so (.bl _)⟩
theorem c_all (hc : X.calm = true) : CallR X (.builtin "all") (rLst ⟨X.K, X.mg, X.w⟩ fAll) := lst_bl (cr_all hc) fun _ _ => rfl
theorem c_any (hc : X.calm = true) : CallR X (.builtin "any") (rLst ⟨X.K, X.mg, X.w⟩ fAny) := lst_bl (cr_any hc) fun _ _ => rfl
theorem c_sum (hc : X.calm = true) : CallR X (.builtin "sum") (rLst ⟨X.K, X.mg, X.w⟩ fSum) := by
  intro pins s σ H xs us Q I r h
  obtain ⟨w, S, ds, a, vs, rfl, rfl, so, hq, rv, l, k⟩ := h
  unfold fSum at k
  cases e : optAll intOf ds with
  | none => rw [e] at k; exact k.elim
  | some bs =>
    rw [e] at k
    have e1 := intOf_ok e
    subst e1
    have e2 := rv.ints
    subst e2
    exact cr_sum hc pins s σ _ _ us Q I r ⟨a, bs, rfl, hq, k w _ (Step.refl so) so (.int _)⟩
theorem maxI_ge : ∀ (ns : List Int) (a : Int), a ≤ ns.foldl max a ∧ (∀ y ∈ ns, y ≤ ns.foldl max a) ∧ (ns.foldl max a = a ∨ ns.foldl max a ∈ ns)
  | [], a => ⟨Int.le_refl _, fun _ h => (nomatch h), .inl rfl⟩
  | n :: ns, a => by
    obtain ⟨h1, h2, h3⟩ := maxI_ge ns (max a n)
    show a ≤ ns.foldl max (max a n) ∧ (∀ y ∈ n :: ns, y ≤ ns.foldl max (max a n)) ∧ (ns.foldl max (max a n) = a ∨ ns.foldl max (max a n) ∈ n :: ns)
    refine ⟨by omega, fun y hy => ?_, ?_⟩
    · rcases List.mem_cons.mp hy with rfl | hy
      · omega
      · exact h2 y hy
    · rcases h3 with h3 | h3
      · by_cases q : n ≤ a
        · exact .inl (by omega)
        · refine .inr (List.mem_cons.mpr (.inl (by omega)))
      · exact .inr (List.mem_cons_of_mem _ h3)
theorem minI_le : ∀ (ns : List Int) (a : Int), ns.foldl min a ≤ a ∧ (∀ y ∈ ns, ns.foldl min a ≤ y) ∧ (ns.foldl min a = a ∨ ns.foldl min a ∈ ns)
  | [], a => ⟨Int.le_refl _, fun _ h => (nomatch h), .inl rfl⟩
  | n :: ns, a => by
    obtain ⟨h1, h2, h3⟩ := minI_le ns (min a n)
    show ns.foldl min (min a n) ≤ a ∧ (∀ y ∈ n :: ns, ns.foldl min (min a n) ≤ y) ∧ (ns.foldl min (min a n) = a ∨ ns.foldl min (min a n) ∈ n :: ns)
    refine ⟨by omega, fun y hy => ?_, ?_⟩
    · rcases List.mem_cons.mp hy with rfl | hy
      · omega
      · exact h2 y hy
    · rcases h3 with h3 | h3
      · by_cases q : a ≤ n
        · exact .inl (by omega)
        · refine .inr (List.mem_cons.mpr (.inl (by omega)))
      · exact .inr (List.mem_cons_of_mem _ h3)
theorem c_max (hc : X.calm = true) : CallR X (.builtin "max") (rLst ⟨X.K, X.mg, X.w⟩ fMax) := by
  intro pins s σ H xs us Q I r h
  obtain ⟨w, S, ds, a, vs, rfl, rfl, so, hq, rv, l, k⟩ := h
  unfold fMax at k
  split at k
  · rename_i n ns e
    have e1 := intOf_ok e
    subst e1
    have e2 := rv.ints
    subst e2
    refine cr_max hc pins s σ _ _ us Q I r ⟨a, _, rfl, hq, by simp, fun m hm hle => ?_⟩
    obtain ⟨h1, h2, h3⟩ := maxI_ge ns n
    have e3 : m = maxI (n :: ns) := by
      show m = ns.foldl max n
      have q1 : ns.foldl max n ≤ m := by
        rcases h3 with h3 | h3
        · rw [h3]; exact hle n List.mem_cons_self
        · exact hle _ (List.mem_cons_of_mem _ h3)
      rcases List.mem_cons.mp hm with z | z
      · omega
      · have := h2 m z
        omega
    rw [e3]
    exact k w _ (Step.refl so) so (.int _)
  · exact k.elim
theorem c_min (hc : X.calm = true) : CallR X (.builtin "min") (rLst ⟨X.K, X.mg, X.w⟩ fMin) := by
  intro pins s σ H xs us Q I r h
  obtain ⟨w, S, ds, a, vs, rfl, rfl, so, hq, rv, l, k⟩ := h
  unfold fMin at k
  split at k
  · rename_i n ns e
    have e1 := intOf_ok e
    subst e1
    have e2 := rv.ints
    subst e2
    refine cr_min hc pins s σ _ _ us Q I r ⟨a, _, rfl, hq, by simp, fun m hm hle => ?_⟩
    obtain ⟨h1, h2, h3⟩ := minI_le ns n
    have e3 : m = minI (n :: ns) := by
      show m = ns.foldl min n
      have q1 : m ≤ ns.foldl min n := by
        rcases h3 with h3 | h3
        · rw [h3]; exact hle n List.mem_cons_self
        · exact hle _ (List.mem_cons_of_mem _ h3)
      rcases List.mem_cons.mp hm with z | z
      · omega
      · have := h2 m z
        omega
    rw [e3]
    exact k w _ (Step.refl so) so (.int _)
  · exact k.elim
theorem CallR.imp {f : Value} {r r' : List V → Hp → VK → Prop} (h : CallR X f r) (k : ∀ vs H Q, r' vs H Q → r vs H Q) : CallR X f r' := fun pins s σ H xs us Q I rv q => h pins s σ H xs us Q I rv (k _ _ _ q)
theorem c_tupT : CallR X (.type "tuple") (rBT ⟨X.K, X.mg, X.w⟩ fTup) := by
  intro pins s σ H xs us Q I r h
  obtain ⟨w, S, ds, v, rfl, rfl, so, ⟨p, vs, rfl, e, hn, l, rv⟩, k⟩ := h
  refine call_tuple_of pins s σ _ _ us Q I r ⟨p, vs, rfl, .inl ⟨SqL.of e, fun q hq => ?_⟩⟩
  obtain ⟨st, so', _⟩ := Step.put so hq (.tup vs)
  exact k _ _ st so' (.tup (SqT.of upd_same) l (Reps.mono st.toMono _ _ rv))
theorem c_tup : CallR X (.type "tuple") (rB ⟨X.K, X.mg, X.w⟩ (onSeq fTup)) := by
  intro pins s σ H xs us Q I r h
  obtain ⟨w, S, ds, rfl, so, rd, k⟩ := h
  unfold onSeq at k
  split at k
  · rename_i d
    split at k
    · rename_i ys e
      cases rd with
      | cons r1 r2 =>
        cases r2
        obtain ⟨a, vs, rfl, hq, rv, l⟩ := seqD_ok so r1 e
        rcases hq with hq | hq
        · refine call_tuple_of pins s σ _ _ us Q I r ⟨a, vs, rfl, .inl ⟨hq, fun q hq => ?_⟩⟩
          obtain ⟨st, so', _⟩ := Step.put so hq (.tup vs)
          exact k _ _ st so' (.tup (SqT.of upd_same) l (Reps.mono st.toMono _ _ rv))
        · exact call_tuple_of pins s σ _ _ us Q I r ⟨a, vs, rfl, .inr ⟨hq, k w _ (Step.refl so) so (.tup hq l rv)⟩⟩
    · exact k.elim
  · exact k.elim
theorem c_list : CallR X (.type "list") (rB ⟨X.K, X.mg, X.w⟩ (onSeq fList)) := by
  intro pins s σ H xs us Q I r h
  obtain ⟨w, S, ds, rfl, so, rd, k⟩ := h
  unfold onSeq at k
  split at k
  · rename_i d
    split at k
    · rename_i ys e
      cases rd with
      | cons r1 r2 =>
        cases r2
        obtain ⟨a, vs, rfl, hq, rv, l⟩ := seqD_ok so r1 e
        refine call_list_of pins s σ _ _ us Q I r ⟨a, vs, rfl, hq, fun q hq => ?_⟩
        obtain ⟨st, so', rr⟩ := Step.new so hq (.lst l rv)
        exact k _ _ st so' rr
    · exact k.elim
  · exact k.elim
theorem c_len : CallR X (.builtin "len") (rB ⟨X.K, X.mg, X.w⟩ fLen) := by
  intro pins s σ H xs us Q I r h
  obtain ⟨w, S, ds, rfl, so, rd, k⟩ := h
  have stp := Step.refl so
  unfold fLen at k
  split at k
  · cases rd with
    | cons r1 r2 =>
      cases r1; cases r2
      split at k
      · rename_i hz
        exact call_len pins s σ _ _ us Q I r ⟨_, _, rfl, ⟨hz, rfl⟩, k w _ stp so (.int _)⟩
      · exact k.elim
  · cases rd with
    | cons r1 r2 =>
      cases r2
      split at k
      · rename_i ys e
        obtain ⟨a, vs, rfl, hq, rv, l⟩ := seqD_ok so r1 e
        have el := rv.length
        refine call_len pins s σ _ _ us Q I r ⟨_, ys.length, rfl, ?_, k w _ stp so (.int _)⟩
        rcases hq with hq | hq
        · exact .inl ⟨vs, hq, el⟩
        · exact .inr ⟨vs, hq, el⟩
      · split at k
        · split at k
          · rename_i kvs e
            cases r1
            obtain ⟨kus, eh, l, e3, r2⟩ := so.dka e
            have el := congrArg List.length e3
            rw [List.length_map, List.length_map] at el
            refine call_lenD pins s σ _ _ us Q I r ⟨_, kus, rfl, eh, ?_⟩
            rw [← el]
            exact k w _ stp so (.int _)
          · exact k.elim
        · exact k.elim
  · exact k.elim
theorem c_abs : CallR X (.builtin "abs") (rB ⟨X.K, X.mg, X.w⟩ fAbs) := by
  intro pins s σ H xs us Q I r h
  obtain ⟨w, S, ds, rfl, so, rd, k⟩ := h
  unfold fAbs at k
  split at k
  · cases rd with
    | cons r1 r2 =>
      cases r1; cases r2
      exact call_abs pins s σ _ _ us Q I r ⟨_, rfl, k w _ (Step.refl so) so (.int _)⟩
  · exact k.elim
theorem c_max2 (hc : X.calm = true) : CallR X (.builtin "max") (rB ⟨X.K, X.mg, X.w⟩ fMax2) := by
  intro pins s σ H xs us Q I r h
  obtain ⟨w, S, ds, rfl, so, rd, k⟩ := h
  unfold fMax2 at k
  split at k
  · cases rd with
    | cons r1 r2 =>
      cases r2 with
      | cons r3 r4 =>
        cases r1; cases r3; cases r4
        exact call_max2 hc pins s σ _ _ us Q I r ⟨_, _, rfl, k w _ (Step.refl so) so (.int _)⟩
  · exact k.elim
theorem c_min2 (hc : X.calm = true) : CallR X (.builtin "min") (rB ⟨X.K, X.mg, X.w⟩ fMin2) := by
  intro pins s σ H xs us Q I r h
  obtain ⟨w, S, ds, rfl, so, rd, k⟩ := h
  unfold fMin2 at k
  split at k
  · cases rd with
    | cons r1 r2 =>
      cases r2 with
      | cons r3 r4 =>
        cases r1; cases r3; cases r4
        exact call_min2 hc pins s σ _ _ us Q I r ⟨_, _, rfl, k w _ (Step.refl so) so (.int _)⟩
  · exact k.elim
theorem c_int : CallR X (.type "int") (rB ⟨X.K, X.mg, X.w⟩ fInt) := by
  intro pins s σ H xs us Q I r h
  obtain ⟨w, S, ds, rfl, so, rd, k⟩ := h
  have stp := Step.refl so
  unfold fInt at k
  split at k
  · cases rd with
    | cons r1 r2 =>
      cases r1; cases r2
      exact call_int1 pins s σ _ _ us Q I r (.inl ⟨_, rfl, k w _ stp so (.int _)⟩)
  · cases rd with
    | cons r1 r2 =>
      cases r1; cases r2
      exact call_int1 pins s σ _ _ us Q I r (.inr ⟨_, rfl, k w _ stp so (.int _)⟩)
  · cases rd with
    | cons r1 r2 =>
      cases r1; cases r2
      split at k
      · rename_i hl
        cases e : PySem.intText? _ with
        | none => rw [e] at k; exact k.elim
        | some n =>
          rw [e] at k
          exact call_int_str pins s σ _ _ us Q I r ⟨_, n, rfl, e, hl, k w _ stp so (.int _)⟩
      · exact k.elim
  · exact k.elim
theorem c_str : CallR X (.type "str") (rB ⟨X.K, X.mg, X.w⟩ fStr) := by
  intro pins s σ H xs us Q I r h
  obtain ⟨w, S, ds, rfl, so, rd, k⟩ := h
  unfold fStr at k
  split at k
  · cases rd with
    | cons r1 r2 =>
      cases r1; cases r2
      split at k
      · rename_i hl
        exact call_str_int pins s σ _ _ us Q I r ⟨_, rfl, hl, k w _ (Step.refl so) so (.str _)⟩
      · exact k.elim
  · exact k.elim
theorem tyD_ok {g : Gnd} {w : Wd} {S : Sto} (so : SOk g w S) {d : D} {v : V} {a : String} (r : Rep g w d v) (e : tyD d S = some a) : TyX g.K w.H v (.type a) ∧ a ∈ tyNames := by
  unfold tyD at e
  split at e
  · cases r; cases e; exact ⟨.base .non, by decide⟩
  · cases r; cases e; exact ⟨.base (.bl _), by decide⟩
  · cases r; cases e; exact ⟨.base (.int _), by decide⟩
  · cases r; cases e; exact ⟨.base (.str _), by decide⟩
  · cases e
    cases r with
    | tup t l r =>
      refine ⟨?_, by decide⟩
      rcases t with (t | ⟨o, t⟩) | ⟨o, its, n, h1, h2, h3⟩
      · exact .base (.tup t)
      · exact .fTuple t
      · exact .kTuple h1 h2
  · cases e
    cases r with
    | rl t l r =>
      refine ⟨?_, by decide⟩
      rcases t with ⟨o, t⟩ | ⟨o, its, n, h1, h2, h3⟩
      · exact .base (.frz t)
      · exact .kList h1 h2
  · cases r
    split at e
    · rename_i q
      cases e
      obtain ⟨vs, hv, rv, l⟩ := so.sql q
      exact ⟨.base (.lst hv), by decide⟩
    · rename_i q
      cases e
      obtain ⟨kus, eh, _⟩ := so.dka q
      exact ⟨.base (.dK eh), by decide⟩
    · cases e
  · cases e
theorem isTy_ok : ∀ a ∈ tyNames, ∀ b ∈ tyNames, kitB a b = some (isTy a b) := by decide +kernel
theorem c_isi : CallR X (.builtin "isinstance") (rB ⟨X.K, X.mg, X.w⟩ fIsi) := by
  intro pins s σ H xs us Q I r h
  obtain ⟨w, S, ds, rfl, so, rd, k⟩ := h
  unfold fIsi at k
  split at k
  · rename_i d b
    cases rd with
    | cons r1 r2 =>
      cases r2 with
      | cons r3 r4 =>
        cases r3; cases r4
        split at k
        · rename_i a e
          split at k
          · rename_i hb
            obtain ⟨t, ha⟩ := tyD_ok so r1 e
            exact call_isi pins s σ _ _ us Q I r ⟨_, _, _, _, _, rfl, .ty b, t, kit_ty (isTy_ok a ha b hb), k w _ (Step.refl so) so (.bl _)⟩
          · exact k.elim
        · exact k.elim
  · exact k.elim
end

/-! ### methods -/
abbrev FM := D → List D → Sto → Option (D × Sto)
/-- the built-in type whose methods a thing has -/
def mtyD (d : D) (S : Sto) : Option String := match d with
  | .str _ => some "str"
  | .rl _ => some "list"
  | .kd _ _ => some "dict"
  | .ob n => match S[n]? with
    | some (.lst _) => some "list"
    | some (.dk _) => some "dict"
    | _ => none
  | _ => none
/-- .. or a written dict -/
def tyW (K : PySem.W.Frag) (w0 : World) (T : String) (x : V) (H : Hp) : Prop := tyV K T x H ∨ ∃ a es n, x = .ref a ∧ T = "dict" ∧ KDict K w0 a es n
theorem tyW_is {X : Cx} {pins : List (Addr × Obj)} {σ : L2.St} {H : Hp} {s : Shared} {T : String} {x : V} {v : Value} (I : Inv X pins σ H s) (r : RelV x v) (ty : tyW X.K X.w T x H) :
    s.TypeIs v T ∧ ∀ a, v = .ref a → ∃ ob, s.heap.get? a = some ob ∧ ob.dict = none := by
  rcases ty with ty | ⟨a, es, n, rfl, rfl, kd⟩
  · exact tyV_is I r ty
  · obtain rfl : v = .ref a := r
    refine ⟨kd_type kd I, fun b e => ?_⟩
    cases e
    exact ⟨_, I.kIn _ _ kd.at_, rfl⟩
def tWM0 (K : PySem.W.Frag) (w0 : World) (T : String) (r : V → List V → Hp → VK → Prop) (to : TE) : TE := fun σ H Q => to σ H fun x H1 => tyW K w0 T x H1 ∧ r x [] H1 Q
def tWM (K : PySem.W.Frag) (w0 : World) (T : String) (r : V → List V → Hp → VK → Prop) (to : TE) (t : TA) : TE := fun σ H Q => to σ H fun x H1 => tyW K w0 T x H1 ∧ t σ H1 fun xs H2 => r x xs H2 Q
section
variable {X : Cx} {o e : Expr} {es : List Expr} {to : TE} {t : TA} {name : Str} {apos cpos : Pos} {T id : String} {r : V → List V → Hp → VK → Prop}
theorem pw_bm0 (pa : PlainAttrs T) (slot : Slot T name id) (hty : typeOf (.builtin id) = pure (.type "method_descriptor")) (hm : MtR X id r) (ho : PE X o to)
    (hbase : attributeBase o name X.env (eval o X.env) = eval o X.env) (hline : (apos.endLine == cpos.line) = true) : PE X (.Call (.Attribute o name apos) [] [] cpos) (tWM0 X.K X.w T r to) :=
  ⟨fun pins s σ H Q I h => wpAny_Call_method0_late hbase hline (thn (ho.run pins s σ H _ I h) fun v s1 ⟨x, H1, I1, r1, ty, q1⟩ =>
    ⟨T, id, pa, slot, hty, (tyW_is I1 r1 ty).1, (tyW_is I1 r1 ty).2, Calls.callWith_builtin rfl (PySem.evalArgs_none (hm pins s1 σ H1 x [] v [] Q I1 r1 .nil q1))⟩)⟩
theorem pw_bm (pa : PlainAttrs T) (slot : Slot T name id) (hty : typeOf (.builtin id) = pure (.type "method_descriptor")) (hm : MtR X id r) (ho : PE X o to) (ha : PA X (e :: es) t)
    (hbase : attributeBase o name X.env (eval o X.env) = eval o X.env)
    (hfew : ((backTo cpos (starEach (e :: es) X.env)).all (fun x => !x.1) && (backToKw cpos (keywordEach [] X.env)).all (fun x => x.1.isSome)
      && decide ((e :: es).length + ([] : List Keyword).length + (if ([] : List Keyword).isEmpty then 0 else 1) < 30)) = true)
    (hline : (apos.endLine == cpos.line) = true) (hs : starEach (e :: es) X.env = (false, eval e X.env) :: starEach es X.env) (hplain : (backTo cpos (starEach es X.env)).any (·.1) = false) :
    PE X (.Call (.Attribute o name apos) (e :: es) [] cpos) (tWM X.K X.w T r to t) := by
  refine ⟨fun pins s σ H Q I h => wpAny_Call_method_late hbase hfew hline rfl (thn (ho.run pins s σ H _ I h) fun v s1 ⟨x, H1, I1, r1, ty, q1⟩ => ?_)⟩
  refine ⟨T, id, pa, slot, hty, (tyW_is I1 r1 ty).1, (tyW_is I1 r1 ty).2, ?_⟩
  have hA := ha.run cpos pins s1 σ H1 _ I1 q1
  rw [hs] at hA ⊢
  refine Calls.callWith_builtin (by show (false || (backTo cpos (starEach es X.env)).any (·.1)) = false; rw [hplain] <;> rfl) (Calls.evalArgs_plain ?_)
  exact thn hA fun us s2 ⟨vs, H2, I2, r2, q2⟩ => hm pins s2 σ H2 x vs v us Q I2 r1 r2 q2
end
def dM (T : String) (f : FM) (o : DenE) (h : DenA) : DenE := fun fr S => (o fr S).bnd fun d S' => if mtyD d S' = some T then (h fr S').bnd fun ds S2 => .ofO (f d ds S2) else .no
def rM (g : Gnd) (f : FM) : V → List V → Hp → VK → Prop := fun x vs H Q => ∃ w S d ds, w.H = H ∧ SOk g w S ∧ Rep g w d x ∧ Reps g w ds vs ∧ Post g w (Rep g) (.ofO (f d ds S)) Q (fun _ _ _ => False)
/-- the argument a list that was just made -/
def rMT (g : Gnd) (f : FM) : V → List V → Hp → VK → Prop := fun x vs H Q => ∃ w S d xs v, vs = [v] ∧ w.H = H ∧ SOk g w S ∧ Rep g w d x ∧ RepT g w xs v ∧ Post g w (Rep g) (.ofO (f d xs S)) Q (fun _ _ _ => False)
theorem mtyD_ok {g : Gnd} {w : Wd} {S : Sto} (so : SOk g w S) {d : D} {v : V} {T : String} (r : Rep g w d v) (e : mtyD d S = some T) : tyW g.K g.w T v w.H := by
  unfold mtyD at e
  split at e
  · cases r; cases e; exact .inl rfl
  · cases e
    cases r with
    | rl t l r => exact .inl (.inl ⟨rfl, _, t.sql⟩)
  · cases e
    cases r with
    | kd kk ke kl kr => exact .inr ⟨_, _, _, rfl, rfl, kk⟩
  · cases r
    split at e
    · rename_i q
      cases e
      obtain ⟨vs, hv, rv, l⟩ := so.sql q
      exact .inl (.inl ⟨rfl, vs, SqL.of hv⟩)
    · rename_i q
      cases e
      obtain ⟨kus, eh, _⟩ := so.dka q
      exact .inl (.inr (.inr (.inl ⟨rfl, .inl ⟨kus, eh⟩⟩)))
    · cases e
  · cases e
section
variable {X : Cx} {W : WX} {o e : Expr} {es : List Expr} {fo : DenE} {h : DenA} {f : FM} {name : Str} {apos cpos : Pos} {T id : String}
theorem lift_m {g : Gnd} {σ : L2.St} {H : Hp} {Q : VK} (q : tE g W (dM T f fo h) σ H Q) : tWM g.K g.w T (rM g f) (tE g W fo) (tA g W h) σ H Q := by
  refine tG_mono (lift1 q) fun x H1 h1 => ?_
  obtain ⟨w, S, fr, d, rfl, so, fo', r, p⟩ := h1
  dsimp only at p
  split at p
  · rename_i ht
    refine ⟨mtyD_ok so r ht, ?_⟩
    refine tG_mono (next1 (R1 := Rep g) (R2 := Reps g) (R := Rep g) (x := x) (f' := h) (k := fun d ds fr S2 => .ofO (f d ds S2)) (fun _ _ _ _ s r => rmono s r) ⟨w, S, fr, d, rfl, so, fo', r, p⟩) fun vs H2 h2 => ?_
    obtain ⟨w2, S2, fr2, q2, e2, so2, fo2, ⟨r1, r2⟩, p2⟩ := h2
    exact ⟨w2, S2, q2.1, q2.2, e2, so2, r1, r2, Post.ofO p2⟩
  · exact p.elim
theorem lift_m0 {g : Gnd} {σ : L2.St} {H : Hp} {Q : VK} (q : tE g W (dM T f fo dANil) σ H Q) : tWM0 g.K g.w T (rM g f) (tE g W fo) σ H Q := by
  refine tG_mono (lift1 q) fun x H1 h1 => ?_
  obtain ⟨w, S, fr, d, rfl, so, fo', r, p⟩ := h1
  dsimp only at p
  split at p
  · rename_i ht
    exact ⟨mtyD_ok so r ht, w, S, d, [], rfl, so, r, .nil, Post.ofO p⟩
  · exact p.elim
theorem lift_mt {g : Gnd} {σ : L2.St} {H : Hp} {Q : VK} (q : tE g W (dM T f fo h) σ H Q) : tWM g.K g.w T (rMT g f) (tE g W fo) (tCons (tL g W h) tNil) σ H Q := by
  refine tG_mono (lift1 q) fun x H1 h1 => ?_
  obtain ⟨w, S, fr, d, rfl, so, fo', r, p⟩ := h1
  dsimp only at p
  split at p
  · rename_i ht
    refine ⟨mtyD_ok so r ht, ?_⟩
    refine ⟨w, S, fr, rfl, so, fo', ?_⟩
    cases q : h fr S with
    | no => rw [q] at p; exact p
    | ex e S1 => rw [q] at p; exact p
    | ok ds S1 =>
      rw [q] at p
      intro w1 b st so1 _ r1
      exact ⟨w1, S1, d, ds, _, rfl, rfl, so1, rmono st r, r1, Post.ofO (Post.step st p)⟩
  · exact p.elim
theorem de_m (pa : PlainAttrs T) (slot : Slot T name id) (hty : typeOf (.builtin id) = pure (.type "method_descriptor")) (hm : MtR X id (rM ⟨X.K, X.mg, X.w⟩ f)) (ho : PE X o (tE ⟨X.K, X.mg, X.w⟩ W fo)) (ha : PA X (e :: es) (tA ⟨X.K, X.mg, X.w⟩ W h))
    (hbase : attributeBase o name X.env (eval o X.env) = eval o X.env)
    (hfew : ((backTo cpos (starEach (e :: es) X.env)).all (fun x => !x.1) && (backToKw cpos (keywordEach [] X.env)).all (fun x => x.1.isSome)
      && decide ((e :: es).length + ([] : List Keyword).length + (if ([] : List Keyword).isEmpty then 0 else 1) < 30)) = true)
    (hline : (apos.endLine == cpos.line) = true) (hs : starEach (e :: es) X.env = (false, eval e X.env) :: starEach es X.env) (hplain : (backTo cpos (starEach es X.env)).any (·.1) = false) :
    PE X (.Call (.Attribute o name apos) (e :: es) [] cpos) (tE ⟨X.K, X.mg, X.w⟩ W (dM T f fo h)) :=
  PE.weaken (pw_bm pa slot hty hm ho ha hbase hfew hline hs hplain) fun _ _ _ q => lift_m q
theorem de_m0 (pa : PlainAttrs T) (slot : Slot T name id) (hty : typeOf (.builtin id) = pure (.type "method_descriptor")) (hm : MtR X id (rM ⟨X.K, X.mg, X.w⟩ f)) (ho : PE X o (tE ⟨X.K, X.mg, X.w⟩ W fo))
    (hbase : attributeBase o name X.env (eval o X.env) = eval o X.env) (hline : (apos.endLine == cpos.line) = true) : PE X (.Call (.Attribute o name apos) [] [] cpos) (tE ⟨X.K, X.mg, X.w⟩ W (dM T f fo dANil)) :=
  PE.weaken (pw_bm0 pa slot hty hm ho hbase hline) fun _ _ _ q => lift_m0 q
theorem de_mt (pa : PlainAttrs T) (slot : Slot T name id) (hty : typeOf (.builtin id) = pure (.type "method_descriptor")) (hm : MtR X id (rMT ⟨X.K, X.mg, X.w⟩ f)) (ho : PE X o (tE ⟨X.K, X.mg, X.w⟩ W fo)) (ha : PE X e (tL ⟨X.K, X.mg, X.w⟩ W h))
    (hbase : attributeBase o name X.env (eval o X.env) = eval o X.env)
    (hfew : ((backTo cpos (starEach [e] X.env)).all (fun x => !x.1) && (backToKw cpos (keywordEach [] X.env)).all (fun x => x.1.isSome)
      && decide ([e].length + ([] : List Keyword).length + (if ([] : List Keyword).isEmpty then 0 else 1) < 30)) = true)
    (hline : (apos.endLine == cpos.line) = true) (hs : starEach [e] X.env = (false, eval e X.env) :: starEach [] X.env) (hplain : (backTo cpos (starEach [] X.env)).any (·.1) = false) :
    PE X (.Call (.Attribute o name apos) [e] [] cpos) (tE ⟨X.K, X.mg, X.w⟩ W (dM T f fo h)) :=
  PE.weaken (pw_bm pa slot hty hm ho (pa_cons ha pa_nil hs) hbase hfew hline hs hplain) fun _ _ _ q => lift_mt q
/-- the same name, of two types -/
def dM2 (T T' : String) (f f' : FM) (o : DenE) (h : DenA) : DenE := fun fr S => (o fr S).bnd fun d S' => if mtyD d S' = some T then (h fr S').bnd fun ds S2 => .ofO (f d ds S2) else
  if mtyD d S' = some T' then (h fr S').bnd fun ds S2 => .ofO (f' d ds S2) else .no
theorem de_m2 {T' : String} {f' : FM} {q : Expr} (h1 : PE X q (tE ⟨X.K, X.mg, X.w⟩ W (dM T f fo h))) (h2 : PE X q (tE ⟨X.K, X.mg, X.w⟩ W (dM T' f' fo h))) : PE X q (tE ⟨X.K, X.mg, X.w⟩ W (dM2 T T' f f' fo h)) := by
  refine PE.weaken (PE_or h1 h2) fun σ H Q q => ?_
  obtain ⟨w, S, fr, e, so, fo', p⟩ := q
  unfold dM2 at p
  by_cases hT : ∃ d S', fo fr S = .ok d S' ∧ mtyD d S' = some T
  · obtain ⟨d, S', e1, e2⟩ := hT
    refine .inl ⟨w, S, fr, e, so, fo', ?_⟩
    unfold dM
    rw [e1] at p ⊢
    dsimp only [Out.bnd] at p ⊢
    rw [if_pos e2] at p ⊢
    exact p
  · refine .inr ⟨w, S, fr, e, so, fo', ?_⟩
    unfold dM
    cases z : fo fr S with
    | no => rw [z] at p; exact p
    | ex e S1 => rw [z] at p; exact p
    | ok d S' =>
      rw [z] at p
      dsimp only [Out.bnd] at p ⊢
      rw [if_neg fun q => hT ⟨d, S', z, q⟩] at p
      exact p
end
end DL
/-! DN, part l: xs.extend(a tuple). -/
namespace PySem.AutoSeq1
set_option maxRecDepth 8000 in
theorem ext_tup (l : Addr) (items : Array Value) (n : Nat) (b : Addr) (items2 : Array Value) (n2 : Nat) (dd : Option Addr) (sl : Array (Option Value)) (hs0 : ¬(!items.isEmpty && Builtin.List.listTooLong (items.size + items2.size)) = true) (hs1 : items.size ≤ sizeLine) (hs2 : items.size + items2.size ≤ sizeLine + 1) :
    Meets (Builtin.«list.extend» ⟨[.ref l, .ref b], []⟩) (fun _ R s => s.heap.get? l = some { cls := .type "list", dict := none, data := .seq items n, slots := #[] } ∧ s.heap.get? b = some { cls := .type "tuple", dict := dd, data := .seq items2 n2, slots := sl } ∧ R (.ok (.ret Value.none)) { s with heap := s.heap.update l (Obj.mapSeq fun x => x ++ items2), toks := s.toks }) :=
  .of_wp fun prog w A R s h => by
    obtain ⟨hp, g, d, tk, os⟩ := s; obtain ⟨hl, hb, h⟩ := h; have f1 := idx_int; have f2 := sub_tuple_tuple; have f3 := sub_list_list; have f4 := sub_tuple_list; have f5 := sub_list_tuple;
    have hz' : (items ++ items2).size ≤ sizeLine + 1 := by rw [Array.size_append]; exact hs2
    wp_walk using (wpAny_updateSeq hl rfl (hz := hs1) (_hz' := hz')), wpAny_loadPart' hl, wpAny_loadPart' hb; exact ⟨_, rfl, h⟩
end PySem.AutoSeq1
namespace DL
open PySem PySem.Spec PyProof.Rows L2
def rExtendU (K : PySem.W.Frag) : V → List V → Hp → VK → Prop := fun x vs H Q => ∃ l b xs zs, x = .ref l ∧ vs = [.ref b] ∧ H l = some (.lst xs) ∧ SqT K H b zs ∧ xs.length + zs.length ≤ sizeLine ∧ Q .non (upd H l (.lst (xs ++ zs)))
theorem mt_extendU {X : Cx} : MtR X "list.extend" (rExtendU X.K) := by
  intro pins s σ H x vs v us Q I rx rv h
  obtain ⟨l, b, xs, zs, rfl, rfl, hH, hB, hz, q⟩ := h
  cases rx
  obtain ⟨u, rfl, ru⟩ := rv.one
  cases ru
  obtain ⟨z, its, n, r, hl, e⟩ := I.lstM hH
  obtain ⟨its2, r2, ⟨o2, e2, hc2, n2, hd2⟩, z2⟩ := I.tuple hB
  obtain ⟨c2, dd, dt, sl⟩ := o2
  replace hc2 : c2 = .type "tuple" := hc2
  replace hd2 : dt = .seq its2.toArray n2 := hd2
  subst hc2 hd2
  have hl2 := r2.length
  have hsz : its.toArray.size + its2.toArray.size ≤ sizeLine := by rw [List.size_toArray, List.size_toArray]; omega
  have hlong : ¬ (!its.toArray.isEmpty && Builtin.List.listTooLong (its.toArray.size + its2.toArray.size)) = true := by
    rw [notLongL hsz, Bool.and_false]
    exact Bool.false_ne_true
  refine call_meets F.slot_list_extend ⟨_, e, rfl⟩ F.entry_list_extend (F.args_list_extend_2 _ _)
    (AutoSeq1.ext_tup l its.toArray n b its2.toArray n2 dd sl hlong (by rw [List.size_toArray]; omega) (by omega)) ⟨e, e2, ?_⟩
  refine ⟨.non, _, I.lset (its' := its ++ its2) hH e (by simp) (r.append r2) ?_, rfl, q⟩
  rw [List.length_append]
  omega
end DL
/-! DL, part h: methods of lists, texts, dicts. -/
namespace DL
open PySem PySem.Spec PyProof.Rows L2

def mAppend : FM := fun d ds S => match d, ds with
  | .ob n, [x] => match S[n]? with
    | some (.lst xs) => if xs.length < sizeLine then some (.non, S.set n (.lst (xs ++ [x]))) else none
    | _ => none
  | _, _ => none
/-- extend by items -/
def mExtendT : FM := fun d ys S => match d with
  | .ob n => match S[n]? with
    | some (.lst xs) => if xs.length + ys.length ≤ sizeLine then some (.non, S.set n (.lst (xs ++ ys))) else none
    | _ => none
  | _ => none
def mExtend : FM := fun d ds S => match ds with
  | [.ob j] => match S[j]? with
    | some (.lst ys) => mExtendT d ys S
    | _ => none
  | [.tup ys] => mExtendT d ys S
  | _ => none
def mPop : FM := fun d ds S => match d, ds with
  | .ob n, [] => match S[n]? with
    | some (.lst xs) => match xs[xs.length - 1]? with
      | some y => some (y, S.set n (.lst xs.dropLast))
      | none => none
    | _ => none
  | .ob n, [.int i] => match S[n]? with
    | some (.lst xs) => if -(2 ^ 63) ≤ i ∧ i < 2 ^ 63 then match seqIndex? i xs.length with
      | some k => match xs[k]? with
        | some y => some (y, S.set n (.lst (xs.eraseIdx k)))
        | none => none
      | none => none else none
    | _ => none
  | _, _ => none
def mClear : FM := fun d ds S => match d, ds with
  | .ob n, [] => match S[n]? with
    | some (.lst _) => some (.non, S.set n (.lst []))
    | _ => none
  | _, _ => none
/-- the first place of an equal one -/
def idxP (p : PyData) : List PyData → Nat → Option Nat
  | [], _ => none
  | z :: zs, j => if PyData.eqv z p then some j else idxP p zs (j + 1)
def joinOk (a : Str) (ys : List Str) : Prop := (ys.map (·.length)).sum + ys.length * a.length ≤ 16777216
instance (a : Str) (ys : List Str) : Decidable (joinOk a ys) := inferInstanceAs (Decidable (_ ≤ _))
def mJoinT : FM := fun d xs S => match d with
  | .str a => match optAll strOf xs with
    | some ys => if joinOk a ys then some (.str (Txt.join a ys), S) else none
    | none => none
  | _ => none
def mJoin : FM := fun d ds S => match ds with
  | [x] => match seqD x S with
    | some xs => mJoinT d xs S
    | none => none
  | _ => none
def mSplit : FM := fun d ds S => match d, ds with
  | .str a, [.str b] => if (b.length == 0) = false ∧ a.length + 2 ≤ sizeLine ∧ (Txt.split a b).length ≤ sizeLine then some (.ob S.length, S ++ [.lst ((Txt.split a b).map D.str)]) else none
  | _, _ => none
def mSIndex : FM := fun d ds S => match d, ds with
  | .str a, [.str b] => match Builtin.Str.occurrences a b 0 a.length 1 with
    | i :: _ => some (.int (i : Nat), S)
    | [] => none
  | _, _ => none
def mGet : FM := fun d ds S => match d, ds with
  | .ob n, [k, x] => match S[n]? with
    | some (.dk kvs) => (keyD k).map fun kk => ((valD kvs kk).getD x, S)
    | _ => none
  | .ob n, [k] => match S[n]? with
    | some (.dk kvs) => (keyD k).map fun kk => ((valD kvs kk).getD .non, S)
    | _ => none
  | .kd ks vs, [.str z, x] => some ((kdGet ks vs z).getD x, S)
  | _, _ => none
section
variable {X : Cx}
theorem Reps.one {g : Gnd} {w : Wd} {d : D} {vs : List V} (r : Reps g w [d] vs) : ∃ v, vs = [v] ∧ Rep g w d v := by
  cases r with
  | cons a b => cases b; exact ⟨_, rfl, a⟩
theorem Reps.two {g : Gnd} {w : Wd} {d e : D} {vs : List V} (r : Reps g w [d, e] vs) : ∃ v u, vs = [v, u] ∧ Rep g w d v ∧ Rep g w e u := by
  cases r with
  | cons a b =>
    obtain ⟨u, rfl, c⟩ := b.one
    exact ⟨_, u, rfl, a, c⟩
theorem Reps.zero {g : Gnd} {w : Wd} {vs : List V} (r : Reps g w [] vs) : vs = [] := by
  cases r; rfl
theorem SOk.lt {g : Gnd} {w : Wd} {S : Sto} (so : SOk g w S) {i : Nat} {o : O} (e : S[i]? = some o) : i < w.n := by
  rw [so.len]
  exact (List.getElem?_eq_some_iff.mp e).1
theorem m_append : MtR X "list.append" (rM ⟨X.K, X.mg, X.w⟩ mAppend) := by
  intro pins s σ H x xs v us Q I rx rs h
  obtain ⟨w, S, d, ds, rfl, so, r, rd, k⟩ := h
  unfold mAppend at k
  split at k
  · rename_i n y
    split at k
    · rename_i zs q
      split at k
      · rename_i hl
        obtain ⟨vs, hv, rv, l⟩ := so.sql q
        obtain ⟨u, rfl, ru⟩ := rd.one
        cases r
        have el := rv.length
        obtain ⟨st, so'⟩ := Step.write so (so.lt q) (o := .lst (zs ++ [y])) (ho := .lst (vs ++ [u])) (.lst (by rw [List.length_append]; exact hl) (rv.append (.cons ru .nil)))
        exact mt_append pins s σ _ _ _ v us Q I rx rs ⟨_, vs, u, rfl, rfl, hv, by omega, k _ _ st so' .non⟩
      · exact k.elim
    · exact k.elim
  · exact k.elim
theorem m_extendT : MtR X "list.extend" (rMT ⟨X.K, X.mg, X.w⟩ mExtendT) := by
  intro pins s σ H x xs v us Q I rx rs h
  obtain ⟨w, S, d, ys, b, rfl, rfl, so, r, ⟨p, vb, rfl, hb, hn, lb, rb⟩, k⟩ := h
  unfold mExtendT at k
  split at k
  · split at k
    · rename_i n zs q
      split at k
      · rename_i hl
        obtain ⟨vs, hv, rv, l⟩ := so.sql q
        cases r
        have e1 := rv.length
        have e2 := rb.length
        obtain ⟨st, so'⟩ := Step.write so (so.lt q) (o := .lst (zs ++ ys)) (ho := .lst (vs ++ vb)) (.lst (by rw [List.length_append]; exact hl) (rv.append rb))
        exact mt_extend pins s σ _ _ _ v us Q I rx rs ⟨_, p, vs, vb, rfl, rfl, hv, hb, by omega, k _ _ st so' .non⟩
      · exact k.elim
    · exact k.elim
  · exact k.elim
theorem m_extend : MtR X "list.extend" (rM ⟨X.K, X.mg, X.w⟩ mExtend) := by
  intro pins s σ H x xs v us Q I rx rs h
  obtain ⟨w, S, d, ds, rfl, so, r, rd, k⟩ := h
  unfold mExtend at k
  split at k
  · split at k
    · rename_i j ys qb
      obtain ⟨u, rfl, ru⟩ := rd.one
      cases ru
      obtain ⟨vb, hb, rb, lb⟩ := so.sql qb
      unfold mExtendT at k
      split at k
      · split at k
        · rename_i n zs q
          split at k
          · rename_i hl
            obtain ⟨vs, hv, rv, l⟩ := so.sql q
            cases r
            have e1 := rv.length
            have e2 := rb.length
            obtain ⟨st, so'⟩ := Step.write so (so.lt q) (o := .lst (zs ++ ys)) (ho := .lst (vs ++ vb)) (.lst (by rw [List.length_append]; exact hl) (rv.append rb))
            exact mt_extend pins s σ _ _ _ v us Q I rx rs ⟨_, _, vs, vb, rfl, rfl, hv, hb, by omega, k _ _ st so' .non⟩
          · exact k.elim
        · exact k.elim
      · exact k.elim
    · exact k.elim
  · rename_i ys
    obtain ⟨u, rfl, ru⟩ := rd.one
    cases ru with
    | tup tt lb rb =>
      unfold mExtendT at k
      split at k
      · split at k
        · rename_i n zs q
          split at k
          · rename_i hl
            obtain ⟨vs, hv, rv, l⟩ := so.sql q
            cases r
            have e1 := rv.length
            have e2 := rb.length
            obtain ⟨st, so'⟩ := Step.write so (so.lt q) (o := .lst (zs ++ ys)) (.lst (by rw [List.length_append]; exact hl) (rv.append rb))
            exact mt_extendU pins s σ _ _ _ v us Q I rx rs ⟨_, _, _, _, rfl, rfl, hv, tt, by omega, k _ _ st so' .non⟩
          · exact k.elim
        · exact k.elim
      · exact k.elim
  · exact k.elim
theorem Reps.dropLast {g : Gnd} {w : Wd} {ds : List D} {vs : List V} (r : Reps g w ds vs) : Reps g w ds.dropLast vs.dropLast := by
  rw [List.dropLast_eq_take, List.dropLast_eq_take, r.length]
  exact r.take _
theorem Reps.eraseIdx {g : Gnd} {w : Wd} : ∀ {ds : List D} {vs : List V} (i : Nat), Reps g w ds vs → Reps g w (ds.eraseIdx i) (vs.eraseIdx i)
  | _, _, _, .nil => .nil
  | _, _, 0, .cons _ t => t
  | _, _, i + 1, .cons r t => .cons r (Reps.eraseIdx i t)
theorem m_pop : MtR X "list.pop" (rM ⟨X.K, X.mg, X.w⟩ mPop) := by
  intro pins s σ H x xs v us Q I rx rs h
  obtain ⟨w, S, d, ds, rfl, so, r, rd, k⟩ := h
  unfold mPop at k
  split at k
  · split at k
    · rename_i n zs q
      split at k
      · rename_i y ey
        obtain ⟨vs, hv, rv, l⟩ := so.sql q
        cases rd.zero
        cases r
        obtain ⟨u, eu, ru⟩ := rv.get ey
        obtain ⟨st, so'⟩ := Step.write so (so.lt q) (o := .lst zs.dropLast) (ho := .lst vs.dropLast) (.lst (by rw [List.length_dropLast]; omega) rv.dropLast)
        exact mt_pop pins s σ _ _ _ v us Q I rx rs ⟨_, vs, u, rfl, rfl, hv, by rw [← rv.length]; exact eu, k _ _ st so' (Rep.mono st.toMono _ _ ru)⟩
      · exact k.elim
    · exact k.elim
  · rename_i n i
    split at k
    · rename_i zs q
      split at k
      · rename_i hi
        split at k
        · rename_i j ej
          split at k
          · rename_i y ey
            obtain ⟨vs, hv, rv, l⟩ := so.sql q
            obtain ⟨u0, rfl, ru0⟩ := rd.one
            cases ru0
            cases r
            obtain ⟨u, eu, ru⟩ := rv.get ey
            obtain ⟨st, so'⟩ := Step.write so (so.lt q) (o := .lst (zs.eraseIdx j)) (ho := .lst (vs.eraseIdx j)) (.lst (Nat.le_trans (len_erase _ _) l) (rv.eraseIdx j))
            exact mt_popAt pins s σ _ _ _ v us Q I rx rs ⟨_, vs, i, j, u, rfl, rfl, hv, hi.1, hi.2, by rw [← rv.length]; exact ej, eu, k _ _ st so' (Rep.mono st.toMono _ _ ru)⟩
          · exact k.elim
        · exact k.elim
      · exact k.elim
    · exact k.elim
  · exact k.elim
theorem m_clear : MtR X "list.clear" (rM ⟨X.K, X.mg, X.w⟩ mClear) := by
  intro pins s σ H x xs v us Q I rx rs h
  obtain ⟨w, S, d, ds, rfl, so, r, rd, k⟩ := h
  unfold mClear at k
  split at k
  · split at k
    · rename_i n zs q
      obtain ⟨vs, hv, rv, l⟩ := so.sql q
      cases rd.zero
      cases r
      obtain ⟨st, so'⟩ := Step.write so (so.lt q) (o := .lst []) (ho := .lst []) (.lst (Nat.zero_le _) .nil)
      exact mt_clear pins s σ _ _ _ v us Q I rx rs ⟨_, vs, rfl, rfl, hv, k _ _ st so' .non⟩
    · exact k.elim
  · exact k.elim
theorem join_any {pins : List (Addr × Obj)} {σ : L2.St} {s : Shared} {w : Wd} {S : Sto} {d : D} {xs : List D} {x : V} {vs : List V} {a : Addr} {v : Value} {us : List Value} {Q : VK} (I : Inv X pins σ w.H s) (so : SOk ⟨X.K, X.mg, X.w⟩ w S) (rx : RelV x v) (rs : Vals [.ref a] us)
    (r : Rep ⟨X.K, X.mg, X.w⟩ w d x) (hq : SqL X.K w.H a vs ∨ SqT X.K w.H a vs) (rv : Reps ⟨X.K, X.mg, X.w⟩ w xs vs) (k : Post ⟨X.K, X.mg, X.w⟩ w (Rep ⟨X.K, X.mg, X.w⟩) (.ofO (mJoinT d xs S)) Q fun _ _ _ => False) :
    wpAny (model X.prog X.w) X.A (call (.builtin "str.join") (v :: us)) (EP X pins σ Q) X.xe s := by
  unfold mJoinT at k
  split at k
  · split at k
    · rename_i ys e
      have e1 := strOf_ok e
      subst e1
      have e2 := rv.strs
      subst e2
      split at k
      · rename_i hj
        cases r
        exact mt_join pins s σ _ _ _ v us Q I rx rs ⟨_, a, ys, rfl, rfl, hq, hj, k w _ (Step.refl so) so (.str _)⟩
      · exact k.elim
    · exact k.elim
  · exact k.elim
theorem m_joinT : MtR X "str.join" (rMT ⟨X.K, X.mg, X.w⟩ mJoinT) := by
  intro pins s σ H x xs v us Q I rx rs h
  obtain ⟨w, S, d, ys, b, rfl, rfl, so, r, ⟨p, vb, rfl, hb, hn, lb, rb⟩, k⟩ := h
  exact join_any I so rx rs r (.inl (SqL.of hb)) rb k
theorem m_join : MtR X "str.join" (rM ⟨X.K, X.mg, X.w⟩ mJoin) := by
  intro pins s σ H x xs v us Q I rx rs h
  obtain ⟨w, S, d, ds, rfl, so, r, rd, k⟩ := h
  unfold mJoin at k
  split at k
  · split at k
    · rename_i ys e
      obtain ⟨u0, rfl, ru0⟩ := rd.one
      obtain ⟨a, vs, rfl, hq, rv, l⟩ := seqD_ok so ru0 e
      exact join_any I so rx rs r hq rv k
    · exact k.elim
  · exact k.elim
theorem m_split : MtR X "str.split" (rM ⟨X.K, X.mg, X.w⟩ mSplit) := by
  intro pins s σ H x xs v us Q I rx rs h
  obtain ⟨w, S, d, ds, rfl, so, r, rd, k⟩ := h
  unfold mSplit at k
  split at k
  · split at k
    · rename_i hc
      obtain ⟨u0, rfl, ru0⟩ := rd.one
      cases ru0
      cases r
      refine mt_split pins s σ _ _ _ v us Q I rx rs ⟨_, _, rfl, rfl, hc.1, hc.2.1, fun p hp => ?_⟩
      obtain ⟨st, so', rr⟩ := Step.new so hp (o := .lst ((Txt.split _ _).map D.str)) (.lst (by rw [List.length_map]; exact hc.2.2) (Reps.of_strs _))
      exact k _ _ st so' rr
    · exact k.elim
  · exact k.elim
theorem m_sindex : MtR X "str.index" (rM ⟨X.K, X.mg, X.w⟩ mSIndex) := by
  intro pins s σ H x xs v us Q I rx rs h
  obtain ⟨w, S, d, ds, rfl, so, r, rd, k⟩ := h
  unfold mSIndex at k
  split at k
  · split at k
    · rename_i i rest e
      obtain ⟨u0, rfl, ru0⟩ := rd.one
      cases ru0
      cases r
      exact mt_sindex pins s σ _ _ _ v us Q I rx rs ⟨_, _, i, rest, rfl, rfl, e, k w _ (Step.refl so) so (.int _)⟩
    · exact k.elim
  · exact k.elim
theorem valD_getD {g : Gnd} {w : Wd} {k : Key} {kvs : List (Key × D)} {kus : List (Key × V)} {x : D} {u : V} (e : kvs.map (·.1) = kus.map (·.1)) (r : Reps g w (kvs.map (·.2)) (kus.map (·.2))) (rx : Rep g w x u) : Rep g w ((valD kvs k).getD x) ((valV kus k).getD u) := by
  obtain ⟨q1, q2⟩ := valD_ok (k := k) e r
  cases z : valD kvs k with
  | none => rw [q2 z]; exact rx
  | some d =>
    obtain ⟨v', ev, r'⟩ := q1 d z
    rw [ev]
    exact r'
theorem m_get (hu : X.A.units + 200 < cLine) : MtR X "dict.get" (rM ⟨X.K, X.mg, X.w⟩ mGet) := by
  intro pins s σ H x xs v us Q I rx rs h
  obtain ⟨w, S, d, ds, rfl, so, r, rd, k⟩ := h
  unfold mGet at k
  split at k
  · rename_i n k0 x0
    split at k
    · rename_i kvs q
      cases ek : keyD k0 with
      | none => rw [ek] at k; exact k.elim
      | some kk =>
        rw [ek] at k
        obtain ⟨u1, u2, rfl, r1, r2⟩ := rd.two
        obtain ⟨kus, eh, l, e3, rk⟩ := so.dka q
        have e1 := keyD_ok r1 ek
        subst e1
        obtain ⟨w1, w2, rfl, q1, q2⟩ := rs.two
        cases r
        obtain rfl : v = .ref (w.m n) := rx
        exact d_get2 (by omega) I (DGet.k (k := kk) eh) q1 q2 fun w' s3 I3 rw' => ⟨_, _, I3, rw', k w _ (Step.refl so) so (valD_getD e3 rk r2)⟩
    · exact k.elim
  · rename_i n k0
    split at k
    · rename_i kvs q
      cases ek : keyD k0 with
      | none => rw [ek] at k; exact k.elim
      | some kk =>
        rw [ek] at k
        obtain ⟨u1, rfl, r1⟩ := rd.one
        obtain ⟨kus, eh, l, e3, rk⟩ := so.dka q
        have e1 := keyD_ok r1 ek
        subst e1
        obtain ⟨w1, rfl, q1⟩ := rs.one
        cases r
        obtain rfl : v = .ref (w.m n) := rx
        exact d_get1 (by omega) I (DGet.k (k := kk) eh) q1 fun w' s3 I3 rw' => ⟨_, _, I3, rw', k w _ (Step.refl so) so (valD_getD e3 rk .non)⟩
    · exact k.elim
  · obtain ⟨u1, u2, rfl, r1, r2⟩ := rd.two
    obtain ⟨w1, w2, rfl, q1, q2⟩ := rs.two
    cases r1
    cases r with
    | kd kk ke kl kr =>
      rename_i ks vs z x ad es n ws us'
      obtain rfl : v = .ref ad := rx
      obtain ⟨t, rfl⟩ := q1
      refine call_meetsIn PySem.F.slot_dict_get (kd_type kk I) PySem.F.entry_dict_get (PySem.F.args_dict_get_3 _ _ _)
        (meets_dict_get_default (PySem.strKind X.prog X.w) ad (PySem.strKind_is X.prog X.w z t) kk.low w2) ⟨_, PySem.W.mapOf_K (prog := X.prog) I.kIn kk.at_ kk.lit, ?_⟩
      rw [PySem.W.find_K kk.at_ (ke z)]
      obtain ⟨h1, h2⟩ := kd_look (z := z) (ks := ks) kl kr
      cases e : kdGet ks vs z with
      | none =>
        rw [e] at k
        rw [h2 e]
        exact ⟨u2, _, I.tok _, q2, k w _ (Step.refl so) so r2⟩
      | some d =>
        rw [e] at k
        obtain ⟨u0, v0, e2, r3, r4⟩ := h1 d e
        rw [e2]
        exact ⟨v0, _, I.tok _, r3, k w _ (Step.refl so) so r4⟩
  · exact k.elim
end
end DL
/-! DL, part i: statements. -/
namespace DL
open PySem PySem.Spec PyProof.Rows L2

def PostS (g : Gnd) (w : Wd) (out : OutS) (D : Ends) (W : WX) : Prop := match out with
  | .ok .nx fr S => ∀ w' σ', Step w w' → SOk g w' S → FrOk g w' fr σ' → D.nx σ' w'.H
  | .ok .bk fr S => ∀ w' σ', Step w w' → SOk g w' S → FrOk g w' fr σ' → D.bk σ' w'.H
  | .ok .ct fr S => ∀ w' σ', Step w w' → SOk g w' S → FrOk g w' fr σ' → D.ct σ' w'.H
  | .ok (.rt d) _ S => ∀ w' v, Step w w' → SOk g w' S → Rep g w' d v → D.rt v w'.H
  | .ex e fr S => ∀ w' σ' c dx, Step w w' → SOk g w' S → FrOk g w' fr σ' → RepX g w' e c dx → W c dx σ' w'.H
  | .no => False
def tS (g : Gnd) (W : WX) (f : DenS) : TS := fun D σ H => ∃ w S fr, w.H = H ∧ SOk g w S ∧ FrOk g w fr σ ∧ PostS g w (f fr S) D W
theorem PostS.step {g : Gnd} {w w' : Wd} {out : OutS} {D : Ends} {W : WX} (a : Step w w') (p : PostS g w out D W) : PostS g w' out D W := by
  cases out with
  | ok f fr S =>
    cases f with
    | nx => exact fun w2 σ' s so fo => p w2 σ' (a.trans s) so fo
    | bk => exact fun w2 σ' s so fo => p w2 σ' (a.trans s) so fo
    | ct => exact fun w2 σ' s so fo => p w2 σ' (a.trans s) so fo
    | rt d => exact fun w2 v s so r => p w2 v (a.trans s) so r
  | ex e fr S => exact fun w2 σ' c dx s so fo rx => p w2 σ' c dx (a.trans s) so fo rx
  | no => exact p
theorem FrOk.set {g : Gnd} {w : Wd} {fr : Fr} {σ : L2.St} {d : D} {v : V} (f : FrOk g w fr σ) (i : Nat) (r : Rep g w d v) : FrOk g w (fr.set i (some d)) (σ.set i (some v)) := by
  refine ⟨by rw [List.length_set, List.length_set]; exact f.len, fun j e h => ?_⟩
  by_cases hj : j = i
  · subst hj
    have hl : j < fr.length := by
      have := (List.getElem?_eq_some_iff.mp h).1
      rw [List.length_set] at this
      exact this
    rw [List.getElem?_set_self hl] at h
    cases h
    exact ⟨v, List.getElem?_set_self (by rw [← f.len]; exact hl), r⟩
  · rw [List.getElem?_set_ne (Ne.symm hj)] at h ⊢
    exact f.at_ j e h
theorem FrOk.unset {g : Gnd} {w : Wd} {fr : Fr} {σ : L2.St} (f : FrOk g w fr σ) (i : Nat) (o : Option V) : FrOk g w (fr.set i none) (σ.set i o) := by
  refine ⟨by rw [List.length_set, List.length_set]; exact f.len, fun j e h => ?_⟩
  by_cases hj : j = i
  · subst hj
    have hl : j < fr.length := by
      have := (List.getElem?_eq_some_iff.mp h).1
      rw [List.length_set] at this
      exact this
    rw [List.getElem?_set_self hl] at h
    cases h
  · rw [List.getElem?_set_ne (Ne.symm hj)] at h ⊢
    exact f.at_ j e h

/-! ### blocks, small statements -/
/-- an expression, then a statement -/
def Out.thn {α : Type} (o : Out α) (fr : Fr) (f : α → Sto → OutS) : OutS := match o with
  | .ok a S => f a S
  | .ex e S => .ex e fr S
  | .no => .no
def dNil : DenS := fun fr S => .ok .nx fr S
def dSeq (a b : DenS) : DenS := fun fr S => match a fr S with
  | .ok .nx fr' S' => b fr' S'
  | o => o
def dBreak : DenS := fun fr S => .ok .bk fr S
def dCont : DenS := fun fr S => .ok .ct fr S
def dExpr (f : DenE) : DenS := fun fr S => (f fr S).thn fr fun _ S' => .ok .nx fr S'
def dRet (f : DenE) : DenS := fun fr S => (f fr S).thn fr fun d S' => .ok (.rt d) fr S'
def dRetN : DenS := fun fr S => .ok (.rt .non) fr S
def dIfS (t : DenT) (a b : DenS) : DenS := fun fr S => (t fr S).thn fr fun c S' => match c with
  | true => a fr S'
  | false => b fr S'
def dSet (i : Nat) (f : DenE) : DenS := fun fr S => (f fr S).thn fr fun d S' => .ok .nx (fr.set i (some d)) S'
section
variable {X : Cx} {W : WX} {g : Gnd} {st : Stmt} {rest : List Stmt} {a b : DenS} {e : Expr} {f : DenE} {pos : Pos} {t : DenT}
/-- the reading of an expression, what follows it a statement's end -/
theorem liftS {α β : Type} {R : Wd → α → β → Prop} {fe : Fr → Sto → Out α} {k : α → Fr → Sto → OutS} {D : Ends} {σ : L2.St} {H : Hp} {Q : β → Hp → Prop}
    (h : tS g W (fun fr S => (fe fr S).thn fr fun a S' => k a fr S') D σ H)
    (hq : ∀ w S fr a b, SOk g w S → FrOk g w fr σ → R w a b → PostS g w (k a fr S) D W → Q b w.H) : tG g W R fe σ H Q := by
  obtain ⟨w, S, fr, e, so, fo, p⟩ := h
  refine ⟨w, S, fr, e, so, fo, ?_⟩
  have p : PostS g w ((fe fr S).thn fr fun a S' => k a fr S') D W := p
  cases q : fe fr S with
  | ok a S1 =>
    rw [q] at p
    intro w1 x st so1 r
    exact hq w1 S1 fr a x so1 (fo.mono st.toMono) r (PostS.step st p)
  | ex e S1 =>
    rw [q] at p
    intro w1 c dx st so1 rx
    exact p w1 σ c dx st so1 (fo.mono st.toMono) rx
  | no =>
    rw [q] at p
    exact p
theorem nextS {α β α' β' : Type} {R1 : Wd → α → β → Prop} {R2 : Wd → α' → β' → Prop} (hm : Stays R1) {f' : Fr → Sto → Out α'} {k : α' → Sto → OutS} {D : Ends} {σ : L2.St} {Q : β' → Hp → Prop} {w : Wd} {S : Sto} {fr : Fr} {a : α} {x : β}
    (so : SOk g w S) (fo : FrOk g w fr σ) (r1 : R1 w a x) (p : PostS g w ((f' fr S).thn fr k) D W)
    (hq : ∀ w S b y, SOk g w S → FrOk g w fr σ → R1 w a x → R2 w b y → PostS g w (k b S) D W → Q y w.H) : tG g W R2 f' σ w.H Q := by
  refine ⟨w, S, fr, rfl, so, fo, ?_⟩
  cases q : f' fr S with
  | ok b S1 =>
    rw [q] at p
    intro w1 y st so1 r
    exact hq w1 S1 b y so1 (fo.mono st.toMono) (hm _ _ _ _ st r1) r (PostS.step st p)
  | ex e S1 =>
    rw [q] at p
    intro w1 c dx st so1 rx
    exact p w1 σ c dx st so1 (fo.mono st.toMono) rx
  | no =>
    rw [q] at p
    exact p
theorem ds_nil : PSs X [] (tS ⟨X.K, X.mg, X.w⟩ W dNil) := by
  refine PSs.weaken pss_nil fun D σ H q => ?_
  obtain ⟨w, S, fr, rfl, so, fo, p⟩ := q
  exact p w σ (Step.refl so) so fo
theorem ds_seq (h1 : PS X st (tS ⟨X.K, X.mg, X.w⟩ W a)) (h2 : PSs X rest (tS ⟨X.K, X.mg, X.w⟩ W b)) : PSs X (st :: rest) (tS ⟨X.K, X.mg, X.w⟩ W (dSeq a b)) := by
  refine PSs.weaken (pss_cons h1 h2) fun D σ H q => ?_
  obtain ⟨w, S, fr, e, so, fo, p⟩ := q
  refine ⟨w, S, fr, e, so, fo, ?_⟩
  unfold dSeq at p
  cases q : a fr S with
  | ok f fr1 S1 =>
    rw [q] at p
    cases f with
    | nx => exact fun w1 σ1 st so1 fo1 => ⟨w1, S1, fr1, rfl, so1, fo1, PostS.step st p⟩
    | bk => exact p
    | ct => exact p
    | rt d => exact p
  | ex e fr1 S1 => rw [q] at p; exact p
  | no => rw [q] at p; exact p
theorem ds_pass : PS X (.Pass pos) (tS ⟨X.K, X.mg, X.w⟩ W dNil) := by
  refine PS.weaken ps_pass fun D σ H q => ?_
  obtain ⟨w, S, fr, rfl, so, fo, p⟩ := q
  exact p w σ (Step.refl so) so fo
theorem ds_doc {x : Str} {j : Nat} {pos' : Pos} : PS X (.Expr (.Constant (.str x) j pos) pos') (tS ⟨X.K, X.mg, X.w⟩ W dNil) := by
  refine PS.weaken ps_doc fun D σ H q => ?_
  obtain ⟨w, S, fr, rfl, so, fo, p⟩ := q
  exact p w σ (Step.refl so) so fo
theorem ds_break : PS X (.Break pos) (tS ⟨X.K, X.mg, X.w⟩ W dBreak) := by
  refine PS.weaken ps_break fun D σ H q => ?_
  obtain ⟨w, S, fr, rfl, so, fo, p⟩ := q
  exact p w σ (Step.refl so) so fo
theorem ds_cont : PS X (.Continue pos) (tS ⟨X.K, X.mg, X.w⟩ W dCont) := by
  refine PS.weaken ps_continue fun D σ H q => ?_
  obtain ⟨w, S, fr, rfl, so, fo, p⟩ := q
  exact p w σ (Step.refl so) so fo
theorem ds_retN : PS X (.Return none pos) (tS ⟨X.K, X.mg, X.w⟩ W dRetN) := by
  refine PS.weaken ps_retN fun D σ H q => ?_
  obtain ⟨w, S, fr, rfl, so, fo, p⟩ := q
  exact p w _ (Step.refl so) so .non
theorem ds_ret (he : PE X e (tE ⟨X.K, X.mg, X.w⟩ W f)) : PS X (.Return (some e) pos) (tS ⟨X.K, X.mg, X.w⟩ W (dRet f)) :=
  PS.weaken (ps_ret he) fun D σ H q => liftS q fun w S fr d v so fo r p => p w v (Step.refl so) so r
theorem ds_expr (he : PE X e (tE ⟨X.K, X.mg, X.w⟩ W f)) (hs : swapsWith e none pos.line X.env = pure false) : PS X (.Expr e pos) (tS ⟨X.K, X.mg, X.w⟩ W (dExpr f)) :=
  PS.weaken (ps_expr he hs) fun D σ H q => liftS q fun w S fr d v so fo r p => p w σ (Step.refl so) so fo
theorem ds_if {c : Expr} {xs ys : List Stmt} (hc : PT X c (tT ⟨X.K, X.mg, X.w⟩ W t)) (ha : PSs X xs (tS ⟨X.K, X.mg, X.w⟩ W a)) (hb : PSs X ys (tS ⟨X.K, X.mg, X.w⟩ W b)) : PS X (.If c xs ys pos) (tS ⟨X.K, X.mg, X.w⟩ W (dIfS t a b)) :=
  PS.weaken (ps_if hc ha hb) fun D σ H q => liftS q fun w S fr d v so fo r p => by
    subst r
    cases d with
    | true => exact iteT ⟨w, S, fr, rfl, so, fo, p⟩
    | false => exact iteF ⟨w, S, fr, rfl, so, fo, p⟩
theorem ds_set {i : Nat} {x : Str} {pos' : Pos} (hN : X.N.Nodup) (hi : X.N[i]? = some x) (hx : Loc X.env.scope x) (he : PE X e (tE ⟨X.K, X.mg, X.w⟩ W f)) (hs : swapsWith e (some (.Name x pos')) pos.line X.env = pure false)
    (hf : X.fn x = true ∨ X.env.scope.names.lookup x = some .local) : PS X (.Assign [.Name x pos'] e pos) (tS ⟨X.K, X.mg, X.w⟩ W (dSet i f)) :=
  PS.weaken (ps_set hN hi hx he hs hf) fun D σ H q => liftS q fun w S fr d v so fo r p => p w _ (Step.refl so) so (fo.set i r)
end

/-! ### targets -/
abbrev DTg := D → Fr → Sto → Option Fr
abbrev DTgs := List D → Fr → Sto → Option Fr
def gN (i : Nat) : DTg := fun d fr _ => some (fr.set i (some d))
def gsNil : DTgs := fun ds fr _ => match ds with
  | [] => some fr
  | _ => none
def gsCons (t : DTg) (u : DTgs) : DTgs := fun ds fr S => match ds with
  | d :: r => match t d fr S with
    | some fr' => u r fr' S
    | none => none
  | [] => none
def gT (n : Nat) (t : DTgs) : DTg := fun d fr S => match seqD d S with
  | some xs => if xs.length = n then t xs fr S else none
  | none => none
/-- is: the slots that it may write -/
def tGt (g : Gnd) (is : List Nat) (f : DTg) : TG := fun v σ H Q => ∃ w S fr d, w.H = H ∧ SOk g w S ∧ FrOk g w fr σ ∧ Rep g w d v ∧ match f d fr S with
  | some fr' => ∀ σ', FrOk g w fr' σ' → wipe σ' is = wipe σ is → Q σ' H
  | none => False
def tGts (g : Gnd) (is : List Nat) (f : DTgs) : TGs := fun vs σ H Q => ∃ w S fr ds, w.H = H ∧ SOk g w S ∧ FrOk g w fr σ ∧ Reps g w ds vs ∧ match f ds fr S with
  | some fr' => ∀ σ', FrOk g w fr' σ' → wipe σ' is = wipe σ is → Q σ' H
  | none => False
theorem wipe_at : ∀ (is : List Nat) (σ : L2.St) (j : Nat), (wipe σ is)[j]? = if j ∈ is then (if j < σ.length then some none else none) else σ[j]?
  | [], σ, j => by simp [wipe]
  | i :: is, σ, j => by
    unfold wipe
    rw [List.getElem?_set, wipe_length, wipe_at is σ j]
    by_cases e : i = j
    · subst e
      simp
    · have e' : ¬ j = i := fun q => e q.symm
      simp [e, e']
theorem wipe_set {is : List Nat} {σ : L2.St} {i : Nat} {o : Option V} (h : i ∈ is) : wipe (σ.set i o) is = wipe σ is := by
  refine List.ext_getElem? fun j => ?_
  rw [wipe_at, wipe_at, List.length_set]
  by_cases hj : j ∈ is
  · rw [if_pos hj, if_pos hj]
  · rw [if_neg hj, if_neg hj, List.getElem?_set_ne (fun e : i = j => hj (by rw [← e]; exact h))]
theorem wipe_wipe (σ : L2.St) (is : List Nat) : wipe (wipe σ is) is = wipe σ is := by
  refine List.ext_getElem? fun j => ?_
  rw [wipe_at, wipe_at is σ, wipe_length]
  by_cases hj : j ∈ is
  · rw [if_pos hj, if_pos hj]
  · rw [if_neg hj, if_neg hj]
section
variable {X : Cx} {W : WX} {e : Expr} {es : List Expr} {pos : Pos} {t : DTg} {u : DTgs} {is : List Nat}
theorem dg_name {i : Nat} {x : Str} (hN : X.N.Nodup) (hi : X.N[i]? = some x) (hx : Loc X.env.scope x) (hf : X.fn x = true ∨ X.env.scope.names.lookup x = some .local) (hm : i ∈ is) : PG X (.Name x pos) (tGt ⟨X.K, X.mg, X.w⟩ is (gN i)) := by
  refine PG.weaken (pg_name hN hi hx hf) fun v σ H Q q => ?_
  obtain ⟨w, S, fr, d, rfl, so, fo, r, p⟩ := q
  exact p _ (fo.set i r) (wipe_set hm)
theorem PGs.weaken {t t' : TGs} (h : PGs X es t) (k : ∀ vs σ H Q, t' vs σ H Q → t vs σ H Q) : PGs X es t' := ⟨fun pins s σ H vs us Q I r hw => h.run pins s σ H vs us Q I r (k vs σ H Q hw)⟩
theorem dgs_nil : PGs X [] (tGts ⟨X.K, X.mg, X.w⟩ is gsNil) := by
  refine PGs.weaken pgs_nil fun vs σ H Q q => ?_
  obtain ⟨w, S, fr, ds, rfl, so, fo, r, p⟩ := q
  unfold gsNil at p
  split at p
  · rename_i e
    split at e
    · cases e
      exact ⟨r.zero, p _ fo rfl⟩
    · cases e
  · exact p.elim
theorem dgs_cons (h1 : PG X e (tGt ⟨X.K, X.mg, X.w⟩ is t)) (h2 : PGs X es (tGts ⟨X.K, X.mg, X.w⟩ is u)) (hs : (assignEach (e :: es) X.env).map (·.2) = assign e X.env :: (assignEach es X.env).map (·.2)) : PGs X (e :: es) (tGts ⟨X.K, X.mg, X.w⟩ is (gsCons t u)) := by
  refine PGs.weaken (pgs_cons h1 h2 hs) fun vs σ H Q q => ?_
  obtain ⟨w, S, fr, ds, rfl, so, fo, r, p⟩ := q
  cases r with
  | nil => exact p.elim
  | @cons d ds' v vs' r1 r2 =>
    refine ⟨v, vs', rfl, w, S, fr, d, rfl, so, fo, r1, ?_⟩
    have p : match (match t d fr S with | some fr' => u ds' fr' S | none => none) with
      | some fr' => ∀ σ', FrOk ⟨X.K, X.mg, X.w⟩ w fr' σ' → wipe σ' is = wipe σ is → Q σ' w.H
      | none => False := p
    cases q : t d fr S with
    | none => rw [q] at p; exact p.elim
    | some fr1 =>
      rw [q] at p
      refine fun σ1 fo1 e1 => ⟨w, S, fr1, ds', rfl, so, fo1, r2, ?_⟩
      dsimp only at p
      cases q2 : u ds' fr1 S with
      | none => rw [q2] at p; exact p.elim
      | some fr2 =>
        rw [q2] at p
        exact fun σ2 fo2 e2 => p σ2 fo2 (e2.trans e1)
theorem PG_or {t t' : TG} (h : PG X e t) (h' : PG X e t') : PG X e (fun v σ H Q => t v σ H Q ∨ t' v σ H Q) := ⟨fun pins s σ H v u Q I r q => q.elim (h.run pins s σ H v u Q I r) (h'.run pins s σ H v u Q I r)⟩
theorem dg_tup {k n : Nat} (hc : X.calm = true) (h : PGs X es (tGts ⟨X.K, X.mg, X.w⟩ is u)) (hn : (assignEach es X.env).length = n) (hst : (assignEach es X.env).findIdx? (·.1) = none) : PG X (.Tuple es k pos) (tGt ⟨X.K, X.mg, X.w⟩ is (gT n u)) := by
  refine PG.weaken (PG_or (pg_tup hc h hn hst) (pg_lst hc h hn hst)) fun v σ H Q q => ?_
  obtain ⟨w, S, fr, d, rfl, so, fo, r, p⟩ := q
  unfold gT at p
  cases q : seqD d S with
  | none => rw [q] at p; exact p.elim
  | some xs =>
    rw [q] at p
    dsimp only at p
    by_cases hl : xs.length = n
    · rw [if_pos hl] at p
      obtain ⟨a, vs, rfl, hq, rv, l⟩ := seqD_ok so r q
      rcases hq with hq | hq
      · exact .inr ⟨a, vs, rfl, hq, by rw [← rv.length]; exact hl, w, S, fr, xs, rfl, so, fo, rv, p⟩
      · exact .inl ⟨a, vs, rfl, hq, by rw [← rv.length]; exact hl, w, S, fr, xs, rfl, so, fo, rv, p⟩
    · rw [if_neg hl] at p
      exact p.elim
/-- target = value -/
def dAsg (t : DTg) (f : DenE) : DenS := fun fr S => (f fr S).thn fr fun d S' => match t d fr S' with
  | some fr' => .ok .nx fr' S'
  | none => .no
theorem ds_asg {tg : Expr} {f : DenE} (he : PE X e (tE ⟨X.K, X.mg, X.w⟩ W f)) (hg : PG X tg (tGt ⟨X.K, X.mg, X.w⟩ is t)) (hs : swapsWithSole [tg] e pos.line X.env = pure false) (hw : swappedStores [tg] e X.env = pure none)
    (h1 : (assignEach [tg] X.env).map (·.2) = [assign tg X.env]) : PS X (.Assign [tg] e pos) (tS ⟨X.K, X.mg, X.w⟩ W (dAsg t f)) := by
  refine PS.weaken (ps_asg he hg hs hw h1) fun D σ H q => liftS q fun w S fr d v so fo r p => ⟨w, S, fr, d, rfl, so, fo, r, ?_⟩
  cases q : t d fr S with
  | none => rw [q] at p; exact p.elim
  | some fr1 =>
    rw [q] at p
    exact fun σ1 fo1 _ => p w σ1 (Step.refl so) so fo1
/-- a, b = x, y -/
def dPar (i j : Nat) (h : DenA) : DenS := fun fr S => (h fr S).thn fr fun ds S' => match ds with
  | [d, e] => .ok .nx ((fr.set i (some d)).set j (some e)) S'
  | _ => .no
theorem ds_par {i j : Nat} {x y : Str} {a b : Expr} {h : DenA} {px py pt : Pos} {kt k2 : Nat} {pt2 : Pos} (hc : X.calm = true) (hN : X.N.Nodup) (hi : X.N[i]? = some x) (hj : X.N[j]? = some y) (hij : i ≠ j)
    (hx : X.env.scope.names.lookup x = some .local) (hy : X.env.scope.names.lookup y = some .local) (ha : PA X [a, b] (tA ⟨X.K, X.mg, X.w⟩ W h))
    (hw : swappedStores [.Tuple [.Name x px, .Name y py] kt pt] (.Tuple [a, b] k2 pt2) X.env = pure (some [x, y]))
    (hs : swapsWithSole [.Tuple [.Name x px, .Name y py] kt pt] (.Tuple [a, b] k2 pt2) pos.line X.env = pure false) :
    PS X (.Assign [.Tuple [.Name x px, .Name y py] kt pt] (.Tuple [a, b] k2 pt2) pos) (tS ⟨X.K, X.mg, X.w⟩ W (dPar i j h)) := by
  refine PS.weaken (ps_par hc hN hi hj hij hx hy ha hw hs) fun D σ H q => liftS q fun w S fr ds vs so fo r p => ?_
  split at p
  · obtain ⟨v, u, rfl, r1, r2⟩ := r.two
    exact ⟨v, u, rfl, p w _ (Step.refl so) so ((fo.set i r1).set j r2)⟩
  · exact p.elim
end

/-! ### o[i] = e -/
def putD (kvs : List (Key × D)) (k : Key) (v : D) : List (Key × D) :=
  if (kvs.any fun kv => decide (kv.1 = k)) = true then kvs.map (fun kv => if kv.1 = k then (kv.1, v) else kv) else kvs ++ [(k, v)]
def aSet (o i v : D) (S : Sto) : Option Sto := match o with
  | .ob n => match S[n]? with
    | some (.lst xs) => match i with
      | .int k => (ixN xs.length k).map fun j => S.set n (.lst (xs.set j v))
      | _ => none
    | some (.dk kvs) => match keyD i with
      | some k => if kvs.length < sizeLine then some (S.set n (.dk (putD kvs k v))) else none
      | none => none
    | _ => none
  | _ => none
def dSetIx (o i e : DenE) : DenS := fun fr S => (e fr S).thn fr fun v S1 => (o fr S1).thn fr fun x S2 => (i fr S2).thn fr fun y S3 => match aSet x y v S3 with
  | some S4 => .ok .nx fr S4
  | none => .no
def r3 (g : Gnd) (f : D → D → D → Sto → Option Sto) : TSet := fun o i v H Q => ∃ w S od id vd, w.H = H ∧ SOk g w S ∧ Rep g w od o ∧ Rep g w id i ∧ Rep g w vd v ∧ match f od id vd S with
  | some S' => ∀ w', Step w w' → SOk g w' S' → Q w'.H
  | none => False
theorem putD_ok {g : Gnd} {w : Wd} {k : Key} {x : D} {v : V} (rx : Rep g w x v) {kvs : List (Key × D)} {kus : List (Key × V)} (e : kvs.map (·.1) = kus.map (·.1)) (r : Reps g w (kvs.map (·.2)) (kus.map (·.2))) :
    (putD kvs k x).map (·.1) = (putK kus k v).map (·.1) ∧ Reps g w ((putD kvs k x).map (·.2)) ((putK kus k v).map (·.2)) ∧ (putD kvs k x).length ≤ kvs.length + 1 := by
  have hany : ∀ {kvs : List (Key × D)} {kus : List (Key × V)}, kvs.map (·.1) = kus.map (·.1) → (kvs.any fun kv => decide (kv.1 = k)) = (kus.any fun kv => decide (kv.1 = k)) := by
    intro kvs
    induction kvs with
    | nil => intro kus e; cases kus with | nil => rfl | cons _ _ => cases e
    | cons p r ih =>
      intro kus e
      cases kus with
      | nil => cases e
      | cons q s =>
        simp only [List.map_cons, List.cons.injEq] at e
        simp only [List.any_cons, e.1, ih e.2]
  have hmap : ∀ {kvs : List (Key × D)} {kus : List (Key × V)}, kvs.map (·.1) = kus.map (·.1) → Reps g w (kvs.map (·.2)) (kus.map (·.2)) →
      (kvs.map fun kv => if kv.1 = k then (kv.1, x) else kv).map (·.1) = (kus.map fun kv => if kv.1 = k then (kv.1, v) else kv).map (·.1) ∧
      Reps g w ((kvs.map fun kv => if kv.1 = k then (kv.1, x) else kv).map (·.2)) ((kus.map fun kv => if kv.1 = k then (kv.1, v) else kv).map (·.2)) := by
    intro kvs
    induction kvs with
    | nil => intro kus e r; cases kus with | nil => exact ⟨rfl, .nil⟩ | cons _ _ => cases e
    | cons p t ih =>
      intro kus e r
      cases kus with
      | nil => cases e
      | cons q s =>
        obtain ⟨a, b⟩ := p
        obtain ⟨c, dd⟩ := q
        simp only [List.map_cons, List.cons.injEq] at e
        obtain ⟨e1, e2⟩ := e
        subst e1
        cases r with
        | cons r1 r2 =>
          obtain ⟨h1, h2⟩ := ih e2 r2
          simp only [List.map_cons]
          by_cases q : a = k
          · subst q
            simp only [if_true]
            exact ⟨by rw [h1], .cons rx h2⟩
          · simp only [if_neg q]
            exact ⟨by rw [h1], .cons r1 h2⟩
  unfold putD putK
  rw [hany e]
  split
  · refine ⟨(hmap e r).1, (hmap e r).2, ?_⟩
    rw [List.length_map]
    omega
  · refine ⟨by rw [List.map_append, List.map_append, e]; rfl, ?_, by rw [List.length_append]; exact Nat.le_refl _⟩
    rw [List.map_append, List.map_append]
    exact r.append (.cons rx .nil)
section
variable {X : Cx} {W : WX}
theorem setr (hu : X.A.units + 200 < cLine) : PSet X (r3 ⟨X.K, X.mg, X.w⟩ aSet) := by
  intro pins s σ H o i v ov iv u Q I ro ri rv h
  obtain ⟨w, S, od, id, vd, rfl, so, r1, r2, r3, k⟩ := h
  unfold aSet at k
  cases od with
  | ob n =>
    cases r1
    dsimp only at k
    cases q : S[n]? with
    | none => rw [q] at k; exact k.elim
    | some ob =>
      rw [q] at k
      cases ob with
      | lst xs =>
        obtain ⟨vs, hv, rv', l⟩ := so.sql q
        cases id with
        | int kk =>
          cases r2
          dsimp only at k
          cases e : ixN xs.length kk with
          | none => rw [e] at k; exact k.elim
          | some j =>
            rw [e] at k
            obtain ⟨st, so'⟩ := Step.write so (so.lt q) (o := .lst (xs.set j vd)) (ho := .lst (vs.set j v)) (.lst (by rw [List.length_set]; exact l) (rv'.set r3 j))
            exact set_list pins s σ _ _ _ v ov iv u Q I ro ri rv ⟨_, vs, kk, j, rfl, rfl, hv, by rw [← rv'.length]; exact e, k _ st so'⟩
        | _ => exact k.elim
      | dk kvs =>
        dsimp only at k
        cases ek : keyD id with
        | none => rw [ek] at k; exact k.elim
        | some kk =>
          rw [ek] at k
          dsimp only at k
          by_cases hl : kvs.length < sizeLine
          · rw [if_pos hl] at k
            have e1 := keyD_ok r2 ek
            subst e1
            obtain ⟨kus, eh, l, e3, rk⟩ := so.dka q
            obtain ⟨p1, p2, p3⟩ := putD_ok (k := kk) r3 e3 rk
            have el := congrArg List.length e3
            rw [List.length_map, List.length_map] at el
            obtain ⟨st, so'⟩ := Step.write so (so.lt q) (o := .dk (putD kvs kk vd)) (ho := .dK (putK kus kk v)) (.dk (by omega) p1 p2)
            obtain rfl : ov = .ref (w.m n) := ro
            exact d_setItem (by omega) I (DPut.k (k := kk) eh (by omega)) ri rv fun s4 I4 => ⟨_, I4, k _ st so'⟩
          · rw [if_neg hl] at k
            exact k.elim
      | ins c fs => exact k.elim
  | _ => exact k.elim
theorem ds_setIx {o i e : Expr} {fo fi fe : DenE} {pos tpos : Pos} (hu : X.A.units + 200 < cLine) (he : PE X e (tE ⟨X.K, X.mg, X.w⟩ W fe)) (ho : PE X o (tE ⟨X.K, X.mg, X.w⟩ W fo)) (hi : PE X i (tE ⟨X.K, X.mg, X.w⟩ W fi))
    (ha : ∀ v, assign (.Subscript o i tpos) X.env v = (do
      let ov ← holding [v] (eval o X.env)
      let iv ← holding [v, ov] (eval i X.env)
      standAt tpos
      holding [v, ov, iv] (setItem ov iv v)
      release [v, ov, iv] []))
    (hs : swapsWithSole [.Subscript o i tpos] e pos.line X.env = pure false) (hw : swappedStores [.Subscript o i tpos] e X.env = pure none)
    (h1 : (assignEach [.Subscript o i tpos] X.env).map (·.2) = [assign (.Subscript o i tpos) X.env]) : PS X (.Assign [.Subscript o i tpos] e pos) (tS ⟨X.K, X.mg, X.w⟩ W (dSetIx fo fi fe)) := by
  refine PS.weaken (ps_asg he (pg_sub ho hi (setr hu) ha) hs hw h1) fun D σ H q => liftS q fun w S fr v x so fo1 r p => ?_
  refine nextS (R1 := Rep _) (R2 := Rep _) (fun _ _ _ _ s r => rmono s r) so fo1 r p fun w2 S2 od o2 so2 fo2 r2 ro p2 => ?_
  refine nextS (R1 := fun w (p : DL.D × DL.D) (q : V × V) => Rep _ w p.1 q.1 ∧ Rep _ w p.2 q.2) (a := (v, od)) (x := (x, o2)) (R2 := Rep _) (fun _ _ _ _ s r => ⟨rmono s r.1, rmono s r.2⟩) so2 fo2 ⟨r2, ro⟩ p2 fun w3 S3 id i3 so3 fo3 r3 ri p3 => ?_
  refine ⟨w3, S3, od, id, v, rfl, so3, r3.2, ri, r3.1, ?_⟩
  cases q : aSet od id v S3 with
  | none => rw [q] at p3; exact p3.elim
  | some S4 =>
    rw [q] at p3
    exact fun w4 st4 so4 => p3 w4 σ st4 so4 (fo3.mono st4.toMono)
end
end DL
/-! DL, part j: augmented assignment, while, for, comprehensions. -/
namespace DL
open PySem PySem.Spec PyProof.Rows L2

/-! ### name op= e -/
def aIAdd : F2 := fun a b S => match a, b with
  | .int i, .int j => some (.int (i + j), S)
  | .str x, .str y => if x.length + y.length ≤ sizeLine then some (.str (x ++ y), S) else none
  | .ob i, .ob j => match S[i]?, S[j]? with
    | some (.lst xs), some (.lst ys) => if xs.length + ys.length ≤ sizeLine then some (.ob i, S.set i (.lst (xs ++ ys))) else none
    | _, _ => none
  | _, _ => none
def dAug (i : Nat) (f : F2) (e : DenE) : DenS := fun fr S => match fr[i]? with
  | some (some x) => (e fr S).thn fr fun y S' => match f x y S' with
    | some (z, S2) => .ok .nx (fr.set i (some z)) S2
    | none => .no
  | _ => .no
section
variable {X : Cx} {W : WX} {g : Gnd} {e : Expr} {pos : Pos}
theorem ipr_add : PIp X .Add (r2 ⟨X.K, X.mg, X.w⟩ aIAdd) := by
  intro pins s σ H x y v u Q I rx ry h
  obtain ⟨w, S, a, b, rfl, so, ra, rb, p⟩ := h
  have stp := Step.refl so
  unfold aIAdd at p
  split at p
  · cases ra; cases rb
    exact iop_add pins s σ _ _ _ v u Q I rx ry ⟨_, _, rfl, rfl, p w _ stp so (.int _)⟩
  · cases ra; cases rb
    split at p
    · rename_i hl
      exact iop_add_str pins s σ _ _ _ v u Q I rx ry ⟨_, _, rfl, rfl, hl, p w _ stp so (.str _)⟩
    · exact p.elim
  · split at p
    · rename_i i j xs ys ea eb
      cases ra with
      | ob hi =>
        cases rb
        obtain ⟨vs, h1, r1, _⟩ := so.sql ea
        obtain ⟨us, h2, r2, _⟩ := so.sql eb
        split at p
        · rename_i hl
          have l1 := r1.length
          have l2 := r2.length
          obtain ⟨st, so'⟩ := Step.write so hi (o := .lst (xs ++ ys)) (ho := .lst (vs ++ us)) (.lst (by rw [List.length_append]; exact hl) (r1.append r2))
          exact iop_ext pins s σ _ _ _ v u Q I rx ry ⟨_, _, vs, us, rfl, rfl, h1, h2, by omega, p _ _ st so' (.ob hi)⟩
        · exact p.elim
    · exact p.elim
  · exact p.elim
theorem ipr_sub : PIp X .Sub (r2 ⟨X.K, X.mg, X.w⟩ aSub) := by
  intro pins s σ H x y v u Q I rx ry h
  obtain ⟨w, S, a, b, rfl, so, ra, rb, p⟩ := h
  unfold aSub iOp at p
  split at p
  · cases ra; cases rb
    exact ip_sub pins s σ _ _ _ v u Q I rx ry ⟨_, _, rfl, rfl, p w _ (Step.refl so) so (.int _)⟩
  · exact p.elim
theorem ds_aug {i : Nat} {x : Str} {op : Operator} {f : F2} {fe : DenE} {pos' : Pos} (hN : X.N.Nodup) (hi : X.N[i]? = some x) (hx : Loc X.env.scope x) (he : PE X e (tE ⟨X.K, X.mg, X.w⟩ W fe)) (ho : PIp X op (r2 ⟨X.K, X.mg, X.w⟩ f))
    (hf : X.fn x = true ∨ X.env.scope.names.lookup x = some .local) : PS X (.AugAssign (.Name x pos') op e pos) (tS ⟨X.K, X.mg, X.w⟩ W (dAug i f fe)) := by
  refine PS.weaken (ps_aug hN hi hx he ho hf) fun D σ H q => ?_
  obtain ⟨w, S, fr, rfl, so, fo, p⟩ := q
  unfold dAug at p
  split at p
  · rename_i d ed
    obtain ⟨v, ev, rv⟩ := fo.at_ i d ed
    refine ⟨v, ev, nextS (R1 := Rep _) (R2 := Rep _) (fun _ _ _ _ s r => rmono s r) so fo rv p fun w2 S2 b y so2 fo2 r2 rb p2 => ?_⟩
    refine ⟨w2, S2, d, b, rfl, so2, r2, rb, ?_⟩
    cases q : f d b S2 with
    | none => rw [q] at p2; exact p2.elim
    | some z =>
      obtain ⟨z, S3⟩ := z
      rw [q] at p2
      exact fun w3 u st so3 r3 => p2 w3 _ st so3 ((fo2.mono st.toMono).set i r3)
  · exact p.elim
end

/-! ### while -/
def whileN (t : DenT) (b : DenS) : Nat → DenS
  | 0 => fun _ _ => .no
  | n + 1 => fun fr S => (t fr S).thn fr fun c S' => match c with
    | false => .ok .nx fr S'
    | true => match b fr S' with
      | .ok .nx fr2 S2 => whileN t b n fr2 S2
      | .ok .ct fr2 S2 => whileN t b n fr2 S2
      | .ok .bk fr2 S2 => .ok .nx fr2 S2
      | o => o
def whileK (t : DenT) (b : DenS) (n : Nat) (c : Bool) (fr : Fr) (S' : Sto) : OutS := match c with
  | false => .ok .nx fr S'
  | true => match b fr S' with
    | .ok .nx fr2 S2 => whileN t b n fr2 S2
    | .ok .ct fr2 S2 => whileN t b n fr2 S2
    | .ok .bk fr2 S2 => .ok .nx fr2 S2
    | o => o
/-- more turns than any loop has -/
def turns : Nat := 10 ^ 12
def dWhile (t : DenT) (b : DenS) : DenS := whileN t b turns
section
variable {X : Cx} {W : WX} {pos : Pos}
theorem ds_while {c : Expr} {body : List Stmt} {t : DenT} {b : DenS} (hp : PassesOwn (model X.prog X.w) X.A X.env X.xe) (hc : PT X c (tT ⟨X.K, X.mg, X.w⟩ W t)) (hb : PSs X body (tS ⟨X.K, X.mg, X.w⟩ W b)) :
    PS X (.While c body [] pos) (tS ⟨X.K, X.mg, X.w⟩ W (dWhile t b)) := by
  refine PS.weaken (ps_while hp hc hb) fun D σ H q => ?_
  obtain ⟨w, S, fr, rfl, so, fo, p⟩ := q
  refine ⟨fun n σ H => ∃ w S fr, w.H = H ∧ SOk ⟨X.K, X.mg, X.w⟩ w S ∧ FrOk ⟨X.K, X.mg, X.w⟩ w fr σ ∧ PostS ⟨X.K, X.mg, X.w⟩ w (whileN t b n fr S) D W, ⟨turns, w, S, fr, rfl, so, fo, p⟩, ?_⟩
  rintro n σ H ⟨w, S, fr, rfl, so, fo, p⟩
  cases n with
  | zero => exact p.elim
  | succ n =>
    have h : tS ⟨X.K, X.mg, X.w⟩ W (fun fr S => (t fr S).thn fr fun c S' => whileK t b n c fr S') D σ w.H := ⟨w, S, fr, rfl, so, fo, p⟩
    refine liftS (D := D) (R := fun _ a b => a = b) (k := whileK t b n) h fun w1 S1 fr1 c c' so1 fo1 ec p1 => ?_
    subst ec
    cases c with
    | false => exact iteF (p1 w1 σ (Step.refl so1) so1 fo1)
    | true =>
      refine iteT ⟨fun σ H => ∃ w S fr, w.H = H ∧ SOk ⟨X.K, X.mg, X.w⟩ w S ∧ FrOk ⟨X.K, X.mg, X.w⟩ w fr σ ∧ PostS ⟨X.K, X.mg, X.w⟩ w (whileN t b n fr S) D W, fun σ' H' h => ⟨n, Nat.lt_succ_self n, h⟩, w1, S1, fr1, rfl, so1, fo1, ?_⟩
      unfold whileK at p1
      dsimp only at p1
      cases q : b fr1 S1 with
      | ok f fr2 S2 =>
        rw [q] at p1
        cases f with
        | nx => exact fun w2 σ2 st so2 fo2 => ⟨w2, S2, fr2, rfl, so2, fo2, PostS.step st p1⟩
        | ct => exact fun w2 σ2 st so2 fo2 => ⟨w2, S2, fr2, rfl, so2, fo2, PostS.step st p1⟩
        | bk => exact p1
        | rt d => exact p1
      | ex e fr2 S2 => rw [q] at p1; exact p1
      | no => rw [q] at p1; exact p1
end

/-! ### what is walked -/
structure Src where
  items : List D
  guard : List (Nat × List D)
/-- the walked lists stand as they were -/
def Src.ok (s : Src) (S : Sto) : Prop := ∀ p ∈ s.guard, S[p.1]? = some (.lst p.2)
structure Walks (g : Gnd) (w : Wd) (src : Src) (J : It) : Prop where
  len : src.items.length ≤ sizeLine
  go : ∀ w1 S1, Step w w1 → SOk g w1 S1 → src.ok S1 → ∀ (i : Nat) d, src.items[i]? = some d → J.go i w1.H ∧ ∀ v H2, J.yld i w1.H v H2 → ∃ w2, w2.H = H2 ∧ Step w1 w2 ∧ SOk g w2 S1 ∧ Rep g w2 d v
  stop : ∀ w1 S1, Step w w1 → SOk g w1 S1 → src.ok S1 → J.stop src.items.length w1.H
abbrev tI (g : Gnd) (W : WX) (f : Fr → Sto → Out Src) : TI := tG g W (Walks g) f
open Classical in
noncomputable def forL (ok : Sto → Prop) (t : DTg) (b : DenS) : List D → DenS
  | [], fr, S => if ok S then .ok .nx fr S else .no
  | x :: xs, fr, S => if ok S then (match t x fr S with
    | none => .no
    | some fr1 => match b fr1 S with
      | .ok .nx fr2 S2 => forL ok t b xs fr2 S2
      | .ok .ct fr2 S2 => forL ok t b xs fr2 S2
      | .ok .bk fr2 S2 => .ok .nx fr2 S2
      | o => o) else .no
noncomputable def dFor (t : DTg) (fi : Fr → Sto → Out Src) (b : DenS) : DenS := fun fr S => (fi fr S).thn fr fun src S' => forL src.ok t b src.items fr S'
open Classical in
noncomputable def compL (ok : Sto → Prop) (t : DTg) (tt : DenT) (e : DenE) (fr : Fr) : List D → Sto → Out (List D)
  | [], S => if ok S then .ok [] S else .no
  | x :: xs, S => if ok S then (match t x fr S with
    | none => .no
    | some fr1 => match tt fr1 S with
      | .ok false S2 => compL ok t tt e fr xs S2
      | .ok true S2 => match e fr1 S2 with
        | .ok d S3 => (compL ok t tt e fr xs S3).bnd fun ds S4 => .ok (d :: ds) S4
        | _ => .no
      | _ => .no) else .no
def wipeD (fr : Fr) : List Nat → Fr
  | [] => fr
  | v :: vs => (wipeD fr vs).set v none
noncomputable def dComp (is : List Nat) (fi : Fr → Sto → Out Src) (t : DTg) (tt : DenT) (e : DenE) : DenA := fun fr S => (fi fr S).bnd fun src S' => compL src.ok t tt e (wipeD fr is) src.items S'
def dYes : DenT := fun _ S => .ok true S
section
variable {X : Cx} {W : WX} {pos : Pos} {is : List Nat}
theorem ds_for {tg iter : Expr} {body : List Stmt} {fi : Fr → Sto → Out Src} {t : DTg} {b : DenS} (hp : PassesOwn (model X.prog X.w) X.A X.env X.xe) (hc : X.calm = true) (hi : PI X tg iter (tI ⟨X.K, X.mg, X.w⟩ W fi)) (hg : PG X tg (tGt ⟨X.K, X.mg, X.w⟩ is t))
    (hb : PSs X body (tS ⟨X.K, X.mg, X.w⟩ W b)) (hs : ∀ x, foldedSetIterable iter X.env x = pure x) : PS X (.For tg iter body [] pos) (tS ⟨X.K, X.mg, X.w⟩ W (dFor t fi b)) := by
  refine PS.weaken (ps_for hp hc hi hg hb hs) fun D σ H q => liftS q fun w S fr src J so fo wk p => ?_
  refine ⟨fun i m σ' H' => m = src.items.length - i ∧ i ≤ src.items.length ∧ ∃ w1 S1 fr1, w1.H = H' ∧ Step w w1 ∧ SOk ⟨X.K, X.mg, X.w⟩ w1 S1 ∧ FrOk ⟨X.K, X.mg, X.w⟩ w1 fr1 σ' ∧ PostS ⟨X.K, X.mg, X.w⟩ w1 (forL src.ok t b (src.items.drop i) fr1 S1) D W,
    ⟨_, rfl, Nat.zero_le _, w, S, fr, rfl, Step.refl so, so, fo, p⟩, ?_⟩
  rintro i m σ' H' ⟨rfl, hil, w1, S1, fr1, rfl, st1, so1, fo1, p1⟩
  by_cases hlt : i < src.items.length
  · have ed : src.items.drop i = src.items[i] :: src.items.drop (i + 1) := List.drop_eq_getElem_cons hlt
    rw [ed] at p1
    unfold forL at p1
    by_cases hok : src.ok S1
    · rw [if_pos hok] at p1
      obtain ⟨hgo, hy⟩ := wk.go w1 S1 st1 so1 hok i _ (List.getElem?_eq_getElem hlt)
      refine .inr ⟨hgo, fun σ' H' => ∃ w1 S1 fr1, w1.H = H' ∧ Step w w1 ∧ SOk ⟨X.K, X.mg, X.w⟩ w1 S1 ∧ FrOk ⟨X.K, X.mg, X.w⟩ w1 fr1 σ' ∧ PostS ⟨X.K, X.mg, X.w⟩ w1 (forL src.ok t b (src.items.drop (i + 1)) fr1 S1) D W, fun σ2 H2 h => ⟨src.items.length - (i + 1), by omega, rfl, hlt, h⟩, fun x H2 y => ?_⟩
      obtain ⟨w2, rfl, st2, so2, r2⟩ := hy x H2 y
      refine ⟨w2, S1, fr1, _, rfl, so2, fo1.mono st2.toMono, r2, ?_⟩
      cases q : t src.items[i] fr1 S1 with
      | none => rw [q] at p1; exact p1.elim
      | some fr2 =>
        rw [q] at p1
        dsimp only at p1 ⊢
        refine fun σ3 fo3 _ => ⟨w2, S1, fr2, rfl, so2, fo3, ?_⟩
        cases q2 : b fr2 S1 with
        | ok f fr4 S4 =>
          rw [q2] at p1
          cases f with
          | nx => exact fun w4 σ4 st4 so4 fo4 => ⟨w4, S4, fr4, rfl, st1.trans (st2.trans st4), so4, fo4, PostS.step (st2.trans st4) p1⟩
          | ct => exact fun w4 σ4 st4 so4 fo4 => ⟨w4, S4, fr4, rfl, st1.trans (st2.trans st4), so4, fo4, PostS.step (st2.trans st4) p1⟩
          | bk => exact fun w4 σ4 st4 so4 fo4 => p1 w4 σ4 (st2.trans st4) so4 fo4
          | rt d => exact fun w4 v st4 so4 r4 => p1 w4 v (st2.trans st4) so4 r4
        | ex e fr4 S4 =>
          rw [q2] at p1
          exact fun w4 σ4 c dx st4 so4 fo4 rx => p1 w4 σ4 c dx (st2.trans st4) so4 fo4 rx
        | no => rw [q2] at p1; exact p1
    · rw [if_neg hok] at p1
      exact p1.elim
  · have e : i = src.items.length := by omega
    subst e
    rw [List.drop_length] at p1
    unfold forL at p1
    by_cases hok : src.ok S1
    · rw [if_pos hok] at p1
      exact .inl ⟨wk.stop w1 S1 st1 so1 hok, p1 w1 σ' (Step.refl so1) so1 fo1⟩
    · rw [if_neg hok] at p1
      exact p1.elim
theorem wipeD_ok {g : Gnd} {w : Wd} {fr : Fr} {σ : L2.St} (f : FrOk g w fr σ) : ∀ is : List Nat, FrOk g w (wipeD fr is) (wipe σ is)
  | [] => f
  | v :: vs => (wipeD_ok f vs).unset v none
/-- the new list D stands apart from what is tracked -/
theorem SOk.side {g : Gnd} {w : Wd} {S : Sto} (so : SOk g w S) {p : Addr} {ys : List V} (hp : w.H p = some (.lst ys)) (hne : ∀ i, i < w.n → w.m i ≠ p) (zs : List V) : SOk g (w.put p (.lst zs)) S ∧ Mono w (w.put p (.lst zs)) := by
  have hk : ∀ b, b ≠ p → (upd w.H p (.lst zs)) b = w.H b := fun b e => upd_ne e
  have mo : Mono w (w.put p (.lst zs)) := by
    refine ⟨Nat.le_refl _, fun _ _ => rfl, fun a xs e => ?_, fun a ob u e => ?_, fun a us e => ?_⟩
    · show upd w.H p (.lst zs) a = _
      rw [hk a (ne_of e hp (by intro z; cases z))]
      exact e
    · show upd w.H p (.lst zs) a = _
      rw [hk a (ne_of e hp (by intro z; cases z))]
      exact e
    · show upd w.H p (.lst zs) a = _
      rw [hk a (ne_of e hp (by intro z; cases z))]
      exact e
  refine ⟨so.mono mo rfl fun i hi => ?_, mo⟩
  show upd w.H p (.lst zs) (w.m i) = _
  rw [hk _ (hne i hi)]
theorem lift_comp {fi : Fr → Sto → Out Src} {t : DTg} {tt : DenT} {fe : DenE} {g : Gnd} {σ : L2.St} {H : Hp} {Q : VK} (h : tL g W (dComp is fi t tt fe) σ H Q) :
    tLc (tI g W fi) (tGt g is t) (tT g (fun _ _ _ _ => False) tt) (tE g (fun _ _ _ _ => False) fe) is σ H Q := by
  obtain ⟨w0, S0, fr0, rfl, so0, fo0, p⟩ := h
  refine ⟨w0, S0, fr0, rfl, so0, fo0, ?_⟩
  have p : PostL g w0 ((fi fr0 S0).bnd fun src S' => compL src.ok t tt fe (wipeD fr0 is) src.items S') Q (fun c d H' => W c d σ H') := p
  cases q0 : fi fr0 S0 with
  | no => rw [q0] at p; exact p
  | ex e S => rw [q0] at p; exact p
  | ok src S =>
    rw [q0] at p
    intro w J st so wk p0 hp0
    have p : PostL g w0 (compL src.ok t tt fe (wipeD fr0 is) src.items S) Q (fun c d H' => W c d σ H') := p
    -- what remains, given what stands
    let rem (acc : List D) (o : Out (List D)) : Out (List D) := o.bnd fun ds S => .ok (acc ++ ds) S
    have hp0' : w0.H p0 = none := st.back hp0
    refine ⟨fun i m H' => m = src.items.length - i ∧ i ≤ src.items.length ∧ ∃ w1 S1 acc vs, w1.H = H' ∧ Step w w1 ∧ SOk g w1 S1 ∧ w1.H p0 = some (.lst vs) ∧ (∀ j, j < w1.n → w1.m j ≠ p0) ∧ Reps g w1 acc vs ∧ acc.length ≤ i ∧
      PostL g w0 (rem acc (compL src.ok t tt fe (wipeD fr0 is) (src.items.drop i) S1)) Q (fun c d H' => W c d σ H'), ?_, ?_⟩
    · obtain ⟨st1, so1, hn1⟩ := Step.put so hp0 (.lst [])
      refine ⟨_, rfl, Nat.zero_le _, w.put p0 (.lst []), S, [], [], rfl, st1, so1, upd_same, hn1, .nil, Nat.zero_le _, ?_⟩
      show PostL g w0 (rem [] (compL src.ok t tt fe (wipeD fr0 is) src.items S)) Q _
      cases q : compL src.ok t tt fe (wipeD fr0 is) src.items S with
      | no => rw [q] at p; exact p
      | ex e S => rw [q] at p; exact p
      | ok ds S => rw [q] at p; exact p
    · rintro i m H' ⟨rfl, hil, w1, S1, acc, vs, rfl, st1, so1, hD, hnD, ra, la, p1⟩
      by_cases hlt : i < src.items.length
      · have ed : src.items.drop i = src.items[i] :: src.items.drop (i + 1) := List.drop_eq_getElem_cons hlt
        rw [ed] at p1
        unfold compL at p1
        by_cases hok : src.ok S1
        · rw [if_pos hok] at p1
          obtain ⟨hgo, hy⟩ := wk.go w1 S1 st1 so1 hok i _ (List.getElem?_eq_getElem hlt)
          refine .inr ⟨hgo, fun H' => ∃ w1 S1 acc vs, w1.H = H' ∧ Step w w1 ∧ SOk g w1 S1 ∧ w1.H p0 = some (.lst vs) ∧ (∀ j, j < w1.n → w1.m j ≠ p0) ∧ Reps g w1 acc vs ∧ acc.length ≤ i + 1 ∧
            PostL g w0 (rem acc (compL src.ok t tt fe (wipeD fr0 is) (src.items.drop (i + 1)) S1)) Q (fun c d H' => W c d σ H'), fun H2 h => ⟨src.items.length - (i + 1), by omega, rfl, hlt, h⟩, fun x H2 y => ?_⟩
          obtain ⟨w2, rfl, st2, so2, r2⟩ := hy x H2 y
          have fo2 : FrOk g w2 (wipeD fr0 is) (wipe σ is) := wipeD_ok (fo0.mono (st.trans (st1.trans st2)).toMono) is
          refine ⟨w2, S1, wipeD fr0 is, _, rfl, so2, fo2, r2, ?_⟩
          cases q : t src.items[i] (wipeD fr0 is) S1 with
          | none => rw [q] at p1; exact p1.elim
          | some fr2 =>
            rw [q] at p1
            dsimp only at p1 ⊢
            refine fun σ3 fo3 ew => ⟨by rw [ew, wipe_wipe], w2, S1, fr2, rfl, so2, fo3, ?_⟩
            cases q2 : tt fr2 S1 with
            | no => rw [q2] at p1; exact p1.elim
            | ex e S4 => rw [q2] at p1; exact p1.elim
            | ok c S4 =>
              rw [q2] at p1
              intro w4 c' st4 so4 ec
              subst ec
              have hD4 := (st2.trans st4).untracked hD hnD
              have ra4 := Reps.mono (st2.trans st4).toMono _ _ ra
              cases c with
              | false => exact iteF ⟨w4, S4, acc, vs, rfl, st1.trans (st2.trans st4), so4, hD4.1, hD4.2, ra4, by omega, p1⟩
              | true =>
                refine iteT ⟨w4, S4, fr2, rfl, so4, fo3.mono st4.toMono, ?_⟩
                dsimp only at p1
                cases q3 : fe fr2 S4 with
                | no => rw [q3] at p1; exact p1.elim
                | ex e S5 => rw [q3] at p1; exact p1.elim
                | ok d S5 =>
                  rw [q3] at p1
                  intro w5 v st5 so5 rv
                  have hD5 := st5.untracked hD4.1 hD4.2
                  have ra5 := Reps.mono st5.toMono _ _ ra4
                  have le := ra5.length
                  have hlen := wk.len
                  refine ⟨vs, hD5.1, by omega, ?_⟩
                  obtain ⟨so6, mo6⟩ := so5.side hD5.1 hD5.2 (vs ++ [v])
                  have st15 := st1.trans (st2.trans (st4.trans st5))
                  refine ⟨w5.put p0 (.lst (vs ++ [v])), S5, acc ++ [d], vs ++ [v], rfl, ⟨st15.toMono.trans mo6, fun b o hb hx => ?_, fun j h1 h2 => st15.fr j h1 h2, fun j hj => so6.al j hj⟩, so6, upd_same, hD5.2, Reps.mono mo6 _ _ (ra5.append (.cons rv .nil)), by rw [List.length_append]; show acc.length + 1 ≤ i + 1; omega, ?_⟩
                  · show upd w5.H p0 (.lst (vs ++ [v])) b = _
                    rw [upd_ne (ne_of_none hb hp0)]
                    exact st15.kp b o hb hx
                  · dsimp only at p1
                    cases q6 : compL src.ok t tt fe (wipeD fr0 is) (src.items.drop (i + 1)) S5 with
                    | no => rw [q6] at p1; exact p1
                    | ex e S6 => rw [q6] at p1; exact p1
                    | ok ds S6 =>
                      rw [q6] at p1
                      show PostL g w0 (.ok ((acc ++ [d]) ++ ds) S6) Q _
                      rw [List.append_assoc]
                      exact p1
        · rw [if_neg hok] at p1
          exact p1.elim
      · have e : i = src.items.length := by omega
        subst e
        rw [List.drop_length] at p1
        unfold compL at p1
        by_cases hok : src.ok S1
        · rw [if_pos hok] at p1
          have p1 : PostL g w0 (.ok (acc ++ []) S1) Q _ := p1
          rw [List.append_nil] at p1
          have hlen := wk.len
          exact .inl ⟨wk.stop w1 S1 st1 so1 hok, p1 w1 p0 (st.trans st1) so1 hp0' ⟨p0, vs, rfl, hD, hnD, by omega, ra⟩⟩
        · rw [if_neg hok] at p1
          exact p1.elim
end
end DL
/-! DN, part k: zip of two, enumerate of one: lists, tuples, texts in any mix. -/
namespace DL
open PySem PySem.Spec PyProof.Rows L2

/-- what is walked: a list, a tuple, a text -/
inductive Sd where
  | L (a : Addr) | T (a : Addr) | Z (z : Str)
def signsV (z : Str) : List V := z.cps.toList.map fun c => .str ⟨#[c]⟩
def Sd.sq (K : PySem.W.Frag) (H : Hp) (xs : List V) : Sd → Prop
  | .L a => SqL K H a xs
  | .T a => SqT K H a xs
  | .Z z => xs = signsV z
def Sd.v : Sd → V
  | .L a => .ref a
  | .T a => .ref a
  | .Z z => .str z
def Sd.it (it : Addr) (i : Nat) (h : Heap) : Sd → Prop
  | .L a => h.IsListIter it a i
  | .T a => h.IsTupleIter it a i
  | .Z z => ∃ t, h.IsStrIter it (strIterType z) z t i
def Sd.fp (it : Addr) : Sd → List Addr
  | .L a => [it, a]
  | .T a => [it, a]
  | .Z _ => [it]
def Sd.ne (c : Addr) : Sd → Prop
  | .L a => a ≠ c
  | .T a => a ≠ c
  | .Z _ => True
theorem signsV_get {z : Str} {i : Nat} {x : V} (h : (signsV z)[i]? = some x) : ∃ c, z.cps[i]? = some c ∧ x = .str ⟨#[c]⟩ := by
  unfold signsV at h
  rw [List.getElem?_map, Array.getElem?_toList] at h
  cases q : z.cps[i]? with
  | none => rw [q] at h; cases h
  | some c => rw [q] at h; cases h; exact ⟨c, rfl, rfl⟩
theorem signsV_len {z : Str} : (signsV z).length = z.cps.size := by
  unfold signsV
  rw [List.length_map, Array.length_toList]
theorem Sd.inj {X : Cx} {pins : List (Addr × Obj)} {σ : L2.St} {H : Hp} {s : Shared} (I : Inv X pins σ H s) {sd : Sd} {xs ys : List V} (h : sd.sq X.K H xs) (h' : sd.sq X.K H ys) : xs = ys := by
  cases sd with
  | L a => exact I.list_inj h h'
  | T a => exact I.tuple_inj h h'
  | Z z => exact Eq.trans h (Eq.symm h')
theorem Sd.obj {sd : Sd} {it : Addr} {i : Nat} {h : Heap} (st : sd.it it i h) : ∃ o, h.get? it = some o ∧ ∀ v, o.data ≠ .cell v := by
  cases sd with
  | L a => obtain ⟨o, e, _, d⟩ := st; exact ⟨o, e, fun v q => by rw [d] at q; cases q⟩
  | T a => obtain ⟨o, e, _, d⟩ := st; exact ⟨o, e, fun v q => by rw [d] at q; cases q⟩
  | Z z => obtain ⟨t, o, e, _, d⟩ := st; exact ⟨o, e, fun v q => by rw [d] at q; cases q⟩
theorem Sd.keep {sd : Sd} {it : Addr} {i : Nat} {h h' : Heap} (st : sd.it it i h) (k : ∀ o, h.get? it = some o → h'.get? it = some o) : sd.it it i h' := by
  cases sd with
  | L a => exact Heap.IsListIter.at st k
  | T a => exact Heap.IsTupleIter.at st k
  | Z z => obtain ⟨t, o, e, r⟩ := st; exact ⟨t, o, k o e, r⟩
theorem Sd.draws {X : Cx} {pins : List (Addr × Obj)} {σ : L2.St} {H : Hp} {s : Shared} (I : Inv X pins σ H s) (hc : X.calm = true) {sd : Sd} {it : Addr} {i : Nat} {xs : List V} (hn : sd.ne it) (hq : sd.sq X.K H xs) (hi : sd.it it i s.heap) :
    ∃ (P : Nat → Value → Prop) (St : Nat → Heap → Prop), Draws X.prog X.w X.A.in1 it (sd.fp it) xs.length P St ∧ St i s.heap ∧ (∀ j h, St j h → sd.it it j h) ∧ ∀ j v x, P j v → xs[j]? = some x → RelV x v := by
  have hh := I.ok.hd hc
  cases sd with
  | L a =>
    obtain ⟨its, rv, p, _⟩ := I.list hq
    refine ⟨fun j v => its.toArray[j]? = some v, fun j h => h.IsListIter it a j ∧ h.IsList a its.toArray, ?_, ⟨hi, p.isList⟩, fun j h st => st.1, fun j v x hp hx => ?_⟩
    · have := Draws.list (prog := X.prog) (w := X.w) (A := X.A.in1) hh it a hn its.toArray
      rw [List.size_toArray, ← rv.length] at this
      exact this
    · obtain ⟨u, hu, ru⟩ := rv.get hx
      have e : its.toArray[j]? = some v := hp
      rw [List.getElem?_toArray, hu] at e
      cases e
      exact ru
  | T a =>
    obtain ⟨its, rv, p, _⟩ := I.tuple hq
    refine ⟨fun j v => its.toArray[j]? = some v, fun j h => h.IsTupleIter it a j ∧ h.IsTuple a its.toArray, ?_, ⟨hi, p⟩, fun j h st => st.1, fun j v x hp hx => ?_⟩
    · have := Draws.tuple (prog := X.prog) (w := X.w) (A := X.A.in1) hh it a hn its.toArray
      rw [List.size_toArray, ← rv.length] at this
      exact this
    · obtain ⟨u, hu, ru⟩ := rv.get hx
      have e : its.toArray[j]? = some v := hp
      rw [List.getElem?_toArray, hu] at e
      cases e
      exact ru
  | Z z =>
    obtain ⟨t, hi⟩ := hi
    have hq : xs = signsV z := hq
    subst hq
    refine ⟨fun j v => ∃ c u, z.cps[j]? = some c ∧ v = .str ⟨#[c]⟩ u, fun j h => h.IsStrIter it (strIterType z) z t j, ?_, hi, fun j h st => ⟨t, st⟩, fun j v x hp hx => ?_⟩
    · have := Draws.text (prog := X.prog) (w := X.w) (A := X.A.in1) hh it z t
      rw [signsV_len]
      exact this
    · obtain ⟨c, u, e, rfl⟩ := hp
      obtain ⟨c', e', rfl⟩ := signsV_get hx
      rw [e] at e'
      cases e'
      exact ⟨u, rfl⟩
theorem Sd.begins {X : Cx} {pins : List (Addr × Obj)} {σ : L2.St} {H : Hp} {s : Shared} (I : Inv X pins σ H s) {sd : Sd} {xs : List V} {u : Value} (hq : sd.sq X.K H xs) (r : RelV sd.v u) :
    ∃ (o : Obj) (HH : Heap → Prop), Begins u o HH ∧ HH s.heap ∧ (∀ h it, h.get? it = some o → sd.it it 0 h) ∧ ∀ c, s.heap.objs.size ≤ c → sd.ne c := by
  cases sd with
  | L a =>
    have r : u = .ref a := r
    subst r
    obtain ⟨its, rv, p, _⟩ := I.list hq
    exact ⟨_, _, begins_list a its.toArray, p.isList, fun h it e => ⟨_, e, rfl, rfl⟩, fun c hc e => absurd p.lt (by rw [e]; exact Nat.not_lt.mpr hc)⟩
  | T a =>
    have r : u = .ref a := r
    subst r
    obtain ⟨its, rv, p, _⟩ := I.tuple hq
    obtain ⟨o1, ho1, _⟩ := id p
    exact ⟨_, _, begins_tuple a its.toArray, p, fun h it e => ⟨_, e, rfl, rfl⟩, fun c hc e => absurd (Heap.lt_size ho1) (by rw [e]; exact Nat.not_lt.mpr hc)⟩
  | Z z =>
    obtain ⟨t, rfl⟩ : ∃ t, u = .str z t := r
    exact ⟨_, _, begins_text z t, trivial, fun h it e => ⟨t, _, e, rfl, rfl⟩, fun c hc => trivial⟩

theorem Sd.beginsE {X : Cx} {pins : List (Addr × Obj)} {σ : L2.St} {H : Hp} {s : Shared} (I : Inv X pins σ H s) {sd : Sd} {xs : List V} {u : Value} (hq : sd.sq X.K H xs) (r : RelV sd.v u) :
    ∃ (o : Obj) (HH : Heap → Prop), Begins u o HH ∧ HH s.heap ∧ (∀ h it, h.get? it = some o → sd.it it 0 h) ∧ (∀ c, s.heap.objs.size ≤ c → sd.ne c) ∧ ((∃ a, u = .ref a) ∨ ∃ x t, u = .str x t) ∧ ∀ h a, u = .ref a → HH h → ∃ ob, h.get? a = some ob := by
  cases sd with
  | L a =>
    have r : u = .ref a := r
    subst r
    obtain ⟨its, rv, p, _⟩ := I.list hq
    exact ⟨_, _, begins_list a its.toArray, p.isList, fun h it e => ⟨_, e, rfl, rfl⟩, fun c hc e => absurd p.lt (by rw [e]; exact Nat.not_lt.mpr hc), .inl ⟨a, rfl⟩, fun h b e hl => by cases e; obtain ⟨ob, e, _⟩ := hl; exact ⟨ob, e⟩⟩
  | T a =>
    have r : u = .ref a := r
    subst r
    obtain ⟨its, rv, p, _⟩ := I.tuple hq
    obtain ⟨o1, ho1, _⟩ := id p
    exact ⟨_, _, begins_tuple a its.toArray, p, fun h it e => ⟨_, e, rfl, rfl⟩, fun c hc e => absurd (Heap.lt_size ho1) (by rw [e]; exact Nat.not_lt.mpr hc), .inl ⟨a, rfl⟩, fun h b e hl => by cases e; obtain ⟨ob, e, _⟩ := hl; exact ⟨ob, e⟩⟩
  | Z z =>
    obtain ⟨t, rfl⟩ : ∃ t, u = .str z t := r
    exact ⟨_, _, begins_text z t, trivial, fun h it e => ⟨t, _, e, rfl, rfl⟩, fun c hc => trivial, .inr ⟨z, t, rfl⟩, fun h b e _ => by cases e⟩

/-! ### zip -/
def ItzM (K : PySem.W.Frag) (s1 s2 : Sd) : It :=
  ⟨fun i H => ∃ (xs ys : List V) (x y : V), s1.sq K H xs ∧ s2.sq K H ys ∧ xs[i]? = some x ∧ ys[i]? = some y,
    fun i H v H' => ∃ T x y, v = .ref T ∧ H T = none ∧ H' = upd H T (.tup [x, y]) ∧ (∀ xs, s1.sq K H xs → xs[i]? = some x) ∧ ∀ ys, s2.sq K H ys → ys[i]? = some y,
    fun i H => ∃ xs ys : List V, s1.sq K H xs ∧ s2.sq K H ys ∧ i ≤ xs.length ∧ i ≤ ys.length ∧ (i = xs.length ∨ i = ys.length)⟩
theorem turn_zipM {P : Program} {w : World} {K : PySem.W.Frag} {elts : List Expr} {kk : Nat} {tpos : Pos} {s1 s2 : Sd} {z TI TO i1 i2 : Addr} (D : ZipSep2 z TI TO i1 i2 (s1.fp i1) (s2.fp i2)) (n1 : s1.ne i1) (n2 : s2.ne i2) :
    Turn P w K (.Tuple elts kk tpos) (ItzM K s1 s2) [z, TI, TO, i1, i2] z (fun i h => IsZip h z TI TO .none ∧ IsTupOf2 h TI (.ref i1) (.ref i2) ∧ (∃ x y, IsTupOf2 h TO x y) ∧ s1.it i1 i h ∧ s2.it i2 i h) where
  mem := by simp
  obj := fun i h st c hc => by
    obtain ⟨hz, hTI, ⟨x, y, hTO⟩, h1, h2⟩ := st
    have e' : c = z ∨ c = TI ∨ c = TO ∨ c = i1 ∨ c = i2 := by simpa using hc
    rcases e' with q | q | q | q | q
    · rw [q]; exact ⟨_, hz, fun v q => nomatch q⟩
    · rw [q]; exact ⟨_, hTI, fun v q => nomatch q⟩
    · rw [q]; exact ⟨_, hTO, fun v q => nomatch q⟩
    · rw [q]; exact Sd.obj h1
    · rw [q]; exact Sd.obj h2
  keep := fun i h h' st k => by
    obtain ⟨hz, hTI, ⟨x, y, hTO⟩, h1, h2⟩ := st
    exact ⟨k z (by simp) _ hz, k TI (by simp) _ hTI, ⟨x, y, k TO (by simp) _ hTO⟩, Sd.keep h1 fun o q => k i1 (by simp) o q, Sd.keep h2 fun o q => k i2 (by simp) o q⟩
  item := by
    intro X hP hw hK hc i pins s σ H E I hf st hg
    subst hP hw hK
    obtain ⟨hz, hTI, ⟨x0, y0, hTO⟩, h1, h2⟩ := st
    obtain ⟨xs, ys, x, y, hqx, hqy, hx, hy⟩ := hg
    obtain ⟨P1, St1, D1, st1, f1, r1⟩ := Sd.draws I hc n1 hqx h1
    obtain ⟨P2, St2, D2, st2, f2, r2⟩ := Sd.draws I hc n2 hqy h2
    have hzl : z < s.heap.objs.size := Heap.lt_size hz
    refine wpAny_pyNext_zipD2_item D D1 D2 hz hTI hTO st1 st2 (List.getElem?_eq_some_iff.mp hx).1 (List.getElem?_eq_some_iff.mp hy).1 fun u u2 h' tk hu hu2 z' TO' h1' h2' hT hsz hk => ?_
    have ru := r1 i u x hu hx
    have ru2 := r2 i u2 y hu2 hy
    refine ⟨_, rfl, wpAny_letOwnedTupleGo_zip (s := { s with heap := h', toks := tk }) z' fun h'' z'' sb => ?_⟩
    have hT2 : h''.get? s.heap.objs.size = some { cls := .type "tuple", data := .seq #[u, u2] } := (sb.2 _ (Nat.ne_of_gt hzl)).trans hT
    have new : ObjOk X.prog X.w (upd H s.heap.objs.size (.tup [x, y])) h'' s.heap.objs.size (.tup [x, y]) :=
      ⟨by show 2 ≤ sizeLine; decide, [u, u2], .cons ru (.cons ru2 .nil), ⟨_, hT2, rfl, _, rfl⟩⟩
    have I1 : Inv X pins σ (upd H s.heap.objs.size (.tup [x, y])) { s with heap := h'', toks := tk } :=
      I.turnedNew (t' := tk) (ch := [z, TI, TO, i1, i2]) (fun c o hb q => (sb.2 c (fun q' => hb (by simp [q']))).trans (hk c o (fun q' => hb (by simp [q'])) (fun q' => hb (by simp [q'])) (fun q' => hb (by simp [q'])) (fun q' => hb (by simp [q'])) q)) hf (Nat.le_refl _) new
    refine ⟨.ref s.heap.objs.size, _, I1, rfl, ⟨_, x, y, rfl, I.hok.fresh (Nat.le_refl _), rfl, fun l hl => by rw [Sd.inj I hl hqx]; exact hx, fun l hl => by rw [Sd.inj I hl hqy]; exact hy⟩, ⟨z'', ?_, ⟨u, u2, ?_⟩, ?_, ?_⟩, fun c hcm => ?_⟩
    · exact (sb.2 _ D.TIz).trans (hk _ _ D.TIz D.TITO D.TIi1 D.TIi2 hTI)
    · exact (sb.2 _ D.TOz).trans TO'
    · exact Sd.keep (f1 _ _ h1') fun o q => (sb.2 _ D.zi1.symm).trans q
    · exact Sd.keep (f2 _ _ h2') fun o q => (sb.2 _ D.zi2.symm).trans q
    · have hlt : c < s.heap.objs.size := by
        have e' : c = z ∨ c = TI ∨ c = TO ∨ c = i1 ∨ c = i2 := by simpa using hcm
        rcases e' with q | q | q | q | q
        · rw [q]; exact hzl
        · rw [q]; exact Heap.lt_size hTI
        · rw [q]; exact Heap.lt_size hTO
        · rw [q]; obtain ⟨_, e1, _⟩ := Sd.obj h1; exact Heap.lt_size e1
        · rw [q]; obtain ⟨_, e2, _⟩ := Sd.obj h2; exact Heap.lt_size e2
      rw [upd_ne (Nat.ne_of_lt hlt)]
      exact (hf c hcm).1
  done := by
    intro X hP hw hK hc i pins s σ H E I hf st hg
    subst hP hw hK
    obtain ⟨hz, hTI, ⟨x0, y0, hTO⟩, h1, h2⟩ := st
    obtain ⟨xs, ys, hqx, hqy, hl1, hl2, hend⟩ := hg
    obtain ⟨P1, St1, D1, st1, f1, r1⟩ := Sd.draws I hc n1 hqx h1
    obtain ⟨P2, St2, D2, st2, f2, r2⟩ := Sd.draws I hc n2 hqy h2
    exact wpAny_pyNext_zipD2_end D D1 D2 hz hTI hTO st1 st2 hl1 hl2 hend fun h' tk hk => ⟨rfl, I.turnedL (t' := tk) (ch := [z, TI, TO, i1, i2]) (fun c o hb q =>
      hk c o (fun q' => hb (by simp [q'])) (fun q' => hb (by simp [q'])) (fun q' => hb (by simp [q'])) (fun q' => hb (by simp [q'])) q) hf⟩
  self := fun A i s Q E st h => wpAny_pyIter_zip st.1 h
theorem sep_new {s1 s2 : Sd} {n : Nat} (h1 : ∀ c, n ≤ c → s1.ne c) (h2 : ∀ c, n ≤ c → s2.ne c) : ZipSep2 (n + 4) (n + 2) (n + 3) n (n + 1) (s1.fp n) (s2.fp (n + 1)) := by
  have k1 : ∀ c, n ≤ c → c ≠ n → c ∉ s1.fp n := fun c hc hne hm => by
    have := h1 c hc
    cases s1 with
    | L a => rcases List.mem_cons.mp hm with q | q
             · exact hne q
             · exact this (List.mem_singleton.mp q).symm
    | T a => rcases List.mem_cons.mp hm with q | q
             · exact hne q
             · exact this (List.mem_singleton.mp q).symm
    | Z a => exact hne (List.mem_singleton.mp hm)
  have k2 : ∀ c, n ≤ c → c ≠ n + 1 → c ∉ s2.fp (n + 1) := fun c hc hne hm => by
    have := h2 c hc
    cases s2 with
    | L a => rcases List.mem_cons.mp hm with q | q
             · exact hne q
             · exact this (List.mem_singleton.mp q).symm
    | T a => rcases List.mem_cons.mp hm with q | q
             · exact hne q
             · exact this (List.mem_singleton.mp q).symm
    | Z a => exact hne (List.mem_singleton.mp hm)
  have m1 : n ∈ s1.fp n := by cases s1 <;> exact List.mem_cons_self
  have m2 : n + 1 ∈ s2.fp (n + 1) := by cases s2 <;> exact List.mem_cons_self
  have ne : ∀ {a b : Nat}, a ≠ b → (a : Addr) ≠ b := fun h => h
  exact ⟨ne (by omega), ne (by omega), ne (by omega), ne (by omega), m1, k1 _ (Nat.le_add_right _ _) (ne (by omega)), k1 _ (Nat.le_add_right _ _) (ne (by omega)), ne (by omega), m2, k2 _ (Nat.le_add_right _ _) (ne (by omega)), k2 _ (Nat.le_add_right _ _) (ne (by omega)), k2 _ (Nat.le_refl _) (ne (by omega)), k1 _ (Nat.le_add_right _ _) (ne (by omega))⟩
def iZipM (K : PySem.W.Frag) (ta : TA) : TI := fun σ H R => ta σ H fun vs H1 => ∃ (s1 s2 : Sd) (xs ys : List V), vs = [s1.v, s2.v] ∧ s1.sq K H1 xs ∧ s2.sq K H1 ys ∧ R (ItzM K s1 s2) H1
theorem pi_zipM {X : Cx} {e e2 : Expr} {ta : TA} {p pos tpos : Pos} {elts : List Expr} {kk : Nat} (hg : Gl X "zip") (hm : X.mg "zip" = none) (ha : PA X [e, e2] ta)
    (hs : starEach [e, e2] X.env = (false, eval e X.env) :: starEach [e2] X.env := by rfl) (hpl : (backTo pos (starEach [e2] X.env)).any (·.1) = false := by rfl) :
    PI X (.Tuple elts kk tpos) (.Call (.Name "zip" p) [e, e2] [] pos) (iZipM X.K ta) := by
  refine ⟨fun pins s σ H R I h => ?_⟩
  refine Call_ (ld_blt I hg hm PyProof.Rows.boot_zip (PyProof.Rows.callWith_type1 (thn (ha.run pos pins s σ H _ I h) fun us s1 ⟨vs, H1, I1, r1, q1⟩ => ?_) hs hpl))
  obtain ⟨sa, sb, xs, ys, ex, hqx, hqy, q⟩ := q1
  subst ex
  cases r1 with
  | cons r rr =>
    cases rr with
    | cons r' rr =>
      cases rr
      obtain ⟨o1, HH1, B1, b1, t1, e1⟩ := Sd.begins I1 hqx r
      obtain ⟨o2, HH2, B2, b2, t2, e2⟩ := Sd.begins I1 hqy r'
      refine zip_begins2 B1 B2 b1 b2 fun h' hz hTI hTO h1 h2 hsz hk => wpAny_pyIter_zip hz ?_
      have I2 : Inv X pins σ H1 { s1 with heap := h' } := I1.kept (t' := s1.toks) hk
      refine ⟨s1.heap.objs.size + 4, [s1.heap.objs.size + 4, s1.heap.objs.size + 2, s1.heap.objs.size + 3, s1.heap.objs.size, s1.heap.objs.size + 1], _, _, H1, rfl, I2, turn_zipM (sep_new e1 e2) (e1 _ (Nat.le_refl _)) (e2 _ (Nat.le_add_right _ _)), ⟨hz, hTI, ⟨_, _, hTO⟩, t1 _ _ h1, t2 _ _ h2⟩, fun c hcm => ?_, q⟩
      have e' : c = s1.heap.objs.size + 4 ∨ c = s1.heap.objs.size + 2 ∨ c = s1.heap.objs.size + 3 ∨ c = s1.heap.objs.size ∨ c = s1.heap.objs.size + 1 := by simpa using hcm
      have hle : s1.heap.objs.size ≤ c := by
        rcases e' with z | z | z | z | z
        · rw [z]; exact Nat.le_add_right _ _
        · rw [z]; exact Nat.le_add_right _ _
        · rw [z]; exact Nat.le_add_right _ _
        · rw [z]; exact Nat.le_refl _
        · rw [z]; exact Nat.le_add_right _ _
      exact I1.fpOk hle (I1.hok.fresh hle)

/-! ### enumerate -/
def IteM (K : PySem.W.Frag) (sd : Sd) : It :=
  ⟨fun i H => ∃ (xs : List V) (x : V), sd.sq K H xs ∧ xs[i]? = some x, fun i H v H' => ∃ T x, v = .ref T ∧ H T = none ∧ H' = upd H T (.tup [.int (i : Nat), x]) ∧ ∀ xs, sd.sq K H xs → xs[i]? = some x, fun i H => ∃ xs : List V, sd.sq K H xs ∧ i = xs.length⟩
theorem turn_enumM {P : Program} {w : World} {K : PySem.W.Frag} {elts : List Expr} {kk : Nat} {tpos : Pos} {sd : Sd} {e it : Addr} (hne : e ≠ it) (n1 : sd.ne it) (hef : e ∉ sd.fp it) :
    Turn P w K (.Tuple elts kk tpos) (IteM K sd) [e, it] e (fun i h => (∃ old, IsEnum h e it ((i : Nat) : Int) old) ∧ sd.it it i h) where
  mem := by simp
  obj := fun i h st b hb => by
    obtain ⟨⟨old, he⟩, h1⟩ := st
    have e' : b = e ∨ b = it := by simpa using hb
    rcases e' with z | z
    · rw [z]; exact ⟨_, he, fun v q => nomatch q⟩
    · rw [z]; exact Sd.obj h1
  keep := fun i h h' st k => let ⟨⟨old, he⟩, hi⟩ := st; ⟨⟨old, k e (by simp) _ he⟩, Sd.keep hi fun o q => k it (by simp) o q⟩
  item := by
    intro X hP hw hK hc i pins s σ H E I hf st hg
    subst hP hw hK
    obtain ⟨⟨old, he⟩, hit⟩ := st
    obtain ⟨xs, x, hq, hx⟩ := hg
    obtain ⟨P1, St1, D1, st1, f1, r1⟩ := Sd.draws I hc n1 hq hit
    have hel : e < s.heap.objs.size := Heap.lt_size he
    have hil : it < s.heap.objs.size := by obtain ⟨_, q, _⟩ := Sd.obj hit; exact Heap.lt_size q
    refine wpAny_pyNext_enum_itemD D1 he st1 (List.getElem?_eq_some_iff.mp hx).1 hne hef fun u h' tk hu ho hit' hT hsz hk => ?_
    have ru := r1 i u x hu hx
    refine ⟨_, rfl, wpAny_letOwnedTupleGo_enum (s := { s with heap := h', toks := tk + 1 }) ho fun h'' he' sb => ?_⟩
    have hT2 : h''.get? s.heap.objs.size = some { cls := .type "tuple", data := .seq #[.int i tk, u] } := (sb.2 _ (Nat.ne_of_gt hel)).trans hT
    have new : ObjOk X.prog X.w (upd H s.heap.objs.size (.tup [.int (i : Nat), x])) h'' s.heap.objs.size (.tup [.int (i : Nat), x]) :=
      ⟨by show 2 ≤ sizeLine; decide, [.int i tk, u], .cons ⟨_, rfl⟩ (.cons ru .nil), ⟨_, hT2, rfl, _, rfl⟩⟩
    have I1 : Inv X pins σ (upd H s.heap.objs.size (.tup [.int (i : Nat), x])) { s with heap := h'', toks := tk + 1 } :=
      I.turnedNew (ch := [e, it]) (fun b ob hb q => (sb.2 b (fun z => hb (by simp [z]))).trans (hk b ob (fun z => hb (by simp [z])) (fun z => hb (by simp [z])) q)) hf (Nat.le_refl _) new
    refine ⟨.ref s.heap.objs.size, _, I1, rfl, ⟨_, x, rfl, I.hok.fresh (Nat.le_refl _), rfl, fun ys hy => by rw [Sd.inj I hy hq]; exact hx⟩, ⟨⟨u, ?_⟩, Sd.keep (f1 _ _ hit') fun o q => (sb.2 it (Ne.symm hne)).trans q⟩, fun b hb => ?_⟩
    · have e1 : ((i + 1 : Nat) : Int) = (i : Int) + 1 := by omega
      rw [e1]; exact he'
    · have hb' : b < s.heap.objs.size := by
        have e' : b = e ∨ b = it := by simpa using hb
        rcases e' with z | z
        · rw [z]; exact hel
        · rw [z]; exact hil
      rw [upd_ne (Nat.ne_of_lt hb')]
      exact (hf b hb).1
  done := by
    intro X hP hw hK hc i pins s σ H E I hf st hg
    subst hP hw hK
    obtain ⟨⟨old, he⟩, hit⟩ := st
    obtain ⟨xs, hq, hx⟩ := hg
    obtain ⟨P1, St1, D1, st1, f1, r1⟩ := Sd.draws I hc n1 hq hit
    obtain ⟨f0, f1, f2, f3, f4, f5⟩ := hf it (by simp)
    rw [hx] at st1
    exact wpAny_pyNext_enum_endD D1 he st1 fun h' eb => ⟨rfl, I.turned (t' := s.toks) (fun b o hb q => eb b o hb q) f0 f1 f3 f4 f5⟩
  self := fun A i s Q E st h => let ⟨⟨_, he⟩, _⟩ := st; wpAny_pyIter_enum he h
set_option maxHeartbeats 4000000 in
theorem meets_enumerate_newB {v : Value} {o : Obj} {HH : Heap → Prop} (B : Begins v o HH) (hv : (∃ a, v = .ref a) ∨ ∃ x t, v = .str x t) (hF : ∀ h a, v = .ref a → HH h → ∃ ob, h.get? a = some ob) :
    Meets (Builtin.«enumerate.__new__» ⟨[.type "enumerate", v], []⟩) (fun _ R s => HH s.heap ∧
      R (.ok (.ret (.ref (s.heap.push o).objs.size)))
        { s with heap := (s.heap.push o).push { cls := .type "enumerate", data := .fields #[.none, .bool false, .ref s.heap.objs.size, rawInt 0, .none, .none] } }) :=
  .of_wp fun prog w A R s h => by
    obtain ⟨hp, g, d, tk, os⟩ := s
    obtain ⟨hH, h⟩ := h
    have hsub := sub_enumerate
    have q1 : ∀ {A' : Around} {E : Value → Shared → Prop} {Q : Value → Shared → Prop}, Q (.ref hp.objs.size) ⟨(hp.push o), g, d, tk, os⟩ → wpAny (model prog w) A' (pyIter v) Q E ⟨hp, g, d, tk, os⟩ :=
      fun q => B.iter prog w _ _ ⟨hp, g, d, tk, os⟩ _ hH q
    rcases hv with ⟨a, rfl⟩ | ⟨x, t, rfl⟩
    · obtain ⟨ob, hl⟩ := hF hp a rfl hH
      wp_walk using wpAny_loadPart' hl
      refine wpAny_stack_any fun st => wpAny_pure ?_
      split
      · rename_i c _ _ _ _ _
        cases (c == Value.type "enumerate")
        · wp_walk using wpAny_loadPart' hl, q1
          exact ⟨_, rfl, h⟩
        · wp_walk using wpAny_loadPart' hl, q1
          exact ⟨_, rfl, h⟩
      · wp_walk using wpAny_loadPart' hl, q1
        exact ⟨_, rfl, h⟩
    · wp_walk
      refine wpAny_stack_any fun st => wpAny_pure ?_
      split
      · rename_i c _ _ _ _ _
        cases (c == Value.type "enumerate")
        · wp_walk using q1
          exact ⟨_, rfl, h⟩
        · wp_walk using q1
          exact ⟨_, rfl, h⟩
      · wp_walk using q1
        exact ⟨_, rfl, h⟩
theorem call_enumB {prog : Program} {w : World} {A : Around} {E : Value → Shared → Prop} {s : Shared} {v : Value} {o : Obj} {HH : Heap → Prop} {Q : Value → Shared → Prop} (B : Begins v o HH) (hv : (∃ a, v = .ref a) ∨ ∃ x t, v = .str x t) (hF : ∀ h a, v = .ref a → HH h → ∃ ob, h.get? a = some ob) (h1 : HH s.heap)
    (h : ∀ h', IsEnum h' (s.heap.objs.size + 1) s.heap.objs.size 0 .none → h'.get? s.heap.objs.size = some o → h'.objs.size = s.heap.objs.size + 2 →
      (∀ b o, s.heap.get? b = some o → h'.get? b = some o) → Q (.ref (s.heap.objs.size + 1)) { s with heap := h' }) :
    wpAny (model prog w) A (call (.type "enumerate") [v]) Q E s := by
  refine callType_new F.called_enumerate (by decide) (F.typeCall_enumerate_1 _) (F.newCall_enumerate_1 _) (fun obj => F.args_object_init_2 obj _) F.entry_enumerate_new
    (meets_enumerate_newB B hv hF) ⟨h1, ?_⟩
  have hz : (s.heap.push o).objs.size = s.heap.objs.size + 1 := Heap.size_push ..
  show _ ∧ _
  rw [hz]
  have he : IsEnum ((s.heap.push o).push { cls := .type "enumerate", data := .fields #[.none, .bool false, .ref s.heap.objs.size, rawInt 0, .none, .none] }) (s.heap.objs.size + 1) s.heap.objs.size 0 .none := by
    have := Heap.get?_push_size (s.heap.push o) (o := { cls := .type "enumerate", data := .fields #[.none, .bool false, .ref s.heap.objs.size, rawInt 0, .none, .none] }) rfl
    rw [hz] at this; exact this
  exact ⟨⟨_, he, rfl⟩, h _ he (Heap.get?_push_of_some _ (Heap.get?_push_size _ B.free)) (by rw [Heap.size_push, hz]) fun b o y => Heap.get?_push_of_some _ (Heap.get?_push_of_some _ y)⟩
def iEnumM (K : PySem.W.Frag) (ta : TA) : TI := fun σ H R => ta σ H fun vs H1 => ∃ (sd : Sd) (xs : List V), vs = [sd.v] ∧ sd.sq K H1 xs ∧ R (IteM K sd) H1
theorem pi_enumM {X : Cx} {e : Expr} {ta : TA} {p pos tpos : Pos} {elts : List Expr} {kk : Nat} (hg : Gl X "enumerate") (hm : X.mg "enumerate" = none) (ha : PA X [e] ta) (hs : starEach [e] X.env = [(false, eval e X.env)] := by rfl) :
    PI X (.Tuple elts kk tpos) (.Call (.Name "enumerate" p) [e] [] pos) (iEnumM X.K ta) := by
  refine ⟨fun pins s σ H R I h => ?_⟩
  refine Call_ (ld_blt I hg hm boot_enumerate (PyProof.Rows.callWith_type1 (thn (ha.run pos pins s σ H _ I h) fun us s1 ⟨vs, H1, I1, r1, q1⟩ => ?_) hs rfl))
  obtain ⟨sd, xs, ex, hq, q⟩ := q1
  subst ex
  cases r1 with
  | cons r rr =>
    cases rr
    obtain ⟨o1, HH1, B1, b1, t1, e1, hv, hF⟩ := Sd.beginsE I1 hq r
    refine call_enumB B1 hv hF b1 fun h' he hit hsz hk => wpAny_pyIter_enum he ?_
    have I2 : Inv X pins σ H1 { s1 with heap := h' } := I1.kept (t' := s1.toks) hk
    have n1 := e1 s1.heap.objs.size (Nat.le_refl _)
    have hef : (s1.heap.objs.size + 1) ∉ sd.fp s1.heap.objs.size := fun hm => by
      have n2 := e1 (s1.heap.objs.size + 1) (Nat.le_add_right _ _)
      cases sd with
      | L a => rcases List.mem_cons.mp hm with q | q
               · exact Nat.succ_ne_self _ q
               · exact n2 (List.mem_singleton.mp q).symm
      | T a => rcases List.mem_cons.mp hm with q | q
               · exact Nat.succ_ne_self _ q
               · exact n2 (List.mem_singleton.mp q).symm
      | Z a => exact Nat.succ_ne_self _ (List.mem_singleton.mp hm)
    refine ⟨s1.heap.objs.size + 1, [s1.heap.objs.size + 1, s1.heap.objs.size], _, _, H1, rfl, I2, turn_enumM (Nat.succ_ne_self _) n1 hef, ⟨⟨.none, he⟩, t1 _ _ hit⟩, fun b hb => ?_, q⟩
    have e' : b = s1.heap.objs.size + 1 ∨ b = s1.heap.objs.size := by simpa using hb
    have hle : s1.heap.objs.size ≤ b := by
      rcases e' with z | z
      · rw [z]; exact Nat.le_add_right _ _
      · rw [z]; exact Nat.le_refl _
    exact I1.fpOk hle (I1.hok.fresh hle)
end DL
/-! DL, part k: what is walked, comprehensions, calls of defs. -/
namespace DL
open PySem PySem.Spec PyProof.Rows L2

def signs (z : Str) : List D := z.cps.toList.map fun c => .str ⟨#[c]⟩
def srcOf (d : D) (S : Sto) : Option Src := match d with
  | .tup xs => some ⟨xs, []⟩
  | .rl xs => some ⟨xs, []⟩
  | .str z => if z.length ≤ sizeLine then some ⟨signs z, []⟩ else none
  | .ob n => match S[n]? with
    | some (.lst xs) => some ⟨xs, [(n, xs)]⟩
    | _ => none
  | _ => none
def Out.ofS {α : Type} (o : Option α) (S : Sto) : Out α := match o with
  | some a => .ok a S
  | none => .no
def dISeq (f : DenE) : Fr → Sto → Out Src := fun fr S => (f fr S).bnd fun d S' => .ofS (srcOf d S') S'
def dIT (h : DenA) : Fr → Sto → Out Src := fun fr S => (h fr S).bnd fun xs S' => .ok ⟨xs, []⟩ S'
def upTo (lo : Int) (n : Nat) : List D := (List.range n).map fun (i : Nat) => D.int (lo + (i : Int))
def dIRange1 (h : DenA) : Fr → Sto → Out Src := fun fr S => (h fr S).bnd fun ds S' => match ds with
  | [.int j] => if -(2 ^ 62) ≤ j ∧ j ≤ 16777216 then .ok ⟨upTo 0 j.toNat, []⟩ S' else .no
  | _ => .no
def dIRange2 (h : DenA) : Fr → Sto → Out Src := fun fr S => (h fr S).bnd fun ds S' => match ds with
  | [.int i, .int j] => if (-(2 ^ 62) ≤ i ∧ i < 2 ^ 62 ∧ -(2 ^ 62) ≤ j ∧ j < 2 ^ 62) ∧ j - i ≤ 16777216 then .ok ⟨upTo i (j - i).toNat, []⟩ S' else .no
  | _ => .no
def zipD : List D → List D → List D
  | a :: as, b :: bs => .tup [a, b] :: zipD as bs
  | _, _ => []
def isTup : D → Bool
  | .tup _ => true
  | _ => false
def dIZip (h : DenA) : Fr → Sto → Out Src := fun fr S => (h fr S).bnd fun ds S' => match ds with
  | [a, b] => (match srcOf a S', srcOf b S' with
    | some p, some q => .ok ⟨zipD p.items q.items, p.guard ++ q.guard⟩ S'
    | _, _ => .no)
  | _ => .no
def enumD (xs : List D) : Nat → List D
  | i => match xs with
    | [] => []
    | x :: r => .tup [.int (i : Int), x] :: enumD r (i + 1)
def dIEnum (h : DenA) : Fr → Sto → Out Src := fun fr S => (h fr S).bnd fun ds S' => match ds with
  | [a] => (match srcOf a S' with
    | some p => .ok ⟨enumD p.items 0, p.guard⟩ S'
    | none => .no)
  | _ => .no
def dIEnumT (h : DenA) : Fr → Sto → Out Src := fun fr S => (h fr S).bnd fun xs S' => .ok ⟨enumD xs 0, []⟩ S'
section
variable {X : Cx} {W : WX} {g : Gnd} {tg e : Expr}
theorem walks_list {w : Wd} {src : Src} {a : Addr} (hl : src.items.length ≤ sizeLine) (hs : ∀ w1 S1, Step w w1 → SOk g w1 S1 → src.ok S1 → ∃ vs, SqL g.K w1.H a vs ∧ Reps g w1 src.items vs) : Walks g w src (Itl g.K a) := by
  refine ⟨hl, fun w1 S1 st so ok i d e => ?_, fun w1 S1 st so ok => ?_⟩
  · obtain ⟨vs, hq, rv⟩ := hs w1 S1 st so ok
    obtain ⟨v, ev, r⟩ := rv.get e
    refine ⟨⟨vs, v, hq, ev⟩, fun u H2 y => ?_⟩
    obtain ⟨rfl, y⟩ := y
    have := y vs hq
    rw [ev] at this
    cases this
    exact ⟨w1, rfl, Step.refl so, so, r⟩
  · obtain ⟨vs, hq, rv⟩ := hs w1 S1 st so ok
    exact ⟨vs, hq, Nat.le_of_eq rv.length.symm⟩
theorem walks_tup {w : Wd} {src : Src} {a : Addr} {vs : List V} (hl : src.items.length ≤ sizeLine) (hq : SqT g.K w.H a vs) (rv : Reps g w src.items vs) : Walks g w src (Itt g.K a) := by
  refine ⟨hl, fun w1 S1 st so ok i d e => ?_, fun w1 S1 st so ok => ?_⟩
  · have hq1 := st.sqt (K := g.K) hq
    obtain ⟨v, ev, r⟩ := (Reps.mono st.toMono _ _ rv).get e
    refine ⟨⟨vs, v, hq1, ev⟩, fun u H2 y => ?_⟩
    obtain ⟨rfl, y⟩ := y
    have := y vs hq1
    rw [ev] at this
    cases this
    exact ⟨w1, rfl, Step.refl so, so, r⟩
  · exact ⟨vs, st.sqt hq, Nat.le_of_eq rv.length.symm⟩
theorem walks_str {w : Wd} {z : Str} (hl : z.length ≤ sizeLine) : Walks g w ⟨signs z, []⟩ (Its z) := by
  have hz : (signs z).length = z.length := by unfold signs; rw [List.length_map]; simp [Str.length]
  refine ⟨by show (signs z).length ≤ _; omega, fun w1 S1 st so ok i d e => ?_, fun w1 S1 st so ok => ?_⟩
  · have e : (signs z)[i]? = some d := e
    unfold signs at e
    rw [List.getElem?_map, Array.getElem?_toList] at e
    cases q : z.cps[i]? with
    | none => rw [q] at e; cases e
    | some c =>
      rw [q] at e
      cases e
      refine ⟨(Array.getElem?_eq_some_iff.mp q).1, fun v H2 y => ?_⟩
      obtain ⟨rfl, c', ec, rfl⟩ := y
      rw [q] at ec
      cases ec
      exact ⟨w1, rfl, Step.refl so, so, .str _⟩
  · show z.cps.size ≤ (signs z).length
    rw [hz]
    exact Nat.le_refl _
theorem walks_range {w : Wd} {lo : Int} {n : Nat} (hl : n ≤ sizeLine) : Walks g w ⟨upTo lo n, []⟩ (Itr lo n) := by
  have hz : (upTo lo n).length = n := by unfold upTo; rw [List.length_map, List.length_range]
  refine ⟨by show (upTo lo n).length ≤ _; omega, fun w1 S1 st so ok i d e => ?_, fun w1 S1 st so ok => ?_⟩
  · have e : (upTo lo n)[i]? = some d := e
    have hi : i < n := by
      have := (List.getElem?_eq_some_iff.mp e).1
      omega
    unfold upTo at e
    rw [List.getElem?_map, List.getElem?_range hi] at e
    cases e
    refine ⟨hi, fun v H2 y => ?_⟩
    obtain ⟨rfl, rfl⟩ := y
    exact ⟨w1, rfl, Step.refl so, so, .int _⟩
  · show n ≤ (upTo lo n).length
    rw [hz]
    exact Nat.le_refl _
theorem di_seq {fe : DenE} (he : PE X e (tE ⟨X.K, X.mg, X.w⟩ W fe)) : PI X tg e (tI ⟨X.K, X.mg, X.w⟩ W (dISeq fe)) := by
  refine PI.weaken (PI_or (PI_or (pi_list he) (pi_tup he)) (pi_str he)) fun σ H R q => ?_
  have q0 := q
  obtain ⟨w, S, fr, eH, so, fo, p⟩ := q
  replace p : Post ⟨X.K, X.mg, X.w⟩ w (Walks ⟨X.K, X.mg, X.w⟩) ((fe fr S).bnd fun d S' => .ofS (srcOf d S') S') R (fun c d H' => W c d σ H') := p
  cases q1 : fe fr S with
  | no => rw [q1] at p; exact p.elim
  | ex e S1 =>
    rw [q1] at p
    refine .inr ⟨w, S, fr, eH, so, fo, ?_⟩
    rw [q1]
    exact p
  | ok d S1 =>
    rw [q1] at p
    replace p : Post ⟨X.K, X.mg, X.w⟩ w (Walks ⟨X.K, X.mg, X.w⟩) (.ofS (srcOf d S1) S1) R (fun c d H' => W c d σ H') := p
    unfold srcOf at p
    split at p
    · refine .inl (.inr ⟨w, S, fr, eH, so, fo, ?_⟩)
      rw [q1]
      intro w1 v st so1 r
      cases r with
      | tup t l r => exact ⟨_, rfl, ⟨_, t⟩, p w1 _ st so1 (walks_tup (src := ⟨_, []⟩) l t r)⟩
    · refine .inl (.inl ⟨w, S, fr, eH, so, fo, ?_⟩)
      rw [q1]
      intro w1 v st so1 r
      cases r with
      | rl t l r => exact ⟨_, rfl, ⟨_, t.sql⟩, p w1 _ st so1 (walks_list (src := ⟨_, []⟩) l fun w2 S2 st2 so2 _ => ⟨_, (st2.sqf t).sql, Reps.mono st2.toMono _ _ r⟩)⟩
    · split at p
      · rename_i hz
        refine .inr ⟨w, S, fr, eH, so, fo, ?_⟩
        rw [q1]
        intro w1 v st so1 r
        cases r
        exact ⟨_, rfl, p w1 _ st so1 (walks_str hz)⟩
      · exact p.elim
    · rename_i n
      split at p
      · rename_i xs e1
        refine .inl (.inl ⟨w, S, fr, eH, so, fo, ?_⟩)
        rw [q1]
        intro w1 v st so1 r
        cases r with
        | ob hi =>
          obtain ⟨vs, hv, rv, l⟩ := so1.sql e1
          refine ⟨_, rfl, ⟨_, SqL.of hv⟩, p w1 _ st so1 (walks_list (src := ⟨xs, [(n, xs)]⟩) l fun w2 S2 st2 so2 ok => ?_)⟩
          obtain ⟨vs2, hv2, rv2, _⟩ := so2.sql (ok (n, xs) (List.mem_singleton.mpr rfl))
          rw [st2.ag n hi] at hv2
          exact ⟨vs2, SqL.of hv2, rv2⟩
      · exact p.elim
    · exact p.elim
theorem di_t {h : DenA} (he : PE X e (tL ⟨X.K, X.mg, X.w⟩ W h)) : PI X tg e (tI ⟨X.K, X.mg, X.w⟩ W (dIT h)) := by
  refine PI.weaken (pi_list he) fun σ H R q => lift1L q _ fun v H1 h1 => ?_
  obtain ⟨w, S, fr, xs, rfl, so, fo, ⟨p0, vs, rfl, hv, hn, l, rv⟩, p⟩ := h1
  refine ⟨p0, rfl, ⟨_, SqL.of hv⟩, p w _ (Step.refl so) so (walks_list (src := ⟨xs, []⟩) l fun w2 S2 st2 so2 _ => ?_)⟩
  exact ⟨vs, SqL.of (st2.untracked hv hn).1, Reps.mono st2.toMono _ _ rv⟩
theorem di_range1 {a : Expr} {h : DenA} {p pos : Pos} (hg : Gl X "range") (hm : X.mg "range" = none) (ha : PA X [a] (tA ⟨X.K, X.mg, X.w⟩ W h)) (hs : starEach [a] X.env = [(false, eval a X.env)]) :
    PI X tg (.Call (.Name "range" p) [a] [] pos) (tI ⟨X.K, X.mg, X.w⟩ W (dIRange1 h)) := by
  refine PI.weaken (pi_range1 hg hm ha hs) fun σ H R q => tG_mono (lift1 q) fun vs H1 h1 => ?_
  obtain ⟨w, S, fr, ds, rfl, so, fo, r, p⟩ := h1
  dsimp only at p
  split at p
  · obtain ⟨v, rfl, rv⟩ := r.one
    cases rv
    split at p
    · rename_i hj
      exact ⟨_, rfl, hj.1, by omega, p w _ (Step.refl so) so (walks_range (by rw [sizeLine_eq]; omega))⟩
    · exact p.elim
  · exact p.elim
theorem di_range2 {a b : Expr} {h : DenA} {p pos : Pos} (hg : Gl X "range") (hm : X.mg "range" = none) (ha : PA X [a, b] (tA ⟨X.K, X.mg, X.w⟩ W h)) (hs : starEach [a, b] X.env = [(false, eval a X.env), (false, eval b X.env)]) (hs2 : starEach [b] X.env = [(false, eval b X.env)]) :
    PI X tg (.Call (.Name "range" p) [a, b] [] pos) (tI ⟨X.K, X.mg, X.w⟩ W (dIRange2 h)) := by
  refine PI.weaken (pi_range2 hg hm ha hs hs2) fun σ H R q => tG_mono (lift1 q) fun vs H1 h1 => ?_
  obtain ⟨w, S, fr, ds, rfl, so, fo, r, p⟩ := h1
  dsimp only at p
  split at p
  · obtain ⟨v, u, rfl, rv, ru⟩ := r.two
    cases rv
    cases ru
    split at p
    · rename_i hj
      exact ⟨_, _, rfl, hj.1, p w _ (Step.refl so) so (walks_range (by rw [sizeLine_eq]; omega))⟩
    · exact p.elim
  · exact p.elim
theorem zipD_get : ∀ (xs ys : List D) (i : Nat) (d : D), (zipD xs ys)[i]? = some d → ∃ x y, xs[i]? = some x ∧ ys[i]? = some y ∧ d = .tup [x, y]
  | [], _, _, _, e => by cases e
  | _ :: _, [], _, _, e => by cases e
  | x :: xs, y :: ys, 0, d, e => by cases e; exact ⟨x, y, rfl, rfl, rfl⟩
  | x :: xs, y :: ys, i + 1, d, e => zipD_get xs ys i d e
theorem zipD_len : ∀ xs ys : List D, (zipD xs ys).length ≤ xs.length ∧ (xs.length ≤ (zipD xs ys).length ∨ ys.length ≤ (zipD xs ys).length)
  | [], _ => ⟨Nat.le_refl _, .inl (Nat.le_refl _)⟩
  | _ :: _, [] => ⟨Nat.zero_le _, .inr (Nat.le_refl _)⟩
  | x :: xs, y :: ys => by
    obtain ⟨h1, h2⟩ := zipD_len xs ys
    show (zipD xs ys).length + 1 ≤ xs.length + 1 ∧ (xs.length + 1 ≤ (zipD xs ys).length + 1 ∨ ys.length + 1 ≤ (zipD xs ys).length + 1)
    omega
theorem zipD_le : ∀ xs ys : List D, (zipD xs ys).length ≤ xs.length ∧ (zipD xs ys).length ≤ ys.length
  | [], _ => ⟨Nat.le_refl _, Nat.zero_le _⟩
  | _ :: _, [] => ⟨Nat.zero_le _, Nat.le_refl _⟩
  | x :: xs, y :: ys => by
    obtain ⟨h1, h2⟩ := zipD_le xs ys
    show (zipD xs ys).length + 1 ≤ xs.length + 1 ∧ (zipD xs ys).length + 1 ≤ ys.length + 1
    omega
theorem Step.newTup (so : SOk g w S) {p : Addr} (hp : w.H p = none) {ds : List D} {vs : List V} (hl : ds.length ≤ sizeLine) (r : Reps g w ds vs) :
    Step w (w.put p (.tup vs)) ∧ SOk g (w.put p (.tup vs)) S ∧ Rep g (w.put p (.tup vs)) (.tup ds) (.ref p) := by
  obtain ⟨st, so', _⟩ := Step.put so hp (.tup vs)
  exact ⟨st, so', .tup (SqT.of upd_same) hl (Reps.mono st.toMono _ _ r)⟩
theorem two_line : (2 : Nat) ≤ sizeLine := by decide
theorem walks_zip {w : Wd} {src : Src} {xs ys : List D} {a b : Sd} (es : src.items = zipD xs ys) (hl : xs.length ≤ sizeLine)
    (hs : ∀ w1 S1, Step w w1 → SOk g w1 S1 → src.ok S1 → (∃ vs, a.sq g.K w1.H vs ∧ Reps g w1 xs vs) ∧ ∃ us, b.sq g.K w1.H us ∧ Reps g w1 ys us) : Walks g w src (ItzM g.K a b) := by
  obtain ⟨z1, z2⟩ := zipD_len xs ys
  obtain ⟨z3, z4⟩ := zipD_le xs ys
  refine ⟨by rw [es]; omega, fun w1 S1 st so ok i d e => ?_, fun w1 S1 st so ok => ?_⟩
  · obtain ⟨⟨vs, hq, rv⟩, us, hq2, rv2⟩ := hs w1 S1 st so ok
    rw [es] at e
    obtain ⟨x, y, ex, ey, rfl⟩ := zipD_get _ _ _ _ e
    obtain ⟨v, ev, r1⟩ := rv.get ex
    obtain ⟨u, eu, r2⟩ := rv2.get ey
    refine ⟨⟨vs, us, v, u, hq, hq2, ev, eu⟩, fun t H2 q => ?_⟩
    obtain ⟨T, x', y', rfl, hT, rfl, qx, qy⟩ := q
    have e1 := qx vs hq
    have e2 := qy us hq2
    rw [ev] at e1
    rw [eu] at e2
    cases e1
    cases e2
    obtain ⟨st2, so2, r⟩ := Step.newTup so hT (ds := [x, y]) two_line (.cons r1 (.cons r2 .nil))
    exact ⟨_, rfl, st2, so2, r⟩
  · obtain ⟨⟨vs, hq, rv⟩, us, hq2, rv2⟩ := hs w1 S1 st so ok
    have e1 := rv.length
    have e2 := rv2.length
    refine ⟨vs, us, hq, hq2, ?_⟩
    rw [es]
    omega
theorem signsV_reps {w : Wd} (z : Str) : Reps g w (signs z) (signsV z) := by
  unfold signs signsV
  induction z.cps.toList with
  | nil => exact .nil
  | cons c l ih => exact .cons (.str _) ih
/-- what is walked, by its source -/
theorem src_any {w : Wd} {S : Sto} {d : D} {v : V} {src : Src} (so : SOk g w S) (r : Rep g w d v) (e : srcOf d S = some src) :
    ∃ a : Sd, v = a.v ∧ src.items.length ≤ sizeLine ∧ (∃ vs, a.sq g.K w.H vs) ∧ ∀ w1 S1, Step w w1 → SOk g w1 S1 → src.ok S1 → ∃ vs, a.sq g.K w1.H vs ∧ Reps g w1 src.items vs := by
  unfold srcOf at e
  split at e
  · cases e
    cases r with
    | tup t l r => exact ⟨.T _, rfl, l, ⟨_, t⟩, fun w1 S1 st so1 _ => ⟨_, st.sqt t, Reps.mono st.toMono _ _ r⟩⟩
  · cases e
    cases r with
    | rl t l r => exact ⟨.L _, rfl, l, ⟨_, t.sql⟩, fun w1 S1 st so1 _ => ⟨_, (st.sqf t).sql, Reps.mono st.toMono _ _ r⟩⟩
  · split at e
    · rename_i z hz
      cases e
      cases r
      have hl : (signs z).length = z.length := by unfold signs; rw [List.length_map]; simp [Str.length]
      exact ⟨.Z z, rfl, by show (signs z).length ≤ _; omega, ⟨signsV z, rfl⟩, fun w1 S1 st so1 _ => ⟨signsV z, rfl, signsV_reps z⟩⟩
    · cases e
  · rename_i n
    split at e
    · rename_i xs q
      cases e
      cases r with
      | ob hi =>
        obtain ⟨vs, hv, rv, l⟩ := so.sql q
        refine ⟨.L _, rfl, l, ⟨vs, SqL.of hv⟩, fun w1 S1 st so1 ok => ?_⟩
        obtain ⟨vs2, hv2, rv2, _⟩ := so1.sql (ok (n, xs) (List.mem_singleton.mpr rfl))
        rw [st.ag n hi] at hv2
        exact ⟨vs2, SqL.of hv2, rv2⟩
    · cases e
  · cases e
theorem di_zip {e e2 : Expr} {h : DenA} {p pos tpos : Pos} {elts : List Expr} {kk : Nat} (hg : Gl X "zip") (hm : X.mg "zip" = none) (ha : PA X [e, e2] (tA ⟨X.K, X.mg, X.w⟩ W h))
    (hs : starEach [e, e2] X.env = (false, eval e X.env) :: starEach [e2] X.env) (hpl : (backTo pos (starEach [e2] X.env)).any (·.1) = false) :
    PI X (.Tuple elts kk tpos) (.Call (.Name "zip" p) [e, e2] [] pos) (tI ⟨X.K, X.mg, X.w⟩ W (dIZip h)) := by
  refine PI.weaken (pi_zipM hg hm ha hs hpl) fun σ H R q => tG_mono (lift1 q) fun vs H1 h1 => ?_
  obtain ⟨w, S, fr, ds, rfl, so, fo, r, p⟩ := h1
  dsimp only at p
  split at p
  · rename_i a b
    obtain ⟨va, vb, rfl, ra, rb⟩ := r.two
    split at p
    · rename_i s1 s2 e1 e2
      have okL : ∀ {S1 : Sto}, (Src.mk (zipD s1.items s2.items) (s1.guard ++ s2.guard)).ok S1 → s1.ok S1 ∧ s2.ok S1 := fun ok => ⟨fun q hq => ok q (List.mem_append_left _ hq), fun q hq => ok q (List.mem_append_right _ hq)⟩
      obtain ⟨a1, rfl, l1, ⟨us1, q1⟩, k1⟩ := src_any so ra e1
      obtain ⟨a2, rfl, l2, ⟨us2, q2⟩, k2⟩ := src_any so rb e2
      exact ⟨a1, a2, us1, us2, rfl, q1, q2, p w _ (Step.refl so) so (walks_zip rfl l1 fun w1 S1 st so1 ok => ⟨k1 w1 S1 st so1 (okL ok).1, k2 w1 S1 st so1 (okL ok).2⟩)⟩
    · exact p.elim
  · exact p.elim
theorem enumD_get : ∀ (xs : List D) (k i : Nat) (d : D), (enumD xs k)[i]? = some d → ∃ x, xs[i]? = some x ∧ d = .tup [.int ((k + i : Nat) : Int), x]
  | [], _, _, _, e => by cases e
  | x :: xs, k, 0, d, e => by cases e; exact ⟨x, rfl, rfl⟩
  | x :: xs, k, i + 1, d, e => by
    obtain ⟨y, h1, h2⟩ := enumD_get xs (k + 1) i d e
    refine ⟨y, h1, ?_⟩
    rw [h2]
    have : k + 1 + i = k + (i + 1) := by omega
    rw [this]
theorem enumD_len : ∀ (xs : List D) (k : Nat), (enumD xs k).length = xs.length
  | [], _ => rfl
  | x :: xs, k => by
    show (enumD xs (k + 1)).length + 1 = xs.length + 1
    rw [enumD_len]
theorem walks_enum {w : Wd} {src : Src} {xs : List D} {a : Sd} (es : src.items = enumD xs 0) (hl : xs.length ≤ sizeLine)
    (hs : ∀ w1 S1, Step w w1 → SOk g w1 S1 → src.ok S1 → ∃ vs, a.sq g.K w1.H vs ∧ Reps g w1 xs vs) : Walks g w src (IteM g.K a) := by
  have el := enumD_len xs 0
  refine ⟨by rw [es]; omega, fun w1 S1 st so ok i d e => ?_, fun w1 S1 st so ok => ?_⟩
  · obtain ⟨vs, hq, rv⟩ := hs w1 S1 st so ok
    rw [es] at e
    obtain ⟨x, ex, rfl⟩ := enumD_get _ _ _ _ e
    obtain ⟨v, ev, r1⟩ := rv.get ex
    refine ⟨⟨vs, v, hq, ev⟩, fun t H2 q => ?_⟩
    obtain ⟨T, x', rfl, hT, rfl, qx⟩ := q
    have e1 := qx vs hq
    rw [ev] at e1
    cases e1
    rw [Nat.zero_add]
    obtain ⟨st2, so2, r⟩ := Step.newTup so hT (ds := [.int ((i : Nat) : Int), x]) two_line (.cons (.int _) (.cons r1 .nil))
    exact ⟨_, rfl, st2, so2, r⟩
  · obtain ⟨vs, hq, rv⟩ := hs w1 S1 st so ok
    have e1 := rv.length
    refine ⟨vs, hq, ?_⟩
    rw [es]
    omega
theorem di_enum {e : Expr} {h : DenA} {p pos tpos : Pos} {elts : List Expr} {kk : Nat} (hg : Gl X "enumerate") (hm : X.mg "enumerate" = none) (ha : PA X [e] (tA ⟨X.K, X.mg, X.w⟩ W h)) (hs : starEach [e] X.env = [(false, eval e X.env)]) :
    PI X (.Tuple elts kk tpos) (.Call (.Name "enumerate" p) [e] [] pos) (tI ⟨X.K, X.mg, X.w⟩ W (dIEnum h)) := by
  refine PI.weaken (pi_enumM hg hm ha hs) fun σ H R q => tG_mono (lift1 q) fun vs H1 h1 => ?_
  obtain ⟨w, S, fr, ds, rfl, so, fo, r, p⟩ := h1
  dsimp only at p
  split at p
  · obtain ⟨v, rfl, rv⟩ := r.one
    split at p
    · rename_i s1 e1
      obtain ⟨a1, rfl, l1, ⟨us1, q1⟩, k1⟩ := src_any so rv e1
      exact ⟨a1, us1, rfl, q1, p w _ (Step.refl so) so (walks_enum rfl l1 fun w1 S1 st so1 ok => k1 w1 S1 st so1 ok)⟩
    · exact p.elim
  · exact p.elim
theorem di_enumT {e : Expr} {h : DenA} {p pos tpos : Pos} {elts : List Expr} {kk : Nat} (hg : Gl X "enumerate") (hm : X.mg "enumerate" = none) (ha : PE X e (tL ⟨X.K, X.mg, X.w⟩ W h)) (hs : starEach [e] X.env = [(false, eval e X.env)]) :
    PI X (.Tuple elts kk tpos) (.Call (.Name "enumerate" p) [e] [] pos) (tI ⟨X.K, X.mg, X.w⟩ W (dIEnumT h)) := by
  refine PI.weaken (pi_enumM hg hm (pa_cons ha pa_nil hs) hs) fun σ H R q => lift1L q _ fun v H1 h1 => ?_
  obtain ⟨w, S, fr, xs, rfl, so, fo, ⟨p0, vs, rfl, hv, hn, l, rv⟩, p⟩ := h1
  exact ⟨.L p0, vs, rfl, SqL.of hv, p w _ (Step.refl so) so (walks_enum rfl l fun w1 S1 st so1 _ => ⟨vs, SqL.of (st.untracked hv hn).1, Reps.mono st.toMono _ _ rv⟩)⟩
end

/-! ### comprehensions -/
section
variable {X : Cx} {W : WX}
theorem dts_nil : PTs X [] (tT ⟨X.K, X.mg, X.w⟩ W dYes) := by
  refine ⟨fun pins s σ H Q I h => pts_nil.run pins s σ H Q I ?_⟩
  obtain ⟨w, S, fr, rfl, so, fo, p⟩ := h
  exact p w _ (Step.refl so) so rfl
theorem dl_comp {elt tg iter : Expr} {ifs : List Expr} {scope : Scope} {own : List (Str × Nat)} {pos : Pos} {fi : Fr → Sto → Out Src} {t : DTg} {tt : DenT} {fe : DenE} (hc : X.calm = true) (hN : X.N.Nodup)
    (hi : PI X tg iter (tI ⟨X.K, X.mg, X.w⟩ W fi)) (ok : BlkOk X.N X.env.scope scope own)
    (hg : ∀ (s : Shared) (H : Hp) (C : Addr) (cl : List (Str × Addr)) (fp : List Addr), PG (X.blk s H scope (compEnvC scope cl C X.env) fp) tg (tGt ⟨X.K, X.mg, X.w⟩ (own.map (·.2)) t))
    (ht : ∀ (s : Shared) (H : Hp) (C : Addr) (cl : List (Str × Addr)) (fp : List Addr), PTs (X.blk s H scope (compEnvC scope cl C X.env) fp) ifs (tT ⟨X.K, X.mg, X.w⟩ (fun _ _ _ _ => False) tt))
    (he : ∀ (s : Shared) (H : Hp) (C : Addr) (cl : List (Str × Addr)) (fp : List Addr), PE (X.blk s H scope (compEnvC scope cl C X.env) fp) elt (tE ⟨X.K, X.mg, X.w⟩ (fun _ _ _ _ => False) fe))
    (hs : ∀ x, foldedSetIterable iter X.env x = pure x) : PE X (.ListComp elt [⟨tg, iter, ifs, 0⟩] scope pos) (tL ⟨X.K, X.mg, X.w⟩ W (dComp (own.map (·.2)) fi t tt fe)) :=
  PE.weaken (pe_lc hc hN hi ok hg ht he hs) fun _ _ _ h => lift_comp h
theorem ds_setLc {i : Nat} {y : Str} {py : Pos} {elt tg iter : Expr} {ifs : List Expr} {scope : Scope} {own : List (Str × Nat)} {pos spos : Pos} {fi : Fr → Sto → Out Src} {t : DTg} {tt : DenT} {fe : DenE} (hc : X.calm = true) (hN : X.N.Nodup)
    (hy : X.N[i]? = some y) (hyl : X.env.scope.names.lookup y = some .local) (hsw : swapsWith (.ListComp elt [⟨tg, iter, ifs, 0⟩] scope pos) (some (.Name y py)) spos.line X.env = pure true)
    (hi : PI X tg iter (tI ⟨X.K, X.mg, X.w⟩ W fi)) (ok : BlkOk X.N X.env.scope scope own)
    (hg : ∀ (s : Shared) (H : Hp) (C : Addr) (cl : List (Str × Addr)) (fp : List Addr), PG (X.blk s H scope (compEnvC scope cl C X.env) fp) tg (tGt ⟨X.K, X.mg, X.w⟩ (own.map (·.2)) t))
    (ht : ∀ (s : Shared) (H : Hp) (C : Addr) (cl : List (Str × Addr)) (fp : List Addr), PTs (X.blk s H scope (compEnvC scope cl C X.env) fp) ifs (tT ⟨X.K, X.mg, X.w⟩ (fun _ _ _ _ => False) tt))
    (he : ∀ (s : Shared) (H : Hp) (C : Addr) (cl : List (Str × Addr)) (fp : List Addr), PE (X.blk s H scope (compEnvC scope cl C X.env) fp) elt (tE ⟨X.K, X.mg, X.w⟩ (fun _ _ _ _ => False) fe))
    (hs : ∀ x, foldedSetIterable iter X.env x = pure x) : PS X (.Assign [.Name y py] (.ListComp elt [⟨tg, iter, ifs, 0⟩] scope pos) spos) (tS ⟨X.K, X.mg, X.w⟩ W (dSet i (dKeep (dComp (own.map (·.2)) fi t tt fe)))) := by
  refine PS.weaken (ps_setLc hc hN hy hyl hsw hi ok hg ht he hs) fun D σ H q => lift_comp ?_
  obtain ⟨w, S, fr, e, so, fo, p⟩ := q
  refine ⟨w, S, fr, e, so, fo, ?_⟩
  generalize dComp (own.map (·.2)) fi t tt fe = h at p ⊢
  replace p : PostS ⟨X.K, X.mg, X.w⟩ w (((h fr S).bnd fun ds S' => .ok (.ob S'.length) (S' ++ [.lst ds])).thn fr fun d S' => .ok .nx (fr.set i (some d)) S') D W := p
  cases q : h fr S with
  | no => rw [q] at p; exact p
  | ex e S1 =>
    rw [q] at p
    exact fun w1 c dx st so1 rx => p w1 σ c dx st so1 (fo.mono st.toMono) rx
  | ok ds S1 =>
    rw [q] at p
    intro w1 a st so1 fresh r
    obtain ⟨a', vs, ea, ha, hn, hl, rv⟩ := r
    cases ea
    obtain ⟨so2, mo, rr⟩ := Step.adopt so1 ha hn hl rv
    refine p (w1.adopt a) _ ⟨st.toMono.trans mo, fun b o hb hx => st.kp b o hb hx, fun i h1 h2 => ?_, fun i hi => so2.al i hi⟩ so2 ((fo.mono (st.toMono.trans mo)).set i rr)
    have h2 : i < w1.n + 1 := h2
    by_cases e : i = w1.n
    · show w.H (if i = w1.n then a else w1.m i) = none
      rw [if_pos e]
      exact fresh
    · show w.H (if i = w1.n then a else w1.m i) = none
      rw [if_neg e]
      exact st.fr i h1 (by omega)
end

/-! ### a def called -/
abbrev PhT := Nat → List D → Sto → Out D
def spD (g : Gnd) (n : Nat) (f : List D → Sto → Out D) : Sp := fun vs H Q E => ∃ w S ds, w.H = H ∧ SOk g w S ∧ Reps g w ds vs ∧ ds.length = n ∧ Post g w (Rep g) (f ds S) Q E
def dCall (n : Nat) (f : List D → Sto → Out D) (h : DenA) : DenE := fun fr S => (h fr S).bnd fun ds S' => if ds.length = n then f ds S' else .no
section
variable {X : Cx} {W : WX} {k n : Nat} {a : Addr} {fd : FuncData} {ps : List Str} {x : Str} {p pos : Pos} {e : Expr} {es : List Expr} {h : DenA} {f : List D → Sto → Out D}
theorem lift_call {g : Gnd} {σ : L2.St} {H : Hp} {Q : VK} (q : tE g W (dCall n f h) σ H Q) : tCallG (spD g n f) W (tA g W h) σ H Q := by
  refine tG_mono (lift1 q) fun vs H1 h1 => ?_
  obtain ⟨w, S, fr, ds, e, so, fo, r, p⟩ := h1
  dsimp only at p
  split at p
  · rename_i hl
    exact ⟨w, S, ds, e, so, r, hl, p⟩
  · exact p.elim
theorem de_call (F : FnG X.prog X.w X.K X.mg X.base (L2.CX X.prog X.w) k a fd ps (spD ⟨X.K, X.mg, X.w⟩ n f)) (hr : Room k X.A) (hgd : X.A.guards = some []) (hg : Gl X x) (hm : X.mg x = some (.ref a)) (hk : PySem.W.keepIn X.K (.ref a) = true) (hb : Binds X.K fd ps []) (tk : Takes X W)
    (ha : PA X (e :: es) (tA ⟨X.K, X.mg, X.w⟩ W h)) (hdb : (x == ("__debug__" : Str)) = false) (he : starEach (e :: es) X.env = (false, eval e X.env) :: starEach es X.env) (hpl : (backTo pos (starEach es X.env)).any (·.1) = false) :
    PE X (.Call (.Name x p) (e :: es) [] pos) (tE ⟨X.K, X.mg, X.w⟩ W (dCall n f h)) :=
  PE.weaken (pe_callG F hr hgd hg hm hk hb tk ha hdb he hpl) fun _ _ _ q => lift_call q
theorem de_call0 (F : FnG X.prog X.w X.K X.mg X.base (L2.CX X.prog X.w) k a fd ps (spD ⟨X.K, X.mg, X.w⟩ 0 f)) (hr : Room k X.A) (hgd : X.A.guards = some []) (hg : Gl X x) (hm : X.mg x = some (.ref a)) (hk : PySem.W.keepIn X.K (.ref a) = true) (hb : Binds X.K fd ps []) (tk : Takes X W)
    (hdb : (x == ("__debug__" : Str)) = false) : PE X (.Call (.Name x p) [] [] pos) (tE ⟨X.K, X.mg, X.w⟩ W (dCall 0 f dANil)) :=
  PE.weaken (pe_callG0 F hr hgd hg hm hk hb tk hdb) fun _ _ _ q => by
    obtain ⟨w, S, fr, rfl, so, fo, p⟩ := q
    exact ⟨w, S, [], rfl, so, .nil, rfl, p⟩
end
end DL
/-! DL, part l: a def's whole call; what it leaves behind and nobody holds is forgotten. -/
namespace DL
open PySem PySem.Spec PyProof.Rows L2

mutual
/-- no tracked object from n on stands within -/
def D.und (n : Nat) : D → Bool
  | .ob k => decide (k < n)
  | .tup xs => undL n xs
  | .rl xs => undL n xs
  | .kd _ vs => undL n vs
  | .non => true
  | .bl _ => true
  | .int _ => true
  | .str _ => true
  | .ty _ => true
  | .gl _ => true
  | .xo _ _ vs => undL n vs
def undL (n : Nat) : List D → Bool
  | [] => true
  | d :: ds => d.und n && undL n ds
end
def O.und (n : Nat) : O → Bool
  | .lst xs => undL n xs
  | .dk kvs => undL n (kvs.map (·.2))
  | .ins _ fs => undL n (fs.map (·.2))
def Ex.und (n : Nat) (e : Ex) : Bool := e.cls.und n && (match e.fs with
  | none => true
  | some fs => undL n (fs.map (·.2)))
/-- the objects that stood ahead stand, and what they hold stood ahead -/
def Olds (S S' : Sto) : Prop := S.length ≤ S'.length ∧ ∀ i, i < S.length → S'[i]? = S[i]? ∨ ∃ o, S'[i]? = some o ∧ o.und S.length = true
open Classical in
noncomputable def gcO (S : Sto) (d : D) (S' : Sto) : Out D :=
  if Olds S S' ∧ d.und S.length = true then .ok d (S'.take S.length)
  else match d with
    | .ob j => match S'[j]? with
      | some o => if Olds S S' ∧ S.length ≤ j ∧ o.und S.length = true then .ok (.ob S.length) (S'.take S.length ++ [o]) else .ok d S'
      | none => .ok d S'
    | _ => .ok d S'
open Classical in
noncomputable def gcX (S : Sto) (e : Ex) (S' : Sto) : Out D := if Olds S S' ∧ e.und S.length = true then .ex e (S'.take S.length) else .ex e S'
/-- a def's body, called: n names -/
noncomputable def runB (n : Nat) (b : DenS) (ds : List D) (S : Sto) : Out D := match b (ds.map some ++ List.replicate (n - ds.length) none) S with
  | .ok (.rt d) _ S' => gcO S d S'
  | .ok .nx _ S' => gcO S .non S'
  | .ex e _ S' => gcX S e S'
  | _ => .no
def Wd.cut (w : Wd) (n : Nat) : Wd := ⟨w.m, n, w.H⟩
section
variable {g : Gnd} {w w' : Wd} {S S' : Sto}
mutual
theorem Rep.isBelow : ∀ (d : D) (v : V), Rep g w d v → d.und w.n = true
  | .non, _, _ => rfl
  | .bl _, _, _ => rfl
  | .int _, _, _ => rfl
  | .str _, _, _ => rfl
  | .ty _, _, _ => rfl
  | .gl _, _, _ => rfl
  | .xo c ks xs, _, r => by
    cases r with
    | xo0 _ _ _ _ => rfl
    | xo1 _ _ _ _ _ r => unfold D.und; exact Reps.isBelow xs _ r
  | .ob k, _, r => by
    cases r with
    | ob h => exact decide_eq_true h
  | .tup xs, _, r => by
    cases r with
    | tup _ _ r => unfold D.und; exact Reps.isBelow xs _ r
  | .rl xs, _, r => by
    cases r with
    | rl _ _ r => unfold D.und; exact Reps.isBelow xs _ r
  | .kd ks xs, _, r => by
    cases r with
    | kd _ _ _ r => unfold D.und; exact Reps.isBelow xs _ r
theorem Reps.isBelow : ∀ (ds : List D) (vs : List V), Reps g w ds vs → undL w.n ds = true
  | [], _, _ => rfl
  | d :: ds, _, r => by
    cases r with
    | cons a b =>
      unfold undL
      rw [Rep.isBelow d _ a, Reps.isBelow ds _ b]
      rfl
end
mutual
theorem Rep.lower {n : Nat} : ∀ (d : D) (v : V), Rep g w d v → d.und n = true → Rep g (w.cut n) d v
  | .non, _, r, _ => by cases r; exact .non
  | .bl _, _, r, _ => by cases r; exact .bl _
  | .int _, _, r, _ => by cases r; exact .int _
  | .str _, _, r, _ => by cases r; exact .str _
  | .ty _, _, r, _ => by cases r; exact .ty _
  | .gl _, _, r, _ => by cases r with | gl e => exact .gl e
  | .xo c ks xs, _, r, h => by
    cases r with
    | xo0 e1 e2 e3 e4 => exact .xo0 (w := w.cut n) e1 e2 e3 e4
    | xo1 e1 e2 e3 e4 e5 r => exact .xo1 (w := w.cut n) e1 e2 e3 e4 e5 (Reps.lower xs _ r (by unfold D.und at h; exact h))
  | .ob k, _, r, h => by
    cases r with
    | ob _ => exact Rep.ob (w := w.cut n) (of_decide_eq_true (by unfold D.und at h; exact h))
  | .tup xs, _, r, h => by
    cases r with
    | tup t l r => exact .tup t l (Reps.lower xs _ r (by unfold D.und at h; exact h))
  | .rl xs, _, r, h => by
    cases r with
    | rl t l r => exact .rl t l (Reps.lower xs _ r (by unfold D.und at h; exact h))
  | .kd ks xs, _, r, h => by
    cases r with
    | kd k e l r => exact .kd k e l (Reps.lower xs _ r (by unfold D.und at h; exact h))
theorem Reps.lower {n : Nat} : ∀ (ds : List D) (vs : List V), Reps g w ds vs → undL n ds = true → Reps g (w.cut n) ds vs
  | [], _, r, _ => by cases r; exact .nil
  | d :: ds, _, r, h => by
    unfold undL at h
    rw [Bool.and_eq_true] at h
    cases r with
    | cons a b => exact .cons (Rep.lower d _ a h.1) (Reps.lower ds _ b h.2)
end
theorem RepO.isBelow {o : O} {h : HO} (r : RepO g w o h) : o.und w.n = true := by
  cases r with
  | lst l r => exact Reps.isBelow _ _ r
  | dk l e r => exact Reps.isBelow _ _ r
  | ins e e2 r => exact Reps.isBelow _ _ r
theorem RepO.lower {n : Nat} {o : O} {h : HO} (r : RepO g w o h) (hb : o.und n = true) : RepO g (w.cut n) o h := by
  cases r with
  | lst l r => exact .lst l (Reps.lower _ _ r hb)
  | dk l e r => exact .dk l e (Reps.lower _ _ r hb)
  | ins e e2 r => exact .ins e e2 (Reps.lower _ _ r hb)
theorem olds_below (so : SOk g w S) (ol : Olds S S') {i : Nat} {o : O} (hi : i < S.length) (e : S'[i]? = some o) : o.und S.length = true := by
  rcases ol.2 i hi with h | ⟨o', h, b⟩
  · rw [h] at e
    obtain ⟨ho, _, r⟩ := so.ob i o e
    rw [← so.len]
    exact r.isBelow
  · rw [h] at e
    cases e
    exact b
/-- what is new is forgotten -/
theorem cut_ok (so : SOk g w S) (st : Step w w') (so' : SOk g w' S') (ol : Olds S S') : Step w (w'.cut S.length) ∧ SOk g (w'.cut S.length) (S'.take S.length) := by
  have en := so.len
  have hle : S.length ≤ w'.n := by rw [so'.len]; exact ol.1
  refine ⟨⟨⟨by show w.n ≤ S.length; omega, st.ag, st.tp, st.fz, st.xd⟩, st.kp, fun i h1 h2 => ?_, fun i hi => ?_⟩, ⟨?_, fun i o e => ?_, fun i j hi hj e => ?_⟩⟩
  · have h2 : i < S.length := h2
    omega
  · have hi : i < S.length := hi
    exact st.al i (by omega)
  · show S.length = _
    rw [List.length_take]
    have := ol.1
    omega
  · have hi : i < S.length := by
      have := (List.getElem?_eq_some_iff.mp e).1
      rw [List.length_take] at this
      omega
    rw [List.getElem?_take_of_lt hi] at e
    obtain ⟨h, e2, r⟩ := so'.ob i o e
    exact ⟨h, e2, r.lower (olds_below so ol hi e)⟩
  · have hi : i < S.length := hi
    have hj : j < S.length := hj
    exact so'.inj i j (by omega) (by omega) e
def Wd.cut1 (w : Wd) (n j : Nat) : Wd := ⟨fun i => if i = n then w.m j else w.m i, n + 1, w.H⟩
/-- .. but one new object -/
theorem cut1_ok (so : SOk g w S) (st : Step w w') (so' : SOk g w' S') (ol : Olds S S') {j : Nat} {o : O} (hj : S.length ≤ j) (e : S'[j]? = some o) (hb : o.und S.length = true) :
    Step w (w'.cut1 S.length j) ∧ SOk g (w'.cut1 S.length j) (S'.take S.length ++ [o]) ∧ Rep g (w'.cut1 S.length j) (.ob S.length) (.ref (w'.m j)) := by
  have en := so.len
  have hle : S.length ≤ w'.n := by rw [so'.len]; exact ol.1
  have hjn : j < w'.n := so'.lt e
  obtain ⟨st1, so1⟩ := cut_ok so st so' ol
  have hm : ∀ i, i < S.length → (w'.cut1 S.length j).m i = w'.m i := fun i hi => if_neg (Nat.ne_of_lt hi)
  have hmn : (w'.cut1 S.length j).m S.length = w'.m j := if_pos rfl
  have mo : Mono (w'.cut S.length) (w'.cut1 S.length j) := ⟨Nat.le_succ _, hm, fun a xs e => e, fun a ob u e => e, fun a us e => e⟩
  have hlen : (S'.take S.length).length = S.length := by
    rw [List.length_take]
    have := ol.1
    omega
  refine ⟨⟨st1.toMono.trans mo, st.kp, fun i h1 h2 => ?_, fun i hi => ?_⟩, ⟨?_, fun i u e2 => ?_, fun i k hi hk e2 => ?_⟩, ?_⟩
  · have h2 : i < S.length + 1 := h2
    have e1 : i = S.length := by omega
    subst e1
    rw [hmn]
    exact st.fr j (by omega) hjn
  · have hi : i < S.length + 1 := hi
    by_cases e1 : i = S.length
    · subst e1
      rw [hmn]
      exact st.al j hjn
    · rw [hm i (by omega)]
      exact st.al i (by omega)
  · show S.length + 1 = _
    rw [List.length_append, hlen]
    rfl
  · by_cases hi : i < S.length
    · rw [List.getElem?_append_left (by rw [hlen]; exact hi)] at e2
      obtain ⟨h, e3, r⟩ := so1.ob i u e2
      exact ⟨h, by rw [hm i hi]; exact e3, r.mono mo⟩
    · rw [List.getElem?_append_right (by rw [hlen]; omega), hlen] at e2
      have hz : i - S.length = 0 := by
        have := (List.getElem?_eq_some_iff.mp e2).1
        simp at this
        omega
      rw [hz] at e2
      cases e2
      have e1 : i = S.length := by omega
      subst e1
      obtain ⟨h, e3, r⟩ := so'.ob j o e
      exact ⟨h, by rw [hmn]; exact e3, (r.lower hb).mono mo⟩
  · have hi : i < S.length + 1 := hi
    have hk : k < S.length + 1 := hk
    by_cases e1 : i = S.length
    · by_cases e3 : k = S.length
      · rw [e1, e3]
      · rw [e1, hmn, hm k (by omega)] at e2
        have := so'.inj j k hjn (by omega) e2
        omega
    · by_cases e3 : k = S.length
      · rw [e3, hmn, hm i (by omega)] at e2
        have := so'.inj i j (by omega) hjn e2
        omega
      · rw [hm i (by omega), hm k (by omega)] at e2
        exact so'.inj i k (by omega) (by omega) e2
  · have q : Rep g (w'.cut1 S.length j) (.ob S.length) (.ref ((w'.cut1 S.length j).m S.length)) := .ob (show S.length < S.length + 1 from Nat.lt_succ_self _)
    rw [hmn] at q
    exact q
theorem gc_post {d : D} {v : V} {Q : VK} {E : XK} (so : SOk g w S) (p : Post g w (Rep g) (gcO S d S') Q E) (st : Step w w') (so' : SOk g w' S') (r : Rep g w' d v) : Q v w'.H := by
  unfold gcO at p
  by_cases h : Olds S S' ∧ d.und S.length = true
  · rw [if_pos h] at p
    obtain ⟨st1, so1⟩ := cut_ok so st so' h.1
    exact p (w'.cut S.length) v st1 so1 (Rep.lower _ _ r h.2)
  · rw [if_neg h] at p
    split at p
    · rename_i j
      split at p
      · rename_i o e
        by_cases h2 : Olds S S' ∧ S.length ≤ j ∧ o.und S.length = true
        · rw [if_pos h2] at p
          cases r
          obtain ⟨st1, so1, r1⟩ := cut1_ok so st so' h2.1 h2.2.1 e h2.2.2
          exact p (w'.cut1 S.length j) _ st1 so1 r1
        · rw [if_neg h2] at p
          exact p _ _ st so' r
      · exact p _ _ st so' r
    · exact p _ _ st so' r
theorem gcX_post {e : Ex} {c : Value} {dx : Option Addr} {Q : VK} {E : XK} (so : SOk g w S) (p : Post g w (Rep g) (gcX S e S') Q E) (st : Step w w') (so' : SOk g w' S') (r : RepX g w' e c dx) : E c dx w'.H := by
  unfold gcX at p
  by_cases h : Olds S S' ∧ e.und S.length = true
  · rw [if_pos h] at p
    obtain ⟨st1, so1⟩ := cut_ok so st so' h.1
    have hb := h.2
    unfold Ex.und at hb
    rw [Bool.and_eq_true] at hb
    refine p (w'.cut S.length) c dx st1 so1 ⟨?_, ?_⟩
    · obtain ⟨v, r1, r2⟩ := r.cls
      exact ⟨v, Rep.lower _ _ r1 hb.1, r2⟩
    · have q := r.fs
      have hle : S.length ≤ w'.n := by rw [so'.len]; exact h.1.1
      cases ef : e.fs with
      | none => rw [ef] at q; exact q
      | some fs =>
        rw [ef] at q hb
        obtain ⟨d, us, e1, e2, e3, e4, e5⟩ := q
        exact ⟨d, us, e1, e2, fun i hi => e3 i (Nat.lt_of_lt_of_le hi hle), e4, Reps.lower _ _ e5 hb.2⟩
  · rw [if_neg h] at p
    exact p _ c dx st so' r
/-- the names at the entry -/
theorem FrOk.start {ds : List D} {vs : List V} {N : List Str} (r : Reps g w ds vs) : FrOk g w (ds.map some ++ List.replicate (N.length - ds.length) none) (L2.start N vs) := by
  have l := r.length
  refine ⟨by unfold L2.start; rw [List.length_append, List.length_append, List.length_map, List.length_map, List.length_replicate, List.length_replicate, l], fun i d e => ?_⟩
  by_cases hi : i < ds.length
  · rw [List.getElem?_append_left (by rw [List.length_map]; exact hi), List.getElem?_map] at e
    cases q : ds[i]? with
    | none => rw [q] at e; cases e
    | some d' =>
      rw [q] at e
      cases e
      obtain ⟨v, ev, rv⟩ := r.get q
      refine ⟨v, ?_, rv⟩
      unfold L2.start
      rw [List.getElem?_append_left (by rw [List.length_map, ← l]; exact hi), List.getElem?_map, ev]
      rfl
  · rw [List.getElem?_append_right (by rw [List.length_map]; omega), List.getElem?_replicate] at e
    split at e <;> cases e
end
end DL
/-! DL, part m: side conditions on the syntax, by small tests. -/
namespace DL
open PySem PySem.Spec PyProof.Rows L2

def isStar : Expr → Bool
  | .Starred .. => true
  | _ => false
def isComp : Expr → Bool
  | .ListComp .. => true
  | .SetComp .. => true
  | .DictComp .. => true
  | _ => false
def isSlice : Expr → Bool
  | .Slice .. => true
  | _ => false
def isSetE : Expr → Bool
  | .Set .. => true
  | _ => false
def isTupE : Expr → Bool
  | .Tuple .. => true
  | .List .. => true
  | _ => false
def isCall0 : Expr → Bool
  | .Call (.Name ..) [] [] _ => true
  | _ => false
/-- an expression whose test is its value's truth -/
def isPlainT : Expr → Bool
  | .UnaryOp .Not _ _ => false
  | .BoolOp .. => false
  | .IfExp .. => false
  | .Compare .. => false
  | _ => true
section
variable {env : Env} {e : Expr} {es : List Expr} {pos : Pos}
theorem star_cons (h : isStar e = false) : starEach (e :: es) env = (false, eval e env) :: starEach es env := by
  cases e <;> first | rfl | cases h
theorem star_any : ∀ {es : List Expr}, es.all (fun e => !isStar e) = true → (backTo pos (starEach es env)).any (·.1) = false
  | [], _ => rfl
  | e :: es, h => by
    rw [List.all_cons, Bool.and_eq_true] at h
    have h1 : isStar e = false := by simpa using h.1
    rw [star_cons h1]
    show (false || (backTo pos (starEach es env)).any (·.1)) = false
    rw [star_any h.2]
    rfl
theorem star_all : ∀ {es : List Expr}, es.all (fun e => !isStar e) = true → (backTo pos (starEach es env)).all (fun x => !x.1) = true
  | [], _ => rfl
  | e :: es, h => by
    rw [List.all_cons, Bool.and_eq_true] at h
    have h1 : isStar e = false := by simpa using h.1
    rw [star_cons h1]
    show (true && (backTo pos (starEach es env)).all (fun x => !x.1)) = true
    rw [star_all h.2]
    rfl
theorem few_ok (h : es.all (fun e => !isStar e) = true) (hl : es.length < 30) : ((backTo pos (starEach es env)).all (fun x => !x.1) && (backToKw pos (keywordEach [] env)).all (fun x => x.1.isSome)
      && decide (es.length + ([] : List Keyword).length + (if ([] : List Keyword).isEmpty then 0 else 1) < 30)) = true := by
  rw [star_all h]
  show (true && decide (es.length + 0 + 0 < 30)) = true
  rw [Bool.true_and]
  exact decide_eq_true (by omega)
theorem swaps_no {t : Option Expr} {l : Nat} (h : isComp e = false) : swapsWith e t l env = pure false := by
  cases e <;> first | rfl | cases h
theorem swapped_no {t : Expr} (h : isTupE e = false) : swappedStores [t] e env = pure none := by
  cases e <;> first | (cases t <;> rfl) | cases h
theorem swapped_no' {t : Expr} (h : isTupE t = false) : swappedStores [t] e env = pure none := by
  cases t <;> first | rfl | cases h
theorem base_ok {n : Str} (h : isCall0 e = false) : attributeBase e n env (eval e env) = eval e env := by
  cases e with
  | Call f args kw p =>
    cases f with
    | Name id p2 =>
      cases args with
      | nil =>
        cases kw with
        | nil => cases h
        | cons a b => rfl
      | cons a b => rfl
    | _ => rfl
  | _ => rfl
theorem plainIx (h : isSlice e = false) : PlainIx e := by
  cases e <;> first | (intro _ _; rfl) | cases h
theorem folded_ok (h : isSetE e = false) : ∀ x, foldedSetIterable e env x = pure x := by
  cases e <;> first | (intro _; rfl) | cases h
theorem behind_ok {op : CmpOp} (h : isSetE e = false) : behindInMarks op e = false := by
  cases e <;> first | rfl | cases h
theorem last_ok {op op' : CmpOp} {b : Expr} (h : isSetE e = false) : lastMarks [op, op'] [b, e] = false := by
  show behindInMarks op' e = false
  exact behind_ok h
theorem test_ok (h : isPlainT e = true) : ∀ whole, isTrue e env whole = (do let v ← whole; standAt e.pos; holding [v] (truthy v)) := by
  cases e with
  | UnaryOp op x p => cases op <;> first | (intro _; rfl) | cases h
  | BoolOp _ _ _ => cases h
  | IfExp _ _ _ _ => cases h
  | Compare _ _ _ _ => cases h
  | _ => intro _; rfl
theorem assign1 {t : Expr} (h : isStar t = false) : (assignEach [t] env).map (·.2) = [assign t env] := by
  cases t <;> first | rfl | cases h
theorem assign_cons {t : Expr} (h : isStar t = false) : (assignEach (t :: es) env).map (·.2) = assign t env :: (assignEach es env).map (·.2) := by
  cases t <;> first | rfl | cases h
theorem assign_len : ∀ {es : List Expr}, (assignEach es env).length = es.length
  | [] => rfl
  | e :: es => by
    cases e <;> (show (assignEach es env).length + 1 = es.length + 1; rw [assign_len])
theorem assign_find : ∀ {es : List Expr}, es.all (fun e => !isStar e) = true → (assignEach es env).findIdx? (·.1) = none
  | [], _ => rfl
  | e :: es, h => by
    rw [List.all_cons, Bool.and_eq_true] at h
    have h1 : isStar e = false := by simpa using h.1
    have e1 : assignEach (e :: es) env = (false, assign e env) :: assignEach es env := by cases e <;> first | rfl | cases h1
    rw [e1, List.findIdx?_cons]
    simp [assign_find h.2]
theorem setIx_ok {o i : Expr} {tpos : Pos} (h : isSlice i = false) : ∀ v, assign (.Subscript o i tpos) env v = (do
      let ov ← holding [v] (eval o env)
      let iv ← holding [v, ov] (eval i env)
      standAt tpos
      holding [v, ov, iv] (setItem ov iv v)
      release [v, ov, iv] []) := by
  intro v
  cases i <;> first | rfl | cases h
/-- does the store of a comprehension change places with its variables' end -/
def swB (sc : Scope) (t : Str) (l1 l2 : Nat) (scope : Scope) : Bool := (match sc.names.lookup t with | some .local => true | _ => false) && l1 == l2 && !(scope.names.any fun (n, k) => n == t && (k == .local || k == .cell))
theorem sw_comp {elt : Expr} {gs : List Comprehension} {scope : Scope} {ppos py : Pos} {y : Str} {l : Nat} {b : Bool} (hk : env.scope.kind = .function) (h : swB env.scope y py.line ppos.line scope = b) :
    swapsWith (.ListComp elt gs scope ppos) (some (.Name y py)) l env = pure b := by
  subst h
  have hb : (env.blockKind == .function) = true := by unfold Env.blockKind; rw [hk]; rfl
  have hl : (env.kindOf y == some .local) = (match env.scope.names.lookup y with | some .local => true | _ => false) := by
    unfold Env.kindOf
    cases env.scope.names.lookup y with
    | none => rfl
    | some k => cases k <;> rfl
  unfold swapsWith swB
  simp only [hb, hl, Expr.pos]
  rfl
/-- a display of constants alone, or of more than three -/
def foldT : Expr → Bool
  | .Tuple vs _ _ => vs.all (foldedForSure 8) || !(vs.length == 2 || vs.length == 3)
  | _ => false
theorem swapped_fold {t : Expr} (h : foldT e = true) : swappedStores [t] e env = pure none := by
  cases e with
  | Tuple vs k p =>
    unfold foldT at h
    rw [Bool.or_eq_true] at h
    unfold swappedStores
    cases t with
    | Tuple ts k2 p2 =>
      dsimp only
      split
      · rfl
      rename_i h1
      split
      · rfl
      split
      · rfl
      rcases h with h | h
      · rw [if_pos h]
      · exfalso
        simp only [Bool.or_eq_true, Bool.not_eq_true', not_or, Bool.not_eq_true, bne_eq_false_iff_eq] at h1
        rw [h1.1.2] at h
        exact h1.1.1 (by simpa using h)
    | List ts p2 =>
      dsimp only
      split
      · rfl
      rename_i h1
      split
      · rfl
      split
      · rfl
      rcases h with h | h
      · rw [if_pos h]
      · exfalso
        simp only [Bool.or_eq_true, Bool.not_eq_true', not_or, Bool.not_eq_true, bne_eq_false_iff_eq] at h1
        rw [h1.1.2] at h
        exact h1.1.1 (by simpa using h)
    | _ => rfl
  | _ => cases h
def fold2 (vs : List Expr) : Bool := vs.all (foldedForSure 8)
def cons2 (vs : List Expr) : Bool := vs.all (constantsAlone 8)
theorem par_ok {x y : Str} {a b : Expr} {px py pt pt2 : Pos} {kt k2 : Nat} (hk : env.scope.kind = .function) (hx : env.scope.names.lookup x = some .local) (hy : env.scope.names.lookup y = some .local) (hxy : x ≠ y)
    (ha : isStar a = false) (hb : isStar b = false) (hl : py.line = px.line) (hf : fold2 [a, b] = false) (hc : cons2 [a, b] = false) :
    swappedStores [.Tuple [.Name x px, .Name y py] kt pt] (.Tuple [a, b] k2 pt2) env = pure (some [x, y]) := by
  have hbk : (env.blockKind != .function) = false := by unfold Env.blockKind; rw [hk]; rfl
  have h1 : (env.kindOf x == some .local) = true := by unfold Env.kindOf; rw [hx]; rfl
  have h2 : (env.kindOf y == some .local) = true := by unfold Env.kindOf; rw [hy]; rfl
  unfold fold2 at hf
  unfold cons2 at hc
  have hd : ([x, y] : List Str).eraseDups.length = 2 := by
    have q : (y == x) = false := by simpa using fun e => hxy e.symm
    simp [List.eraseDups_cons, q]
  unfold swappedStores
  simp only [hbk, h1, h2, hf, hc, Expr.pos, List.length_cons, List.length_nil, List.head?_cons, Option.map_some, Option.getD_some, hl, beq_self_eq_true, Bool.and_self, List.filterMap_cons, List.filterMap_nil, if_true, hd, List.any_cons, List.any_nil, Bool.or_false]
  clear hf hc hd h1 h2 hbk
  cases a <;> first | (cases ha; done) | (cases b <;> first | (cases hb; done) | rfl)
end
end DL
/-! DM, part a: max(list, default=d). -/
namespace DMa
open PySem PySem.Spec PyProof.Rows L2
section
variable {prog : Program} {w : World} {A : Around} {R : Result → Shared → Prop} {I : Addr} {fp wr : List Addr} {n : Nat} {P : Nat → Value → Prop} {St : Nat → Heap → Prop} {kw : List (Str × Value)}
theorem name_loop : (toString "max" ++ toString ".loop" : String) = "max.loop" := by decide
/-- the turns behind the first, whatever the keywords -/
theorem turns (W : Walks prog w A.in1 I fp wr n P St) (bt : Nat → Nat → Bool) (hcmp : CmpOf prog w A.in1 .Gt P bt) (B : Addr) (hB : B ∉ fp) :
    ∀ (k j : Nat) (s : Shared) (vb : Value) (c : Nat), n - (j + 1) = k → j + 1 ≤ n → St (j + 1) s.heap → P (argBest bt j) vb →
    s.heap.get? B = some { cls := .type "list", dict := none, data := .seq #[vb, vb] c, slots := #[] } →
    (∀ v h' tk, P (argBest bt (n - 1)) v → (∀ b o, b ∉ wr → b ≠ B → s.heap.get? b = some o → h'.get? b = some o) → R (.ok (.ret v)) { s with heap := h', toks := tk }) →
    codeAny (model prog w) A (.builtin "max.loop" ⟨[.ref I, .none, .ref B], kw⟩) R s := by
  have hBw : B ∉ wr := fun h => hB (W.sub _ h)
  intro k
  induction k with
  | zero =>
    intro j s vb c hk hj hst hPb hS hR
    have hin : j + 1 = n := by omega
    refine codeAny_builtin F.entry_max_loop ?_
    rw [Around.under_plainId F.plain_max_loop _]
    refine wpAny_bind (m := seqItems? (.ref B)) (wpAny_seqItems hS rfl ?_)
    refine wpAny_bind (m := tryCatch (pyNext (.ref I)) _) (wpAny_tryCatch (W.done s _ _ (hin ▸ hst) fun h' tk hk' => ?_))
    have hS' := hk' B _ hBw hS
    refine wpAny_bind (m := updateSeq B (fun _ => #[])) ?_
    refine wpAny_updateSeq hS' rfl (wpAny_bind (wpAny_letGo (wpAny_pure ?_)))
    exact hR vb _ tk (by rw [← hin]; exact hPb) fun b o hbw hbS e => (Heap.get?_update_other _ _ (Ne.symm hbS)).trans (hk' b o hbw e)
  | succ k ih =>
    intro j s vb c hk hj hst hPb hS hR
    have hlt : j + 1 < n := by omega
    refine codeAny_builtin F.entry_max_loop ?_
    rw [Around.under_plainId F.plain_max_loop _]
    refine wpAny_bind (m := seqItems? (.ref B)) (wpAny_seqItems hS rfl ?_)
    refine wpAny_bind (m := tryCatch (pyNext (.ref I)) _) (wpAny_tryCatch (W.item (j + 1) s _ _ hlt hst fun v h' tk hP hst' hk' => ?_))
    have hS' := hk' B _ hBw hS
    show wpAny _ A.in1 (tryCatch (holding [v, v] (richCompare .Gt v vb >>= _)) _ >>= _) _ _ _
    refine wpAny_bind (wpAny_tryCatch (wpAny_holding (wpAny_bind (hcmp (j + 1) (argBest bt j) v vb _ _ _ hP hPb ?_))))
    refine wpAny_bind (wpAny_holding (wpAny_truthy_bool ?_))
    refine wpAny_bind (wpAny_letGo (wpAny_pure ?_))
    cases hb : bt (j + 1) (argBest bt j) with
    | true =>
      simp only [if_true]
      refine wpAny_bind (wpAny_updateSeq hS' rfl (wpAny_bind (wpAny_letGo ?_)))
      rw [name_loop]
      refine wpAny_pure ⟨plainId_quiet F.plain_max_loop _, ih (j + 1) _ v _ (by omega) hlt (W.frame _ _ _ hst' fun b hbf o e => ?_) (by simp only [argBest, hb, if_true]; exact hP) (Heap.get?_update_self _ hS' rfl)
        fun v' h'' tk'' hP' hk'' => ?_⟩
      · exact (Heap.get?_update_other _ _ (fun h : B = b => hB (by rw [h]; exact hbf))).trans e
      · exact hR v' h'' tk'' hP' fun b o hbw hbS e => hk'' b o hbw hbS ((Heap.get?_update_other _ _ (Ne.symm hbS)).trans (hk' b o hbw e))
    | false =>
      simp only [Bool.false_eq_true, if_false]
      refine wpAny_bind (wpAny_letGo ?_)
      rw [name_loop]
      refine wpAny_pure ⟨plainId_quiet F.plain_max_loop _, ih (j + 1) _ vb c (by omega) hlt hst' (by simp only [argBest, hb, Bool.false_eq_true, if_false]; exact hPb) hS' fun v' h'' tk'' hP' hk'' => ?_⟩
      exact hR v' h'' tk'' hP' fun b o hbw hbS e => hk'' b o hbw hbS (hk' b o hbw e)
theorem first_turn (W : Walks prog w A.in1 I fp wr n P St) (bt : Nat → Nat → Bool) (hcmp : CmpOf prog w A.in1 .Gt P bt) (B : Addr) (hB : B ∉ fp) (hn : 0 < n) {s : Shared} {c : Nat} (hst : St 0 s.heap)
    (hS : s.heap.get? B = some { cls := .type "list", dict := none, data := .seq #[] c, slots := #[] })
    (hR : ∀ v h' tk, P (argBest bt (n - 1)) v → (∀ b o, b ∉ wr → b ≠ B → s.heap.get? b = some o → h'.get? b = some o) → R (.ok (.ret v)) { s with heap := h', toks := tk }) :
    codeAny (model prog w) A (.builtin "max.loop" ⟨[.ref I, .none, .ref B], kw⟩) R s := by
  have hBw : B ∉ wr := fun h => hB (W.sub _ h)
  refine codeAny_builtin F.entry_max_loop ?_
  rw [Around.under_plainId F.plain_max_loop _]
  refine wpAny_bind (m := seqItems? (.ref B)) (wpAny_seqItems hS rfl ?_)
  refine wpAny_bind (m := tryCatch (pyNext (.ref I)) _) (wpAny_tryCatch (W.item 0 s _ _ hn hst fun v h' tk hP hst' hk' => ?_))
  have hS' := hk' B _ hBw hS
  refine wpAny_bind (m := updateSeq B (fun _ => #[v, v])) (wpAny_updateSeq hS' rfl ?_)
  rw [name_loop]
  refine wpAny_pure ⟨plainId_quiet F.plain_max_loop _, turns W bt hcmp B hB _ 0 _ v _ rfl hn (W.frame _ _ _ hst' fun b hbf o e => ?_) hP (Heap.get?_update_self _ hS' rfl) fun v' h'' tk'' hP' hk'' => ?_⟩
  · exact (Heap.get?_update_other _ _ (fun h : B = b => hB (by rw [h]; exact hbf))).trans e
  · exact hR v' h'' tk'' hP' fun b o hbw hbS e => hk'' b o hbw hbS ((Heap.get?_update_other _ _ (Ne.symm hbS)).trans (hk' b o hbw e))
/-- nothing there: the default -/
theorem no_turn {d : Value} (W : Walks prog w A.in1 I fp wr 0 P St) (B : Addr) (hB : B ∉ fp) {s : Shared} {c : Nat} (hst : St 0 s.heap)
    (hS : s.heap.get? B = some { cls := .type "list", dict := none, data := .seq #[] c, slots := #[] })
    (hR : ∀ h' tk, (∀ b o, b ∉ wr → b ≠ B → s.heap.get? b = some o → h'.get? b = some o) → R (.ok (.ret d)) { s with heap := h', toks := tk }) :
    codeAny (model prog w) A (.builtin "max.loop" ⟨[.ref I, .none, .ref B], [(Str.ofString "default", d)]⟩) R s := by
  refine codeAny_builtin F.entry_max_loop ?_
  rw [Around.under_plainId F.plain_max_loop _]
  refine wpAny_bind (m := seqItems? (.ref B)) (wpAny_seqItems hS rfl ?_)
  refine wpAny_bind (m := tryCatch (pyNext (.ref I)) _) (wpAny_tryCatch (W.done s _ _ hst fun h' tk hk' => ?_))
  refine wpAny_bind (wpAny_rule ?_)
  exact wpAny_pure (hR h' tk fun b o hbw _ e => hk' b o hbw e)
end
section
variable {prog : Program} {w : World} {A : Around} {E : Value → Shared → Prop} {s : Shared} {Q : Value → Shared → Prop}
theorem args_max (a d : Value) : argsOk "max" ⟨[a], [(Str.ofString "default", d)]⟩ := by unfold argsOk; kernel_rfl
theorem bound_max (d : Value) : Builtin.Builtins.bindParams "max" ["key", "default"] 0 ⟨[], [(Str.ofString "default", d)]⟩ = pure [none, some d] := by kernel_rfl
/-- a built-in function's call by keywords that goes on in another code -/
theorem call_kw_tree {id : String} {b : Builtin} {args : List Value} {kw : List (Str × Value)} (hk : builtinKind id = none) (hp : plainId id = true) (hb : entryFor table id = some b) (ha : argsOk id ⟨args, kw⟩)
    (hc : wpAny (model prog w) A.in1 (b ⟨args, kw⟩) (fun fin s' => match fin with
      | .done f => (match (Except.ok f : Result) with | .ok (.ret v) => Q v s' | .ok _ => False | .error e => E e s')
      | .again c' => c'.quiet = true ∧ codeAny (model prog w) A c' (fun r s' => match r with | .ok (.ret v) => Q v s' | .ok _ => False | .error e => E e s') s') E s) :
    wpAny (model prog w) A (call (.builtin id) args kw) Q E s := by
  refine wpAny_call (codeAny_call_builtin hp hb ?_)
  simp only [checkBuiltinCall, hk]
  cases hsig : Manifest.signature? id with
  | none => exact wpAny_pure hc
  | some sig =>
    have h2 : Bind.checkArgs id sig ⟨args, kw⟩ = pure () := by simpa only [argsOk, hsig] using ha
    show wpAny _ A.in1 (Bind.checkArgs id sig ⟨args, kw⟩) _ _ s
    rw [h2]
    exact wpAny_pure hc
theorem max_kw {x d : Value}
    (h : wpAny (model prog w) A.in1 (pyIter x) (fun it s₂ => ∃ I fp wr n P St bt, it = .ref I ∧ Walks prog w A.in1 I fp wr n P St ∧ St 0 s₂.heap ∧ (∀ b ∈ fp, b < s₂.heap.objs.size) ∧ CmpOf prog w A.in1 .Gt P bt ∧
      (0 < n → ∀ v h' tk, P (argBest bt (n - 1)) v → (∀ b o, b ∉ wr → s₂.heap.get? b = some o → h'.get? b = some o) → Q v { s₂ with heap := h', toks := tk }) ∧
      (n = 0 → ∀ h' tk, (∀ b o, b ∉ wr → s₂.heap.get? b = some o → h'.get? b = some o) → Q d { s₂ with heap := h', toks := tk })) E s) :
    wpAny (model prog w) A (call (.builtin "max") [x] [(Str.ofString "default", d)]) Q E s := by
  refine call_kw_tree F.kind_max F.plain_max F.entry_max (args_max _ _) ?_
  show wpAny _ _ (Builtin.Builtins.bindParams "max" ["key", "default"] 0 ⟨[], [(Str.ofString "default", d)]⟩ >>= _) _ _ s
  refine wpAny_bind (wpAny_of_eq (bound_max d) ?_)
  refine wpAny_bind (m := (pure x : Sem Value)) (wpAny_pure ?_)
  refine wpAny_bind (wpAny_mono h (fun it s₂ h₂ => ?_) fun _ _ e => e)
  obtain ⟨I, fp, wr, n, P, St, bt, rfl, W, hst, hfp, hcmp, hQ, hD⟩ := h₂
  refine wpAny_bind (wpAny_newObj_type ?_)
  have hB : s₂.heap.objs.size ∉ fp := fun hm => Nat.lt_irrefl _ (hfp _ hm)
  rw [name_loop]
  refine wpAny_pure ⟨plainId_quiet F.plain_max_loop _, ?_⟩
  by_cases hn : 0 < n
  · exact first_turn W bt hcmp s₂.heap.objs.size hB hn (W.frame _ _ _ hst fun b _ o e => Heap.get?_push_of_some _ e) (Heap.get?_push_size _ rfl) fun v h' tk hP hk => hQ hn v h' tk hP fun b o hbw e => hk b o hbw (Nat.ne_of_lt (Heap.lt_size e)) (Heap.get?_push_of_some _ e)
  · obtain rfl : n = 0 := by omega
    exact no_turn W s₂.heap.objs.size hB (W.frame _ _ _ hst fun b _ o e => Heap.get?_push_of_some _ e) (Heap.get?_push_size _ rfl) fun h' tk hk => hD rfl h' tk fun b o hbw e => hk b o hbw (Nat.ne_of_lt (Heap.lt_size e)) (Heap.get?_push_of_some _ e)
theorem max_ints {l : Addr} {its : List Value} {ns : List Int} {d : Value} (hh : A.handled = none) (hl : s.heap.IsList l its.toArray) (hi : IntsAre its ns)
    (h : 0 < ns.length → ∀ h' tk M t', (∀ b o, s.heap.get? b = some o → h'.get? b = some o) → M ∈ ns → (∀ a, a ∈ ns → a ≤ M) → Q (.int M t') { s with heap := h', toks := tk })
    (h0 : ns.length = 0 → ∀ h' tk, (∀ b o, s.heap.get? b = some o → h'.get? b = some o) → Q d { s with heap := h', toks := tk }) : wpAny (model prog w) A (call (.builtin "max") [.ref l] [(Str.ofString "default", d)]) Q E s := by
  obtain ⟨xs, e⟩ := hi.allInts.items
  have hn : numsOf (intItems xs).toList = ns := by rw [← e]; exact hi.numsOf
  rw [nums_intItems] at hn
  subst hn
  rw [e] at hl
  refine max_kw (iter_intList hl fun s₂ e st hfp hlI => ?_)
  subst e
  refine ⟨_, _, _, _, _, _, _, rfl, Walks.list (A := A.in1) hh _ l hlI (intItems xs), st, hfp, CmpOf.ints_gt (numAt xs) (fun _ _ => intItems_at), fun hn v h' tk hP hk => ?_, fun hn h' tk hk => ?_⟩
  · have hsz : 0 < xs.size := by simpa [intItems] using hn
    have hv : (intItems xs)[argBest (fun i j => decide (numAt xs i > numAt xs j)) (xs.size - 1)]? = some v := by simpa [intItems] using hP
    obtain ⟨t, rfl⟩ := intItems_at hv
    obtain ⟨h1, h2⟩ := argBest_gt (numAt xs) (xs.size - 1)
    refine h (by simpa using hsz) h' tk _ t (old_kept hk) ?_ fun a ha => ?_
    · rw [numAt_eq]; exact PySem.getD_mem (by rw [List.length_map, Array.length_toList]; omega)
    · obtain ⟨j, hj, rfl⟩ := mem_getD ha
      rw [List.length_map, Array.length_toList] at hj
      rw [← numAt_eq]; exact h2 j (by omega)
  · exact h0 (by simpa [intItems] using hn) h' tk (old_kept hk)
end
end DMa
namespace DL
open PySem PySem.Spec PyProof.Rows L2
/-- max(xs, default=d) -/
def fMaxD (d : D) : FB := fun xs S => match optAll intOf xs with
  | some (n :: ns) => some (.int (maxI (n :: ns)), S)
  | some [] => some (d, S)
  | none => none
def dMaxD (h : DenA) (f : DenE) : DenE := fun fr S => (h fr S).bnd fun xs S' => (f fr S').bnd fun d S2 => .ofO (fMaxD d xs S2)
def rMaxD (g : Gnd) : List V → List V → Hp → VK → Prop := fun vs zs H Q => ∃ w S xs v d z, vs = [v] ∧ zs = [z] ∧ w.H = H ∧ SOk g w S ∧ RepT g w xs v ∧ Rep g w d z ∧ Post g w (Rep g) (.ofO (fMaxD d xs S)) Q (fun _ _ _ => False)
section
variable {X : Cx} {W : WX} {x : Str} {p pos kpos : Pos} {e k : Expr} {h : DenA} {f : DenE}
theorem c_maxD (hc : X.calm = true) : CallRK X (.builtin "max") [Str.ofString "default"] (rMaxD ⟨X.K, X.mg, X.w⟩) := by
  intro pins s σ H vs zs us ws Q I r rz h
  obtain ⟨w, S, xs, v, d, z, rfl, rfl, rfl, so, ⟨b, vb, rfl, hb, hn, lb, rb⟩, rd, k⟩ := h
  obtain rfl := Vals.ref1 r
  obtain ⟨u, rfl, ru⟩ := Vals.one rz
  unfold fMaxD at k
  cases q : optAll intOf xs with
  | none => rw [q] at k; exact k.elim
  | some ns =>
    rw [q] at k
    have e1 := intOf_ok q
    subst e1
    have e2 := rb.ints
    subst e2
    obtain ⟨its, rv, hl, _⟩ := I.list (SqL.of hb)
    refine DMa.max_ints (I.ok.hd hc) hl.isList rv.ints (fun hne h' tk m t' hk h1 h2 => ?_) (fun h0 h' tk hk => ?_)
    · cases ns with
      | nil => cases hne
      | cons n ns =>
        obtain ⟨g1, g2, g3⟩ := maxI_ge ns n
        have e3 : m = maxI (n :: ns) := by
          show m = ns.foldl max n
          have q1 : ns.foldl max n ≤ m := by
            rcases g3 with g3 | g3
            · rw [g3]; exact h2 n List.mem_cons_self
            · exact h2 _ (List.mem_cons_of_mem _ g3)
          rcases List.mem_cons.mp h1 with z | z
          · omega
          · have := g2 m z
            omega
        exact ⟨.int _, _, I.kept hk, ⟨_, rfl⟩, by rw [e3]; exact k w _ (Step.refl so) so (.int _)⟩
    · cases ns with
      | nil => exact ⟨z, _, I.kept hk, ru, k w _ (Step.refl so) so rd⟩
      | cons n ns => cases h0
theorem de_maxD (hc : X.calm = true) (hg : Gl X "max") (hm : X.mg "max" = none) (ha : PE X e (tL ⟨X.K, X.mg, X.w⟩ W h)) (hk : PE X k (tE ⟨X.K, X.mg, X.w⟩ W f)) (hs : starEach [e] X.env = (false, eval e X.env) :: starEach [] X.env) :
    PE X (.Call (.Name "max" p) [e] [⟨some "default", k, kpos⟩] pos) (tE ⟨X.K, X.mg, X.w⟩ W (dMaxD h f)) := by
  refine PE.weaken (pe_callBK (c_maxD hc) hg hm (by decide +kernel) (pa_cons ha pa_nil hs) (pk_cons hk pk_nil) (by decide +kernel) (by decide +kernel) (by rw [hs]; rfl) (by rw [hs]; rfl) rfl rfl rfl) fun σ H Q q => ?_
  obtain ⟨w, S, fr, eH, so, fo, p⟩ := q
  refine ⟨w, S, fr, eH, so, fo, ?_⟩
  unfold dMaxD at p
  cases q1 : h fr S with
  | no => rw [q1] at p; exact p
  | ex e S1 => rw [q1] at p; exact p
  | ok xs S1 =>
    rw [q1] at p
    intro w1 b st1 so1 hb r1
    refine ⟨w1, S1, fr, rfl, so1, fo.mono st1.toMono, ?_⟩
    replace p := Post.step st1 p
    dsimp only [Out.bnd] at p
    cases q2 : f fr S1 with
    | no => rw [q2] at p; exact p
    | ex e S2 => rw [q2] at p; exact p
    | ok d S2 =>
      rw [q2] at p
      intro w2 z st2 so2 r2
      exact ⟨w2, S2, xs, .ref b, d, z, rfl, rfl, rfl, so2, r1.step st2, r2, Post.ofO (Post.step st2 p)⟩
end
end DL
/-! DM, part c: repr of data. -/
namespace DL
open PySem PySem.Spec PyProof.Rows L2
def reprOk (p : PyData) : Prop := (p.showable = true ∧ p.hasDict = false) ∧ p.depth ≤ 100 ∧ p.shown.length ≤ sizeLine
instance (p : PyData) : Decidable (reprOk p) := inferInstanceAs (Decidable ((_ ∧ _) ∧ _ ∧ _))
/-- tuples with empty dicts within -/
def obE (S : Sto) (n : Nat) : Option PyData := match S[n]? with
  | some (.dk []) => some (.dict [])
  | _ => none
def reprOkE (p : PyData) : Prop := p.showable = true ∧ p.depth ≤ 100 ∧ p.shown.length ≤ sizeLine
instance (p : PyData) : Decidable (reprOkE p) := inferInstanceAs (Decidable (_ ∧ _ ∧ _))
mutual
/-- no list that stands in the heap -/
def D.noRl : D → Bool
  | .tup xs => noRlL xs
  | .rl _ => false
  | _ => true
def noRlL : List D → Bool
  | [] => true
  | d :: ds => d.noRl && noRlL ds
end
def fRepr : FB := fun ds S => match ds with
  | [d] => match dP S d with
    | some p => if reprOk p then some (.str p.shown, S) else none
    | none => match d, toP (obE S) d with
      | .tup _, some p => if reprOkE p ∧ d.noRl = true then some (.str p.shown, S) else none
      | .ob _, some p => some (.str p.shown, S)
      | _, _ => none
  | _ => none
section
variable {X : Cx} {pins : List (Addr × Obj)} {σ : L2.St} {w : Wd} {S : Sto} {s : Shared}
theorem obE_reads (I : Inv X pins σ w.H s) (so : SOk ⟨X.K, X.mg, X.w⟩ w S) {n : Nat} {p : PyData} (h : n < w.n) (e : obE S n = some p) : p = .dict [] ∧ ∃ a as, w.m n = a ∧ Reads s.heap (.ref a) p as ∧ sysModules ∉ as := by
  unfold obE at e
  split at e
  · rename_i q
    cases e
    obtain ⟨o, ho, e1, e2, r⟩ := so.at_ h
    rw [q] at e1
    cases e1
    cases r with
    | dk l ek r =>
      rename_i kus
      cases kus with
      | cons a b => cases ek
      | nil =>
        have z := I.hok _ _ e2
        unfold ObjOk at z
        obtain ⟨_, zs, vs, kv, ob, es, ep, z1, z2, z3, z4, z5, z6⟩ := z
        cases kv
        have hes : es.toList = [] := by
          have := z5
          cases hq : es.toList with
          | nil => rfl
          | cons a b => rw [hq] at this; cases this
        refine ⟨rfl, _, [w.m n] ++ [] ++ [], rfl, .dict (kvs := []) z1 z2.1 z3 (by rw [hes]; exact .nil) (by rw [hes]; exact .nil), ?_⟩
        intro hm
        have : sysModules = w.m n := by simpa using hm
        rw [← this] at zs
        simp at zs
  · cases e
mutual
theorem toPE_reads (I : Inv X pins σ w.H s) (so : SOk ⟨X.K, X.mg, X.w⟩ w S) : ∀ (d : D) (v : V) (u : Value) (p : PyData), Rep ⟨X.K, X.mg, X.w⟩ w d v → RelV v u → toP (obE S) d = some p → d.noRl = true → ∃ as, Reads s.heap u p as ∧ sysModules ∉ as
  | .non, _, _, _, r, rv, e, _ => by cases r; cases e; obtain rfl := rv; exact ⟨[], .none, by simp⟩
  | .bl b, _, _, _, r, rv, e, _ => by cases r; cases e; obtain rfl := rv; exact ⟨[], .bool b, by simp⟩
  | .int i, _, _, _, r, rv, e, _ => by cases r; cases e; obtain ⟨t, rfl⟩ := rv; exact ⟨[], .int i t, by simp⟩
  | .str x, _, _, _, r, rv, e, _ => by cases r; cases e; obtain ⟨t, rfl⟩ := rv; exact ⟨[], .str x t, by simp⟩
  | .ty _, _, _, _, _, _, e, _ => by cases e
  | .gl _, _, _, _, _, _, e, _ => by cases e
  | .kd _ _, _, _, _, _, _, e, _ => by cases e
  | .xo _ _ _, _, _, _, _, _, e, _ => by cases e
  | .rl _, _, _, _, _, _, _, h => by cases h
  | .ob n, _, _, p, r, rv, e, _ => by
    cases r with
    | ob h =>
      obtain rfl := rv
      obtain ⟨_, a, as, rfl, h1, h2⟩ := obE_reads I so h e
      exact ⟨as, h1, h2⟩
  | .tup xs, _, _, p, r, rv, e, hn => by
    unfold toP at e
    cases e2 : toPs (obE S) xs with
    | none => rw [e2] at e; cases e
    | some ps =>
      rw [e2] at e
      cases e
      cases r with
      | tup ha la rs =>
        obtain rfl := rv
        obtain ⟨its, hv, ⟨o, h1, h2, n, h3⟩, _⟩ := I.tuple ha
        obtain ⟨as, h4, h5⟩ := toPEs_reads I so xs _ _ ps rs hv e2 (by unfold D.noRl at hn; exact hn)
        exact ⟨as, .tuple h1 h2 h3 (by simpa using h4), h5⟩
theorem toPEs_reads (I : Inv X pins σ w.H s) (so : SOk ⟨X.K, X.mg, X.w⟩ w S) : ∀ (ds : List D) (vs : List V) (us : List Value) (ps : List PyData), Reps ⟨X.K, X.mg, X.w⟩ w ds vs → Vals vs us → toPs (obE S) ds = some ps → noRlL ds = true → ∃ as, ReadsAll s.heap us ps as ∧ sysModules ∉ as
  | [], _, _, _, r, rv, e, _ => by cases r; cases rv; cases e; exact ⟨[], .nil, by simp⟩
  | d :: ds, _, _, _, r, rv, e, hn => by
    cases r with
    | cons r1 r2 =>
      cases rv with
      | cons v1 v2 =>
        unfold noRlL at hn
        rw [Bool.and_eq_true] at hn
        unfold toPs at e
        split at e
        · rename_i p ps e1 e2
          cases e
          obtain ⟨as, h1, h2⟩ := toPE_reads I so d _ _ p r1 v1 e1 hn.1
          obtain ⟨bs, h3, h4⟩ := toPEs_reads I so ds _ _ ps r2 v2 e2 hn.2
          exact ⟨as ++ bs, .cons h1 h3, by simp [h2, h4]⟩
        · cases e
end
end
theorem c_repr {X : Cx} (hu : X.A.units + 200 < cLine) (hg : X.A.guards = some []) : CallR X (.builtin "repr") (rB ⟨X.K, X.mg, X.w⟩ fRepr) := by
  intro pins s σ H xs us Q I r h
  obtain ⟨w, S, ds, rfl, so, rd, k⟩ := h
  unfold fRepr at k
  split at k
  · rename_i d
    cases ep : dP S d with
    | none =>
      rw [ep] at k
      dsimp only at k
      obtain ⟨x, rfl, rx⟩ := rd.one
      obtain ⟨u, rfl, ru⟩ := r.one
      have fin : ∀ (p : PyData), Post ⟨X.K, X.mg, X.w⟩ w (Rep ⟨X.K, X.mg, X.w⟩) (.ok (.str p.shown) S) Q (fun _ _ _ => False) → ∀ (h' : Heap) (t tk : Nat), (∀ b o, s.heap.get? b = some o → h'.get? b = some o) → EP X pins σ Q (.str p.shown t) { s with heap := h', toks := tk } :=
        fun p k h' t tk hk => ⟨.str p.shown, _, I.kept hk, ⟨t, rfl⟩, k w _ (Step.refl so) so (.str _)⟩
      split at k
      · rename_i ts p e2
        by_cases hp : reprOkE p ∧ (D.tup ts).noRl = true
        · rw [if_pos hp] at k
          obtain ⟨⟨h1, h3, h4⟩, hn⟩ := hp
          obtain ⟨as, rr, hs⟩ := toPE_reads I so (.tup ts) x u p rx ru e2 hn
          cases rx
          obtain rfl := ru
          exact repr_of_reads' rr h1 (fun _ => hs) hg (by omega) (fun b o e => e) (fun h' t tk hk => fin p k h' t tk hk) h4
        · rw [if_neg hp] at k
          exact k.elim
      · rename_i n p e2
        cases rx with
        | ob hn =>
          obtain rfl := ru
          obtain ⟨rfl, a, as, rfl, rr, hs⟩ := obE_reads I so hn (p := p) e2
          exact repr_of_reads' rr (by decide +kernel) (fun _ => hs) hg (by have : (PyData.dict []).depth = 1 := by decide +kernel
                                                                           omega) (fun b o e => e) (fun h' t tk hk => fin _ k h' t tk hk) (by decide +kernel)
      · exact k.elim
    | some p =>
      rw [ep] at k
      dsimp only at k
      by_cases hp : reprOk p
      · rw [if_pos hp] at k
        obtain ⟨⟨h1, h2⟩, h3, h4⟩ := hp
        obtain ⟨x, rfl, rx⟩ := rd.one
        obtain ⟨u, rfl, ru⟩ := r.one
        obtain ⟨d1, p1⟩ := dP_ok so rx ep
        obtain ⟨as, rr⟩ := Dp.reads I p x u d1 ru
        have fin : ∀ (h' : Heap) (t tk : Nat), (∀ b o, s.heap.get? b = some o → h'.get? b = some o) → EP X pins σ Q (.str p.shown t) { s with heap := h', toks := tk } :=
          fun h' t tk hk => ⟨.str p.shown, _, I.kept hk, ⟨t, rfl⟩, k w _ (Step.refl so) so (.str _)⟩
        cases u with
        | ref a => exact repr_of_reads' rr h1 (PyData.noDict_hsm h2) hg (by omega) (fun b o e => e) (fun h' t tk hk => fin h' t tk hk) h4
        | none => cases rr; exact P.repr_of_none (fin s.heap _ _ fun _ _ e => e)
        | bool b => cases rr; exact P.repr_of_bool (fin s.heap _ _ fun _ _ e => e)
        | int i t => cases rr; exact P.repr_of_int (by simpa [PyData.showable] using h1) (fin s.heap _ _ fun _ _ e => e)
        | str z t => cases rr; exact P.repr_of_str (fin s.heap _ _ fun _ _ e => e) h4
        | _ => cases rr
      · rw [if_neg hp] at k
        exact k.elim
  · exact k.elim
end DL
/-! DN, part b: own classes of exceptions: what is known of them; raise; try .. except X as e: k = e; isinstance of what was kept. -/
namespace DL
open PySem PySem.Spec PyProof.Rows L2

/-- the built-in types that a kept exception is asked for -/
def xTys : List String := ["ValueError", "int", "str", "bool", "tuple", "list", "dict"]
/-- what is known of an own class of exceptions -/
structure ClsF (K : PySem.W.Frag) (mg : Str → Option Value) (x : Str) (C : Addr) : Prop where
  gm : mg x = some (.ref C)
  kp : PySem.W.keepIn K (.ref C) = true
  ci : (PySem.W.clsIn K C).isSome = true
  ga : PySem.W.findIn K (.ref C) "__getattribute__" = some (some (.builtin "BaseException.__getattribute__"))
  gg : PySem.W.findIn K (.ref C) "__getattr__" = some none
  sb : PySem.W.subIn K (.ref C) (.type "BaseException") = some true
  tp : PySem.W.typeIn K (.ref C) = some (.type "type")
  cl : PySem.W.findIn K (.ref C) "__class__" = some (some (.builtin "object.__class__"))
  sp : PySem.W.specialIn K (.builtin "object.__class__") "__get__" = some (some (.builtin "getset_descriptor.__get__"))
  tk : PySem.W.takesIn K (.builtin "object.__class__") = some true
  mr : PySem.W.mroIn K C (.type "object") = some true
def clsB (K : PySem.W.Frag) (C : Addr) : Bool := decide (PySem.W.keepIn K (.ref C) = true ∧ (PySem.W.clsIn K C).isSome = true ∧ PySem.W.findIn K (.ref C) "__getattribute__" = some (some (.builtin "BaseException.__getattribute__")) ∧
  PySem.W.findIn K (.ref C) "__getattr__" = some none ∧ PySem.W.subIn K (.ref C) (.type "BaseException") = some true ∧ PySem.W.typeIn K (.ref C) = some (.type "type") ∧ PySem.W.findIn K (.ref C) "__class__" = some (some (.builtin "object.__class__")) ∧
  PySem.W.specialIn K (.builtin "object.__class__") "__get__" = some (some (.builtin "getset_descriptor.__get__")) ∧ PySem.W.takesIn K (.builtin "object.__class__") = some true ∧ PySem.W.mroIn K C (.type "object") = some true)
theorem clsB_ok {K : PySem.W.Frag} {mg : Str → Option Value} {x : Str} {C : Addr} (g : mg x = some (.ref C)) (h : clsB K C = true) : ClsF K mg x C := by
  obtain ⟨h1, h2, h3, h4, h5, h6, h7, h8, h9, h10⟩ := of_decide_eq_true h
  exact ⟨g, h1, h2, h3, h4, h5, h6, h7, h8, h9, h10⟩
/-- of which own and built-in classes the own classes are -/
abbrev Ups := Str → Option (List Str)
structure ClsR (K : PySem.W.Frag) (mg : Str → Option Value) (up : Ups) : Prop where
  at_ : ∀ x u, up x = some u → ∃ C, ClsF K mg x C
  own : ∀ x u y u' C D, up x = some u → up y = some u' → mg x = some (.ref C) → mg y = some (.ref D) → PySem.W.exmOne K (.ref C) (.ref D) = some (decide (y ∈ u)) ∧ PySem.W.kitOne K (.ref C) (.ref D) = some (decide (y ∈ u))
  blt : ∀ x u C, up x = some u → mg x = some (.ref C) → ∀ n ∈ xTys, PySem.W.kitOne K (.ref C) (.type n) = some (decide (Str.ofString n ∈ u))

/-! ### isinstance -/
def isOne (up : Ups) (c : Str) : D → Option Bool
  | .gl y => match up c, up y with
    | some u, some _ => some (decide (y ∈ u))
    | _, _ => none
  | .ty n => match up c with
    | some u => if n ∈ xTys then some (decide (Str.ofString n ∈ u)) else none
    | none => none
  | _ => none
def isAny (up : Ups) (c : Str) : List D → Option Bool
  | [] => (up c).map fun _ => false
  | d :: ds => match isOne up c d, isAny up c ds with
    | some a, some b => some (a || b)
    | _, _ => none
def fIsiX (up : Ups) : FB := fun ds S => match ds with
  | [.xo c _ _, .tup ts] => (isAny up c ts).map fun b => (.bl b, S)
  | [.xo c _ _, .gl y] => (isOne up c (.gl y)).map fun b => (.bl b, S)
  | [.xo c _ _, .ty n] => (isOne up c (.ty n)).map fun b => (.bl b, S)
  | ds => fIsi ds S
section
variable {X : Cx}
theorem isOne_ok {K : PySem.W.Frag} {mg : Str → Option Value} {w0 : World} {up : Ups} (R : ClsR K mg up) {c : Str} {C : Addr} (hc : mg c = some (.ref C)) {w : Wd} {d : D} {v : V} {u : Value} {b : Bool} (r : Rep ⟨K, mg, w0⟩ w d v) (rv : RelV v u) (e : isOne up c d = some b) :
    PySem.W.kitOne K (.ref C) u = some b := by
  unfold isOne at e
  split at e
  · rename_i y
    split at e
    · rename_i u1 u2 e1 e2
      cases e
      cases r with
      | gl hy =>
        obtain rfl : u = .ref _ := rv
        exact (R.own _ _ _ _ _ _ e1 e2 hc hy).2
    · cases e
  · rename_i n
    split at e
    · rename_i u1 e1
      split at e
      · rename_i hn
        cases e
        cases r
        obtain rfl : u = .type n := rv
        exact R.blt _ _ _ e1 hc n hn
      · cases e
    · cases e
  · cases e
theorem isAny_ok {K : PySem.W.Frag} {mg : Str → Option Value} {w0 : World} {up : Ups} (R : ClsR K mg up) {c : Str} {C : Addr} (hc : mg c = some (.ref C)) {w : Wd} : ∀ {ds : List D} {vs : List V} {us : List Value} {b : Bool}, Reps ⟨K, mg, w0⟩ w ds vs → Vals vs us → isAny up c ds = some b →
    PySem.W.kitAny K (.ref C) us = some b
  | _, _, _, b, .nil, .nil, e => by
    unfold isAny at e
    cases q : up c with
    | none => rw [q] at e; cases e
    | some u => rw [q] at e; cases e; exact kitAny_nil
  | _, _, _, b, .cons r rs, .cons rv rvs, e => by
    unfold isAny at e
    split at e
    · rename_i x y e1 e2
      cases e
      have h1 := isOne_ok R hc r rv e1
      have h2 := isAny_ok R hc rs rvs e2
      cases x
      · exact kitAny_cons h1 (fun _ => h2) (fun z => by cases z)
      · exact kitAny_cons h1 (fun z => by cases z) (fun _ => rfl)
    · cases e
theorem isAny_up {up : Ups} {c : Str} : ∀ {ds : List D} {b : Bool}, isAny up c ds = some b → ∃ u, up c = some u
  | [], b, e => by
    unfold isAny at e
    cases q : up c with
    | none => rw [q] at e; cases e
    | some u => exact ⟨u, rfl⟩
  | d :: ds, b, e => by
    unfold isAny at e
    split at e
    · rename_i x y e1 e2
      exact isAny_up e2
    · cases e
/-- what a kept exception is, in the heap -/
theorem xo_at {g : Gnd} {w : Wd} {c : Str} {ks : List Str} {fs : List D} {v : V} (r : Rep g w (.xo c ks fs) v) : ∃ (C a : Addr) (oe : Obj) (d : Option Addr), v = .ref a ∧ g.mg c = some (.ref C) ∧ w.H a = some (.frz oe (.ext (AtE a oe))) ∧ Zc (.ref C) d oe ∧ (∃ vs, oe.data = .fields vs) ∧
    (∀ dd, d = some dd → ∃ us, w.H dd = some (.xd us) ∧ ks = us.map (·.1) ∧ Reps g w fs (us.map (·.2))) := by
  cases r with
  | xo0 h1 h2 h3 h4 => exact ⟨_, _, _, none, rfl, h1, h2, h3, h4, fun dd z => by cases z⟩
  | xo1 h1 h2 h3 h4 h5 r => exact ⟨_, _, _, some _, rfl, h1, h2, h3, h4, fun dd z => by cases z; exact ⟨_, h5, rfl, r⟩⟩
theorem inst_at {pins : List (Addr × Obj)} {σ : L2.St} {H : Hp} {s : Shared} {a C : Addr} {oe : Obj} {d : Option Addr} (I : Inv X pins σ H s) (h : H a = some (.frz oe (.ext (AtE a oe)))) (hz : Zc (.ref C) d oe) (hf : ∃ vs, oe.data = .fields vs)
    (hd : ∀ dd, d = some dd → ∃ us, H dd = some (.xd us)) : ∃ od, PySem.W.InstAt s.heap a oe C od := by
  have h1 : s.heap.get? a = some oe := by
    have := I.hok a _ h
    unfold ObjOk at this
    exact this.1
  have h2 : PySem.W.notCls oe = true := by
    obtain ⟨vs, e⟩ := hf
    unfold PySem.W.notCls
    rw [e]
  obtain ⟨z1, z2⟩ := hz
  cases d with
  | none => exact ⟨none, h1, z1, h2, by rw [z2]; trivial⟩
  | some dd =>
    obtain ⟨us, e⟩ := hd dd rfl
    have q := I.hok dd _ e
    unfold ObjOk at q
    obtain ⟨mA, ⟨o, _, _, h3, _⟩, _⟩ := q
    exact ⟨some o, h1, z1, h2, by rw [z2]; exact h3⟩
theorem c_isiX {up : Ups} (R : ClsR X.K X.mg up) : CallR X (.builtin "isinstance") (rB ⟨X.K, X.mg, X.w⟩ (fIsiX up)) := by
  intro pins s σ H xs us Q I r h
  obtain ⟨w, S, ds, rfl, so, rd, k⟩ := h
  have base : Post ⟨X.K, X.mg, X.w⟩ w (Rep ⟨X.K, X.mg, X.w⟩) (.ofO (fIsi ds S)) Q (fun _ _ _ => False) → wpAny (model X.prog X.w) X.A (call (.builtin "isinstance") us) (EP X pins σ Q) X.xe s := fun k =>
    c_isi pins s σ _ xs us Q I r ⟨w, S, ds, rfl, so, rd, k⟩
  have one : ∀ {c ks fs t x y u}, Rep ⟨X.K, X.mg, X.w⟩ w (.xo c ks fs) x → Rep ⟨X.K, X.mg, X.w⟩ w t y → RelV y u → ∀ {b : Bool}, isOne up c t = some b → Q (.bl b) w.H → ∀ {v}, RelV x v → wpAny (model X.prog X.w) X.A (call (.builtin "isinstance") [v, u]) (EP X pins σ Q) X.xe s := fun {c ks fs t x y u} rx rt ru {b} e q {v} rv => by
    obtain ⟨C, a, oe, d, rfl, h1, h2, h3, h4, h5⟩ := xo_at rx
    obtain rfl : v = .ref a := rv
    have h1 : X.mg c = some (.ref C) := h1
    obtain ⟨od, hi⟩ := inst_at I h2 h3 h4 fun dd z => let ⟨us, e, _⟩ := h5 dd z; ⟨us, e⟩
    obtain ⟨uc, hu⟩ : ∃ uc, up c = some uc := by
      cases hc : up c with
      | some uc => exact ⟨uc, rfl⟩
      | none => unfold isOne at e; rw [hc] at e; split at e <;> cases e
    obtain ⟨C', F⟩ := R.at_ c uc hu
    have hCC : C' = C := by
      have z := F.gm
      rw [h1] at z
      cases z
      rfl
    subst hCC
    exact PySem.W.kia_one (PySem.W.kitx_exc F.ci F.ga F.gg F.sb F.cl F.sp F.tk F.mr) I.kIn hi (isOne_ok R h1 rt ru e) (by intro z; cases z) fun tk => ⟨.bl b, w.H, I.tok tk, rfl, q⟩
  unfold fIsiX at k
  split at k
  · rename_i c ks fs ts
    cases rd with
    | cons rx r2 =>
      cases r2 with
      | cons rt r4 =>
        cases r4
        cases e : isAny up c ts with
        | none => rw [e] at k; exact k.elim
        | some b =>
          rw [e] at k
          have q := k w _ (Step.refl so) so (.bl b)
          obtain ⟨C, a, oe, d, rfl, h1, h2, h3, h4, h5⟩ := xo_at rx
          cases rt with
          | tup ht hl rts =>
            obtain ⟨its, hv, ⟨o, h6, h7, n, h8⟩, _⟩ := I.tuple ht
            cases r with
            | cons rv1 rv2 =>
              cases rv2 with
              | cons rv3 rv4 =>
                cases rv4
                cases rv1
                cases rv3
                obtain ⟨od, hi⟩ := inst_at I h2 h3 h4 fun dd z => let ⟨us, e, _⟩ := h5 dd z; ⟨us, e⟩
                have h1 : X.mg c = some (.ref C) := h1
                obtain ⟨uc, hu⟩ := isAny_up e
                obtain ⟨C', F⟩ := R.at_ c uc hu
                have hCC : C' = C := by
                  have z := F.gm
                  rw [h1] at z
                  cases z
                  rfl
                subst hCC
                obtain ⟨oc, od', oda, osl⟩ := o
                obtain rfl : oc = _ := h7
                obtain rfl : oda = _ := h8
                exact PySem.W.kia_tup (PySem.W.kitx_exc F.ci F.ga F.gg F.sb F.cl F.sp F.tk F.mr) I.kIn hi h6 (isAny_ok R h1 rts hv e) (by intro z; cases z) fun tk => ⟨.bl b, w.H, I.tok tk, rfl, q⟩
  · rename_i c ks fs y
    cases rd with
    | cons rx r2 =>
      cases r2 with
      | cons rt r4 =>
        cases r4
        cases e : isOne up c (.gl y) with
        | none => rw [e] at k; exact k.elim
        | some b =>
          rw [e] at k
          cases r with
          | cons rv1 rv2 =>
            cases rv2 with
            | cons rv3 rv4 =>
              cases rv4
              exact one rx rt rv3 e (k w _ (Step.refl so) so (.bl b)) rv1
  · rename_i c ks fs n
    cases rd with
    | cons rx r2 =>
      cases r2 with
      | cons rt r4 =>
        cases r4
        cases e : isOne up c (.ty n) with
        | none => rw [e] at k; exact k.elim
        | some b =>
          rw [e] at k
          cases r with
          | cons rv1 rv2 =>
            cases rv2 with
            | cons rv3 rv4 =>
              cases rv4
              exact one rx rt rv3 e (k w _ (Step.refl so) so (.bl b)) rv1
  · exact base k
end

/-! ### raise -/
def dRaise (x : Str) : DenS := fun fr S => .ex ⟨.gl x, none⟩ fr S
theorem ds_raise {X : Cx} {W : WX} {x m : Str} {C : Addr} {bmB : List Value} {B newId initId : String} {j : Nat} {p p2 p3 pos : Pos} (hc : X.calm = true) (tk : Takes X W) (F : ClsF X.K X.mg x C) (E : ExcBaseFacts B newId initId bmB) (q : PySem.W.excIn X.K C bmB newId = true)
    (hg : Gl X x) (hd : (x == ("__debug__" : Str)) = false) : PS X (.Raise (some (.Call (.Name x p) [.Constant (.str m) j p2] [] p3)) none pos) (tS ⟨X.K, X.mg, X.w⟩ W (dRaise x)) := by
  refine PS.weaken (ps_raise hc tk (pmk_own E q F.gm F.kp (raises_own F.sb F.tp) hg hd)) fun D σ H h => ?_
  obtain ⟨w, S, fr, rfl, so, fo, p⟩ := h
  exact p w σ (.ref C) none (Step.refl so) so fo ⟨⟨.ref C, .gl F.gm, rfl⟩, rfl⟩

/-! ### try: .. except X as e: k = e -/
def xoOf (c : Str) : Option (List (Str × D)) → D
  | none => .xo c [] []
  | some fs => .xo c (fs.map (·.1)) (fs.map (·.2))
def dTryK (up : Ups) (y : Str) (i j : Nat) (b : DenS) : DenS := fun fr S => match b fr S with
  | .ex e fr' S' => (match e.cls with
    | .gl c => (match up c, up y with
      | some u, some _ => if y ∈ u then (if i < fr'.length then .ok .nx (((fr'.set i none).set j (some (xoOf c e.fs))).set i none) S' else .no) else .ex e fr' S'
      | _, _ => .no)
    | _ => .no)
  | o => o
theorem ds_tryK {X : Cx} {W : WX} {up : Ups} (R : ClsR X.K X.mg up) {y n k : Str} {C : Addr} {i j : Nat} {body : List Stmt} {b : DenS} {np pk pn pa pos pos' : Pos} (hs : X.stack = X.env :: X.outer) (hf : X.env.frame = some X.env.locals) (hex : X.ex = []) (hN : X.N.Nodup)
    (hi : X.N[i]? = some n) (hj : X.N[j]? = some k) (hln : X.env.kindOf n = some .local) (hlk : X.env.kindOf k = some .local) (hy : ClsF X.K X.mg y C) (hg : Gl X y) (hd : (y == ("__debug__" : Str)) = false) (hdn : (n == ("__debug__" : Str)) = false ∧ (n == ("__classdict__" : Str)) = false) (tk : Takes X W)
    (hb : ∀ (W : WX) (pn : List (Addr × Obj)) (xe : Value → Shared → Prop), Takes (X.tr pn xe) W → PassesOwn (model X.prog X.w) X.A X.env xe → PSs (X.tr pn xe) body (tS ⟨X.K, X.mg, X.w⟩ W b)) :
    PS X (.Try body [.ExceptHandler (some (.Name y np)) (some n) [.Assign [.Name k pk] (.Name n pn) pa] pos'] [] [] pos) (tS ⟨X.K, X.mg, X.w⟩ W (dTryK up y i j b)) := by
  have hsu : ∀ (a : Addr) (oe : Obj) (cls : Value) (d : Option Addr) (pn' : List (Addr × Obj)), Zc cls d oe → (∃ vs, oe.data = .fields vs) →
      PSs (X.suite a ((a, oe) :: pn')) [.Assign [.Name k pk] (.Name n pn) pa] (fun D σ H => ∃ v, σ[i]? = some (some v) ∧ D.nx (σ.set j (some v)) H) := fun a oe cls d pn' _ _ => by
    refine PSs.weaken (pss_cons (ps_set (X := X.suite a ((a, oe) :: pn')) (i := j) hN hj (.inl hlk) (pe_var (X := X.suite a ((a, oe) :: pn')) hi (.inl hln) hdn.1 hdn.2) (swaps_no rfl) (.inr hlk)) pss_nil) fun D σ H q => ?_
    obtain ⟨v, e, q⟩ := q
    exact ⟨v, e, q⟩
  refine PS.weaken (ps_try_frz hs hf hex hN hi hln ⟨hg, hd, .inl hy.gm⟩ tk hb hsu) fun D σ H q => ?_
  obtain ⟨w, S, fr, rfl, so, fo, p⟩ := q
  refine ⟨w, S, fr, rfl, so, fo, ?_⟩
  unfold dTryK at p
  cases q : b fr S with
  | no => rw [q] at p; exact p
  | ok f fr' S' => rw [q] at p; cases f <;> exact p
  | ex e fr' S' =>
    rw [q] at p
    intro w' σ' cv dx st so' fo' rx
    dsimp only at p
    split at p
    · rename_i c ec
      split at p
      · rename_i u u' e1 e2
        obtain ⟨v, r1, r2⟩ := rx.cls
        rw [ec] at r1
        cases r1 with
        | gl hm =>
          obtain rfl : cv = .ref _ := r2
          refine ⟨decide (y ∈ u), (R.own _ _ _ _ _ _ e1 e2 hm hy.gm).1, fun hyes a oe na hz hfl => ?_, fun hno => ?_⟩
          · rw [if_pos (of_decide_eq_true hyes)] at p
            split at p
            · rename_i hil
              refine ⟨.ref a, ?_, ?_⟩
              · exact List.getElem?_set_self (by rw [← fo'.len]; exact hil)
              · obtain ⟨st2, so2, hn2⟩ := Step.put so' na (.frz oe (.ext (AtE a oe)))
                have rr : Rep ⟨X.K, X.mg, X.w⟩ (w'.put a (.frz oe (.ext (AtE a oe)))) (xoOf c e.fs) (.ref a) := by
                  have q2 := rx.fs
                  cases ef : e.fs with
                  | none =>
                    rw [ef] at q2
                    obtain rfl : dx = none := q2
                    exact .xo0 hm upd_same hz hfl
                  | some fs =>
                    rw [ef] at q2
                    obtain ⟨d, us, rfl, h1, h2, h3, h4⟩ := q2
                    show Rep _ _ (.xo c (fs.map (·.1)) (fs.map (·.2))) _
                    rw [h3]
                    exact .xo1 hm upd_same hz hfl (st2.xd _ _ h1) (Reps.mono st2.toMono _ _ h4)
                exact p _ _ (st.trans st2) so2 ((((fo'.mono st2.toMono).unset i (some (.ref a))).set j rr).unset i none)
            · exact p.elim
          · rw [if_neg (of_decide_eq_false hno)] at p
            exact p w' σ' _ dx st so' fo' rx
      · exact p.elim
    · exact p.elim
end DL
/-! DN, part c: objects of own classes: made, their fields read and written, their methods called. -/
namespace DL
open PySem PySem.Spec PyProof.Rows L2

section
variable {X : Cx} {W : WX} {k : Nat} {f C : Addr} {fd : FuncData} {ps : List Str} {sp : Sp}
/-- C(..): the object is made, then its __init__ is called -/
theorem run_makeG {pins : List (Addr × Obj)} {σ : L2.St} {H : Hp} {s : Shared} {Q : VK} {us : List Value} {vs : List V} (M : Mk X.K C f) (F : FnG X.prog X.w X.K X.mg X.base (L2.CX X.prog X.w) k f fd ps sp) (hr : Room (k + 1) X.A) (hg : X.A.guards = some []) (hb : Binds X.K fd ps [])
    (tk : Takes X W) (I : Inv X pins σ H s) (r : Vals vs us) (h : ∀ x dx : Addr, H x = none → H dx = none → dx ≠ x → sp (.ref x :: vs) (upd (upd H dx (.own x)) x (.ins C dx [])) (fun v H2 => v = .non ∧ Q (.ref x) H2) (WE W σ)) :
    wpAny (model X.prog X.w) X.A (call (.ref C) us) (EP X pins σ Q) X.xe s := by
  have hq := h (s.heap.objs.size + 1) s.heap.objs.size (I.hok.fresh (Nat.le_succ _)) (I.hok.fresh (Nat.le_refl _)) (Nat.ne_of_lt (Nat.lt_succ_self _))
  have I2 := Inv.made (C := C) I
  have r2 : Vals (V.ref (s.heap.objs.size + 1) :: vs) (Value.ref (s.heap.objs.size + 1) :: us) := .cons rfl r
  have hl : (Value.ref (s.heap.objs.size + 1) :: us).length = ps.length := by
    have e := r2.length
    rw [F.len _ _ _ _ hq] at e
    exact e.symm
  have hB := hb { s with heap := (s.heap.push PySem.W.emptyDict).push (PySem.W.instObj C s.heap.objs.size) } (Value.ref (s.heap.objs.size + 1) :: us) I2.kIn (by rw [List.append_nil]; exact hl)
  rw [List.append_nil] at hB
  refine wpAny_call (make_map I.kIn M.makes M.init (beq_iff_eq.mp M.fn) (codeAny_mono (F.run (X.A.under (.builtin "type.__call__" { pos := .ref C :: us })) X.stack _ _ { pos := .ref (s.heap.objs.size + 1) :: us } _ _ _ _ (Room.make hr C us []) hg (Env0.make I2.env0 C us []) hB r2 hq) fun r s' hq' => ?_))
  cases r with
  | error e => exact passAt tk σ pins _ _ e s' I2 hq'
  | ok fl =>
    cases fl with
    | ret u =>
      obtain ⟨v, H', I3, rv, rfl, q3⟩ := I2.after hq'
      exact ⟨rv, .ref (s.heap.objs.size + 1), H', I3, rfl, q3⟩
    | next => exact False.elim hq'
    | brk => exact False.elim hq'
    | cont => exact False.elim hq'
/-- what is asked of C(..) -/
def tMakeG (C : Addr) (sp : Sp) (W : WX) (t : TA) : TE := fun σ H Q => t σ H fun vs H1 => ∀ x dx : Addr, H1 x = none → H1 dx = none → dx ≠ x → sp (.ref x :: vs) (upd (upd H1 dx (.own x)) x (.ins C dx [])) (fun v H2 => v = .non ∧ Q (.ref x) H2) (WE W σ)
theorem pe_makeG {x : Str} {p pos : Pos} {e : Expr} {es : List Expr} {t : TA} (M : Mk X.K C f) (F : FnG X.prog X.w X.K X.mg X.base (L2.CX X.prog X.w) k f fd ps sp) (hr : Room (k + 1) X.A) (hgd : X.A.guards = some []) (hg : Gl X x) (hm : X.mg x = some (.ref C))
    (hb : Binds X.K fd ps []) (tk : Takes X W) (ha : PA X (e :: es) t) (hdb : (x == ("__debug__" : Str)) = false) (he : starEach (e :: es) X.env = (false, eval e X.env) :: starEach es X.env) (hpl : (backTo pos (starEach es X.env)).any (·.1) = false) :
    PE X (.Call (.Name x p) (e :: es) [] pos) (tMakeG C sp W t) :=
  ⟨fun pins s σ H Q I h => wpAny_Call_Name_kw (ld_glob I hg hm (PySem.W.callWith_K (h₀ := X.base) I.ok.mod.kin M.kp
    (thn (ha.run pos pins s σ H _ I h) fun us s1 ⟨vs, H1, I1, r, q⟩ => ⟨I1.kIn, run_makeG M F hr hgd hb tk I1 r q⟩) he hpl) hdb)⟩
theorem pe_makeG0 {x : Str} {p pos : Pos} (M : Mk X.K C f) (F : FnG X.prog X.w X.K X.mg X.base (L2.CX X.prog X.w) k f fd ps sp) (hr : Room (k + 1) X.A) (hgd : X.A.guards = some []) (hg : Gl X x) (hm : X.mg x = some (.ref C)) (hb : Binds X.K fd ps []) (tk : Takes X W) (hdb : (x == ("__debug__" : Str)) = false) :
    PE X (.Call (.Name x p) [] [] pos) (tMakeG C sp W tNil) :=
  ⟨fun pins s σ H Q I h => wpAny_Call_Name_kw (ld_glob I hg hm (PySem.W.callWith_K0 I.kIn M.kp (run_makeG (us := []) (vs := []) M F hr hgd hb tk I .nil h)) hdb)⟩
/-- a method's call, the class told by the object -/
def tMethG (R : Addr → Sp → Prop) (m : Str) (W : WX) (ta : TE) (t : TA) : TE := fun σ H Q => ta σ H fun x H1 => ∃ (a C dx : Addr) (fs : List (Str × V)) (sp : Sp), x = .ref a ∧ H1 a = some (.ins C dx fs) ∧ fs.lookup m = none ∧ R C sp ∧ t σ H1 fun vs H2 => sp (x :: vs) H2 Q (WE W σ)
/-- what is known of a class's method -/
def MethOk (X : Cx) (k : Nat) (m : Str) (C : Addr) (sp : Sp) : Prop := Cls X.K C ∧ ∃ (f : Addr) (fd : FuncData) (ps : List Str), Meth X.K C m f ∧ Binds X.K fd ps [] ∧ FnG X.prog X.w X.K X.mg X.base (L2.CX X.prog X.w) k f fd ps sp
theorem call_own {M : Program} {w : World} {A : Around} {E : Value → Shared → Prop} {s : Shared} {env : Env} {o : Expr} {name : Str} {apos pos : Pos} {args : List Expr} {Q : Value → Shared → Prop} (hbase : attributeBase o name env (eval o env) = eval o env)
    (hfew : ((backTo pos (starEach args env)).all (fun x => !x.1) && (backToKw pos (keywordEach [] env)).all (fun x => x.1.isSome) && decide (args.length + ([] : List Keyword).length + (if ([] : List Keyword).isEmpty = true then 0 else 1) < 30)) = true)
    (hline : (apos.endLine == pos.line) = true)
    (h : wpAny (model M w) A (eval o env) (fun ov s₁ => ∀ pl : Sem Bool, wpAny (model M w) A (getMethod ov name pl) (fun fx s₂ => wpAny (model M w) A (callWith pos fx.1 fx.2 (backTo pos (starEach args env)) (backToKw pos (keywordEach [] env))) Q E s₂) E s₁) E s) :
    wpAny (model M w) A (eval (.Call (.Attribute o name apos) args [] pos) env) Q E s := by
  rw [arm_eval_Call, hbase]
  refine wpAny_bind (wpAny_mono h (fun ov s1 h1 => ?_) fun _ _ e => e)
  refine wpAny_bind (wpAny_standAt ?_)
  unfold methodCall
  rw [show methodCallForm (args.length + ([] : List Keyword).length) (backTo pos (starEach args env)) (backToKw pos (keywordEach [] env)) = true from hfew]
  refine wpAny_bind (wpAny_holding (wpAny_mono (h1 _) (fun fx s2 h2 => ?_) fun _ _ e => e))
  refine wpAny_bind (wpAny_of_eq (a := pos) ?_ h2)
  unfold methodCallPos
  simp [hline]
theorem pe_methG {R : Addr → Sp → Prop} {m : Str} {o e : Expr} {es : List Expr} {apos pos : Pos} {ta : TE} {t : TA} (hR : ∀ C sp, R C sp → MethOk X k m C sp) (ho : PE X o ta) (hr : Room k X.A) (hgd : X.A.guards = some []) (tk : Takes X W) (ha : PA X (e :: es) t)
    (hbase : attributeBase o m X.env (eval o X.env) = eval o X.env)
    (hfew : ((backTo pos (starEach (e :: es) X.env)).all (fun x => !x.1) && (backToKw pos (keywordEach [] X.env)).all (fun x => x.1.isSome) && decide ((e :: es).length + ([] : List Keyword).length + (if ([] : List Keyword).isEmpty = true then 0 else 1) < 30)) = true)
    (hline : (apos.endLine == pos.line) = true)
    (he : starEach (e :: es) X.env = (false, eval e X.env) :: starEach es X.env) (hpl : (backTo pos (starEach es X.env)).any (·.1) = false) : PE X (.Call (.Attribute o m apos) (e :: es) [] pos) (tMethG R m W ta t) :=
  ⟨fun pins s σ H Q I h => call_own hbase hfew hline (thn (ho.run pins s σ H _ I h) fun u s1 ⟨x, H1, I1, rx, a, C, dx, fs, sp, ex, ea, l, hC, q⟩ pl => by
    subst ex
    obtain rfl := rx
    obtain ⟨c, f, fd, ps, hm, hb, F⟩ := hR C sp hC
    exact getmeth_ok I1 ea c hm l (PySem.W.callWith_K (h₀ := X.base) I.ok.mod.kin hm.kp (thn (ha.run pos pins s1 σ H1 _ I1 q) fun us s2 ⟨vs, H2, I2, r, q2⟩ => ⟨I2.kIn, run_fnG F hr hgd hb tk I2 (.cons (show RelV (V.ref a) (Value.ref a) from rfl) r) q2⟩) he hpl))⟩
theorem pe_methG0 {R : Addr → Sp → Prop} {m : Str} {o : Expr} {apos pos : Pos} {ta : TE} (hR : ∀ C sp, R C sp → MethOk X k m C sp) (ho : PE X o ta) (hr : Room k X.A) (hgd : X.A.guards = some []) (tk : Takes X W)
    (hbase : attributeBase o m X.env (eval o X.env) = eval o X.env) (hline : (apos.endLine == pos.line) = true) : PE X (.Call (.Attribute o m apos) [] [] pos) (tMethG R m W ta tNil) :=
  ⟨fun pins s σ H Q I h => call_own hbase rfl hline (thn (ho.run pins s σ H _ I h) fun u s1 ⟨x, H1, I1, rx, a, C, dx, fs, sp, ex, ea, l, hC, q⟩ pl => by
    subst ex
    obtain rfl := rx
    obtain ⟨c, f, fd, ps, hm, hb, F⟩ := hR C sp hC
    exact getmeth_ok I1 ea c hm l (PySem.W.callWith_K0 I1.kIn hm.kp (run_fnG F hr hgd hb tk I1 (.cons (show RelV (V.ref a) (Value.ref a) from rfl) .nil) q)))⟩
end

/-! ### by data -/
/-- what is known of an own class: its __init__, its methods (def and number of parameters), its fields -/
structure ObjI where
  ini : Option (Nat × Nat)
  ms : List (Str × Nat × Nat)
  fs : List Str
  /-- methods that are called off the class -/
  bs : List (Str × Nat × Nat)
abbrev Objs := Str → Option ObjI
structure ObjR (K : PySem.W.Frag) (mg : Str → Option Value) (os : Objs) : Prop where
  at_ : ∀ c i, os c = some i → ∃ C, mg c = some (.ref C) ∧ Cls K C ∧ ∀ f ∈ i.fs, NoAttr K C f
theorem look_rep {g : Gnd} {w : Wd} {f : Str} : ∀ {fs : List (Str × D)} {us : List (Str × V)}, fs.map (·.1) = us.map (·.1) → Reps g w (fs.map (·.2)) (us.map (·.2)) →
    (∀ d, fs.lookup f = some d → ∃ v, us.lookup f = some v ∧ Rep g w d v) ∧ (fs.lookup f = none → us.lookup f = none)
  | [], [], _, _ => ⟨fun d e => (by cases e), fun _ => rfl⟩
  | [], _ :: _, e, _ => by cases e
  | _ :: _, [], e, _ => by cases e
  | (a, d) :: fs, (b, v) :: us, e, r => by
    cases r with
    | cons r1 r2 =>
      have e1 : a = b := (List.cons.inj e).1
      subst e1
      obtain ⟨h1, h2⟩ := look_rep (f := f) (List.cons.inj e).2 r2
      rw [List.lookup_cons, List.lookup_cons]
      cases q : f == a with
      | true => exact ⟨fun d' e' => ⟨v, rfl, by cases e'; exact r1⟩, fun e' => by cases e'⟩
      | false => exact ⟨h1, h2⟩
def fldD (os : Objs) (f : Str) (d : D) (S : Sto) : Option (D × Sto) := match d with
  | .ob n => (match S[n]? with
    | some (.ins c fs) => (match os c with
      | some i => if f ∈ i.fs then (fs.lookup f).map fun v => (v, S) else none
      | none => none)
    | _ => none)
  | _ => none
def dFld (os : Objs) (f : Str) (h : DenE) : DenE := fun fr S => (h fr S).bnd fun d S1 => .ofO (fldD os f d S1)
/-- an object of an own class, in the heap -/
theorem ins_at {g : Gnd} {w : Wd} {S : Sto} {os : Objs} (R : ObjR g.K g.mg os) (so : SOk g w S) {n : Nat} {c : Str} {fs : List (Str × D)} {i : ObjI} (e : S[n]? = some (.ins c fs)) (hi : os c = some i) : n < w.n ∧ ∃ (C dx : Addr) (us : List (Str × V)), w.H (w.m n) = some (.ins C dx us) ∧ g.mg c = some (.ref C) ∧ Cls g.K C ∧ (∀ f ∈ i.fs, NoAttr g.K C f) ∧
    fs.map (·.1) = us.map (·.1) ∧ Reps g w (fs.map (·.2)) (us.map (·.2)) := by
  obtain ⟨h, e2, r⟩ := so.ob n _ e
  cases r with
  | ins hm ek rr =>
    obtain ⟨C', m', c1, c2⟩ := R.at_ c i hi
    rw [hm] at m'
    cases m'
    exact ⟨by rw [so.len]; exact (List.getElem?_eq_some_iff.mp e).1, _, _, _, e2, hm, c1, c2, ek, rr⟩
section
variable {X : Cx} {W : WX}
theorem de_fld {os : Objs} {f : Str} {o : Expr} {pos : Pos} {h : DenE} (R : ObjR X.K X.mg os) (ho : PE X o (tE ⟨X.K, X.mg, X.w⟩ W h)) (hbase : attributeBase o f X.env (eval o X.env) = eval o X.env) : PE X (.Attribute o f pos) (tE ⟨X.K, X.mg, X.w⟩ W (dFld os f h)) := by
  refine PE.weaken (pe_fld ho hbase) fun σ H Q q => tG_mono (lift1 q) fun x H1 h1 => ?_
  obtain ⟨w, S, fr, d, rfl, so, fo, r, p⟩ := h1
  dsimp only at p
  unfold fldD at p
  split at p
  · rename_i n
    split at p
    · rename_i c fs e
      split at p
      · rename_i i hi
        split at p
        · rename_i hf
          cases el : fs.lookup f with
          | none => rw [el] at p; exact p.elim
          | some v =>
            rw [el] at p
            obtain ⟨hn, C, dx, us, e2, hm, c1, c2, ek, rr⟩ := ins_at R so e hi
            obtain ⟨u, hu, ru⟩ := (look_rep ek rr).1 v el
            cases r
            exact ⟨_, C, dx, us, u, rfl, e2, c1, c2 f hf, hu, p w u (Step.refl so) so ru⟩
        · exact p.elim
      · exact p.elim
    · exact p.elim
  · exact p.elim
/-! C(..) -/
def dMake (c : Str) (n : Nat) (φ : List D → Sto → Out D) (h : DenA) : DenE := fun fr S => (h fr S).bnd fun ds S1 => if ds.length + 1 = n then (match φ (.ob S1.length :: ds) (S1 ++ [.ins c []]) with
  | .ok .non S2 => .ok (.ob S1.length) S2
  | .ex e S2 => .ex e S2
  | _ => .no) else .no
theorem lift_make {g : Gnd} {c : Str} {C : Addr} {n : Nat} {φ : List D → Sto → Out D} {h : DenA} {σ : L2.St} {H : Hp} {Q : VK} (hm : g.mg c = some (.ref C)) (q : tE g W (dMake c n φ h) σ H Q) : tMakeG C (spD g n φ) W (tA g W h) σ H Q := by
  refine tG_mono (lift1 q) fun vs H1 h1 => ?_
  obtain ⟨w, S, fr, ds, rfl, so, fo, r, p⟩ := h1
  intro x dx hx hdx hne
  dsimp only at p
  split at p
  · rename_i hl
    obtain ⟨st1, so1, _⟩ := Step.put so hdx (.own x)
    have hx1 : (w.put dx (.own x)).H x = none := by
      show upd w.H dx (.own x) x = none
      rw [upd_ne (Ne.symm hne)]
      exact hx
    obtain ⟨st2, so2, r2⟩ := Step.new so1 hx1 (o := .ins c []) (ho := .ins C dx []) (.ins hm rfl .nil)
    refine ⟨_, S ++ [.ins c []], .ob S.length :: ds, rfl, so2, .cons r2 (Reps.mono (st1.trans st2).toMono _ _ r), hl, ?_⟩
    cases e : φ (.ob S.length :: ds) (S ++ [.ins c []]) with
    | ok d S2 =>
      rw [e] at p
      intro w' b st so' rb
      cases d with
      | non =>
        cases rb
        exact ⟨rfl, p w' (.ref x) ((st1.trans st2).trans st) so' (rmono st r2)⟩
      | _ => exact p.elim
    | ex ex S2 =>
      rw [e] at p
      exact fun w' cc dd st so' rx => p w' cc dd ((st1.trans st2).trans st) so' rx
    | no => rw [e] at p; exact p
  · exact p.elim
/-! methods -/
def methD (os : Objs) (m : Str) (d : D) (S : Sto) : Option (Nat × Nat) := match d with
  | .ob n => (match S[n]? with
    | some (.ins c fs) => (match os c with
      | some i => if fs.lookup m = none then i.ms.lookup m else none
      | none => none)
    | _ => none)
  | _ => none
def dMeth (os : Objs) (m : Str) (Φ : PhT) (ho : DenE) (h : DenA) : DenE := fun fr S => (ho fr S).bnd fun d S1 => match methD os m d S1 with
  | some p => (h fr S1).bnd fun ds S2 => if ds.length + 1 = p.2 then Φ p.1 (d :: ds) S2 else .no
  | none => .no
/-- which def a class's method is -/
def MethR (g : Gnd) (os : Objs) (m : Str) (Φ : PhT) (C : Addr) (sp : Sp) : Prop := ∃ (c : Str) (i : ObjI) (p : Nat × Nat), os c = some i ∧ i.ms.lookup m = some p ∧ g.mg c = some (.ref C) ∧ sp = spD g p.2 (Φ p.1)
theorem lift_meth {g : Gnd} {os : Objs} {m : Str} {Φ : PhT} {ho : DenE} {h : DenA} {σ : L2.St} {H : Hp} {Q : VK} (R : ObjR g.K g.mg os) (q : tE g W (dMeth os m Φ ho h) σ H Q) : tMethG (MethR g os m Φ) m W (tE g W ho) (tA g W h) σ H Q := by
  refine tG_mono (lift1 q) fun x H1 h1 => ?_
  obtain ⟨w, S, fr, d, rfl, so, fo, r, p⟩ := h1
  cases em : methD os m d S with
  | none => dsimp only at p; rw [em] at p; exact p.elim
  | some pr =>
    dsimp only at p
    rw [em] at p
    dsimp only at p
    unfold methD at em
    split at em
    · rename_i n
      split at em
      · rename_i c fs e
        split at em
        · rename_i i hi
          split at em
          · rename_i hl
            obtain ⟨hn, C, dx, us, e2, hm, c1, c2, ek, rr⟩ := ins_at R so e hi
            have hn' := (look_rep ek rr).2 hl
            have rx : x = .ref (w.m n) := by cases r; rfl
            refine ⟨w.m n, C, dx, us, spD g pr.2 (Φ pr.1), rx, e2, hn', ⟨c, i, pr, hi, em, hm, rfl⟩, ?_⟩
            refine tG_mono (next1 (R1 := Rep g) (R2 := Reps g) (R := Rep g) (k := fun a b _ S => if b.length + 1 = pr.2 then Φ pr.1 (a :: b) S else .no) (fun _ _ _ _ s r => rmono s r) ⟨w, S, fr, .ob n, rfl, so, fo, r, p⟩) fun vs H2 h2 => ?_
            obtain ⟨w2, S2, fr2, ⟨d2, ds⟩, rfl, so2, fo2, ⟨r1, r2⟩, p2⟩ := h2
            dsimp only at p2
            split at p2
            · rename_i hl2
              exact ⟨w2, S2, d2 :: ds, rfl, so2, .cons r1 r2, hl2, p2⟩
            · exact p2.elim
          · cases em
        · cases em
      · cases em
    · cases em
/-! o.f = v -/
def putFd (f : Str) (v : D) : List (Str × D) → List (Str × D)
  | [] => [(f, v)]
  | p :: r => if p.1 = f then (f, v) :: r else p :: putFd f v r
theorem putF_nil {f : Str} {v : V} : putF f v [] = [(f, v)] := rfl
theorem putF_cons {f : Str} {v : V} {p : Str × V} {r : List (Str × V)} : putF f v (p :: r) = if p.1 = f then (f, v) :: r else p :: putF f v r := by
  rw [putF]
  split
  · rename_i h
    rw [h]
  · rfl
theorem putF_rep {g : Gnd} {w : Wd} {f : Str} {d : D} {v : V} (rv : Rep g w d v) : ∀ {fs : List (Str × D)} {us : List (Str × V)}, fs.map (·.1) = us.map (·.1) → Reps g w (fs.map (·.2)) (us.map (·.2)) →
    (putFd f d fs).map (·.1) = (putF f v us).map (·.1) ∧ Reps g w ((putFd f d fs).map (·.2)) ((putF f v us).map (·.2))
  | [], [], _, _ => ⟨rfl, .cons rv .nil⟩
  | [], _ :: _, e, _ => by cases e
  | _ :: _, [], e, _ => by cases e
  | (a, x) :: fs, (b, u) :: us, e, r => by
    cases r with
    | cons r1 r2 =>
      have e1 : a = b := (List.cons.inj e).1
      subst e1
      obtain ⟨h1, h2⟩ := putF_rep (f := f) rv (List.cons.inj e).2 r2
      rw [putF_cons]
      unfold putFd
      by_cases q : a = f
      · rw [if_pos q, if_pos q]
        refine ⟨?_, .cons rv r2⟩
        rw [List.map_cons, List.map_cons, (List.cons.inj e).2]
      · rw [if_neg q, if_neg q]
        refine ⟨?_, .cons r1 h2⟩
        rw [List.map_cons, List.map_cons, h1]
def setFD (os : Objs) (f : Str) (d v : D) (S : Sto) : Option Sto := match d with
  | .ob n => (match S[n]? with
    | some (.ins c fs) => (match os c with
      | some i => if f ∈ i.fs ∧ fs.length < 1000 then some (S.set n (.ins c (putFd f v fs))) else none
      | none => none)
    | _ => none)
  | _ => none
def dSetFld (os : Objs) (f : Str) (ho he : DenE) : DenS := fun fr S => (he fr S).thn fr fun v S1 => (ho fr S1).thn fr fun d S2 => match setFD os f d v S2 with
  | some S3 => .ok .nx fr S3
  | none => .no
theorem ds_setFld {os : Objs} {f : Str} {o e : Expr} {pos pos' : Pos} {ho he : DenE} (R : ObjR X.K X.mg os) (h1 : PE X o (tE ⟨X.K, X.mg, X.w⟩ W ho)) (h2 : PE X e (tE ⟨X.K, X.mg, X.w⟩ W he)) (hs : swapsWith e (some (.Attribute o f pos')) pos.line X.env = pure false) :
    PS X (.Assign [.Attribute o f pos'] e pos) (tS ⟨X.K, X.mg, X.w⟩ W (dSetFld os f ho he)) := by
  refine PS.weaken (ps_fld h1 h2 hs) fun D σ H q => liftS q fun w S fr v u so fo r p => ?_
  refine nextS (R1 := Rep _) (R2 := Rep _) (fun _ _ _ _ s r => rmono s r) so fo r p fun w2 S2 d x so2 fo2 rv rx p2 => ?_
  cases es : setFD os f d v S2 with
  | none => rw [es] at p2; exact p2.elim
  | some S3 =>
    rw [es] at p2
    unfold setFD at es
    split at es
    · rename_i n
      split at es
      · rename_i c fs e3
        split at es
        · rename_i i hi
          split at es
          · rename_i hf
            cases es
            obtain ⟨hn, C, dx, us, e2, hm, c1, c2, ek, rr⟩ := ins_at R so2 e3 hi
            obtain ⟨k1, k2⟩ := putF_rep (f := f) rv ek rr
            cases rx
            have hl : us.length < 1000 := by
              have := congrArg List.length ek
              rw [List.length_map, List.length_map] at this
              rw [← this]
              exact hf.2
            refine ⟨_, C, dx, us, rfl, e2, c1, c2 f hf.1, hl, ?_⟩
            obtain ⟨st, so3⟩ := Step.write so2 hn (o := .ins c (putFd f v fs)) (ho := .ins C dx (putF f u us)) (.ins hm k1 k2)
            exact p2 _ σ st so3 (fo2.mono st.toMono)
          · cases es
        · cases es
      · cases es
    · cases es

/-! ### the calls by data -/
theorem de_make {x : Str} {C f : Addr} {fd : FuncData} {ps : List Str} {k n : Nat} {φ : List D → Sto → Out D} {p pos : Pos} {e : Expr} {es : List Expr} {h : DenA} (M : Mk X.K C f) (F : FnG X.prog X.w X.K X.mg X.base (L2.CX X.prog X.w) k f fd ps (spD ⟨X.K, X.mg, X.w⟩ n φ)) (hr : Room (k + 1) X.A) (hgd : X.A.guards = some [])
    (hg : Gl X x) (hm : X.mg x = some (.ref C)) (hb : Binds X.K fd ps []) (tk : Takes X W) (ha : PA X (e :: es) (tA ⟨X.K, X.mg, X.w⟩ W h)) (hdb : (x == ("__debug__" : Str)) = false) (he : starEach (e :: es) X.env = (false, eval e X.env) :: starEach es X.env) (hpl : (backTo pos (starEach es X.env)).any (·.1) = false) :
    PE X (.Call (.Name x p) (e :: es) [] pos) (tE ⟨X.K, X.mg, X.w⟩ W (dMake x n φ h)) := PE.weaken (pe_makeG M F hr hgd hg hm hb tk ha hdb he hpl) fun σ H Q q => lift_make hm q
theorem de_make0 {x : Str} {C f : Addr} {fd : FuncData} {ps : List Str} {k n : Nat} {φ : List D → Sto → Out D} {p pos : Pos} (M : Mk X.K C f) (F : FnG X.prog X.w X.K X.mg X.base (L2.CX X.prog X.w) k f fd ps (spD ⟨X.K, X.mg, X.w⟩ n φ)) (hr : Room (k + 1) X.A) (hgd : X.A.guards = some [])
    (hg : Gl X x) (hm : X.mg x = some (.ref C)) (hb : Binds X.K fd ps []) (tk : Takes X W) (hdb : (x == ("__debug__" : Str)) = false) :
    PE X (.Call (.Name x p) [] [] pos) (tE ⟨X.K, X.mg, X.w⟩ W (dMake x n φ dANil)) := PE.weaken (pe_makeG0 M F hr hgd hg hm hb tk hdb) fun σ H Q q => by
  obtain ⟨w, S, fr, rfl, so, fo, p⟩ := lift_make (h := dANil) hm q
  exact p w [] (Step.refl so) so .nil
theorem de_meth {os : Objs} {k : Nat} {m : Str} {o e : Expr} {es : List Expr} {apos pos : Pos} {Φ : PhT} {ho : DenE} {h : DenA} (R : ObjR X.K X.mg os) (hM : ∀ C sp, MethR ⟨X.K, X.mg, X.w⟩ os m Φ C sp → MethOk X k m C sp) (po : PE X o (tE ⟨X.K, X.mg, X.w⟩ W ho)) (hr : Room k X.A) (hgd : X.A.guards = some []) (tk : Takes X W)
    (ha : PA X (e :: es) (tA ⟨X.K, X.mg, X.w⟩ W h)) (hbase : attributeBase o m X.env (eval o X.env) = eval o X.env)
    (hfew : ((backTo pos (starEach (e :: es) X.env)).all (fun x => !x.1) && (backToKw pos (keywordEach [] X.env)).all (fun x => x.1.isSome) && decide ((e :: es).length + ([] : List Keyword).length + (if ([] : List Keyword).isEmpty = true then 0 else 1) < 30)) = true)
    (hline : (apos.endLine == pos.line) = true) (he : starEach (e :: es) X.env = (false, eval e X.env) :: starEach es X.env) (hpl : (backTo pos (starEach es X.env)).any (·.1) = false) :
    PE X (.Call (.Attribute o m apos) (e :: es) [] pos) (tE ⟨X.K, X.mg, X.w⟩ W (dMeth os m Φ ho h)) := PE.weaken (pe_methG hM po hr hgd tk ha hbase hfew hline he hpl) fun σ H Q q => lift_meth R q
theorem de_meth0 {os : Objs} {k : Nat} {m : Str} {o : Expr} {apos pos : Pos} {Φ : PhT} {ho : DenE} (R : ObjR X.K X.mg os) (hM : ∀ C sp, MethR ⟨X.K, X.mg, X.w⟩ os m Φ C sp → MethOk X k m C sp) (po : PE X o (tE ⟨X.K, X.mg, X.w⟩ W ho)) (hr : Room k X.A) (hgd : X.A.guards = some []) (tk : Takes X W)
    (hbase : attributeBase o m X.env (eval o X.env) = eval o X.env) (hline : (apos.endLine == pos.line) = true) : PE X (.Call (.Attribute o m apos) [] [] pos) (tE ⟨X.K, X.mg, X.w⟩ W (dMeth os m Φ ho dANil)) := PE.weaken (pe_methG0 hM po hr hgd tk hbase hline) fun σ H Q q =>
  tG_mono (lift_meth (h := dANil) R q) fun x H1 z => by
    obtain ⟨a, C, dx, fs, sp, e1, e2, e3, e4, z⟩ := z
    refine ⟨a, C, dx, fs, sp, e1, e2, e3, e4, ?_⟩
    obtain ⟨w, S, fr, rfl, so, fo, p⟩ := z
    exact p w [] (Step.refl so) so .nil

/-! ### o.f += e -/
def clsOb (d : D) (S : Sto) : Option Str := match d with
  | .ob n => (match S[n]? with
    | some (.ins c _) => some c
    | _ => none)
  | _ => none
def dAugFld (os : Objs) (f : Str) (g : Int → Int → Int) (ho he : DenE) : DenS := fun fr S => (ho fr S).thn fr fun d S1 => match fldD os f d S1 with
  | some (.int i, _) => (he fr S1).thn fr fun v S2 => (match v with
    | .int j => if clsOb d S1 = clsOb d S2 then (match setFD os f d (.int (g i j)) S2 with
      | some S3 => .ok .nx fr S3
      | none => .no) else .no
    | _ => .no)
  | _ => .no
theorem ds_augFld {os : Objs} {f : Str} {op : Operator} {g : Int → Int → Int} {rd : V → V → Hp → VK → Prop} {o e : Expr} {tpos pos : Pos} {ho he : DenE} (R : ObjR X.K X.mg os) (hop : InOp X op rd) (hrd : ∀ i j H (Q : VK), Q (.int (g i j)) H → rd (.int i) (.int j) H Q) (h1 : PE X o (tE ⟨X.K, X.mg, X.w⟩ W ho)) (h2 : PE X e (tE ⟨X.K, X.mg, X.w⟩ W he)) :
    PS X (.AugAssign (.Attribute o f tpos) op e pos) (tS ⟨X.K, X.mg, X.w⟩ W (dAugFld os f g ho he)) := by
  refine PS.weaken (ps_fldaug h1 h2 hop) fun D σ H q => liftS q fun w S fr d x so fo r p => ?_
  cases ef : fldD os f d S with
  | none => rw [ef] at p; exact p.elim
  | some pr =>
    obtain ⟨v0, S0⟩ := pr
    rw [ef] at p
    cases v0 with
    | int i =>
      dsimp only at p
      unfold fldD at ef
      split at ef
      · rename_i n
        split at ef
        · rename_i c fs e1
          split at ef
          · rename_i io hi
            split at ef
            · rename_i hf
              cases el : fs.lookup f with
              | none => rw [el] at ef; cases ef
              | some v1 =>
                rw [el] at ef
                cases ef
                obtain ⟨hn, C, dx, us, e2, hm, c1, c2, ek, rr⟩ := ins_at R so e1 hi
                obtain ⟨u, hu, ru⟩ := (look_rep ek rr).1 _ el
                cases ru
                cases r
                refine ⟨_, C, dx, us, .int i, rfl, e2, c1, c2 f hf, hu, ?_⟩
                refine nextS (R1 := Rep ⟨X.K, X.mg, X.w⟩) (R2 := Rep ⟨X.K, X.mg, X.w⟩) (fun _ _ _ _ s r => rmono s r) so fo (Rep.ob hn) p fun w2 S2 v y so2 fo2 rx ry p2 => ?_
                cases v with
                | int j =>
                  dsimp only at p2
                  cases ry
                  refine hrd _ _ _ _ ?_
                  split at p2
                  · rename_i hc
                    cases es : setFD os f (.ob n) (.int (g i j)) S2 with
                    | none => rw [es] at p2; exact p2.elim
                    | some S3 =>
                      rw [es] at p2
                      dsimp only at p2
                      unfold setFD at es
                      dsimp only at es
                      split at es
                      · rename_i c' fs' e3
                        have hcc : c' = c := by
                          unfold clsOb at hc
                          dsimp only at hc
                          rw [e1, e3] at hc
                          exact (Option.some.inj hc).symm
                        subst hcc
                        rw [hi] at es
                        dsimp only at es
                        split at es
                        · rename_i hf2
                          cases es
                          obtain ⟨hn2, C2, dx2, us2, e4, hm2, _, _, ek2, rr2⟩ := ins_at R so2 e3 hi
                          have hCC : C2 = C := by
                            have z : X.mg c' = some (.ref C2) := hm2
                            rw [show X.mg c' = some (.ref C) from hm] at z
                            cases z
                            rfl
                          subst hCC
                          obtain ⟨k1, k2⟩ := putF_rep (f := f) (Rep.int (g := ⟨X.K, X.mg, X.w⟩) (w := w2) (g i j)) ek2 rr2
                          have ew : w.m n = w2.m n := by
                            generalize ev : V.ref (w.m n) = z at rx
                            cases rx
                            exact V.ref.inj ev
                          have hl : us2.length < 1000 := by
                            have := congrArg List.length ek2
                            rw [List.length_map, List.length_map] at this
                            rw [← this]
                            exact hf2.2
                          obtain ⟨st, so3⟩ := Step.write so2 hn2 (o := .ins c' (putFd f (.int (g i j)) fs')) (ho := .ins C2 dx2 (putF f (.int (g i j)) us2)) (.ins hm2 k1 k2)
                          rw [ew]
                          exact ⟨dx2, us2, e4, hl, p2 _ σ st so3 (fo2.mono st.toMono)⟩
                        · cases es
                      · cases es
                  · exact p2.elim
                | _ => exact p2.elim
            · cases ef
          · cases ef
        · cases ef
      · cases ef
    | _ => exact p.elim
end
end DL
/-! DN, part d: exceptions that are made and kept, with an __init__ of their own or none; what such an one keeps is read. -/
namespace DL
open PySem PySem.Spec PyProof.Rows L2

section
variable {X : Cx} {W : WX}
/-- what makes an exception gives a value -/
theorem pe_xmk {e : Expr} {t : L2.St → Hp → XK → Prop} (h : PMk X e t) : PE X e (fun σ H Q => t σ H fun cls d H' => ∀ (a : Addr) (oe : Obj), H' a = none → Zc cls d oe → (∃ vs, oe.data = .fields vs) → Q (.ref a) (frozen H' a oe)) :=
  ⟨fun pins s σ H Q I k => wpAny_mono (h pins s σ H _ I k) (fun u s' m => by
    obtain ⟨a, oe, vs, sI, H', cls, d, rfl, J, up, na, he, hz, hd, _, hHa, os, bare, _, q⟩ := m
    have J2 := J.laidN (h' := s'.heap) (o := .frz oe (.ext (AtE a oe))) (t' := s'.toks) up na hHa (by
      unfold ObjOk
      refine ⟨he, ?_⟩
      unfold ObjOk
      exact ⟨he, ⟨oe, he⟩, fun h1 h2 z k => k _ z⟩)
    exact ⟨.ref a, _, J2.landed (s' := s') (B := s'.heap) (fun b o e _ => e) (fun b o e => e) (fun b o e _ => ⟨o.slots, e⟩) os bare, rfl, q a oe hHa hz ⟨vs, hd⟩⟩) fun _ _ z => z⟩
theorem PMk.weaken {e : Expr} {t t' : L2.St → Hp → XK → Prop} (h : PMk X e t) (k : ∀ σ H Q, t' σ H Q → t σ H Q) : PMk X e t' := fun pins s σ H Q I q => h pins s σ H Q I (k _ _ _ q)

/-! ### what an exception keeps -/
theorem pe_xfz {e : Expr} {te : TE} {n : Str} {pos : Pos} (he : PE X e te) (hb : attributeBase e n X.env (eval e X.env) = eval e X.env) : PE X (.Attribute e n pos) (fun σ H Q => te σ H fun x H1 =>
    ∃ (a C dd : Addr) (oe : Obj) (us : List (Str × V)) (v : V), x = .ref a ∧ H1 a = some (.frz oe (.ext (AtE a oe))) ∧ Zc (.ref C) (some dd) oe ∧ (∃ vs, oe.data = .fields vs) ∧ H1 dd = some (.xd us) ∧ XfC X.K C ∧ PySem.W.findIn X.K (.ref C) n = some none ∧ us.lookup n = some v ∧ Q v H1) :=
  ⟨fun pins s σ H Q I h => attr_of hb (thn (he.run pins s σ H _ I h) fun u s1 hh => by
    obtain ⟨x, H1, I1, rx, a, C, dd, oe, us, v, ex, ha, hz, hf, hd, T, hno, l, q⟩ := hh
    subst ex
    obtain rfl : u = .ref a := rx
    have hx := I1.hok dd _ hd
    unfold ObjOk at hx
    obtain ⟨mA, hns, hr⟩ := hx
    obtain ⟨od, ho, hl⟩ := lookIn_ns hns
    obtain ⟨u, hu, ru⟩ := RelO.some_of (by have z := hr n; rw [l] at z; exact z)
    obtain ⟨od', hi⟩ := inst_at I1 ha hz hf fun dd' z => by cases z; exact ⟨us, hd⟩
    have ho' : od' = some od := by
      have z := hi.dict
      rw [hz.2] at z
      cases od' with
      | none => exact z.elim
      | some o =>
        have z : s1.heap.get? dd = some o := z
        rw [ho] at z
        cases z
        rfl
    subst ho'
    exact PySem.HandSPX.exc_get I1.kIn hi T.ga T.gg T.exC (PySem.W.findObj_own T.hdC hno rfl (by rw [hl n, hu])) (handed_of ru) ⟨v, H1, I1.tok (s1.toks + 1), ru, q⟩)⟩

/-! ### an __init__ of its own: B.__init__(self, ..); self.f = p -/
/-- B.__init__(self, ..), B an own class that has ValueError's -/
theorem pe_binit {e : Expr} {es : List Expr} {ta : TA} {b : Str} {B : Addr} {p1 p2 pos : Pos} (hg : Gl X b) (hm : X.mg b = some (.ref B)) (hdb : (b == ("__debug__" : Str)) = false)
    (hsp : PySem.W.specialIn X.K (.ref B) "__getattribute__" = some (some (.builtin "type.__getattribute__"))) (hrd : PySem.W.readsIn X.K B (.type "type") = true)
    (vV : PySem.W.findCls X.K (.ref B) (.type "type") "__init__" = some (.val (.builtin "ValueError.__init__"))) (ha : PA X (e :: es) ta)
    (hfew : ((backTo pos (starEach (e :: es) X.env)).all (fun x => !x.1) && (backToKw pos (keywordEach [] X.env)).all (fun x => x.1.isSome) && decide ((e :: es).length + ([] : List Keyword).length + (if ([] : List Keyword).isEmpty = true then 0 else 1) < 30)) = true)
    (hline : (p2.endLine == pos.line) = true)
    (he : starEach (e :: es) X.env = (false, eval e X.env) :: starEach es X.env) (hpl : (backTo pos (starEach es X.env)).any (·.1) = false) :
    PE X (.Call (.Attribute (.Name b p1) "__init__" p2) (e :: es) [] pos) (tVeI X.K ta) :=
  ⟨fun pins s σ H Q I h => call_own rfl hfew hline (ld_glob I hg hm (fun pl => PySem.W.method_cls I.kIn hsp (PySem.W.cls_value I.kIn hrd vV rfl (callWith_method1
    (thn (ha.run pos pins _ σ H _ (I.tok (s.toks + 1)) h) fun us s1 hh => by
      obtain ⟨vs, H1, I1, r, a, C, ws, rfl, hl, T, hH, q⟩ := hh
      cases r with
      | cons r1 r2 =>
        obtain rfl := r1
        exact oinit_ok T I1 hH (by rw [← r2.length]; exact Nat.le_trans hl (by decide)) fun s' I2 => ⟨.non, H1, I2, rfl, q⟩) he hpl))) hdb)⟩
end
/-- what such an __init__ promises -/
def spXi (C : Addr) (fl : Str) : Sp := fun vs H Q _ => ∃ (a : Addr) (v : V), vs = [.ref a, v] ∧ H a = some (exo a C none) ∧ ∀ dx, H dx = none → dx ≠ a → Q .non (upd (upd H dx (exd dx [(fl, v)])) a (exo a C (some dx)))
/-- what is known of a class with such an __init__ -/
structure XI (P : Program) (w0 : World) (K : PySem.W.Frag) (mg : Str → Option Value) (base : Heap) (x fl : Str) : Prop where
  ex : ∃ (C f : Addr) (fd : FuncData) (ps : List Str), mg x = some (.ref C) ∧ OexC K C ∧ XfC K C ∧ PySem.W.findIn K (.ref C) fl = some none ∧ PySem.W.findIn K (.ref C) "__init__" = some (some (.ref f)) ∧
    PySem.W.typeIn K (.ref f) = some (.type "function") ∧ L2.Binds K fd ps [] ∧ FnOk P w0 K mg base (L2.CX P w0) 1 f fd ps (spXi C fl)

/-! ### by data -/
section
variable {X : Cx} {W : WX}
/-- an exception made whose class keeps nothing -/
def dXo0 (x : Str) (h : DenA) : DenE := fun fr S => (h fr S).bnd fun ds S1 => if ds.length ≤ 1000 then .ok (.xo x [] []) S1 else .no
theorem de_xo0 {x : Str} {C : Addr} {e : Expr} {es : List Expr} {h : DenA} {p pos : Pos} (F : ClsF X.K X.mg x C) (q : PySem.W.excIn X.K C [.type "ValueError", .type "Exception", .type "BaseException", .type "object"] "ValueError.__new__" = true) (hg : Gl X x) (hd : (x == ("__debug__" : Str)) = false)
    (ha : PA X (e :: es) (tA ⟨X.K, X.mg, X.w⟩ W h)) (he : starEach (e :: es) X.env = (false, eval e X.env) :: starEach es X.env) (hpl : (backTo pos (starEach es X.env)).any (·.1) = false) : PE X (.Call (.Name x p) (e :: es) [] pos) (tE ⟨X.K, X.mg, X.w⟩ W (dXo0 x h)) := by
  refine PE.weaken (pe_xmk (pmk_ownA PySem.F.excBase_ValueError q F.gm F.kp (raises_own F.sb F.tp) hg ha hd he hpl)) fun σ H Q k => tG_mono (lift1 k) fun vs H1 h1 => ?_
  obtain ⟨w, S, fr, ds, rfl, so, fo, r, p⟩ := h1
  dsimp only at p
  split at p
  · rename_i hl
    refine ⟨by rw [← r.length]; exact Nat.le_trans hl (by decide), fun a oe ha hz hf => ?_⟩
    obtain ⟨st, so', _⟩ := Step.put so ha (.frz oe (.ext (AtE a oe)))
    exact p _ _ st so' (.xo0 F.gm upd_same hz hf)
  · exact p.elim
/-- .. whose class keeps one thing -/
theorem mk_xi {C : Addr} {fl : Str} {v : V} {H1 : Hp} {Q : XK} (h : ∀ dx, H1 dx = none → Q (.ref C) (some dx) (upd H1 dx (.xd [(fl, v)]))) : [v].length ≤ 1000 ∧ ∀ a, H1 a = none → spXi C fl (.ref a :: ([v] ++ [])) (upd H1 a (exo a C none))
    (fun v H2 => v = .non ∧ ∃ d fs, H2 a = some (exo a C (some d)) ∧ H2 d = some (exd d fs) ∧ H1 d = none ∧ Q (.ref C) (some d) (upd (L2.del H2 a) d (.xd fs))) (fun _ _ _ => False) := by
  refine ⟨by simp, fun a ha => ⟨a, v, rfl, upd_same, fun dx hdx hne => ?_⟩⟩
  have h1 : H1 dx = none := by
    rw [upd_ne hne] at hdx
    exact hdx
  refine ⟨rfl, dx, [(fl, v)], upd_same, by rw [upd_ne hne, upd_same], h1, ?_⟩
  have e : upd (L2.del (upd (upd (upd H1 a (exo a C none)) dx (exd dx [(fl, v)])) a (exo a C (some dx))) a) dx (.xd [(fl, v)]) = upd H1 dx (.xd [(fl, v)]) := by
    funext b
    by_cases z : b = dx
    · subst z; rw [upd_same, upd_same]
    · rw [upd_ne z, upd_ne z]
      by_cases y : b = a
      · subst y
        rw [ha]
        unfold L2.del
        simp
      · unfold L2.del
        rw [if_neg y, upd_ne y, upd_ne z, upd_ne y]
  rw [e]
  exact h dx h1
theorem no_cx {P : Program} {w : World} : Passes (L2.CX P w) X (fun _ _ _ => False) := fun pins σ H s e s' _ q => by
  obtain ⟨_, _, _, _, _, _, _, _, _, _, _, _, z⟩ := q
  exact z.elim
def dXo1 (x fl : Str) (h : DenA) : DenE := fun fr S => (h fr S).bnd fun ds S1 => match ds with
  | [d] => .ok (.xo x [fl] [d]) S1
  | _ => .no
theorem de_xo1 {x fl : Str} {e : Expr} {es : List Expr} {h : DenA} {p pos : Pos} (I : XI X.prog X.w X.K X.mg X.base x fl) (hr : Room 2 X.A) (hg : Gl X x) (hd : (x == ("__debug__" : Str)) = false)
    (ha : PA X (e :: es) (tA ⟨X.K, X.mg, X.w⟩ W h)) (he : starEach (e :: es) X.env = (false, eval e X.env) :: starEach es X.env) (hpl : (backTo pos (starEach es X.env)).any (·.1) = false) : PE X (.Call (.Name x p) (e :: es) [] pos) (tE ⟨X.K, X.mg, X.w⟩ W (dXo1 x fl h)) := by
  obtain ⟨C, f, fd, ps, hm, T, _, _, hi, ht, hb, F⟩ := I.ex
  refine PE.weaken (pe_xmk (pmk_oex (dvs := []) T hi ht F hr hb .nil no_cx hg hm ha hd he hpl)) fun σ H Q k => tG_mono (lift1 k) fun vs H1 h1 => ?_
  obtain ⟨w, S, fr, ds, rfl, so, fo, r, p⟩ := h1
  dsimp only at p
  split at p
  · rename_i d
    cases r with
    | cons r1 r2 =>
      cases r2
      refine mk_xi (Q := fun cls d H' => ∀ (a : Addr) (oe : Obj), H' a = none → Zc cls d oe → (∃ vs, oe.data = .fields vs) → Q (.ref a) (frozen H' a oe)) fun dx hdx a oe ha hz hf => ?_
      obtain ⟨st1, so1, _⟩ := Step.put so hdx (.xd [(fl, _)])
      obtain ⟨st2, so2, _⟩ := Step.put so1 (p := a) ha (.frz oe (.ext (AtE a oe)))
      have ne : dx ≠ a := fun z => by
        have ha : upd w.H dx (.xd [(fl, _)]) a = none := ha
        rw [← z, upd_same] at ha
        cases ha
      exact p _ _ (st1.trans st2) so2 (.xo1 (us := [(fl, _)]) hm upd_same hz hf (by show upd (upd w.H dx _) a _ dx = _; rw [upd_ne ne, upd_same]) (.cons (rmono (st1.trans st2) r1) .nil))
  · exact p.elim
/-- raise C(e) -/
def dRaise1 (x fl : Str) (h : DenA) : DenS := fun fr S => (h fr S).thn fr fun ds S1 => match ds with
  | [d] => .ex ⟨.gl x, some [(fl, d)]⟩ fr S1
  | _ => .no
theorem ds_raise1 {x fl : Str} {e : Expr} {es : List Expr} {h : DenA} {p pos pos' : Pos} (hc : X.calm = true) (tk : Takes X W) (I : XI X.prog X.w X.K X.mg X.base x fl) (hr : Room 2 X.A) (hg : Gl X x) (hd : (x == ("__debug__" : Str)) = false)
    (ha : PA X (e :: es) (tA ⟨X.K, X.mg, X.w⟩ W h)) (he : starEach (e :: es) X.env = (false, eval e X.env) :: starEach es X.env) (hpl : (backTo pos (starEach es X.env)).any (·.1) = false) : PS X (.Raise (some (.Call (.Name x p) (e :: es) [] pos)) none pos') (tS ⟨X.K, X.mg, X.w⟩ W (dRaise1 x fl h)) := by
  obtain ⟨C, f, fd, ps, hm, T, _, _, hi, ht, hb, F⟩ := I.ex
  refine PS.weaken (ps_raise hc tk (pmk_oex (dvs := []) T hi ht F hr hb .nil no_cx hg hm ha hd he hpl)) fun D σ H q => liftS q fun w S fr ds vs so fo r p => ?_
  split at p
  · rename_i d
    cases r with
    | cons r1 r2 =>
      cases r2
      refine mk_xi (Q := fun cls d H' => W cls d σ H') fun dx hdx => ?_
      obtain ⟨st1, so1, hne⟩ := Step.put so hdx (.xd [(fl, _)])
      exact p _ σ (.ref C) (some dx) st1 so1 (fo.mono st1.toMono) ⟨⟨.ref C, .gl hm, rfl⟩, dx, [(fl, _)], rfl, upd_same, hne, rfl, .cons (rmono st1 r1) .nil⟩
  · exact p.elim

/-! ### fields: an own object's, or what an exception keeps -/
abbrev Xis := Str → Option Str
def xfD (xs : Xis) (f : Str) (d : D) : Option D := match d with
  | .xo c [k] [v] => if xs c = some f ∧ k = f then some v else none
  | _ => none
def dXf (xs : Xis) (f : Str) (h : DenE) : DenE := fun fr S => (h fr S).bnd fun d S1 => .ofO ((xfD xs f d).map fun v => (v, S1))
theorem de_xf {xs : Xis} {f : Str} {o : Expr} {pos : Pos} {h : DenE} (R : ∀ c fl, xs c = some fl → XI X.prog X.w X.K X.mg X.base c fl) (ho : PE X o (tE ⟨X.K, X.mg, X.w⟩ W h)) (hbase : attributeBase o f X.env (eval o X.env) = eval o X.env) : PE X (.Attribute o f pos) (tE ⟨X.K, X.mg, X.w⟩ W (dXf xs f h)) := by
  refine PE.weaken (pe_xfz ho hbase) fun σ H Q q => tG_mono (lift1 q) fun x H1 h1 => ?_
  obtain ⟨w, S, fr, d, rfl, so, fo, r, p⟩ := h1
  dsimp only at p
  unfold xfD at p
  split at p
  · rename_i c k v
    split at p
    · rename_i hk
      obtain ⟨h1, rfl⟩ := hk
      obtain ⟨C, f', fd, ps, hm, T, X1, hno, _⟩ := (R c k h1).ex
      generalize eks : [k] = ks at r
      generalize evs : [v] = vs at r
      cases r with
      | xo0 => cases eks
      | xo1 e1 e2 e3 e4 e5 rr =>
        rename_i C' a dd oe us
        have eC : C' = C := by
          have e1 : X.mg c = some (.ref C') := e1
          rw [hm] at e1
          cases e1
          rfl
        subst eC
        obtain ⟨u, rfl⟩ : ∃ u, us = [(k, u)] := by
          cases us with
          | nil => cases eks
          | cons y ys =>
            cases ys with
            | nil =>
              obtain ⟨y1, y2⟩ := y
              cases eks
              exact ⟨y2, rfl⟩
            | cons => cases eks
        subst evs
        cases rr with
        | cons r1 r2 => exact ⟨a, C', dd, oe, _, u, rfl, e2, e3, e4, e5, X1, hno, by simp, p w u (Step.refl so) so r1⟩
    · exact p.elim
  · exact p.elim
/-- .. by what stands there -/
def dAttr (os : Objs) (xs : Xis) (f : Str) (h : DenE) : DenE := fun fr S => match h fr S with
  | .ok (.xo _ _ _) _ => dXf xs f h fr S
  | _ => dFld os f h fr S
theorem de_attr {os : Objs} {xs : Xis} {f : Str} {o : Expr} {pos : Pos} {h : DenE} (R : ObjR X.K X.mg os) (R2 : ∀ c fl, xs c = some fl → XI X.prog X.w X.K X.mg X.base c fl) (ho : PE X o (tE ⟨X.K, X.mg, X.w⟩ W h)) (hbase : attributeBase o f X.env (eval o X.env) = eval o X.env) :
    PE X (.Attribute o f pos) (tE ⟨X.K, X.mg, X.w⟩ W (dAttr os xs f h)) := by
  refine PE.weaken (PE_or (de_fld R ho hbase) (de_xf R2 ho hbase)) fun σ H Q q => ?_
  obtain ⟨w, S, fr, e, so, fo, p⟩ := q
  unfold dAttr at p
  split at p
  · exact .inr ⟨w, S, fr, e, so, fo, p⟩
  · exact .inl ⟨w, S, fr, e, so, fo, p⟩
end
end DL
/-! DN, part f: try: .. except X: k = a constant. -/
namespace DL
open PySem PySem.Spec PyProof.Rows L2
def dTryC (up : Ups) (y : Str) (j : Nat) (dc : D) (b : DenS) : DenS := fun fr S => match b fr S with
  | .ex e fr' S' => (match e.cls with
    | .gl c => (match up c, up y with
      | some u, some _ => if y ∈ u then .ok .nx (fr'.set j (some dc)) S' else .ex e fr' S'
      | _, _ => .no)
    | _ => .no)
  | o => o
theorem ds_tryC {X : Cx} {W : WX} {up : Ups} (R : ClsR X.K X.mg up) {y k : Str} {C : Addr} {j : Nat} {ce : Expr} {dc : D} {vc : V} {body : List Stmt} {b : DenS} {np pk pa pos pos' : Pos} (hs : X.stack = X.env :: X.outer) (hf : X.env.frame = some X.env.locals) (hN : X.N.Nodup)
    (hj : X.N[j]? = some k) (hlk : X.env.kindOf k = some .local) (hy : ClsF X.K X.mg y C) (hg : Gl X y) (hd : (y == ("__debug__" : Str)) = false) (tk : Takes X W)
    (hce : ∀ X : Cx, PE X ce (fun σ H Q => Q vc H)) (hsw : ∀ X : Cx, swapsWith ce (some (.Name k pk)) pa.line X.env = pure false) (hrc : ∀ w, Rep ⟨X.K, X.mg, X.w⟩ w dc vc)
    (hb : ∀ (W : WX) (pn : List (Addr × Obj)) (xe : Value → Shared → Prop), Takes (X.tr pn xe) W → PassesOwn (model X.prog X.w) X.A X.env xe → PSs (X.tr pn xe) body (tS ⟨X.K, X.mg, X.w⟩ W b)) :
    PS X (.Try body [.ExceptHandler (some (.Name y np)) none [.Assign [.Name k pk] ce pa] pos'] [] [] pos) (tS ⟨X.K, X.mg, X.w⟩ W (dTryC up y j dc b)) := by
  have hsu : ∀ (a : Addr) (oe : Obj) (cls : Value) (d : Option Addr) (pn' : List (Addr × Obj)), Zc cls d oe → (∃ vs, oe.data = .fields vs) →
      PSs (X.suite a ((a, oe) :: pn')) [.Assign [.Name k pk] ce pa] (fun D σ H => D.nx (σ.set j (some vc)) H) := fun a oe cls d pn' _ _ => by
    refine PSs.weaken (pss_cons (ps_set (X := X.suite a ((a, oe) :: pn')) (i := j) hN hj (.inl hlk) (hce _) (hsw _) (.inr hlk)) pss_nil) fun D σ H q => ?_
    exact q
  refine PS.weaken (ps_try_only hs hf ⟨hg, hd, .inl hy.gm⟩ tk hb hsu) fun D σ H q => ?_
  obtain ⟨w, S, fr, rfl, so, fo, p⟩ := q
  refine ⟨w, S, fr, rfl, so, fo, ?_⟩
  unfold dTryC at p
  cases q : b fr S with
  | no => rw [q] at p; exact p
  | ok f fr' S' => rw [q] at p; cases f <;> exact p
  | ex e fr' S' =>
    rw [q] at p
    intro w' σ' cv dx st so' fo' rx
    dsimp only at p
    split at p
    · rename_i c ec
      split at p
      · rename_i u u' e1 e2
        obtain ⟨v, r1, r2⟩ := rx.cls
        rw [ec] at r1
        cases r1 with
        | gl hm =>
          obtain rfl : cv = .ref _ := r2
          refine ⟨decide (y ∈ u), (R.own _ _ _ _ _ _ e1 e2 hm hy.gm).1, fun hyes => ?_, fun hno => ?_⟩
          · rw [if_pos (of_decide_eq_true hyes)] at p
            exact fun a na => p w' _ st so' (fo'.set j (hrc w'))
          · rw [if_neg (of_decide_eq_false hno)] at p
            exact p w' σ' _ dx st so' fo' rx
      · exact p.elim
    · exact p.elim
/-- a constant as data -/
def cvD : Const → Option (D × V)
  | .none => some (.non, .non)
  | .bool b => some (.bl b, .bl b)
  | .int i => some (.int i, .int i)
  | .str x => some (.str x, .str x)
  | _ => none
theorem cv_ok {c : Const} {d : D} {v : V} {j : Nat} {p : Pos} (h : cvD c = some (d, v)) : (∀ X : Cx, PE X (.Constant c j p) (fun σ H Q => Q v H)) ∧ ∀ g w, Rep g w d v := by
  cases c with
  | none => cases h; exact ⟨fun X => pe_non, fun g w => .non⟩
  | bool b => cases h; exact ⟨fun X => pe_bl, fun g w => .bl b⟩
  | int i => cases h; exact ⟨fun X => pe_int, fun g w => .int i⟩
  | str x => cases h; exact ⟨fun X => pe_str, fun g w => .str x⟩
  | _ => cases h
end DL
/-! DN, part i: B.m(self, ..), a method called off its own class. -/
namespace DL
open PySem PySem.Spec PyProof.Rows L2
section
variable {X : Cx} {W : WX} {k : Nat} {fd : FuncData} {ps : List Str}
theorem de_baseM {b m : Str} {B f : Addr} {ar : Nat} {φ : List D → Sto → Out D} {e : Expr} {es : List Expr} {h : DenA} {p1 p2 pos : Pos} (hg : Gl X b) (hm : X.mg b = some (.ref B)) (hdb : (b == ("__debug__" : Str)) = false)
    (hsp : PySem.W.specialIn X.K (.ref B) "__getattribute__" = some (some (.builtin "type.__getattribute__"))) (hrd : PySem.W.readsIn X.K B (.type "type") = true)
    (vV : PySem.W.findCls X.K (.ref B) (.type "type") m = some (.val (.ref f))) (hk : PySem.W.keepIn X.K (.ref f) = true)
    (F : FnG X.prog X.w X.K X.mg X.base (L2.CX X.prog X.w) k f fd ps (spD ⟨X.K, X.mg, X.w⟩ ar φ)) (hr : Room k X.A) (hgd : X.A.guards = some []) (hb : Binds X.K fd ps []) (tk : Takes X W) (ha : PA X (e :: es) (tA ⟨X.K, X.mg, X.w⟩ W h))
    (hfew : ((backTo pos (starEach (e :: es) X.env)).all (fun x => !x.1) && (backToKw pos (keywordEach [] X.env)).all (fun x => x.1.isSome) && decide ((e :: es).length + ([] : List Keyword).length + (if ([] : List Keyword).isEmpty = true then 0 else 1) < 30)) = true)
    (hline : (p2.endLine == pos.line) = true)
    (he : starEach (e :: es) X.env = (false, eval e X.env) :: starEach es X.env) (hpl : (backTo pos (starEach es X.env)).any (·.1) = false) :
    PE X (.Call (.Attribute (.Name b p1) m p2) (e :: es) [] pos) (tE ⟨X.K, X.mg, X.w⟩ W (dCall ar φ h)) := by
  have main : PE X (.Call (.Attribute (.Name b p1) m p2) (e :: es) [] pos) (tCallG (spD ⟨X.K, X.mg, X.w⟩ ar φ) W (tA ⟨X.K, X.mg, X.w⟩ W h)) :=
    ⟨fun pins s σ H Q I q => call_own rfl hfew hline (ld_glob I hg hm (fun pl => PySem.W.method_cls I.kIn hsp (PySem.W.cls_value I.kIn hrd vV rfl (PySem.W.callWith_K (h₀ := X.base) I.ok.mod.kin hk
      (thn (ha.run pos pins _ σ H _ (I.tok (s.toks + 1)) q) fun us s1 ⟨vs, H1, I1, r, q⟩ => ⟨I1.kIn, run_fnG F hr hgd hb tk I1 r q⟩) he hpl))) hdb)⟩
  refine PE.weaken main fun σ H Q q => ?_
  refine tG_mono (lift1 q) fun vs H1 h1 => ?_
  obtain ⟨w, S, fr, ds, rfl, so, fo, r, p⟩ := h1
  dsimp only at p
  split at p
  · rename_i hl
    exact ⟨w, S, ds, rfl, so, r, hl, p⟩
  · exact p.elim
end
end DL
/-! DM, part h: xs.count(x), xs.index(x), xs.insert(0, x), items being flat. -/
namespace DL
open PySem PySem.Spec PyProof.Rows L2
/-- flat data is its own value -/
def flD : D → Option V
  | .non => some .non
  | .bl b => some (.bl b)
  | .int i => some (.int i)
  | .str x => some (.str x)
  | _ => none
def flL : List D → Option (List V)
  | [] => some []
  | d :: ds => match flD d, flL ds with
    | some v, some vs => some (v :: vs)
    | _, _ => none
theorem flD_ok {g : Gnd} {w : Wd} {d : D} {v u : V} (r : Rep g w d v) (h : flD d = some u) : v = u ∧ flatV u = true := by
  cases d <;> first | (cases h; done) | (cases h; cases r; exact ⟨rfl, rfl⟩)
theorem flL_ok {g : Gnd} {w : Wd} : ∀ {ds : List D} {vs us : List V}, Reps g w ds vs → flL ds = some us → vs = us ∧ us.all flatV = true
  | [], _, us, .nil, h => by cases h; exact ⟨rfl, rfl⟩
  | d :: ds, _, us, .cons r rs, h => by
    unfold flL at h
    split at h
    · rename_i v vs e1 e2
      cases h
      obtain ⟨h1, h2⟩ := flD_ok r e1
      obtain ⟨h3, h4⟩ := flL_ok rs e2
      subst h1 h3
      exact ⟨rfl, by rw [List.all_cons, h2, h4]; rfl⟩
    · cases h
def mCount : FM := fun d ds S => match d, ds with
  | .ob n, [x] => (match S[n]? with
    | some (.lst xs) => (match flL xs, flD x with
      | some us, some u => some (.int ((us.countP fun z => eqV z u : Nat) : Int), S)
      | _, _ => none)
    | _ => none)
  | _, _ => none
def mLIndex : FM := fun d ds S => match d, ds with
  | .ob n, [x] => (match S[n]? with
    | some (.lst xs) => (match flL xs, flD x with
      | some us, some u => (us.findIdx? fun z => eqV z u).map fun j => (.int ((j : Nat) : Int), S)
      | _, _ => none)
    | _ => none)
  | _, _ => none
def mInsert : FM := fun d ds S => match d, ds with
  | .ob n, [.int i, x] => (match S[n]? with
    | some (.lst xs) => if xs.length < 100000 ∧ 0 ≤ i ∧ i < 2 ^ 63 then some (.non, S.set n (.lst (xs.take i.toNat ++ [x] ++ xs.drop i.toNat))) else none
    | _ => none)
  | _, _ => none
def fDict : FB := fun ds S => match ds with
  | [.ob n] => (match S[n]? with
    | some (.dk kvs) => some (.ob S.length, S ++ [.dk kvs])
    | _ => none)
  | _ => none
/-- a flat value, back -/
def vOf : Value → V
  | .bool b => .bl b
  | .int i _ => .int i
  | .str x _ => .str x
  | _ => .non
theorem vOf_ok {v : V} {u : Value} (r : RelV v u) (h : flatV v = true) : vOf u = v := by
  cases v with
  | non => obtain rfl : u = .none := r; rfl
  | bl b => obtain rfl : u = .bool b := r; rfl
  | int i => obtain ⟨t, rfl⟩ := (show ∃ t, u = Value.int i t from r); rfl
  | str x => obtain ⟨t, rfl⟩ := (show ∃ t, u = Value.str x t from r); rfl
  | _ => cases h
theorem count_vOf {y : V} : ∀ {vs : List V} {its : List Value}, Vals vs its → vs.all flatV = true → its.countP (fun z => eqV (vOf z) y) = vs.countP fun z => eqV z y
  | _, _, .nil, _ => rfl
  | v :: vs, u :: us, .cons r rs, h => by
    rw [List.all_cons, Bool.and_eq_true] at h
    rw [List.countP_cons, List.countP_cons, count_vOf rs h.2, vOf_ok r h.1]
theorem vals_mem : ∀ {vs : List V} {its : List Value}, Vals vs its → ∀ u ∈ its, ∃ v ∈ vs, RelV v u
  | _, _, .nil, u, hu => by cases hu
  | v :: vs, x :: us, .cons r rs, u, hu => by
    rcases List.mem_cons.mp hu with rfl | hu
    · exact ⟨v, List.mem_cons_self, r⟩
    · obtain ⟨z, h1, h2⟩ := vals_mem rs u hu
      exact ⟨z, List.mem_cons_of_mem _ h1, h2⟩
section
variable {X : Cx}
theorem m_count : MtR X "list.count" (rM ⟨X.K, X.mg, X.w⟩ mCount) := by
  intro pins s σ H x xs v us Q I rx rs h
  obtain ⟨w, S, d, ds, rfl, so, r, rd, k⟩ := h
  unfold mCount at k
  split at k
  · rename_i n y
    split at k
    · rename_i zs q
      split at k
      · rename_i us' u' e1 e2
        obtain ⟨vs, hv, rv, l⟩ := so.sql q
        obtain ⟨u, rfl, ru⟩ := rd.one
        obtain ⟨h1, h2⟩ := flL_ok rv e1
        obtain ⟨h3, h4⟩ := flD_ok ru e2
        subst h1 h3
        cases r
        obtain rfl : v = .ref (w.m n) := rx
        obtain ⟨u2, rfl, ru2⟩ := rs.one
        obtain ⟨its, rv2, ⟨⟨cls, dd, data, sl⟩, n2, ho, hc, hdn, hd⟩, hlen⟩ := I.list (show SqL X.K w.H (w.m n) vs from SqL.of hv)
        simp only at hc hd
        subst hc hd
        refine call_meets PySem.F.slot_list_count ⟨_, ho, rfl⟩ PySem.F.entry_list_count (PySem.F.args_list_count_2 _ _)
          (SeqAt.list_countAt (w.m n) its.toArray n2 dd sl u2 (fun z => eqV (vOf z) u)) ⟨ho, fun y hy => ?_, ?_⟩
        · obtain ⟨v', hv', rv'⟩ := vals_mem rv2 y (by simpa using hy)
          have hfl := List.all_eq_true.mp h2 v' hv'
          have := eqAt_V (A := X.A.in1) (s := s) rv' ru2 hfl h4
          show SeqAt.EqAt _ s y u2 (eqV (vOf y) u)
          rw [vOf_ok rv' hfl]
          exact this
        · refine ⟨.int _, w.H, I.tok _, ⟨s.toks, ?_⟩, k w _ (Step.refl so) so (.int _)⟩
          show Value.int ((its.toArray.toList.countP (fun z => eqV (vOf z) u) : Nat) : Int) s.toks = _
          rw [show its.toArray.toList = its from rfl, count_vOf rv2 h2]
      · exact k.elim
    · exact k.elim
  · exact k.elim
theorem m_lindex : MtR X "list.index" (rM ⟨X.K, X.mg, X.w⟩ mLIndex) := by
  intro pins s σ H x xs v us Q I rx rs h
  obtain ⟨w, S, d, ds, rfl, so, r, rd, k⟩ := h
  unfold mLIndex at k
  split at k
  · rename_i n y
    split at k
    · rename_i zs q
      split at k
      · rename_i us' u' e1 e2
        obtain ⟨vs, hv, rv, l⟩ := so.sql q
        obtain ⟨u, rfl, ru⟩ := rd.one
        obtain ⟨h1, h2⟩ := flL_ok rv e1
        obtain ⟨h3, h4⟩ := flD_ok ru e2
        subst h1 h3
        cases r
        cases ej : vs.findIdx? (fun z => eqV z u) with
        | none => rw [ej] at k; exact k.elim
        | some j =>
          rw [ej] at k
          obtain ⟨hj, hj2, hj3⟩ := List.findIdx?_eq_some_iff_getElem.mp ej
          refine mt_index pins s σ _ _ _ v us Q I rx rs ⟨_, vs, u, j, vs[j], rfl, rfl, SqL.of hv, h4, h2, List.getElem?_eq_getElem hj, hj2, fun m z' hm hz => ?_, k w _ (Step.refl so) so (.int _)⟩
          have hml : m < vs.length := by omega
          rw [List.getElem?_eq_getElem hml] at hz
          cases hz
          have := hj3 m hm
          simpa using this
      · exact k.elim
    · exact k.elim
  · exact k.elim

/-! ### insert, dict(d) -/
theorem m_insert : MtR X "list.insert" (rM ⟨X.K, X.mg, X.w⟩ mInsert) := by
  intro pins s σ H x xs v us Q I rx rs h
  obtain ⟨w, S, d, ds, rfl, so, r, rd, k⟩ := h
  unfold mInsert at k
  split at k
  · rename_i n i y
    split at k
    · rename_i zs q
      split at k
      · rename_i hl
        obtain ⟨vs, hv, rv, l⟩ := so.sql q
        obtain ⟨u0, u, rfl, ru0, ru⟩ := rd.two
        cases r
        cases ru0
        have el := rv.length
        have r2 : Reps ⟨X.K, X.mg, X.w⟩ w (zs.take i.toNat ++ [y] ++ zs.drop i.toNat) (vs.take i.toNat ++ [u] ++ vs.drop i.toNat) := ((rv.take _).append (.cons ru .nil)).append (rv.drop _)
        obtain ⟨st, so'⟩ := Step.write so (so.lt q) (o := .lst (zs.take i.toNat ++ [y] ++ zs.drop i.toNat)) (ho := .lst (vs.take i.toNat ++ [u] ++ vs.drop i.toNat)) (.lst (by
          have h1 := hl.1
          have h2 := sizeLine_eq
          simp only [List.length_append, List.length_take, List.length_drop, List.length_cons, List.length_nil]
          omega) r2)
        have h1 := hl.1
        have h2 := sizeLine_eq
        exact mt_insert pins s σ _ _ _ v us Q I rx rs ⟨_, vs, i, u, rfl, rfl, hv, by omega, hl.2.1, hl.2.2, k _ _ st so' .non⟩
      · exact k.elim
    · exact k.elim
  · exact k.elim
theorem c_dict : CallR X (.type "dict") (rB ⟨X.K, X.mg, X.w⟩ fDict) := by
  intro pins s σ H xs us Q I r h
  obtain ⟨w, S, ds, rfl, so, rd, k⟩ := h
  unfold fDict at k
  split at k
  · rename_i n
    split at k
    · rename_i kvs q
      obtain ⟨kus, eh, l, e3, rk⟩ := so.dka q
      obtain ⟨u, rfl, ru⟩ := rd.one
      cases ru
      refine call_dictD pins s σ _ _ us Q I r ⟨_, kus, rfl, .inl eh, fun p hp => ?_⟩
      obtain ⟨st, so', rr⟩ := Step.new so hp (o := .dk kvs) (ho := .dK kus) (.dk l e3 rk)
      exact k _ _ st so' rr
    · exact k.elim
  · exact k.elim
end
end DL
/-! DM, part i: sorted(xs), xs a list of texts or a dict with texts as keys. -/
namespace DL
open PySem PySem.Spec PyProof.Rows L2
def leS (a b : Str) : Bool := !ltCps b.cps.toList a.cps.toList
theorem leS_iff {a b : Str} : leS a b = true ↔ a.cps.toList ≤ b.cps.toList := by
  unfold leS
  rw [ltCps_eq]
  simp only [Bool.not_eq_true', decide_eq_false_iff_not]
  exact Iff.rfl
theorem leS_trans (a b c : Str) (h1 : leS a b = true) (h2 : leS b c = true) : leS a c = true := leS_iff.mpr (List.le_trans (leS_iff.mp h1) (leS_iff.mp h2))
theorem leS_total (a b : Str) : (leS a b || leS b a) = true := by
  rw [Bool.or_eq_true, leS_iff, leS_iff]
  exact List.le_total _ _
theorem leS_anti {a b : Str} (h1 : leS a b = true) (h2 : leS b a = true) : a = b := by
  have e := List.le_antisymm (leS_iff.mp h1) (leS_iff.mp h2)
  obtain ⟨x⟩ := a
  obtain ⟨y⟩ := b
  exact congrArg Str.mk (Array.toList_inj.mp e)
/-- the texts in their order -/
def srtS (xs : List Str) : List Str := xs.mergeSort leS
theorem srtS_perm (xs : List Str) : (srtS xs).Perm xs := List.mergeSort_perm _ _
theorem srtS_pw (xs : List Str) : (srtS xs).Pairwise fun a b => leS a b = true := List.pairwise_mergeSort leS_trans leS_total xs
theorem rising_pw : ∀ (p : Str) (l : List Str), risingS p l = true → (p :: l).Pairwise fun a b => leS a b = true
  | p, [], _ => List.pairwise_singleton _ _
  | p, x :: r, h => by
    have h : (!ltCps x.cps.toList p.cps.toList && risingS x r) = true := h
    rw [Bool.and_eq_true] at h
    have ih := rising_pw x r h.2
    refine List.pairwise_cons.mpr ⟨fun b hb => ?_, ih⟩
    rcases List.mem_cons.mp hb with rfl | hb
    · exact h.1
    · exact leS_trans _ _ _ h.1 ((List.pairwise_cons.mp ih).1 b hb)
theorem sorted_is {xs ys : List Str} (hp : ys.Perm xs) (hs : sortedS ys = true) : ys = srtS xs := by
  have h1 : ys.Pairwise fun a b => leS a b = true := by
    cases ys with
    | nil => exact List.Pairwise.nil
    | cons y r => exact rising_pw y r hs
  exact List.Perm.eq_of_pairwise (le := fun a b => leS a b = true) (fun a b _ _ h1 h2 => leS_anti h1 h2) h1 (srtS_pw xs) (hp.trans (srtS_perm xs).symm)
def keyStrs : List Key → Option (List Str)
  | [] => some []
  | .inr x :: r => (keyStrs r).map (x :: ·)
  | _ :: _ => none
theorem keyStrs_ok : ∀ {ks : List Key} {xs : List Str}, keyStrs ks = some xs → ks = xs.map Sum.inr
  | [], xs, h => by cases h; rfl
  | .inr x :: r, xs, h => by
    unfold keyStrs at h
    cases e : keyStrs r with
    | none => rw [e] at h; cases h
    | some ys =>
      rw [e] at h
      cases h
      rw [keyStrs_ok e]
      rfl
  | .inl i :: r, xs, h => by cases h
def fSort : FB := fun ds S => match ds with
  | [.ob n] => (match S[n]? with
    | some (.lst xs) => (match optAll strOf xs with
      | some ss => if ss.length < 64 then some (.ob S.length, S ++ [.lst ((srtS ss).map .str)]) else none
      | none => none)
    | some (.dk kvs) => (match keyStrs (kvs.map (·.1)) with
      | some ss => if ss.length < 64 then some (.ob S.length, S ++ [.lst ((srtS ss).map .str)]) else none
      | none => none)
    | _ => none)
  | _ => none
section
variable {X : Cx}
theorem c_sort (hcalm : X.calm = true) : CallR X (.builtin "sorted") (rB ⟨X.K, X.mg, X.w⟩ fSort) := by
  intro pins s σ H xs us Q I r h
  obtain ⟨w, S, ds, rfl, so, rd, k⟩ := h
  unfold fSort at k
  split at k
  · rename_i n
    obtain ⟨u, rfl, ru⟩ := rd.one
    cases ru
    have fin : ∀ (ss ys : List Str) (p : Addr), ss.length < 64 → ys.Perm ss → sortedS ys = true → w.H p = none → (∀ w' v, Step w w' → SOk ⟨X.K, X.mg, X.w⟩ w' (S ++ [.lst ((srtS ss).map .str)]) → Rep ⟨X.K, X.mg, X.w⟩ w' (.ob S.length) v → Q v w'.H) → Q (.ref p) (upd w.H p (.lst (ys.map V.str))) := fun ss ys p hl h1 h2 hp k => by
      rw [sorted_is h1 h2]
      obtain ⟨st, so', rr⟩ := Step.new so hp (o := .lst ((srtS ss).map D.str)) (ho := .lst ((srtS ss).map V.str)) (.lst (by
        have h1 := sizeLine_eq
        have h2 := (srtS_perm ss).length_eq
        rw [List.length_map]
        omega) (Reps.of_strs _))
      exact k _ _ st so' rr
    split at k
    · rename_i zs q
      split at k
      · rename_i ss e
        split at k
        · rename_i hl
          obtain ⟨vs, hv, rv, l⟩ := so.sql q
          have e1 := strOf_ok e
          subst e1
          have e2 := rv.strs
          subst e2
          exact cr_sortedS pins s σ _ _ us Q I r ⟨_, ss, rfl, SqL.of hv, hl, fun ys p h1 h2 hp => fin ss ys p hl h1 h2 hp k⟩
        · exact k.elim
      · exact k.elim
    · rename_i kvs q
      split at k
      · rename_i ss e
        split at k
        · rename_i hl
          obtain ⟨kus, eh, l, e3, rk⟩ := so.dka q
          have e4 := keyStrs_ok e
          rw [e3] at e4
          exact call_sortedD hcalm pins s σ _ _ us Q I r ⟨_, kus, ss, rfl, .inl eh, e4, hl, fun ys p h1 h2 hp => fin ss ys p hl h1 h2 hp k⟩
        · exact k.elim
      · exact k.elim
    · exact k.elim
  · exact k.elim
end
end DL
/-! DL, part n: from the syntax to its meaning, each step with its proof. -/
namespace DL
open PySem PySem.Spec PyProof.Rows L2

/-- what a module's name holds -/
inductive GK where
  | fn (id ar : Nat)
  | con (d : D)
  | cls (up : List Str) (plain : Bool)
  | xcl (up : List Str) (fl : Str)
  | obj (i : ObjI)
abbrev GEnv := List (Str × GK)
/-- the own classes of exceptions -/
def upOf (G : GEnv) : Ups := fun x => match G.lookup x with
  | some (.cls u _) => some u
  | some (.xcl u _) => some u
  | _ => none
/-- the own classes of objects -/
def objOf (G : GEnv) : Objs := fun x => match G.lookup x with
  | some (.obj i) => some i
  | _ => none
/-- what an exception's class keeps -/
def xiOf (G : GEnv) : Xis := fun x => match G.lookup x with
  | some (.xcl _ f) => some f
  | _ => none
/-- what a class without an __init__ of its own stands on -/
def veMro : List Value := [.type "ValueError", .type "Exception", .type "BaseException", .type "object"]
/-- where one stands: the scope, the names by slots, which names may be stored -/
structure Ctx where
  sc : Scope
  N : List Str
  ow : Str → Bool

inductive BK where
  | repr | len | all | any | sum | max | min | tuple | list | int | str | abs | isinstance | range | zip | enumerate | sorted | dict
  deriving DecidableEq
def bkTab : List (Str × BK) := [("repr", .repr), ("len", .len), ("all", .all), ("any", .any), ("sum", .sum), ("max", .max), ("min", .min), ("tuple", .tuple), ("list", .list), ("int", .int), ("str", .str), ("abs", .abs), ("isinstance", .isinstance),
  ("range", .range), ("zip", .zip), ("enumerate", .enumerate), ("sorted", .sorted), ("dict", .dict)]
def BK.val : BK → Value
  | .repr => .builtin "repr" | .len => .builtin "len" | .all => .builtin "all" | .any => .builtin "any" | .sum => .builtin "sum" | .max => .builtin "max" | .min => .builtin "min" | .tuple => .type "tuple" | .list => .type "list"
  | .int => .type "int" | .str => .type "str" | .abs => .builtin "abs" | .isinstance => .builtin "isinstance" | .range => .type "range" | .zip => .type "zip" | .enumerate => .type "enumerate" | .sorted => .builtin "sorted" | .dict => .type "dict"
/-- the built-in types by name -/
def tyTab : List (Str × String) := [("int", "int"), ("str", "str"), ("bool", "bool"), ("tuple", "tuple"), ("list", "list"), ("dict", "dict"), ("ValueError", "ValueError")]
/-- .. of plain things -/
def plainTys : List Str := ["int", "str", "bool", "tuple", "list", "dict"]
/-- names that the module must leave to the built-ins -/
def freeN : List Str := ["repr", "len", "all", "any", "sum", "max", "min", "tuple", "list", "int", "str", "abs", "isinstance", "range", "zip", "enumerate", "bool", "dict", "ValueError", "sorted"]
theorem bkTab_ok : ∀ p ∈ bkTab, bootBuiltins p.1 = some p.2.val ∧ p.1 ∈ freeN ∧ p.1 ≠ "__name__" ∧ (p.1 == ("__debug__" : Str)) = false := by decide +kernel
theorem tyTab_ok : ∀ p ∈ tyTab, bootBuiltins p.1 = some (.type p.2) ∧ p.1 ∈ freeN ∧ p.1 ≠ "__name__" ∧ (p.1 == ("__debug__" : Str)) = false := by decide +kernel
theorem mem_of_look {α : Type} : ∀ {l : List (Str × α)} {x : Str} {a : α}, l.lookup x = some a → (x, a) ∈ l := fun h => PySem.mem_of_lookup h

structure FnAt (X : Cx) (k : Nat) (Φ : PhT) (x : Str) (id ar : Nat) : Prop where
  ex : ∃ (a : Addr) (fd : FuncData) (ps : List Str), X.mg x = some (.ref a) ∧ PySem.W.keepIn X.K (.ref a) = true ∧ Binds X.K fd ps [] ∧ FnG X.prog X.w X.K X.mg X.base (L2.CX X.prog X.w) k a fd ps (spD ⟨X.K, X.mg, X.w⟩ ar (Φ id))
structure MkAt (X : Cx) (k : Nat) (Φ : PhT) (x : Str) (id ar : Nat) : Prop where
  ex : ∃ (C f : Addr) (fd : FuncData) (ps : List Str), X.mg x = some (.ref C) ∧ Mk X.K C f ∧ Binds X.K fd ps [] ∧ FnG X.prog X.w X.K X.mg X.base (L2.CX X.prog X.w) k f fd ps (spD ⟨X.K, X.mg, X.w⟩ ar (Φ id))
structure BmAt (X : Cx) (k : Nat) (Φ : PhT) (x m : Str) (id ar : Nat) : Prop where
  ex : ∃ (B f : Addr) (fd : FuncData) (ps : List Str), X.mg x = some (.ref B) ∧ PySem.W.specialIn X.K (.ref B) "__getattribute__" = some (some (.builtin "type.__getattribute__")) ∧ PySem.W.readsIn X.K B (.type "type") = true ∧ PySem.W.findCls X.K (.ref B) (.type "type") m = some (.val (.ref f)) ∧
    PySem.W.keepIn X.K (.ref f) = true ∧ Binds X.K fd ps [] ∧ FnG X.prog X.w X.K X.mg X.base (L2.CX X.prog X.w) k f fd ps (spD ⟨X.K, X.mg, X.w⟩ ar (Φ id))
structure Amb (G : GEnv) (k : Nat) (Φ : PhT) (c : Ctx) (X : Cx) : Prop where
  sc : X.env.scope = c.sc
  N : X.N = c.N
  nd : X.N.Nodup
  calm : X.calm = true
  room : Room (k + 1) X.A
  k1 : 1 ≤ k
  gd : X.A.guards = some []
  kind : X.env.scope.kind = .function
  po : PassesOwn (model X.prog X.w) X.A X.env X.xe
  ow : ∀ y, c.ow y = true → X.fn y = true
  fn : ∀ x id ar, G.lookup x = some (.fn id ar) → FnAt X k Φ x id ar
  con : ∀ x d, G.lookup x = some (.con d) → ∃ v u, X.mg x = some u ∧ RelV v u ∧ ∀ w, Rep ⟨X.K, X.mg, X.w⟩ w d v
  free : ∀ x ∈ freeN, X.mg x = none
  cls : ClsR X.K X.mg (upOf G)
  rs : ∀ x u C, G.lookup x = some (.cls u true) → X.mg x = some (.ref C) → PySem.W.excIn X.K C veMro "ValueError.__new__" = true
  xi : ∀ x u f, G.lookup x = some (.xcl u f) → XI X.prog X.w X.K X.mg X.base x f
  ob : ObjR X.K X.mg (objOf G)
  mkr : ∀ x i id ar, objOf G x = some i → i.ini = some (id, ar) → MkAt X k Φ x id ar
  bm : ∀ x i m p, objOf G x = some i → i.bs.lookup m = some p → BmAt X k Φ x m p.1 p.2
  me : ∀ m C sp, MethR ⟨X.K, X.mg, X.w⟩ (objOf G) m Φ C sp → MethOk X k m C sp
theorem Amb.hu {G : GEnv} {k : Nat} {Φ : PhT} {c : Ctx} {X : Cx} (A : Amb G k Φ c X) : X.A.units + 200 < cLine := by
  have := A.room.un
  omega

theorem Amb.rm {G : GEnv} {k : Nat} {Φ : PhT} {c : Ctx} {X : Cx} (A : Amb G k Φ c X) : Room k X.A := ⟨A.room.hd, by have := A.room.dp; omega, by have := A.room.un; omega⟩
theorem Amb.rm2 {G : GEnv} {k : Nat} {Φ : PhT} {c : Ctx} {X : Cx} (A : Amb G k Φ c X) : Room 2 X.A := ⟨A.room.hd, by have := A.room.dp; have := A.k1; omega, by have := A.room.un; have := A.k1; omega⟩
theorem Amb.xiR {G : GEnv} {k : Nat} {Φ : PhT} {c : Ctx} {X : Cx} (A : Amb G k Φ c X) : ∀ x f, xiOf G x = some f → XI X.prog X.w X.K X.mg X.base x f := fun x f h => by
  unfold xiOf at h
  split at h
  · rename_i u f' q
    cases h
    exact A.xi x u f q
  · cases h
theorem ObjR.none {K : PySem.W.Frag} {mg : Str → Option Value} : ObjR K mg (fun _ => none) := ⟨fun c i h => by cases h⟩
/-- a def's own frame -/
structure AmbS (G : GEnv) (k : Nat) (Φ : PhT) (c : Ctx) (X : Cx) : Prop extends Amb G k Φ c X where
  stk : X.stack = X.env :: X.outer
  frm : X.env.frame = some X.env.locals
  ex : X.ex = []
theorem AmbS.tr {G : GEnv} {k : Nat} {Φ : PhT} {c : Ctx} {X : Cx} (B : AmbS G k Φ c X) (pn : List (Addr × Obj)) (xe : Value → Shared → Prop) (po : PassesOwn (model X.prog X.w) X.A X.env xe) : AmbS G k Φ c (X.tr pn xe) where
  sc := B.sc
  N := B.N
  nd := B.nd
  calm := B.calm
  room := B.room
  k1 := B.k1
  gd := B.gd
  kind := B.kind
  po := po
  ow := B.ow
  fn := fun x id ar h => ⟨(B.fn x id ar h).ex⟩
  con := B.con
  free := B.free
  cls := B.cls
  rs := B.rs
  xi := fun x u f h => ⟨(B.xi x u f h).ex⟩
  ob := B.ob
  mkr := fun x i id ar h1 h2 => ⟨(B.mkr x i id ar h1 h2).ex⟩
  bm := fun x i m p h1 h2 => ⟨(B.bm x i m p h1 h2).ex⟩
  me := B.me
  stk := B.stk
  frm := B.frm
  ex := B.ex
structure CE (G : GEnv) (c : Ctx) (e : Expr) where
  den : PhT → DenE
  ok : ∀ (Φ : PhT) (k : Nat) (X : Cx) (W : WX), Amb G k Φ c X → Takes X W → PE X e (tE ⟨X.K, X.mg, X.w⟩ W (den Φ))
structure CL (G : GEnv) (c : Ctx) (e : Expr) where
  den : PhT → DenA
  ok : ∀ (Φ : PhT) (k : Nat) (X : Cx) (W : WX), Amb G k Φ c X → Takes X W → PE X e (tL ⟨X.K, X.mg, X.w⟩ W (den Φ))
structure CT (G : GEnv) (c : Ctx) (e : Expr) where
  den : PhT → DenT
  ok : ∀ (Φ : PhT) (k : Nat) (X : Cx) (W : WX), Amb G k Φ c X → Takes X W → PT X e (tT ⟨X.K, X.mg, X.w⟩ W (den Φ))
structure CW (G : GEnv) (c : Ctx) (e : Expr) where
  den : PhT → DenT
  ok : ∀ (Φ : PhT) (k : Nat) (X : Cx) (W : WX), Amb G k Φ c X → Takes X W → PW X e (tT ⟨X.K, X.mg, X.w⟩ W (den Φ))
structure CA (G : GEnv) (c : Ctx) (es : List Expr) where
  den : PhT → DenA
  star : es.all (fun e => !isStar e) = true
  ok : ∀ (Φ : PhT) (k : Nat) (X : Cx) (W : WX), Amb G k Φ c X → Takes X W → PA X es (tA ⟨X.K, X.mg, X.w⟩ W (den Φ))
structure CI (G : GEnv) (c : Ctx) (tg e : Expr) where
  den : PhT → Fr → Sto → Out Src
  ok : ∀ (Φ : PhT) (k : Nat) (X : Cx) (W : WX), Amb G k Φ c X → Takes X W → PI X tg e (tI ⟨X.K, X.mg, X.w⟩ W (den Φ))
structure CG (G : GEnv) (c : Ctx) (is : List Nat) (e : Expr) where
  den : DTg
  ok : ∀ (Φ : PhT) (k : Nat) (X : Cx), Amb G k Φ c X → PG X e (tGt ⟨X.K, X.mg, X.w⟩ is den)
structure CGs (G : GEnv) (c : Ctx) (is : List Nat) (es : List Expr) where
  den : DTgs
  star : es.all (fun e => !isStar e) = true
  ok : ∀ (Φ : PhT) (k : Nat) (X : Cx), Amb G k Φ c X → PGs X es (tGts ⟨X.K, X.mg, X.w⟩ is den)
structure CS (G : GEnv) (c : Ctx) (st : Stmt) where
  den : PhT → DenS
  ok : ∀ (Φ : PhT) (k : Nat) (X : Cx) (W : WX), AmbS G k Φ c X → Takes X W → PS X st (tS ⟨X.K, X.mg, X.w⟩ W (den Φ))
structure CSs (G : GEnv) (c : Ctx) (st : List Stmt) where
  den : PhT → DenS
  ok : ∀ (Φ : PhT) (k : Nat) (X : Cx) (W : WX), AmbS G k Φ c X → Takes X W → PSs X st (tS ⟨X.K, X.mg, X.w⟩ W (den Φ))

/-! ### names -/
def ixOf : List Str → Str → Option Nat
  | [], _ => none
  | y :: ys, x => if y = x then some 0 else (ixOf ys x).map (· + 1)
theorem ixOf_ok : ∀ {N : List Str} {x : Str} {i : Nat}, ixOf N x = some i → N[i]? = some x
  | [], _, _, h => by cases h
  | y :: ys, x, i, h => by
    unfold ixOf at h
    by_cases e : y = x
    · rw [if_pos e] at h
      cases h
      rw [e]
      rfl
    · rw [if_neg e] at h
      cases q : ixOf ys x with
      | none => rw [q] at h; cases h
      | some j =>
        rw [q] at h
        cases h
        show ys[j]? = some x
        exact ixOf_ok q
def visB (sc : Scope) (x : Str) : Bool := match sc.names.lookup x with
  | some .local => true
  | some .cell => true
  | some .free => true
  | _ => false
theorem visB_ok {sc : Scope} {x : Str} (h : visB sc x = true) : Vis sc x := by
  unfold visB at h
  split at h
  · rename_i e; exact .inl e
  · rename_i e; exact .inr (.inl e)
  · rename_i e; exact .inr (.inr e)
  · cases h
def locB (sc : Scope) (x : Str) : Bool := match sc.names.lookup x with
  | some .local => true
  | some .cell => true
  | _ => false
theorem locB_ok {sc : Scope} {x : Str} (h : locB sc x = true) : Loc sc x := by
  unfold locB at h
  split at h
  · rename_i e; exact .inl e
  · rename_i e; exact .inr e
  · cases h
def isLoc (sc : Scope) (x : Str) : Bool := match sc.names.lookup x with
  | some .local => true
  | _ => false
theorem isLoc_ok {sc : Scope} {x : Str} (h : isLoc sc x = true) : sc.names.lookup x = some .local := by
  unfold isLoc at h
  split at h
  · assumption
  · cases h
def glB (sc : Scope) (x : Str) : Bool := match sc.names.lookup x with
  | some .globalImplicit => true
  | _ => false
theorem glB_ok {sc : Scope} {x : Str} (h : glB sc x = true) : sc.names.lookup x = some .globalImplicit := by
  unfold glB at h
  split at h
  · assumption
  · cases h
/-- no name with two bars ahead -/
def okN (x : Str) : Bool := x.cps[1]? != some 95
theorem okN_dbg {x : Str} (h : okN x = true) : (x == ("__debug__" : Str)) = false ∧ (x == ("__classdict__" : Str)) = false := by
  have h1 : (("__debug__" : Str)).cps[1]? = some 95 := by decide +kernel
  have h2 : (("__classdict__" : Str)).cps[1]? = some 95 := by decide +kernel
  unfold okN at h
  refine ⟨?_, ?_⟩
  · cases q : x == ("__debug__" : Str) with
    | false => rfl
    | true =>
      have e : x = ("__debug__" : Str) := by simpa using q
      rw [e, h1] at h
      cases h
  · cases q : x == ("__classdict__" : Str) with
    | false => rfl
    | true =>
      have e : x = ("__classdict__" : Str) := by simpa using q
      rw [e, h2] at h
      cases h
section
variable {G : GEnv} {c : Ctx}
theorem Amb.gl {k : Nat} {Φ : PhT} {X : Cx} (A : Amb G k Φ c X) {x : Str} (h : glB c.sc x = true) : Gl X x := by
  show X.env.scope.names.lookup x = _
  rw [A.sc]
  exact glB_ok h
theorem Amb.vis {k : Nat} {Φ : PhT} {X : Cx} (A : Amb G k Φ c X) {x : Str} (h : visB c.sc x = true) : Vis X.env.scope x := by
  rw [A.sc]
  exact visB_ok h
theorem Amb.loc {k : Nat} {Φ : PhT} {X : Cx} (A : Amb G k Φ c X) {x : Str} (h : locB c.sc x = true) : Loc X.env.scope x := by
  rw [A.sc]
  exact locB_ok h
theorem Amb.lk {k : Nat} {Φ : PhT} {X : Cx} (A : Amb G k Φ c X) {x : Str} (h : isLoc c.sc x = true) : X.env.scope.names.lookup x = some .local := by
  rw [A.sc]
  exact isLoc_ok h
theorem Amb.ix {k : Nat} {Φ : PhT} {X : Cx} (A : Amb G k Φ c X) {x : Str} {i : Nat} (h : ixOf c.N x = some i) : X.N[i]? = some x := by
  rw [A.N]
  exact ixOf_ok h
/-- a name that may be stored -/
def stB (c : Ctx) (x : Str) : Bool := locB c.sc x && (c.ow x || isLoc c.sc x)
theorem Amb.st {k : Nat} {Φ : PhT} {X : Cx} (A : Amb G k Φ c X) {x : Str} (h : stB c x = true) : Loc X.env.scope x ∧ (X.fn x = true ∨ X.env.scope.names.lookup x = some .local) := by
  unfold stB at h
  rw [Bool.and_eq_true, Bool.or_eq_true] at h
  refine ⟨A.loc h.1, ?_⟩
  rcases h.2 with q | q
  · exact .inl (A.ow _ q)
  · exact .inr (A.lk q)

/-! ### expressions -/
def sName (x : Str) (pos : Pos) : Option (CE G c (.Name x pos)) :=
  if hn : okN x = true then
    if hv : visB c.sc x = true then
      match hi : ixOf c.N x with
      | some i => some ⟨fun _ => dVar i, fun Φ k X W A tk => de_var (pe_var (A.ix hi) (A.vis hv) (okN_dbg hn).1 (okN_dbg hn).2)⟩
      | none => none
    else if hg : glB c.sc x = true then
      match hq : G.lookup x with
      | some (.con d) => some ⟨fun _ => dC d, fun Φ k X W A tk => by
          obtain ⟨v, u, h1, h2, h3⟩ := A.con x d hq
          exact de_con h3 (pe_glob (A.gl hg) h1 h2 (okN_dbg hn).1)⟩
      | some (.fn id ar) => some ⟨fun _ => dC (.gl x), fun Φ k X W A tk => by
          obtain ⟨a, fd, ps, h1, _⟩ := (A.fn x id ar hq).ex
          exact de_con (v := .ref a) (fun w => .gl h1) (pe_glob (A.gl hg) h1 rfl (okN_dbg hn).1)⟩
      | some (.cls u b) => some ⟨fun _ => dC (.gl x), fun Φ k X W A tk => by
          obtain ⟨C, F⟩ := A.cls.at_ x u (by unfold upOf; rw [hq])
          exact de_con (v := .ref C) (fun w => .gl F.gm) (pe_glob (A.gl hg) F.gm rfl (okN_dbg hn).1)⟩
      | some (.xcl u b) => some ⟨fun _ => dC (.gl x), fun Φ k X W A tk => by
          obtain ⟨C, F⟩ := A.cls.at_ x u (by unfold upOf; rw [hq])
          exact de_con (v := .ref C) (fun w => .gl F.gm) (pe_glob (A.gl hg) F.gm rfl (okN_dbg hn).1)⟩
      | some (.obj i) => some ⟨fun _ => dC (.gl x), fun Φ k X W A tk => by
          obtain ⟨C, hm, _⟩ := A.ob.at_ x i (by unfold objOf; rw [hq])
          exact de_con (v := .ref C) (fun w => .gl hm) (pe_glob (A.gl hg) hm rfl (okN_dbg hn).1)⟩
      | none => match ht : tyTab.lookup x with
        | some n => some ⟨fun _ => dC (.ty n), fun Φ k X W A tk => by
            obtain ⟨h1, h2, h3, h4⟩ := tyTab_ok _ (mem_of_look ht)
            exact de_con (v := .ty n) (fun w => .ty n) (pe_bltn (A.gl hg) (A.free x h2) h1 rfl h3 h4)⟩
        | none => none
    else none
  else none
def sConst : (v : Const) → (j : Nat) → (pos : Pos) → Option (CE G c (.Constant v j pos))
  | .int i, j, pos => some ⟨fun _ => dC (.int i), fun Φ k X W A tk => de_con (fun w => .int i) pe_int⟩
  | .bool b, j, pos => some ⟨fun _ => dC (.bl b), fun Φ k X W A tk => de_con (fun w => .bl b) pe_bl⟩
  | .none, j, pos => some ⟨fun _ => dC .non, fun Φ k X W A tk => de_con (fun w => .non) pe_non⟩
  | .str x, j, pos => some ⟨fun _ => dC (.str x), fun Φ k X W A tk => de_con (fun w => .str x) pe_str⟩
  | _, _, _ => none
/-- an operator's meaning -/
def opF : Operator → Option F2
  | .Add => some aAdd | .Sub => some aSub | .Mult => some aMul | .Mod => some aMod | .FloorDiv => some aFDiv | .Pow => some aPow | .LShift => some aShl
  | _ => none
theorem opF_ok {X : Cx} {op : Operator} {f : F2} (h : opF op = some f) : OpR X (binaryOp op) (r2 ⟨X.K, X.mg, X.w⟩ f) := by
  cases op <;> cases h
  · exact opr_add
  · exact opr_sub
  · exact opr_mul
  · exact opr_mod
  · exact opr_pow
  · exact opr_shl
  · exact opr_fdiv
def cmpF : CmpOp → F2
  | .Eq => aEq | .NotEq => aNe | .Lt => aLt | .LtE => aLe | .Gt => aGt | .GtE => aGe | .Is => aIs | .IsNot => aIsNot | .In => aIn | .NotIn => aNotIn
theorem cmpF_ok {X : Cx} (hu : X.A.units + 200 < cLine) (op : CmpOp) : OpR X (compareOp op) (r2 ⟨X.K, X.mg, X.w⟩ (cmpF op)) := by
  cases op
  · exact opr_eq hu
  · exact opr_ne hu
  · exact opr_lt
  · exact opr_le
  · exact opr_gt
  · exact opr_ge
  · exact opr_is
  · exact opr_isNot
  · exact opr_in hu
  · exact opr_notIn hu
def sBin (a : Expr) (op : Operator) (b : Expr) (pos : Pos) (ca : Option (CE G c a)) (cb : Option (CE G c b)) : Option (CE G c (.BinOp a op b pos)) :=
  match ca, cb, hf : opF op with
  | some ca, some cb, some f => some ⟨fun Φ => dOp f (ca.den Φ) (cb.den Φ), fun Φ k X W A tk => de_op (opF_ok hf) (ca.ok Φ k X W A tk) (cb.ok Φ k X W A tk)⟩
  | _, _, _ => none
def sCmp (a : Expr) (op : CmpOp) (b : Expr) (pos : Pos) (ca : Option (CE G c a)) (cb : Option (CE G c b)) : Option (CE G c (.Compare a [op] [b] pos)) :=
  match ca, cb with
  | some ca, some cb => if h : isSetE b = false then some ⟨fun Φ => dOp (cmpF op) (ca.den Φ) (cb.den Φ), fun Φ k X W A tk => de_cmp (cmpF_ok A.hu op) (ca.ok Φ k X W A tk) (cb.ok Φ k X W A tk) (behind_ok h)⟩ else none
  | _, _ => none
def sCmpT (a : Expr) (op : CmpOp) (b : Expr) (pos : Pos) (ca : Option (CE G c a)) (cb : Option (CE G c b)) : Option (CT G c (.Compare a [op] [b] pos)) :=
  match ca, cb with
  | some ca, some cb => if h : isSetE b = false then some ⟨fun Φ => dCmpT (cmpF op) (ca.den Φ) (cb.den Φ), fun Φ k X W A tk => dt_cmp (cmpF_ok A.hu op) (ca.ok Φ k X W A tk) (cb.ok Φ k X W A tk) (behind_ok h)⟩ else none
  | _, _ => none
def sChain (a : Expr) (op op' : CmpOp) (b d : Expr) (pos : Pos) (ca : Option (CE G c a)) (cb : Option (CE G c b)) (cd : Option (CE G c d)) : Option (CE G c (.Compare a [op, op'] [b, d] pos)) :=
  match ca, cb, cd with
  | some ca, some cb, some cd => if h : isSetE d = false then some ⟨fun Φ => dChain (cmpF op) (cmpF op') (ca.den Φ) (cb.den Φ) (cd.den Φ), fun Φ k X W A tk => de_chain (cmpF_ok A.hu op) (cmpF_ok A.hu op') (ca.ok Φ k X W A tk) (cb.ok Φ k X W A tk) (cd.ok Φ k X W A tk) (last_ok h)⟩ else none
  | _, _, _ => none
def sChainT (a : Expr) (op op' : CmpOp) (b d : Expr) (pos : Pos) (ca : Option (CE G c a)) (cb : Option (CE G c b)) (cd : Option (CE G c d)) : Option (CT G c (.Compare a [op, op'] [b, d] pos)) :=
  match ca, cb, cd with
  | some ca, some cb, some cd => if h : isSetE d = false then some ⟨fun Φ => dChainT (cmpF op) (cmpF op') (ca.den Φ) (cb.den Φ) (cd.den Φ), fun Φ k X W A tk => dt_chain (cmpF_ok A.hu op) (cmpF_ok A.hu op') (ca.ok Φ k X W A tk) (cb.ok Φ k X W A tk) (cd.ok Φ k X W A tk) (last_ok h)⟩ else none
  | _, _, _ => none
def dNeg (f : DenE) : DenE := fun fr S => (f fr S).bnd fun d S' => match d with
  | .int i => .ok (.int (-i)) S'
  | _ => .no
theorem de_neg {X : Cx} {W : WX} {a : Expr} {pos : Pos} {f : DenE} (ha : PE X a (tE ⟨X.K, X.mg, X.w⟩ W f)) : PE X (.UnaryOp .USub a pos) (tE ⟨X.K, X.mg, X.w⟩ W (dNeg f)) := by
  refine PE.weaken (pe_un un_neg ha) fun σ H Q h => tG_mono (lift1 h) fun x H1 q => ?_
  obtain ⟨w, S, fr, d, rfl, so, fo, r, p⟩ := q
  dsimp only at p
  split at p
  · cases r
    exact ⟨_, rfl, p w _ (Step.refl so) so (.int _)⟩
  · exact p.elim
def sUn : (op : UnaryOp) → (a : Expr) → (pos : Pos) → Option (CE G c a) → Option (CE G c (.UnaryOp op a pos))
  | .Not, a, pos, some ca => some ⟨fun Φ => dNotV (ca.den Φ), fun Φ k X W A tk => de_not (ca.ok Φ k X W A tk)⟩
  | .USub, a, pos, some ca => some ⟨fun Φ => dNeg (ca.den Φ), fun Φ k X W A tk => de_neg (ca.ok Φ k X W A tk)⟩
  | _, _, _, _ => none
/-- and, or by values -/
def sBools (rec_ : (e : Expr) → Option (CE G c e)) (pos : Pos) : (op : BoolOp) → (es : List Expr) → Option (CE G c (.BoolOp op es pos))
  | op, [a] => match rec_ a with
    | some ca => some ⟨ca.den, fun Φ k X W A tk => pe_one (ca.ok Φ k X W A tk)⟩
    | none => none
  | .And, a :: b :: r => match rec_ a, sBools rec_ pos .And (b :: r) with
    | some ca, some cb => some ⟨fun Φ => dAndV (ca.den Φ) (cb.den Φ), fun Φ k X W A tk => de_and (ca.ok Φ k X W A tk) (cb.ok Φ k X W A tk)⟩
    | _, _ => none
  | .Or, a :: b :: r => match rec_ a, sBools rec_ pos .Or (b :: r) with
    | some ca, some cb => some ⟨fun Φ => dOrV (ca.den Φ) (cb.den Φ), fun Φ k X W A tk => de_or (ca.ok Φ k X W A tk) (cb.ok Φ k X W A tk)⟩
    | _, _ => none
  | _, _ => none
def sBoolsW (rec_ : (e : Expr) → Option (CT G c e)) (pos : Pos) : (op : BoolOp) → (es : List Expr) → Option (CW G c (.BoolOp op es pos))
  | .And, [a] => match rec_ a with
    | some ca => some ⟨ca.den, fun Φ k X W A tk => pw_and1 (ca.ok Φ k X W A tk)⟩
    | none => none
  | .Or, [a] => match rec_ a with
    | some ca => some ⟨ca.den, fun Φ k X W A tk => pw_or1 (ca.ok Φ k X W A tk)⟩
    | none => none
  | .And, a :: b :: r => match rec_ a, sBoolsW rec_ pos .And (b :: r) with
    | some ca, some cb => some ⟨fun Φ => dTAnd (ca.den Φ) (cb.den Φ), fun Φ k X W A tk => dw_and (ca.ok Φ k X W A tk) (cb.ok Φ k X W A tk)⟩
    | _, _ => none
  | .Or, a :: b :: r => match rec_ a, sBoolsW rec_ pos .Or (b :: r) with
    | some ca, some cb => some ⟨fun Φ => dTOr (ca.den Φ) (cb.den Φ), fun Φ k X W A tk => dw_or (ca.ok Φ k X W A tk) (cb.ok Φ k X W A tk)⟩
    | _, _ => none
  | _, _ => none
def sArgs (rec_ : (e : Expr) → Option (CE G c e)) : (es : List Expr) → Option (CA G c es)
  | [] => some ⟨fun _ => dANil, rfl, fun Φ k X W A tk => da_nil⟩
  | e :: es => match rec_ e, sArgs rec_ es with
    | some ce, some cs => if h : isStar e = false then some ⟨fun Φ => dACons (ce.den Φ) (cs.den Φ), by rw [List.all_cons, cs.star, h]; rfl, fun Φ k X W A tk => da_cons (ce.ok Φ k X W A tk) (cs.ok Φ k X W A tk) (star_cons h)⟩ else none
    | _, _ => none
def sIf (t a b : Expr) (pos : Pos) (ct : Option (CT G c t)) (ca : Option (CE G c a)) (cb : Option (CE G c b)) : Option (CE G c (.IfExp t a b pos)) :=
  match ct, ca, cb with
  | some ct, some ca, some cb => some ⟨fun Φ => dIf (ct.den Φ) (ca.den Φ) (cb.den Φ), fun Φ k X W A tk => de_if (ct.ok Φ k X W A tk) (ca.ok Φ k X W A tk) (cb.ok Φ k X W A tk)⟩
  | _, _, _ => none
def sIx (a b : Expr) (pos : Pos) (ca : Option (CE G c a)) (cb : Option (CE G c b)) : Option (CE G c (.Subscript a b pos)) :=
  match ca, cb with
  | some ca, some cb => if h : isSlice b = false then some ⟨fun Φ => dOp aIx (ca.den Φ) (cb.den Φ), fun Φ k X W A tk => de_ix A.hu (ca.ok Φ k X W A tk) (cb.ok Φ k X W A tk) (plainIx h)⟩ else none
  | _, _ => none
structure CO (G : GEnv) (c : Ctx) (e : Option Expr) where
  den : PhT → Option DenE
  ok : ∀ (Φ : PhT) (k : Nat) (X : Cx) (W : WX), Amb G k Φ c X → Takes X W → PO X e (tO ⟨X.K, X.mg, X.w⟩ W (dPart (den Φ)))
def sPart (rec_ : (e : Expr) → Option (CE G c e)) : (e : Option Expr) → Option (CO G c e)
  | none => some ⟨fun _ => none, fun Φ k X W A tk => do_none⟩
  | some e => match rec_ e with
    | some ce => some ⟨fun Φ => some (ce.den Φ), fun Φ k X W A tk => do_some (ce.ok Φ k X W A tk)⟩
    | none => none
def sSl (e : Expr) (lo hi : Option Expr) (p2 pos : Pos) (ce : Option (CE G c e)) (cl : Option (CO G c lo)) (ch : Option (CO G c hi)) : Option (CE G c (.Subscript e (.Slice lo hi none p2) pos)) :=
  match ce, cl, ch with
  | some ce, some cl, some ch => some ⟨fun Φ => dSl (ce.den Φ) (cl.den Φ) (ch.den Φ), fun Φ k X W A tk => de_sl (ce.ok Φ k X W A tk) (cl.ok Φ k X W A tk) (ch.ok Φ k X W A tk)⟩
  | _, _, _ => none

/-! ### calls -/
def sCallFn (x : Str) (es : List Expr) (p pos : Pos) (id ar : Nat) (hq : G.lookup x = some (.fn id ar)) (hg : glB c.sc x = true) (hn : okN x = true) (cs : Option (CA G c es)) : Option (CE G c (.Call (.Name x p) es [] pos)) :=
  match es, cs with
  | [], _ => if h0 : ar = 0 then some ⟨fun Φ => dCall 0 (Φ id) dANil, fun Φ k X W A tk => by
      subst h0
      obtain ⟨a, fd, ps, h1, h2, h3, h4⟩ := (A.fn x id 0 hq).ex
      exact de_call0 h4 A.rm A.gd (A.gl hg) h1 h2 h3 tk (okN_dbg hn).1⟩ else none
  | e :: es, some cs => some ⟨fun Φ => dCall ar (Φ id) (cs.den Φ), fun Φ k X W A tk => by
      obtain ⟨a, fd, ps, h1, h2, h3, h4⟩ := (A.fn x id ar hq).ex
      have hs := cs.star
      rw [List.all_cons, Bool.and_eq_true] at hs
      exact de_call h4 A.rm A.gd (A.gl hg) h1 h2 h3 tk (cs.ok Φ k X W A tk) (okN_dbg hn).1 (star_cons (by simpa using hs.1)) (star_any hs.2)⟩
  | _, none => none
theorem Amb.blt {k : Nat} {Φ : PhT} {X : Cx} (A : Amb G k Φ c X) {x : Str} {t : BK} (h : bkTab.lookup x = some t) : X.mg x = none ∧ bootBuiltins x = some t.val ∧ x ≠ "__name__" ∧ (x == ("__debug__" : Str)) = false := by
  obtain ⟨h1, h2, h3, h4⟩ := bkTab_ok _ (mem_of_look h)
  exact ⟨A.free x h2, h1, h3, h4⟩
/-- what a place offers to a built-in function -/
structure Fine (G : GEnv) (X : Cx) : Prop where
  calm : X.calm = true
  gd : X.A.guards = some []
  hu : X.A.units + 200 < cLine
  cl : ClsR X.K X.mg (upOf G)
/-- a built-in function's call by data -/
def sB (x : Str) (e : Expr) (es : List Expr) (p pos : Pos) (t : BK) (id : String) (f : FB) (ht : bkTab.lookup x = some t) (hid : t.val = .builtin id) (hg : glB c.sc x = true) (hc : ∀ X : Cx, Fine G X → CallR X (.builtin id) (rB ⟨X.K, X.mg, X.w⟩ f))
    (cs : CA G c (e :: es)) : CE G c (.Call (.Name x p) (e :: es) [] pos) := ⟨fun Φ => dB f (cs.den Φ), fun Φ k X W A tk => by
      obtain ⟨h1, h2, h3, h4⟩ := A.blt ht
      have hs := cs.star
      rw [List.all_cons, Bool.and_eq_true] at hs
      exact de_callB (hc X ⟨A.calm, A.gd, A.hu, A.cls⟩) (A.gl hg) h1 (by rw [h2, hid]) (cs.ok Φ k X W A tk) h3 h4 (star_cons (by simpa using hs.1)) (star_any hs.2)⟩
def sTy (x : Str) (e : Expr) (es : List Expr) (p pos : Pos) (t : BK) (id : String) (f : FB) (ht : bkTab.lookup x = some t) (hid : t.val = .type id) (hg : glB c.sc x = true) (hc : ∀ X : Cx, X.calm = true → CallR X (.type id) (rB ⟨X.K, X.mg, X.w⟩ f))
    (cs : CA G c (e :: es)) : CE G c (.Call (.Name x p) (e :: es) [] pos) := ⟨fun Φ => dB f (cs.den Φ), fun Φ k X W A tk => by
      obtain ⟨h1, h2, h3, h4⟩ := A.blt ht
      have hs := cs.star
      rw [List.all_cons, Bool.and_eq_true] at hs
      exact de_callTy (hc X A.calm) (A.gl hg) h1 (by rw [h2, hid]) (cs.ok Φ k X W A tk) h3 h4 (star_cons (by simpa using hs.1)) (star_any hs.2)⟩
def sBT (x : Str) (e : Expr) (p pos : Pos) (t : BK) (id : String) (f : FB) (ht : bkTab.lookup x = some t) (hid : t.val = .builtin id) (hg : glB c.sc x = true) (hc : ∀ X : Cx, X.calm = true → CallR X (.builtin id) (rBT ⟨X.K, X.mg, X.w⟩ f))
    (cl : CL G c e) : Option (CE G c (.Call (.Name x p) [e] [] pos)) := if h : isStar e = false then some ⟨fun Φ => dB f (cl.den Φ), fun Φ k X W A tk => by
      obtain ⟨h1, h2, h3, h4⟩ := A.blt ht
      exact de_callBT (hc X A.calm) (A.gl hg) h1 (by rw [h2, hid]) (cl.ok Φ k X W A tk) h3 h4 (star_cons h) rfl⟩ else none
def sTyT (x : Str) (e : Expr) (p pos : Pos) (t : BK) (id : String) (f : FB) (ht : bkTab.lookup x = some t) (hid : t.val = .type id) (hg : glB c.sc x = true) (hc : ∀ X : Cx, X.calm = true → CallR X (.type id) (rBT ⟨X.K, X.mg, X.w⟩ f))
    (cl : CL G c e) : Option (CE G c (.Call (.Name x p) [e] [] pos)) := if h : isStar e = false then some ⟨fun Φ => dB f (cl.den Φ), fun Φ k X W A tk => by
      obtain ⟨h1, h2, h3, h4⟩ := A.blt ht
      exact de_callTyT (hc X A.calm) (A.gl hg) h1 (by rw [h2, hid]) (cl.ok Φ k X W A tk) h3 h4 (star_cons h) rfl⟩ else none
/-- a function of one list: of a list just made, or of any -/
def sSeqB (x : Str) (e : Expr) (p pos : Pos) (t : BK) (id : String) (f : FB) (ht : bkTab.lookup x = some t) (hid : t.val = .builtin id) (hg : glB c.sc x = true) (hc : ∀ X : Cx, X.calm = true → CallR X (.builtin id) (rLst ⟨X.K, X.mg, X.w⟩ f))
    (cl : Option (CL G c e)) (cs : Option (CA G c [e])) : Option (CE G c (.Call (.Name x p) [e] [] pos)) := match cl, cs with
  | some cl, _ => sBT x e p pos t id f ht hid hg (fun X h => CallR.imp (hc X h) fun _ _ _ q => rLst_T q) cl
  | none, some cs => some (sB x e [] p pos t id (onLst f) ht hid hg (fun X h => CallR.imp (hc X h.calm) fun _ _ _ q => rLst_D q) cs)
  | none, none => none
def isPlainTy : Expr → Bool
  | .Name x _ => plainTys.contains x
  | _ => false
def sCallB (x : Str) (es : List Expr) (p pos : Pos) (t : BK) (ht : bkTab.lookup x = some t) (hg : glB c.sc x = true) (recL : (e : Expr) → Option (CL G c e)) (cs : Option (CA G c es)) : Option (CE G c (.Call (.Name x p) es [] pos)) :=
  match t, ht, es, cs with
  | .len, ht, [e], some cs => some (sB x e [] p pos _ "len" fLen ht rfl hg (fun _ _ => c_len) cs)
  | .repr, ht, [e], some cs => some (sB x e [] p pos _ "repr" fRepr ht rfl hg (fun _ h => c_repr h.hu h.gd) cs)
  | .abs, ht, [e], some cs => some (sB x e [] p pos _ "abs" fAbs ht rfl hg (fun _ _ => c_abs) cs)
  | .isinstance, ht, [e, e2], some cs => if isPlainTy e2 then some (sB x e [e2] p pos _ "isinstance" fIsi ht rfl hg (fun _ _ => c_isi) cs) else some (sB x e [e2] p pos _ "isinstance" (fIsiX (upOf G)) ht rfl hg (fun _ h => c_isiX h.cl) cs)
  | .max, ht, [e, e2], some cs => some (sB x e [e2] p pos _ "max" fMax2 ht rfl hg (fun _ h => c_max2 h.calm) cs)
  | .min, ht, [e, e2], some cs => some (sB x e [e2] p pos _ "min" fMin2 ht rfl hg (fun _ h => c_min2 h.calm) cs)
  | .int, ht, [e], some cs => some (sTy x e [] p pos _ "int" fInt ht rfl hg (fun _ _ => c_int) cs)
  | .str, ht, [e], some cs => some (sTy x e [] p pos _ "str" fStr ht rfl hg (fun _ _ => c_str) cs)
  | .all, ht, [e], cs => sSeqB x e p pos _ "all" fAll ht rfl hg (fun _ h => c_all h) (recL e) cs
  | .any, ht, [e], cs => sSeqB x e p pos _ "any" fAny ht rfl hg (fun _ h => c_any h) (recL e) cs
  | .sum, ht, [e], cs => sSeqB x e p pos _ "sum" fSum ht rfl hg (fun _ h => c_sum h) (recL e) cs
  | .max, ht, [e], cs => sSeqB x e p pos _ "max" fMax ht rfl hg (fun _ h => c_max h) (recL e) cs
  | .min, ht, [e], cs => sSeqB x e p pos _ "min" fMin ht rfl hg (fun _ h => c_min h) (recL e) cs
  | .tuple, ht, [e], cs => match recL e, cs with
    | some cl, _ => sTyT x e p pos _ "tuple" fTup ht rfl hg (fun _ _ => c_tupT) cl
    | none, some cs => some (sTy x e [] p pos _ "tuple" (onSeq fTup) ht rfl hg (fun _ _ => c_tup) cs)
    | none, none => none
  | .sorted, ht, [e], some cs => some (sB x e [] p pos _ "sorted" fSort ht rfl hg (fun _ h => c_sort h.calm) cs)
  | .dict, ht, [e], some cs => some (sTy x e [] p pos _ "dict" fDict ht rfl hg (fun _ _ => c_dict) cs)
  | .list, ht, [e], some cs => some (sTy x e [] p pos _ "list" (onSeq fList) ht rfl hg (fun _ _ => c_list) cs)
  | _, _, _, _ => none
/-- an exception made -/
def sMkX (x : Str) (es : List Expr) (p pos : Pos) (u : List Str) (b : Bool) (hq : G.lookup x = some (.cls u b)) (hg : glB c.sc x = true) (hn : okN x = true) (cs : Option (CA G c es)) : Option (CE G c (.Call (.Name x p) es [] pos)) :=
  match es, cs, b, hq with
  | e :: es, some cs, true, hq => some ⟨fun Φ => dXo0 x (cs.den Φ), fun Φ k X W A tk => by
      obtain ⟨C, F⟩ := A.cls.at_ x u (by unfold upOf; rw [hq])
      have hs := cs.star
      rw [List.all_cons, Bool.and_eq_true] at hs
      exact de_xo0 F (A.rs x u C hq F.gm) (A.gl hg) (okN_dbg hn).1 (cs.ok Φ k X W A tk) (star_cons (by simpa using hs.1)) (star_any hs.2)⟩
  | _, _, _, _ => none
def sMkX1 (x : Str) (es : List Expr) (p pos : Pos) (u : List Str) (f : Str) (hq : G.lookup x = some (.xcl u f)) (hg : glB c.sc x = true) (hn : okN x = true) (cs : Option (CA G c es)) : Option (CE G c (.Call (.Name x p) es [] pos)) :=
  match es, cs with
  | e :: es, some cs => some ⟨fun Φ => dXo1 x f (cs.den Φ), fun Φ k X W A tk => by
      have hs := cs.star
      rw [List.all_cons, Bool.and_eq_true] at hs
      exact de_xo1 (A.xi x u f hq) A.rm2 (A.gl hg) (okN_dbg hn).1 (cs.ok Φ k X W A tk) (star_cons (by simpa using hs.1)) (star_any hs.2)⟩
  | _, _ => none
/-- an object made -/
def sMkO (x : Str) (es : List Expr) (p pos : Pos) (i : ObjI) (hq : G.lookup x = some (.obj i)) (hg : glB c.sc x = true) (hn : okN x = true) (cs : Option (CA G c es)) : Option (CE G c (.Call (.Name x p) es [] pos)) :=
  match hi : i.ini, es, cs with
  | some (id, ar), [], _ => some ⟨fun Φ => dMake x ar (Φ id) dANil, fun Φ k X W A tk => by
      obtain ⟨C, f, fd, ps, h1, h2, h3, h4⟩ := (A.mkr x i id ar (by unfold objOf; rw [hq]) hi).ex
      exact de_make0 h2 h4 A.room A.gd (A.gl hg) h1 h3 tk (okN_dbg hn).1⟩
  | some (id, ar), e :: es, some cs => some ⟨fun Φ => dMake x ar (Φ id) (cs.den Φ), fun Φ k X W A tk => by
      obtain ⟨C, f, fd, ps, h1, h2, h3, h4⟩ := (A.mkr x i id ar (by unfold objOf; rw [hq]) hi).ex
      have hs := cs.star
      rw [List.all_cons, Bool.and_eq_true] at hs
      exact de_make h2 h4 A.room A.gd (A.gl hg) h1 h3 tk (cs.ok Φ k X W A tk) (okN_dbg hn).1 (star_cons (by simpa using hs.1)) (star_any hs.2)⟩
  | _, _, _ => none
/-- is there a method of that name -/
def hasM (G : GEnv) (m : Str) : Bool := G.any fun p => match p.2 with
  | .obj i => i.ms.any fun q => decide (q.1 = m)
  | _ => false
/-- o.m(..), m a method of own classes -/
def sOwnM (o : Expr) (m : Str) (apos pos : Pos) (co : CE G c o) : (es : List Expr) → Option (CA G c es) → Option (CE G c (.Call (.Attribute o m apos) es [] pos))
  | [], _ => if h : isCall0 o = false ∧ (apos.endLine == pos.line) = true then some ⟨fun Φ => dMeth (objOf G) m Φ (co.den Φ) dANil, fun Φ k X W A tk =>
      de_meth0 A.ob (A.me m) (co.ok Φ k X W A tk) A.rm A.gd tk (base_ok h.1) h.2⟩ else none
  | e :: es, some cs => if h : isCall0 o = false ∧ (apos.endLine == pos.line) = true ∧ (e :: es).length < 30 then some ⟨fun Φ => dMeth (objOf G) m Φ (co.den Φ) (cs.den Φ), fun Φ k X W A tk => by
      have hs := cs.star
      rw [List.all_cons, Bool.and_eq_true] at hs
      exact de_meth A.ob (A.me m) (co.ok Φ k X W A tk) A.rm A.gd tk (cs.ok Φ k X W A tk) (base_ok h.1) (few_ok cs.star h.2.2) h.2.1 (star_cons (by simpa using hs.1)) (star_any hs.2)⟩ else none
  | _, _ => none
/-- B.m(self, ..) -/
def sBaseM (b m : Str) (p1 p2 pos : Pos) (e : Expr) (es : List Expr) (cs : Option (CA G c (e :: es))) : Option (CE G c (.Call (.Attribute (.Name b p1) m p2) (e :: es) [] pos)) :=
  match ho : objOf G b, cs with
  | some i, some cs => match hb : i.bs.lookup m with
    | some q => if h : ((okN b = true ∧ glB c.sc b = true) ∧ (p2.endLine == pos.line) = true) ∧ (e :: es).length < 30 then some ⟨fun Φ => dCall q.2 (Φ q.1) (cs.den Φ), fun Φ k X W A tk => by
        obtain ⟨B, f, fd, ps, h1, h2, h3, h4, h5, h6, h7⟩ := (A.bm b i m q ho hb).ex
        have hs := cs.star
        have hf := few_ok (pos := pos) (env := X.env) hs h.2
        rw [List.all_cons, Bool.and_eq_true] at hs
        exact de_baseM (A.gl h.1.1.2) h1 (okN_dbg h.1.1.1).1 h2 h3 h4 h5 h7 A.rm A.gd h6 tk (cs.ok Φ k X W A tk) hf h.1.2 (star_cons (by simpa using hs.1)) (star_any hs.2)⟩ else none
    | none => none
  | _, _ => none
/-- o.f -/
def sAttr (o : Expr) (f : Str) (pos : Pos) (co : Option (CE G c o)) : Option (CE G c (.Attribute o f pos)) := match co with
  | some co => if h : isCall0 o = false then some ⟨fun Φ => dAttr (objOf G) (xiOf G) f (co.den Φ), fun Φ k X W A tk => de_attr A.ob A.xiR (co.ok Φ k X W A tk) (base_ok h)⟩ else none
  | none => none
def sCall (x : Str) (es : List Expr) (p pos : Pos) (recL : (e : Expr) → Option (CL G c e)) (cs : Option (CA G c es)) : Option (CE G c (.Call (.Name x p) es [] pos)) :=
  if hn : okN x = true then
    if hg : glB c.sc x = true then
      match hq : G.lookup x with
      | some (.fn id ar) => sCallFn x es p pos id ar hq hg hn cs
      | some (.con _) => none
      | some (.cls u b) => sMkX x es p pos u b hq hg hn cs
      | some (.xcl u f) => sMkX1 x es p pos u f hq hg hn cs
      | some (.obj i) => sMkO x es p pos i hq hg hn cs
      | none => match ht : bkTab.lookup x with
        | some t => sCallB x es p pos t ht hg recL cs
        | none => none
    else none
  else none
/-- max(xs, default=d) -/
def sMaxD (r : (e : Expr) → Option (CL G c e)) (rE : (e : Expr) → Option (CE G c e)) : (x : Str) → (p : Pos) → (e : Expr) → (nm : Option Str) → (k : Expr) → (kpos pos : Pos) → Option (CE G c (.Call (.Name x p) [e] [⟨nm, k, kpos⟩] pos))
  | x, p, e, some nm, k, kpos, pos => if h : ((x = "max" ∧ nm = "default") ∧ glB c.sc x = true) ∧ isStar e = false then match r e, rE k with
    | some cl, some ck => some ⟨fun Φ => dMaxD (cl.den Φ) (ck.den Φ), fun Φ k X W A tk => by
        obtain ⟨⟨⟨rfl, rfl⟩, hg⟩, hs⟩ := h
        exact de_maxD A.calm (A.gl hg) (A.free "max" (by decide +kernel)) (cl.ok Φ k X W A tk) (ck.ok Φ k X W A tk) (star_cons hs)⟩
    | _, _ => none
    else none
  | _, _, _, none, _, _, _ => none
end
end DL
/-! DL, part o: displays of dicts; the compiler goes on. -/
namespace DL
open PySem PySem.Spec PyProof.Rows L2

/-! ### dict displays -/
def evP : List (DenE × DenE) → Fr → Sto → Out (List (D × D))
  | [], _, S => .ok [] S
  | p :: r, fr, S => (p.1 fr S).bnd fun x S1 => (p.2 fr S1).bnd fun y S2 => (evP r fr S2).bnd fun l S3 => .ok ((x, y) :: l) S3
def keysD : List (D × D) → Option (List (Key × D))
  | [] => some []
  | p :: r => match keyD p.1, keysD r with
    | some k, some l => some ((k, p.2) :: l)
    | _, _ => none
def mergeD (kvs more : List (Key × D)) : List (Key × D) := more.foldl (fun acc kv => putD acc kv.1 kv.2) kvs
def dDict (ps : List (DenE × DenE)) : DenE := fun fr S => (evP ps fr S).bnd fun l S' => match keysD l with
  | some kvs => if kvs.length ≤ 15 then .ok (.ob S'.length) (S' ++ [.dk (mergeD [] kvs)]) else .no
  | none => .no
def RPs (g : Gnd) (w : Wd) (l : List (D × D)) (vs : List (V × V)) : Prop := Reps g w (l.map (·.1)) (vs.map (·.1)) ∧ Reps g w (l.map (·.2)) (vs.map (·.2))
theorem lift_pairs {g : Gnd} {W : WX} {σ : L2.St} : ∀ (ps : List (DenE × DenE)) (H : Hp) {Q : List (V × V) → Hp → Prop}, tG g W (RPs g) (evP ps) σ H Q → tPairs (ps.map fun p => (tE g W p.1, tE g W p.2)) σ H Q
  | [], H, Q, h => by
    obtain ⟨w, S, fr, rfl, so, fo, p⟩ := h
    exact p w [] (Step.refl so) so ⟨.nil, .nil⟩
  | p :: r, H, Q, h => by
    show tE g W p.1 σ H fun x H1 => tE g W p.2 σ H1 fun y H2 => tPairs (r.map fun p => (tE g W p.1, tE g W p.2)) σ H2 fun ps H3 => Q ((x, y) :: ps) H3
    refine tG_mono (lift2 (R1 := Rep g) (R2 := Rep g) (R := RPs g) (k := fun x y fr S2 => (evP r fr S2).bnd fun l S3 => .ok ((x, y) :: l) S3) (fun _ _ _ _ s r => rmono s r) h) fun x H1 h1 => tG_mono h1 fun y H2 h2 => lift_pairs r H2 ?_
    refine tG_mono (next1 (R1 := fun w (p : D × D) (q : V × V) => Rep g w p.1 q.1 ∧ Rep g w p.2 q.2) (R2 := RPs g) (R := RPs g) (k := fun a l fr S => .ok ((a.1, a.2) :: l) S) (x := (x, y)) (fun _ _ _ _ s r => ⟨rmono s r.1, rmono s r.2⟩) h2) fun l H3 h3 => ?_
    obtain ⟨w, S, fr, q, rfl, so, fo, ⟨⟨rx, ry⟩, rl⟩, p⟩ := h3
    exact p w _ (Step.refl so) so ⟨.cons rx rl.1, .cons ry rl.2⟩
theorem keysD_ok {g : Gnd} {w : Wd} : ∀ {l : List (D × D)} {vs : List (V × V)} {kvs : List (Key × D)}, RPs g w l vs → keysD l = some kvs →
    ∃ kus : List (Key × V), vs = kus.map (fun kv => (kV kv.1, kv.2)) ∧ kvs.map (·.1) = kus.map (·.1) ∧ Reps g w (kvs.map (·.2)) (kus.map (·.2))
  | [], vs, kvs, r, e => by
    cases e
    cases vs with
    | nil => exact ⟨[], rfl, rfl, .nil⟩
    | cons a b => cases r.1
  | p :: l, vs, kvs, r, e => by
    cases vs with
    | nil => cases r.1
    | cons a b =>
      unfold keysD at e
      split at e
      · rename_i k l' ek el
        cases e
        cases r.1 with
        | cons r1 r2 =>
          cases r.2 with
          | cons r3 r4 =>
            obtain ⟨kus, e1, e2, e3⟩ := keysD_ok ⟨r2, r4⟩ el
            refine ⟨(k, a.2) :: kus, ?_, ?_, .cons r3 e3⟩
            · show a :: b = (kV k, a.2) :: _
              rw [← e1, ← keyD_ok r1 ek]
            · show k :: l'.map (·.1) = k :: kus.map (·.1)
              rw [e2]
      · cases e
theorem mergeD_ok {g : Gnd} {w : Wd} : ∀ {more : List (Key × D)} {moreV : List (Key × V)} {kvs : List (Key × D)} {kus : List (Key × V)}, more.map (·.1) = moreV.map (·.1) → Reps g w (more.map (·.2)) (moreV.map (·.2)) →
    kvs.map (·.1) = kus.map (·.1) → Reps g w (kvs.map (·.2)) (kus.map (·.2)) → (mergeD kvs more).map (·.1) = (mergeK kus moreV).map (·.1) ∧ Reps g w ((mergeD kvs more).map (·.2)) ((mergeK kus moreV).map (·.2))
  | [], [], _, _, _, _, e, r => ⟨e, r⟩
  | [], _ :: _, _, _, q, _, _, _ => by cases q
  | _ :: _, [], _, _, q, _, _, _ => by cases q
  | p :: more, q :: moreV, kvs, kus, e1, r1, e, r => by
    cases r1 with
    | cons rx r2 =>
      have h1 : p.1 = q.1 := (List.cons.inj e1).1
      obtain ⟨h2, h3, _⟩ := putD_ok (k := p.1) rx e r
      have := mergeD_ok (List.cons.inj e1).2 r2 h2 h3
      rw [h1] at this
      show (mergeD (putD kvs p.1 p.2) more).map (·.1) = (mergeK (putK kus q.1 q.2) moreV).map (·.1) ∧ Reps g w ((mergeD (putD kvs p.1 p.2) more).map (·.2)) ((mergeK (putK kus q.1 q.2) moreV).map (·.2))
      rw [h1]
      exact this
theorem len_of_map {α β γ : Type} {f : α → γ} {h : β → γ} {l : List α} {l' : List β} (e : l.map f = l'.map h) : l.length = l'.length := by
  have := congrArg List.length e
  simpa using this
theorem de_dict {X : Cx} {W : WX} {pos : Pos} {keys : List (Option Expr)} {values : List Expr} {ps : List (DenE × DenE)} (h : PPs X pos keys values (ps.map fun p => (tE ⟨X.K, X.mg, X.w⟩ W p.1, tE ⟨X.K, X.mg, X.w⟩ W p.2)))
    (hall : keys.all (·.isSome) = true) (hl : keys.length = values.length) (h0 : keys ≠ []) (h15 : keys.length ≤ 15) : PE X (.Dict keys values pos) (tE ⟨X.K, X.mg, X.w⟩ W (dDict ps)) := by
  refine PE.weaken (pe_disp h hall hl h0 h15) fun σ H Q q p hp => ?_
  obtain ⟨w, S, fr, rfl, so, fo, p0⟩ := q
  obtain ⟨st, so1, hn⟩ := Step.put so hp (.dK [])
  refine lift_pairs ps _ ⟨w.put p (.dK []), S, fr, rfl, so1, fo.mono st.toMono, ?_⟩
  have p0 : Post _ w (Rep _) ((evP ps fr S).bnd fun l S' => match keysD l with
    | some kvs => if kvs.length ≤ 15 then .ok (.ob S'.length) (S' ++ [.dk (mergeD [] kvs)]) else .no
    | none => .no) Q (fun c d H' => W c d σ H') := p0
  cases e : evP ps fr S with
  | no => rw [e] at p0; exact p0
  | ex x S1 =>
    rw [e] at p0
    exact fun w' c dx s' so' rx => p0 w' c dx (st.trans s') so' rx
  | ok l S1 =>
    rw [e] at p0
    intro w1 vs st1 so2 r
    obtain ⟨hu, hne⟩ := st1.untracked (p := p) (o := .dK []) upd_same hn
    refine ⟨hu, ?_⟩
    dsimp only [Out.bnd] at p0
    split at p0
    · rename_i kvs ek
      split at p0
      · rename_i h15'
        obtain ⟨kus, e1, e2, r2⟩ := keysD_ok r ek
        refine ⟨kus, e1, by rw [← len_of_map e2]; exact h15', ?_⟩
        have hk : ∀ b, b ≠ p → (upd w1.H p (.dK (mergeK [] kus))) b = w1.H b := fun b e => upd_ne e
        have mo : Mono w1 (w1.put p (.dK (mergeK [] kus))) := by
          refine ⟨Nat.le_refl _, fun _ _ => rfl, fun a xs e => ?_, fun a ob u e => ?_, fun a us e => ?_⟩
          · show upd w1.H p (.dK (mergeK [] kus)) a = _
            rw [hk a (ne_of e hu (by intro z; cases z))]
            exact e
          · show upd w1.H p (.dK (mergeK [] kus)) a = _
            rw [hk a (ne_of e hu (by intro z; cases z))]
            exact e
          · show upd w1.H p (.dK (mergeK [] kus)) a = _
            rw [hk a (ne_of e hu (by intro z; cases z))]
            exact e
        have so3 : SOk _ (w1.put p (.dK (mergeK [] kus))) S1 := so2.mono mo rfl fun i hi => hk _ (hne i hi)
        obtain ⟨m1, m2⟩ := mergeD_ok (kvs := []) (kus := []) e2 r2 rfl .nil
        have hlen : (mergeD [] kvs).length ≤ sizeLine := by
          have h1 := length_mergeK kus []
          have h2 := len_of_map m1
          have h3 := len_of_map e2
          rw [List.length_nil] at h1
          rw [sizeLine_eq]
          omega
        obtain ⟨so4, mo4, rr⟩ := Step.adoptO (p := p) (ob := .dk (mergeD [] kvs)) so3 (show upd w1.H p (.dK (mergeK [] kus)) p = _ from upd_same) hne (.dk hlen m1 (Reps.mono mo _ _ m2))
        have st13 := st.trans st1
        refine p0 _ _ ⟨(st13.toMono.trans mo).trans mo4, fun b o hb hx => ?_, fun i h1 h2 => ?_, fun i hi => so4.al i hi⟩ so4 rr
        · show upd w1.H p (.dK (mergeK [] kus)) b = _
          rw [upd_ne (ne_of_none hb hp)]
          exact st13.kp b o hb hx
        · have h2 : i < w1.n + 1 := h2
          by_cases e : i = w1.n
          · show w.H (if i = w1.n then p else w1.m i) = none
            rw [if_pos e]
            exact hp
          · show w.H (if i = w1.n then p else w1.m i) = none
            rw [if_neg e]
            exact st13.fr i h1 (by omega)
      · exact p0.elim
    · exact p0.elim
theorem de_dict0 {X : Cx} {W : WX} {pos : Pos} : PE X (.Dict [] [] pos) (tE ⟨X.K, X.mg, X.w⟩ W (dDict [])) := by
  refine PE.weaken pe_dnewK fun σ H Q q p hp => ?_
  obtain ⟨w, S, fr, rfl, so, fo, p0⟩ := q
  obtain ⟨st, so1, rr⟩ := Step.new so hp (o := .dk []) (ho := .dK []) (.dk (Nat.zero_le _) rfl .nil)
  exact p0 _ _ st so1 rr
end DL
/-! DM, part g: d.update(e), e another dict. -/
namespace DL
open PySem PySem.Spec PyProof.Rows L2
section
variable {X : Cx} {pins : List (Addr × Obj)} {σ : L2.St} {H : Hp} {s : Shared} {A : Around} {E : Value → Shared → Prop}
theorem d_update {a o : Addr} {kvs more : List (Key × V)} {Q : Value → Shared → Prop} (I : Inv X pins σ H s) (e : H a = some (.dK kvs)) (e2 : H o = some (.dK more)) (hne : a ≠ o) (hl : kvs.length + more.length ≤ sizeLine)
    (h : ∀ s', Inv X pins σ (upd H a (.dK (mergeK kvs more))) s' → Q .none s') : wpAny (model X.prog X.w) A (call (.builtin "dict.update") [.ref a, .ref o]) Q E s := by
  obtain ⟨z, hd, vs, rel, dd⟩ := dk_of I.hok e
  obtain ⟨z2, hd2, vs2, rel2, dd2⟩ := dk_of I.hok e2
  refine call_meetsIn PySem.F.slot_dict_update dd.typeIs PySem.F.entry_dict_update (PySem.F.args_dict_update_2 _ _) (meets_dict_update (mixKind X.prog X.w) a o hne hd2)
    ⟨vs, vs2, dd, dd2, by rw [← rel.length, ← rel2.length]; exact hl, fun h' dd' _ hs => h _ ?_⟩
  have he : ∃ q, h'.get? a = some q := let ⟨q, _, _, hq, _⟩ := dd'; ⟨q, hq⟩
  exact d_write (t' := s.toks) I (by rw [e]; exact True.intro) hs he (dk_new (Nat.le_trans (length_mergeK more kvs) hl) hd (KV.merge rel2 rel) dd')
end
def mUpdate : FM := fun d ds S => match d, ds with
  | .ob n, [.ob m] => match S[n]?, S[m]? with
    | some (.dk kvs), some (.dk more) => if n ≠ m ∧ kvs.length + more.length ≤ 100000 then some (.non, S.set n (.dk (mergeD kvs more))) else none
    | _, _ => none
  | _, _ => none
theorem m_update {X : Cx} : MtR X "dict.update" (rM ⟨X.K, X.mg, X.w⟩ mUpdate) := by
  intro pins s σ H x xs v us Q I rx rs h
  obtain ⟨w, S, d, ds, rfl, so, r, rd, k⟩ := h
  unfold mUpdate at k
  split at k
  · rename_i n m
    split at k
    · rename_i kvs more q1 q2
      split at k
      · rename_i hl
        obtain ⟨kus, eh, l, e3, rk⟩ := so.dka q1
        obtain ⟨mus, eh2, l2, e4, rm⟩ := so.dka q2
        obtain ⟨u1, rfl, r1⟩ := rd.one
        obtain ⟨w1, rfl, q3⟩ := rs.one
        cases r
        cases r1
        obtain rfl : v = .ref (w.m n) := rx
        obtain rfl : w1 = .ref (w.m m) := q3
        obtain ⟨g1, g2⟩ := mergeD_ok e4 rm e3 rk
        have hk := len_of_map e3
        have hm := len_of_map e4
        have hsz : kus.length + mus.length ≤ sizeLine := by rw [sizeLine_eq]; omega
        have hne : w.m n ≠ w.m m := fun z => hl.1 (so.inj n m (so.lt q1) (so.lt q2) z)
        obtain ⟨st, so'⟩ := Step.write so (so.lt q1) (o := .dk (mergeD kvs more)) (ho := .dK (mergeK kus mus)) (.dk (by rw [len_of_map g1]; exact Nat.le_trans (length_mergeK mus kus) hsz) g1 g2)
        exact d_update I eh eh2 hne hsz fun s' I' => ⟨.non, _, I', rfl, k _ _ st so' .non⟩
      · exact k.elim
    · exact k.elim
  · exact k.elim
end DL
/-! DN, part g: for k in range(i, j, -1). -/
namespace DL
open PySem PySem.Spec PyProof.Rows L2
def downTo (lo : Int) (n : Nat) : List D := (List.range n).map fun i : Nat => .int (lo + (i : Int) * -1)
def dIRange3 (h : DenA) : Fr → Sto → Out Src := fun fr S => (h fr S).bnd fun ds S' => match ds with
  | [.int i, .int j, .int c] => if c = -1 ∧ -(2 ^ 62) ≤ i ∧ i < 2 ^ 62 ∧ -(2 ^ 62) ≤ j ∧ j < 2 ^ 62 ∧ i - j ≤ 16777216 then .ok ⟨downTo i (i - j).toNat, []⟩ S' else .no
  | _ => .no
section
variable {X : Cx} {W : WX} {g : Gnd} {tg : Expr}
theorem walks_down {w : Wd} {lo : Int} {n : Nat} (hl : n ≤ sizeLine) : Walks g w ⟨downTo lo n, []⟩ (Itc lo (-1) n) := by
  have hz : (downTo lo n).length = n := by unfold downTo; rw [List.length_map, List.length_range]
  refine ⟨by show (downTo lo n).length ≤ _; omega, fun w1 S1 st so ok i d e => ?_, fun w1 S1 st so ok => ?_⟩
  · have e : (downTo lo n)[i]? = some d := e
    have hi : i < n := by
      have := (List.getElem?_eq_some_iff.mp e).1
      omega
    unfold downTo at e
    rw [List.getElem?_map, List.getElem?_range hi] at e
    cases e
    refine ⟨hi, fun v H2 y => ?_⟩
    obtain ⟨rfl, rfl⟩ := y
    exact ⟨w1, rfl, Step.refl so, so, .int _⟩
  · show n ≤ (downTo lo n).length
    rw [hz]
    exact Nat.le_refl _
theorem di_range3 {a b c : Expr} {h : DenA} {p pos : Pos} (hg : Gl X "range") (hm : X.mg "range" = none) (ha : PA X [a, b, c] (tA ⟨X.K, X.mg, X.w⟩ W h)) (hs : starEach [a, b, c] X.env = (false, eval a X.env) :: starEach [b, c] X.env) (hpl : (backTo pos (starEach [b, c] X.env)).any (·.1) = false) :
    PI X tg (.Call (.Name "range" p) [a, b, c] [] pos) (tI ⟨X.K, X.mg, X.w⟩ W (dIRange3 h)) := by
  refine PI.weaken (pi_range3 hg hm ha hs hpl) fun σ H R q => tG_mono (lift1 q) fun vs H1 h1 => ?_
  obtain ⟨w, S, fr, ds, rfl, so, fo, r, p⟩ := h1
  dsimp only at p
  split at p
  · rename_i i j k
    cases r with
    | cons r1 r2 =>
      cases r2 with
      | cons r3 r4 =>
        cases r4 with
        | cons r5 r6 =>
          cases r6
          cases r1
          cases r3
          cases r5
          split at p
          · rename_i hj
            obtain ⟨rfl, h1, h2, h3, h4, h5⟩ := hj
            exact ⟨i, j, -1, _, rfl, RgC.neg h1 h2 h3 h4, p w _ (Step.refl so) so (walks_down (by rw [sizeLine_eq]; omega))⟩
          · exact p.elim
  · exact p.elim
end
end DL
/-! DN, part j: list(range(a, b)). -/
namespace DL
open PySem PySem.Spec PyProof.Rows L2
def lrK (x y : D) (_ : Fr) (S : Sto) : Out D := match x, y with
  | .int i, .int j => if -(2 ^ 62) ≤ i ∧ i < 2 ^ 62 ∧ -(2 ^ 62) ≤ j ∧ j < 2 ^ 62 ∧ j - i ≤ 100000 then .ok (.ob S.length) (S ++ [.lst (upTo i (j - i).toNat)]) else .no
  | _, _ => .no
def dLRange (f g : DenE) : DenE := fun fr S => (f fr S).bnd fun x S1 => (g fr S1).bnd fun y S2 => lrK x y fr S2
section
variable {X : Cx} {W : WX}
theorem Reps.of_rg {g : Gnd} {w : Wd} (i j : Int) : Reps g w (upTo i (j - i).toNat) (rgV i j) := by
  unfold upTo rgV
  generalize List.range (j - i).toNat = l
  induction l with
  | nil => exact .nil
  | cons a l ih => exact .cons (.int _) ih
theorem de_lrange {a b : Expr} {f g : DenE} {p p2 pos pos2 : Pos} (hc : X.calm = true) (hl : Gl X "list") (hml : X.mg "list" = none) (hg : Gl X "range") (hm : X.mg "range" = none) (ha : PE X a (tE ⟨X.K, X.mg, X.w⟩ W f)) (hb : PE X b (tE ⟨X.K, X.mg, X.w⟩ W g))
    (na : starEach [a, b] X.env = (false, eval a X.env) :: starEach [b] X.env) (nb : starEach [b] X.env = (false, eval b X.env) :: starEach [] X.env) (hp : (backTo pos2 (starEach [b] X.env)).any (·.1) = false) :
    PE X (.Call (.Name "list" p) [.Call (.Name "range" p2) [a, b] [] pos2] [] pos) (tE ⟨X.K, X.mg, X.w⟩ W (dLRange f g)) := by
  refine PE.weaken (pe_listRg hc hl hml (prg_2 hg hm ha hb na nb hp) rfl) fun σ H Q q => ?_
  refine tG_mono (lift2 (R1 := Rep _) (R2 := Rep _) (k := lrK) (fun _ _ _ _ s r => rmono s r) q) fun x H1 h1 => tG_mono h1 fun y H2 h2 => ?_
  obtain ⟨w, S, fr, ⟨dx, dy⟩, rfl, so, fo, ⟨rx, ry⟩, p⟩ := h2
  dsimp only at p rx ry
  unfold lrK at p
  split at p
  · rename_i i j
    cases rx
    cases ry
    split at p
    · rename_i h
      obtain ⟨h1, h2, h3, h4, h5⟩ := h
      refine ⟨i, j, rfl, rfl, ⟨h1, h2, h3, h4, by omega⟩, fun q hq => ?_⟩
      obtain ⟨st, so', rr⟩ := Step.new so hq (o := .lst (upTo i (j - i).toNat)) (ho := .lst (rgV i j)) (.lst (by
        unfold upTo
        rw [List.length_map, List.length_range, sizeLine_eq]
        omega) (Reps.of_rg i j))
      exact p _ _ st so' rr
    · exact p.elim
  · exact p.elim
end
end DL
/-! DN, part h: try: .. except X as e: k = e.f. -/
namespace DL
open PySem PySem.Spec PyProof.Rows L2
def dTryF (up : Ups) (xs : Xis) (y f : Str) (i j : Nat) (b : DenS) : DenS := fun fr S => match b fr S with
  | .ex e fr' S' => (match e.cls with
    | .gl c => (match up c, up y with
      | some u, some _ => if y ∈ u then (if c = y ∧ xs y = some f ∧ i < fr'.length then (match e.fs with
        | some [(g, d)] => if g = f then .ok .nx (((fr'.set i none).set j (some d)).set i none) S' else .no
        | _ => .no) else .no) else .ex e fr' S'
      | _, _ => .no)
    | _ => .no)
  | o => o
theorem ds_tryF {X : Cx} {W : WX} {up : Ups} {xs : Xis} (R : ClsR X.K X.mg up) {y n k f : Str} {C : Addr} {i j : Nat} {body : List Stmt} {b : DenS} {np pk pn pt pa pos pos' : Pos} (RX : ∀ c fl, xs c = some fl → XI X.prog X.w X.K X.mg X.base c fl) (hxy : xs y = some f) (hs : X.stack = X.env :: X.outer) (hf : X.env.frame = some X.env.locals) (hN : X.N.Nodup)
    (hi : X.N[i]? = some n) (hj : X.N[j]? = some k) (hln : X.env.kindOf n = some .local) (hlk : X.env.kindOf k = some .local) (hy : ClsF X.K X.mg y C) (hg : Gl X y) (hd : (y == ("__debug__" : Str)) = false) (hdn : (n == ("__debug__" : Str)) = false ∧ (n == ("__classdict__" : Str)) = false) (tk : Takes X W)
    (hb : ∀ (W : WX) (pn : List (Addr × Obj)) (xe : Value → Shared → Prop), Takes (X.tr pn xe) W → PassesOwn (model X.prog X.w) X.A X.env xe → PSs (X.tr pn xe) body (tS ⟨X.K, X.mg, X.w⟩ W b)) :
    PS X (.Try body [.ExceptHandler (some (.Name y np)) (some n) [.Assign [.Name k pk] (.Attribute (.Name n pn) f pt) pa] pos'] [] [] pos) (tS ⟨X.K, X.mg, X.w⟩ W (dTryF up xs y f i j b)) := by
  obtain ⟨C0, f0, fd0, ps0, hm0, T0, X0, hno0, _⟩ := (RX y f hxy).ex
  have hCC : C0 = C := by
    have z := hy.gm
    rw [hm0] at z
    cases z
    rfl
  subst hCC
  have hsu : ∀ (a : Addr) (oe : Obj) (cls : Value) (d : Option Addr) (pn' : List (Addr × Obj)), Zc cls d oe → (∃ vs, oe.data = .fields vs) →
      PSs (X.suite a ((a, oe) :: pn')) [.Assign [.Name k pk] (.Attribute (.Name n pn) f pt) pa] (fun D σ H => tXf a cls d C0 f (tVar i) σ H fun v H1 => D.nx (σ.set j (some v)) H1) := fun a oe cls d pn' hz hfl => by
    refine PSs.weaken (pss_cons (ps_set (X := X.suite a ((a, oe) :: pn')) (i := j) hN hj (.inl hlk) (pe_xf X0 hno0 hz hfl (pe_var (X := X.suite a ((a, oe) :: pn')) hi (.inl hln) hdn.1 hdn.2) rfl) (swaps_no rfl) (.inr hlk)) pss_nil) fun D σ H q => ?_
    exact q
  refine PS.weaken (ps_try_as hs hf hN hi hln ⟨hg, hd, .inl hy.gm⟩ tk hb hsu) fun D σ H q => ?_
  obtain ⟨w, S, fr, rfl, so, fo, p⟩ := q
  refine ⟨w, S, fr, rfl, so, fo, ?_⟩
  unfold dTryF at p
  cases q : b fr S with
  | no => rw [q] at p; exact p
  | ok f fr' S' => rw [q] at p; cases f <;> exact p
  | ex e fr' S' =>
    rw [q] at p
    intro w' σ' cv dx st so' fo' rx
    dsimp only at p
    split at p
    · rename_i c ec
      split at p
      · rename_i u u' e1 e2
        obtain ⟨v, r1, r2⟩ := rx.cls
        rw [ec] at r1
        cases r1 with
        | gl hm =>
          rename_i Cv
          obtain rfl : cv = .ref Cv := r2
          refine ⟨decide (y ∈ u), (R.own _ _ _ _ _ _ e1 e2 hm hy.gm).1, fun hyes a na => ?_, fun hno => ?_⟩
          · rw [if_pos (of_decide_eq_true hyes)] at p
            split at p
            · rename_i hil
              obtain ⟨rfl, _, hil⟩ := hil
              split at p
              · rename_i g d ef
                split at p
                · rename_i hgf
                  subst hgf
                  have q2 := rx.fs
                  rw [ef] at q2
                  obtain ⟨dd, us, rfl, h1, h2, h3, h4⟩ := q2
                  obtain ⟨v, rfl⟩ : ∃ v, us = [(g, v)] := by
                    cases us with
                    | nil => cases h3
                    | cons z zs =>
                      cases zs with
                      | nil =>
                        obtain ⟨z1, z2⟩ := z
                        cases h3
                        exact ⟨z2, rfl⟩
                      | cons => cases h3
                  have hcv : (Value.ref Cv : Value) = .ref C0 := by
                    have z : X.mg c = some (.ref Cv) := hm
                    rw [hy.gm] at z
                    exact (Option.some.inj z).symm
                  have rr : Rep ⟨X.K, X.mg, X.w⟩ w' d v := by
                    cases h4 with
                    | cons z _ => exact z
                  refine ⟨.ref a, ?_, rfl, hcv, dd, _, v, rfl, h1, by simp, ?_⟩
                  · exact List.getElem?_set_self (by rw [← fo'.len]; exact hil)
                  · exact p _ _ st so' (((fo'.unset i (some (.ref a))).set j rr).unset i none)
                · exact p.elim
              · exact p.elim
            · exact p.elim
          · rw [if_neg (of_decide_eq_false hno)] at p
            exact p w' σ' _ dx st so' fo' rx
      · exact p.elim
    · exact p.elim
end DL
/-! DM, part e: xs[a:c] = another list. -/
namespace DL
open PySem PySem.Spec PyProof.Rows L2
section
variable {X : Cx} {W : WX} {o e : Expr} {lo hi : Option Expr} {to : TE} {tl th : TO} {p2 pos : Pos}
abbrev TSl := V → Option Int → Option Int → V → Hp → (Hp → Prop) → Prop
def PSetSl (X : Cx) (t : TSl) : Prop :=
  ∀ (pins : List (Addr × Obj)) (s : Shared) (σ : L2.St) (H : Hp) (o v : V) (ov vl vu u : Value) (l h : Option Int) (sl : Addr) (Q : Hp → Prop), Inv X pins σ H s → RelV o ov → RelV v u → s.heap.IsSliceOf sl vl vu .none → IsPart vl l → IsPart vu h → t o l h v H Q →
    wpAny (model X.prog X.w) X.A (setItem ov (.ref sl) u) (fun _ s' => ∃ H', Inv X pins σ H' s' ∧ Q H') X.xe s
def gSubSl (to : TE) (tl th : TO) (t : TSl) : TG := fun v σ H Q => to σ H fun o H1 => tl σ H1 fun l H2 => th σ H2 fun u H3 => t o l u v H3 fun H4 => Q σ H4
theorem pg_subSl {t : TSl} (ho : PE X o to) (hl : PO X lo tl) (hu : PO X hi th) (hs : PSetSl X t) : PG X (.Subscript o (.Slice lo hi none p2) pos) (gSubSl to tl th t) := by
  refine ⟨fun pins s σ H v u Q I r h => ?_⟩
  have ha : assign (.Subscript o (.Slice lo hi none p2) pos) X.env u = (do
      let ov ← holding [u] (eval o X.env)
      let iv ← holding [u, ov] (eval (.Slice lo hi none p2) X.env)
      standAt pos
      holding [u, ov, iv] (setItem ov iv u)
      release [iv, u, ov] []) := rfl
  rw [ha]
  refine wpAny_bind (wpAny_holding (thn (ho.run pins s σ H _ I h) fun ov s1 ⟨x, H1, I1, r1, q1⟩ => ?_))
  refine wpAny_bind (wpAny_holding (wpAny_Slice (thn (hl.run pins s1 σ H1 _ I1 q1) fun vl s2 ⟨l, H2, I2, pl, q2⟩ => thn (hu.run pins s2 σ H2 _ I2 q2) fun vu s3 ⟨uu, H3, I3, pu, q3⟩ => ?_)))
  rw [evalPart_none]
  refine wpAny_pure ?_
  have I4 : Inv X pins σ H3 { s3 with heap := s3.heap.push { cls := .type "slice", data := .fields #[vl, vu, .none] } } := I3.kept (t' := s3.toks) fun b ob q => Heap.get?_push_of_some _ q
  refine wpAny_bind (wpAny_standAt (wpAny_bind (wpAny_holding (thn (hs pins _ σ H3 x v ov vl vu u l uu s3.heap.objs.size _ I4 r1 r (Heap.IsSliceOf.new ..) pl pu q3) fun _ s4 ⟨H4, I5, q4⟩ => ?_))))
  exact wpAny_release ⟨σ, H4, I5, q4⟩
def aSetSl (o : D) (l u : Option Int) (v : D) (S : Sto) : Option Sto := match o, l, u, v with
  | .ob n, some a, some c, .ob m => match S[n]?, S[m]? with
    | some (.lst xs), some (.lst ys) => if (n ≠ m ∧ 0 ≤ a) ∧ (a ≤ c ∧ c ≤ xs.length) ∧ xs.length + ys.length ≤ sizeLine then some (S.set n (.lst (xs.take a.toNat ++ ys ++ xs.drop c.toNat))) else none
    | _, _ => none
  | _, _, _, _ => none
def dSetSl (o : DenE) (lo hi : Option DenE) (e : DenE) : DenS := fun fr S => (e fr S).thn fr fun v S1 => (o fr S1).thn fr fun x S2 => (dPart lo fr S2).thn fr fun l S3 => (dPart hi fr S3).thn fr fun u S4 => match aSetSl x l u v S4 with
  | some S5 => .ok .nx fr S5
  | none => .no
def rSl4 (g : Gnd) : TSl := fun o l u v H Q => ∃ w S od vd, w.H = H ∧ SOk g w S ∧ Rep g w od o ∧ Rep g w vd v ∧ match aSetSl od l u vd S with
  | some S' => ∀ w', Step w w' → SOk g w' S' → Q w'.H
  | none => False
theorem aSetSl_inv {o v : D} {l u : Option Int} {S S' : Sto} (h : aSetSl o l u v S = some S') : ∃ (n : Nat) (a c : Int) (m : Nat) (xs ys : List D), o = .ob n ∧ l = some a ∧ u = some c ∧ v = .ob m ∧ S[n]? = some (.lst xs) ∧ S[m]? = some (.lst ys) ∧
    (n ≠ m ∧ 0 ≤ a) ∧ (a ≤ c ∧ c ≤ xs.length) ∧ xs.length + ys.length ≤ sizeLine ∧ S' = S.set n (.lst (xs.take a.toNat ++ ys ++ xs.drop c.toNat)) := by
  unfold aSetSl at h
  split at h
  · rename_i n a c m
    split at h
    · rename_i xs ys q1 q2
      split at h
      · rename_i hc
        cases h
        exact ⟨n, a, c, m, xs, ys, rfl, rfl, rfl, rfl, q1, q2, hc.1, hc.2.1, hc.2.2, rfl⟩
      · cases h
    · cases h
  · cases h
theorem setSl : PSetSl X (rSl4 ⟨X.K, X.mg, X.w⟩) := by
  intro pins s σ H o v ov vl vu u l h sl Q I ro rv hs pl pu hh
  obtain ⟨w, S, od, vd, rfl, so, r1, r2, k⟩ := hh
  cases q : aSetSl od l h vd S with
  | none => rw [q] at k; exact k.elim
  | some S' =>
    rw [q] at k
    obtain ⟨n, a, c, m, xs, ys, rfl, rfl, rfl, rfl, q1, q2, ⟨hne, h0⟩, ⟨hac, hcl⟩, hz, rfl⟩ := aSetSl_inv q
    cases r1
    cases r2
    obtain ⟨vs, hv, rv', l1⟩ := so.sql q1
    obtain ⟨us, hu, ru', l2⟩ := so.sql q2
    have e1 := rv'.length
    have e2 := ru'.length
    obtain ⟨st, so'⟩ := Step.write so (so.lt q1) (o := .lst (xs.take a.toNat ++ ys ++ xs.drop c.toNat)) (ho := .lst (vs.take a.toNat ++ us ++ vs.drop c.toNat)) (.lst (by
      rw [List.length_append, List.length_append, List.length_take, List.length_drop]
      omega) (((rv'.take _).append ru').append (rv'.drop _)))
    obtain rfl : ov = .ref (w.m n) := ro
    obtain rfl : u = .ref (w.m m) := rv
    have ra : RelV (.int a) vl := by
      cases pl with
      | int i t => exact ⟨t, rfl⟩
    have rc : RelV (.int c) vu := by
      cases pu with
      | int i t => exact ⟨t, rfl⟩
    exact set_slice I hv hu (fun e => hne (so.inj n m (so.lt q1) (so.lt q2) e)) hs ra rc h0 hac (by omega) (by omega) fun s' I' => ⟨_, I', k _ st so'⟩
theorem ds_setSl {fo fe : DenE} {fl fh : Option DenE} {tpos : Pos} (he : PE X e (tE ⟨X.K, X.mg, X.w⟩ W fe)) (ho : PE X o (tE ⟨X.K, X.mg, X.w⟩ W fo)) (hl : PO X lo (tO ⟨X.K, X.mg, X.w⟩ W (dPart fl))) (hh : PO X hi (tO ⟨X.K, X.mg, X.w⟩ W (dPart fh)))
    (hs : swapsWithSole [.Subscript o (.Slice lo hi none p2) tpos] e pos.line X.env = pure false) (hw : swappedStores [.Subscript o (.Slice lo hi none p2) tpos] e X.env = pure none)
    (h1 : (assignEach [.Subscript o (.Slice lo hi none p2) tpos] X.env).map (·.2) = [assign (.Subscript o (.Slice lo hi none p2) tpos) X.env]) : PS X (.Assign [.Subscript o (.Slice lo hi none p2) tpos] e pos) (tS ⟨X.K, X.mg, X.w⟩ W (dSetSl fo fl fh fe)) := by
  refine PS.weaken (ps_asg he (pg_subSl ho hl hh setSl) hs hw h1) fun D σ H q => liftS q fun w S fr v x so fo1 r p => ?_
  refine nextS (R1 := Rep _) (R2 := Rep _) (fun _ _ _ _ s r => rmono s r) so fo1 r p fun w2 S2 od o2 so2 fo2 r2 ro p2 => ?_
  refine nextS (R1 := fun w (p : DL.D × DL.D) (q : V × V) => Rep _ w p.1 q.1 ∧ Rep _ w p.2 q.2) (a := (v, od)) (x := (x, o2)) (R2 := fun _ a b => a = b) (fun _ _ _ _ s r => ⟨rmono s r.1, rmono s r.2⟩) so2 fo2 ⟨r2, ro⟩ p2 fun w3 S3 l l3 so3 fo3 r3 rl p3 => ?_
  refine nextS (R1 := fun w (p : DL.D × DL.D) (q : V × V) => Rep _ w p.1 q.1 ∧ Rep _ w p.2 q.2) (a := (v, od)) (x := (x, o2)) (R2 := fun _ a b => a = b) (fun _ _ _ _ s r => ⟨rmono s r.1, rmono s r.2⟩) so3 fo3 r3 p3 fun w4 S4 u u4 so4 fo4 r4 ru p4 => ?_
  subst rl ru
  refine ⟨w4, S4, od, v, rfl, so4, r4.2, r4.1, ?_⟩
  cases q : aSetSl od l u v S4 with
  | none => rw [q] at p4; exact p4.elim
  | some S5 =>
    rw [q] at p4
    exact fun w' st so' => p4 w' σ st so' (fo4.mono st.toMono)
end
end DL
/-! DL, part p: from the syntax to its meaning, the rest. -/
namespace DL
open PySem PySem.Spec PyProof.Rows L2
noncomputable section

structure Cps (G : GEnv) where
  E : (c : Ctx) → (e : Expr) → Option (CE G c e)
  L : (c : Ctx) → (e : Expr) → Option (CL G c e)
  T : (c : Ctx) → (e : Expr) → Option (CT G c e)
structure CP (G : GEnv) (c : Ctx) (keys : List (Option Expr)) (values : List Expr) where
  den : PhT → List (DenE × DenE)
  some_ : keys.all (·.isSome) = true
  len : keys.length = values.length
  ok : ∀ (Φ : PhT) (k : Nat) (X : Cx) (W : WX) (pos : Pos), Amb G k Φ c X → Takes X W → PPs X pos keys values ((den Φ).map fun p => (tE ⟨X.K, X.mg, X.w⟩ W p.1, tE ⟨X.K, X.mg, X.w⟩ W p.2))
structure CTs (G : GEnv) (c : Ctx) (es : List Expr) where
  den : PhT → DenT
  ok : ∀ (Φ : PhT) (k : Nat) (X : Cx) (W : WX), Amb G k Φ c X → Takes X W → PTs X es (tT ⟨X.K, X.mg, X.w⟩ W (den Φ))

/-- the inside of a comprehension -/
def Ctx.blk (c : Ctx) (scope : Scope) : Ctx := ⟨relS scope c.sc, c.N, fun y => scope.names.lookup y == some .cell⟩
def ownOf (N : List Str) (scope : Scope) : List (Str × Nat) := scope.names.filterMap fun p => if p.2 = .local ∨ p.2 = .cell then (ixOf N p.1).map fun i => (p.1, i) else none
theorem Amb.blk {G : GEnv} {c : Ctx} {k : Nat} {Φ : PhT} {X : Cx} (A : Amb G k Φ c X) {scope : Scope} (hk : scope.kind = .function) (s : Shared) (H : Hp) (C : Addr) (cl : List (Str × Addr)) (fp : List Addr) :
    Amb G k Φ (c.blk scope) (X.blk s H scope (compEnvC scope cl C X.env) fp) where
  sc := by
    show relS scope X.env.scope = relS scope c.sc
    rw [A.sc]
  N := A.N
  nd := A.nd
  calm := A.calm
  room := A.room
  k1 := A.k1
  gd := A.gd
  kind := hk
  po := PassesOwn.never
  ow := fun y h => h
  fn := fun x id ar h => ⟨(A.fn x id ar h).ex⟩
  con := A.con
  free := A.free
  cls := A.cls
  rs := A.rs
  xi := fun x u f h => ⟨(A.xi x u f h).ex⟩
  ob := A.ob
  mkr := fun x i id ar h1 h2 => ⟨(A.mkr x i id ar h1 h2).ex⟩
  bm := fun x i m p h1 h2 => ⟨(A.bm x i m p h1 h2).ex⟩
  me := A.me

section
variable {G : GEnv} {c : Ctx}
def sTupE (es : List Expr) (n : Nat) (pos : Pos) (cs : Option (CA G c es)) : Option (CE G c (.Tuple es n pos)) := match cs with
  | some cs => some ⟨fun Φ => dTup (cs.den Φ), fun Φ k X W A tk => de_tup (cs.ok Φ k X W A tk)⟩
  | none => none
def sLstE (es : List Expr) (pos : Pos) (cs : Option (CA G c es)) : Option (CE G c (.List es pos)) := match cs with
  | some cs => some ⟨fun Φ => dLst (cs.den Φ), fun Φ k X W A tk => de_lst (cs.ok Φ k X W A tk)⟩
  | none => none
def sLstL (es : List Expr) (pos : Pos) (cs : Option (CA G c es)) : Option (CL G c (.List es pos)) := match cs with
  | some cs => some ⟨fun Φ => dLstT (cs.den Φ), fun Φ k X W A tk => dl_lst (cs.ok Φ k X W A tk)⟩
  | none => none
def sKeep {e : Expr} (cl : Option (CL G c e)) : Option (CE G c e) := match cl with
  | some cl => some ⟨fun Φ => dKeep (cl.den Φ), fun Φ k X W A tk => de_keep (cl.ok Φ k X W A tk)⟩
  | none => none
def sPairs (rec_ : (e : Expr) → Option (CE G c e)) : (keys : List (Option Expr)) → (values : List Expr) → Option (CP G c keys values)
  | [], [] => some ⟨fun _ => [], rfl, rfl, fun _ _ _ _ _ _ _ => pps_nil⟩
  | some a :: ks, b :: vs => match rec_ a, rec_ b, sPairs rec_ ks vs with
    | some ca, some cb, some cp => some ⟨fun Φ => (ca.den Φ, cb.den Φ) :: cp.den Φ, by rw [List.all_cons, cp.some_]; rfl, by rw [List.length_cons, List.length_cons, cp.len],
        fun Φ k X W pos A tk => pps_cons (ca.ok Φ k X W A tk) (cb.ok Φ k X W A tk) (cp.ok Φ k X W pos A tk)⟩
    | _, _, _ => none
  | _, _ => none
def sDict (pos : Pos) : (keys : List (Option Expr)) → (values : List Expr) → Option (CP G c keys values) → Option (CE G c (.Dict keys values pos))
  | [], [], _ => some ⟨fun _ => dDict [], fun Φ k X W A tk => de_dict0⟩
  | a :: ks, vs, some cp => if h15 : (a :: ks).length ≤ 15 then some ⟨fun Φ => dDict (cp.den Φ), fun Φ k X W A tk => de_dict (cp.ok Φ k X W pos A tk) cp.some_ cp.len (by intro h; cases h) h15⟩ else none
  | _, _, _ => none

/-! ### targets -/
def sTgN (is : List Nat) (x : Str) (pos : Pos) : Option (CG G c is (.Name x pos)) :=
  if hs : stB c x = true then
    match hi : ixOf c.N x with
    | some i => if hm : i ∈ is then some ⟨gN i, fun Φ k X A => dg_name A.nd (A.ix hi) (A.st hs).1 (A.st hs).2 hm⟩ else none
    | none => none
  else none
def sTgs {is : List Nat} (rec_ : (e : Expr) → Option (CG G c is e)) : (es : List Expr) → Option (CGs G c is es)
  | [] => some ⟨gsNil, rfl, fun Φ k X A => dgs_nil⟩
  | e :: es => match rec_ e, sTgs rec_ es with
    | some ce, some cs => if h : isStar e = false then some ⟨gsCons ce.den cs.den, by rw [List.all_cons, cs.star, h]; rfl, fun Φ k X A => dgs_cons (ce.ok Φ k X A) (cs.ok Φ k X A) (assign_cons h)⟩ else none
    | _, _ => none
def sTg (is : List Nat) : Nat → (e : Expr) → Option (CG G c is e)
  | 0, _ => none
  | _ + 1, .Name x pos => sTgN is x pos
  | n + 1, .Tuple es m pos => match sTgs (sTg is n) es with
    | some cs => some ⟨gT es.length cs.den, fun Φ k X A => dg_tup A.calm (cs.ok Φ k X A) assign_len (assign_find cs.star)⟩
    | none => none
  | _ + 1, _ => none

/-! ### what is walked through -/
def sIterG (r : Cps G) (tg iter : Expr) : Option (CI G c tg iter) := match r.L c iter with
  | some cl => some ⟨fun Φ => dIT (cl.den Φ), fun Φ k X W A tk => di_t (cl.ok Φ k X W A tk)⟩
  | none => match r.E c iter with
    | some ce => some ⟨fun Φ => dISeq (ce.den Φ), fun Φ k X W A tk => di_seq (ce.ok Φ k X W A tk)⟩
    | none => none
theorem star1 {a : Expr} {env : Env} (h : [a].all (fun e => !isStar e) = true) : starEach [a] env = [(false, eval a env)] := by
  rw [List.all_cons, Bool.and_eq_true] at h
  exact star_cons (es := []) (by simpa using h.1)
theorem star2 {a b : Expr} {env : Env} (h : [a, b].all (fun e => !isStar e) = true) : starEach [a, b] env = [(false, eval a env), (false, eval b env)] ∧ starEach [b] env = [(false, eval b env)] := by
  rw [List.all_cons, Bool.and_eq_true] at h
  have h2 := star1 (env := env) h.2
  refine ⟨?_, h2⟩
  rw [star_cons (by simpa using h.1), h2]
def sRange (r : Cps G) (tg : Expr) (p pos : Pos) (hg : glB c.sc "range" = true) : (es : List Expr) → Option (CI G c tg (.Call (.Name "range" p) es [] pos))
  | [a] => match sArgs (r.E c) [a] with
    | some cs => some ⟨fun Φ => dIRange1 (cs.den Φ), fun Φ k X W A tk => di_range1 (A.gl hg) (A.free _ (by decide +kernel)) (cs.ok Φ k X W A tk) (star1 cs.star)⟩
    | none => none
  | [a, b] => match sArgs (r.E c) [a, b] with
    | some cs => some ⟨fun Φ => dIRange2 (cs.den Φ), fun Φ k X W A tk => di_range2 (A.gl hg) (A.free _ (by decide +kernel)) (cs.ok Φ k X W A tk) (star2 cs.star).1 (star2 cs.star).2⟩
    | none => none
  | [a, b, d] => match sArgs (r.E c) [a, b, d] with
    | some cs => some ⟨fun Φ => dIRange3 (cs.den Φ), fun Φ k X W A tk => by
        have hs := cs.star
        rw [List.all_cons, Bool.and_eq_true] at hs
        exact di_range3 (A.gl hg) (A.free _ (by decide +kernel)) (cs.ok Φ k X W A tk) (star_cons (by simpa using hs.1)) (star_any hs.2)⟩
    | none => none
  | _ => none
def sZip (r : Cps G) (p pos : Pos) (hg : glB c.sc "zip" = true) : (tg : Expr) → (es : List Expr) → Option (CI G c tg (.Call (.Name "zip" p) es [] pos))
  | .Tuple elts kk tpos, [a, b] => match sArgs (r.E c) [a, b] with
    | some cs => some ⟨fun Φ => dIZip (cs.den Φ), fun Φ k X W A tk => by
        have hs := cs.star
        rw [List.all_cons, Bool.and_eq_true] at hs
        exact di_zip (A.gl hg) (A.free _ (by decide +kernel)) (cs.ok Φ k X W A tk) (star_cons (by simpa using hs.1)) (star_any hs.2)⟩
    | none => none
  | _, _ => none
def sEnum (r : Cps G) (p pos : Pos) (hg : glB c.sc "enumerate" = true) : (tg : Expr) → (es : List Expr) → Option (CI G c tg (.Call (.Name "enumerate" p) es [] pos))
  | .Tuple elts kk tpos, [a] => match r.L c a with
    | some cl => if h : isStar a = false then some ⟨fun Φ => dIEnumT (cl.den Φ), fun Φ k X W A tk => di_enumT (A.gl hg) (A.free _ (by decide +kernel)) (cl.ok Φ k X W A tk) (star_cons (es := []) h)⟩ else none
    | none => match sArgs (r.E c) [a] with
      | some cs => some ⟨fun Φ => dIEnum (cs.den Φ), fun Φ k X W A tk => di_enum (A.gl hg) (A.free _ (by decide +kernel)) (cs.ok Φ k X W A tk) (star1 cs.star)⟩
      | none => none
  | _, _ => none
def sIter (r : Cps G) (tg : Expr) : (iter : Expr) → Option (CI G c tg iter)
  | .Call (.Name x p) es [] pos =>
    if hx : x = "range" then if hg : glB c.sc "range" = true then (by subst hx; exact sRange r tg p pos hg es) else none
    else if hx : x = "zip" then if hg : glB c.sc "zip" = true then (by subst hx; exact sZip r p pos hg tg es) else none
    else if hx : x = "enumerate" then if hg : glB c.sc "enumerate" = true then (by subst hx; exact sEnum r p pos hg tg es) else none
    else sIterG r tg _
  | iter => sIterG r tg iter

/-! ### comprehensions -/
def sTs (rec_ : (e : Expr) → Option (CT G c e)) : (es : List Expr) → Option (CTs G c es)
  | [] => some ⟨fun _ => dYes, fun Φ k X W A tk => dts_nil⟩
  | [e] => match rec_ e with
    | some ct => some ⟨ct.den, fun Φ k X W A tk => pts_one (ct.ok Φ k X W A tk)⟩
    | none => none
  | _ => none
structure Lc (G : GEnv) (c : Ctx) (elt tg iter : Expr) (ifs : List Expr) (scope : Scope) where
  ci : CI G c tg iter
  cg : CG G (c.blk scope) ((ownOf c.N scope).map (·.2)) tg
  ct : CTs G (c.blk scope) ifs
  ce : CE G (c.blk scope) elt
  ok : blkC c.N c.sc scope (ownOf c.N scope) = true
  set : isSetE iter = false
def sLc (r : Cps G) (elt tg iter : Expr) (ifs : List Expr) (scope : Scope) : Option (Lc G c elt tg iter ifs scope) :=
  match sIter r tg iter, sTg (G := G) (c := c.blk scope) ((ownOf c.N scope).map (·.2)) 3 tg, sTs (G := G) (c := c.blk scope) (r.T (c.blk scope)) ifs, r.E (c.blk scope) elt with
  | some ci, some cg, some ct, some ce => if h : blkC c.N c.sc scope (ownOf c.N scope) = true then if h2 : isSetE iter = false then some ⟨ci, cg, ct, ce, h, h2⟩ else none else none
  | _, _, _, _ => none
def Lc.den {elt tg iter : Expr} {ifs : List Expr} {scope : Scope} (l : Lc G c elt tg iter ifs scope) (Φ : PhT) : DenA := dComp ((ownOf c.N scope).map (·.2)) (l.ci.den Φ) l.cg.den (l.ct.den Φ) (l.ce.den Φ)
theorem Lc.blk {elt tg iter : Expr} {ifs : List Expr} {scope : Scope} (l : Lc G c elt tg iter ifs scope) {k : Nat} {Φ : PhT} {X : Cx} (A : Amb G k Φ c X) : BlkOk X.N X.env.scope scope (ownOf c.N scope) := by
  rw [A.N, A.sc]
  exact blkOk_by l.ok
theorem takes0 {X : Cx} : Takes X (fun _ _ _ _ => False) := fun _ _ x => by
  obtain ⟨_, _, _, _, _, _, _, _, _, _, _, _, _, _, _, _, z⟩ := x
  exact z.elim
theorem Lc.pe {elt tg iter : Expr} {ifs : List Expr} {scope : Scope} (l : Lc G c elt tg iter ifs scope) (pos : Pos) {k : Nat} {Φ : PhT} {X : Cx} {W : WX} (A : Amb G k Φ c X) (tk : Takes X W) :
    PE X (.ListComp elt [⟨tg, iter, ifs, 0⟩] scope pos) (tL ⟨X.K, X.mg, X.w⟩ W (l.den Φ)) :=
  have hk := (l.blk A).kind
  dl_comp A.calm A.nd (l.ci.ok Φ k X W A tk) (l.blk A) (fun s H C cl fp => l.cg.ok Φ k _ (A.blk hk s H C cl fp)) (fun s H C cl fp => l.ct.ok Φ k _ _ (A.blk hk s H C cl fp) takes0)
    (fun s H C cl fp => l.ce.ok Φ k _ _ (A.blk hk s H C cl fp) takes0) (folded_ok l.set)
def sComp (r : Cps G) (pos : Pos) (elt : Expr) (scope : Scope) : (gs : List Comprehension) → Option (CL G c (.ListComp elt gs scope pos))
  | [⟨tg, iter, ifs, 0⟩] => match sLc (c := c) r elt tg iter ifs scope with
    | some l => some ⟨l.den, fun Φ k X W A tk => l.pe pos A tk⟩
    | none => none
  | _ => none

/-! ### methods -/
structure MI (name : Str) where
  T : String
  id : String
  pa : PlainAttrs T
  slot : Slot T name id
  hty : typeOf (.builtin id) = pure (.type "method_descriptor")
def sM {name : Str} (mi : MI name) (f : FM) (hm : ∀ X : Cx, X.A.units + 200 < cLine → MtR X mi.id (rM ⟨X.K, X.mg, X.w⟩ f)) (o : Expr) (apos cpos : Pos) (co : CE G c o) : (es : List Expr) → Option (CA G c es) → Option (CE G c (.Call (.Attribute o name apos) es [] cpos))
  | [], _ => if h : isCall0 o = false ∧ (apos.endLine == cpos.line) = true then some ⟨fun Φ => dM mi.T f (co.den Φ) dANil, fun Φ k X W A tk => de_m0 mi.pa mi.slot mi.hty (hm X A.hu) (co.ok Φ k X W A tk) (base_ok h.1) h.2⟩ else none
  | e :: es, some cs => if h : (isCall0 o = false ∧ (apos.endLine == cpos.line) = true) ∧ (e :: es).length < 30 then some ⟨fun Φ => dM mi.T f (co.den Φ) (cs.den Φ), fun Φ k X W A tk => by
      have hs := cs.star
      have hf := few_ok (pos := cpos) (env := X.env) hs h.2
      rw [List.all_cons, Bool.and_eq_true] at hs
      exact de_m mi.pa mi.slot mi.hty (hm X A.hu) (co.ok Φ k X W A tk) (cs.ok Φ k X W A tk) (base_ok h.1.1) hf h.1.2 (star_cons (by simpa using hs.1)) (star_any hs.2)⟩ else none
  | _, none => none
def sMT {name : Str} (mi : MI name) (f : FM) (hm : ∀ X : Cx, MtR X mi.id (rMT ⟨X.K, X.mg, X.w⟩ f)) (o : Expr) (apos cpos : Pos) (co : CE G c o) (e : Expr) (cl : CL G c e) : Option (CE G c (.Call (.Attribute o name apos) [e] [] cpos)) :=
  if h : (isCall0 o = false ∧ (apos.endLine == cpos.line) = true) ∧ isStar e = false then some ⟨fun Φ => dM mi.T f (co.den Φ) (cl.den Φ), fun Φ k X W A tk =>
    have hs : [e].all (fun e => !isStar e) = true := by rw [List.all_cons, h.2]; rfl
    de_mt mi.pa mi.slot mi.hty (hm X) (co.ok Φ k X W A tk) (cl.ok Φ k X W A tk) (base_ok h.1.1) (few_ok hs (show 1 < 30 by decide)) h.1.2 (star_cons h.2) rfl⟩ else none
def miAppend : MI "append" := ⟨_, _, PySem.F.plainAttrs_list, PySem.F.slot_list_append, PySem.F.type_list_append⟩
def miExtend : MI "extend" := ⟨_, _, PySem.F.plainAttrs_list, PySem.F.slot_list_extend, PySem.F.type_list_extend⟩
def miPop : MI "pop" := ⟨_, _, PySem.F.plainAttrs_list, PySem.F.slot_list_pop, PySem.F.type_list_pop⟩
def miClear : MI "clear" := ⟨_, _, PySem.F.plainAttrs_list, PySem.F.slot_list_clear, PySem.F.type_list_clear⟩
def miJoin : MI "join" := ⟨_, _, PySem.F.plainAttrs_str, PySem.F.slot_str_join, PySem.F.type_str_join⟩
def miSplit : MI "split" := ⟨_, _, PySem.F.plainAttrs_str, PySem.F.slot_str_split, PySem.F.type_str_split⟩
def miSIndex : MI "index" := ⟨_, _, PySem.F.plainAttrs_str, PySem.F.slot_str_index, PySem.F.type_str_index⟩
def miCount : MI "count" := ⟨_, _, PySem.F.plainAttrs_list, PySem.F.slot_list_count, PySem.F.type_list_count⟩
def miInsert : MI "insert" := ⟨_, _, PySem.F.plainAttrs_list, PySem.F.slot_list_insert, PySem.F.type_list_insert⟩
def miLIndex : MI "index" := ⟨_, _, PySem.F.plainAttrs_list, PySem.F.slot_list_index, PySem.F.type_list_index⟩
/-- o.index(..): a text's or a list's -/
def dIdx (h : DenE) (a : DenA) : DenE := fun fr S => match h fr S with
  | .ok (.str _) _ => dM "str" mSIndex h a fr S
  | _ => dM "list" mLIndex h a fr S
theorem de_idx {X : Cx} {W : WX} {e : Expr} {h : DenE} {a : DenA} (h1 : PE X e (tE ⟨X.K, X.mg, X.w⟩ W (dM "str" mSIndex h a))) (h2 : PE X e (tE ⟨X.K, X.mg, X.w⟩ W (dM "list" mLIndex h a))) : PE X e (tE ⟨X.K, X.mg, X.w⟩ W (dIdx h a)) := by
  refine PE.weaken (PE_or h1 h2) fun σ H Q q => ?_
  obtain ⟨w, S, fr, e, so, fo, p⟩ := q
  unfold dIdx at p
  split at p
  · exact .inl ⟨w, S, fr, e, so, fo, p⟩
  · exact .inr ⟨w, S, fr, e, so, fo, p⟩
def sIdx (o e : Expr) (apos cpos : Pos) (co : CE G c o) (es : List Expr) (cs : Option (CA G c (e :: es))) : Option (CE G c (.Call (.Attribute o "index" apos) (e :: es) [] cpos)) := match cs with
  | some cs => if h : (isCall0 o = false ∧ (apos.endLine == cpos.line) = true) ∧ (e :: es).length < 30 then some ⟨fun Φ => dIdx (co.den Φ) (cs.den Φ), fun Φ k X W A tk => by
      have hs := cs.star
      have hf := few_ok (pos := cpos) (env := X.env) hs h.2
      rw [List.all_cons, Bool.and_eq_true] at hs
      exact de_idx (de_m miSIndex.pa miSIndex.slot miSIndex.hty m_sindex (co.ok Φ k X W A tk) (cs.ok Φ k X W A tk) (base_ok h.1.1) hf h.1.2 (star_cons (by simpa using hs.1)) (star_any hs.2))
        (de_m miLIndex.pa miLIndex.slot miLIndex.hty m_lindex (co.ok Φ k X W A tk) (cs.ok Φ k X W A tk) (base_ok h.1.1) hf h.1.2 (star_cons (by simpa using hs.1)) (star_any hs.2))⟩ else none
  | none => none
def miUpdate : MI "update" := ⟨_, _, PySem.F.plainAttrs_dict, PySem.F.slot_dict_update, PySem.F.type_dict_update⟩
def miGet : MI "get" := ⟨_, _, PySem.F.plainAttrs_dict, PySem.F.slot_dict_get, PySem.F.type_dict_get⟩
def sMeth (r : Cps G) (o : Expr) (apos cpos : Pos) (name : Str) (es : List Expr) : Option (CE G c (.Call (.Attribute o name apos) es [] cpos)) :=
  match r.E c o with
  | none => none
  | some co =>
    if h : name = "append" then (by subst h; exact sM miAppend mAppend (fun _ _ => m_append) o apos cpos co es (sArgs (r.E c) es))
    else if h : name = "extend" then (by subst h; exact match es with
      | [e] => match r.L c e with
        | some cl => sMT miExtend mExtendT (fun _ => m_extendT) o apos cpos co e cl
        | none => sM miExtend mExtend (fun _ _ => m_extend) o apos cpos co [e] (sArgs (r.E c) [e])
      | _ => none)
    else if h : name = "join" then (by subst h; exact match es with
      | [e] => match r.L c e with
        | some cl => sMT miJoin mJoinT (fun _ => m_joinT) o apos cpos co e cl
        | none => sM miJoin mJoin (fun _ _ => m_join) o apos cpos co [e] (sArgs (r.E c) [e])
      | _ => none)
    else if h : name = "pop" then (by subst h; exact sM miPop mPop (fun _ _ => m_pop) o apos cpos co es (sArgs (r.E c) es))
    else if h : name = "clear" then (by subst h; exact sM miClear mClear (fun _ _ => m_clear) o apos cpos co es (sArgs (r.E c) es))
    else if h : name = "split" then (by subst h; exact sM miSplit mSplit (fun _ _ => m_split) o apos cpos co es (sArgs (r.E c) es))
    else if h : name = "index" then (by subst h; exact match es with
      | e :: es => sIdx o e apos cpos co es (sArgs (r.E c) (e :: es))
      | [] => none)
    else if h : name = "count" then (by subst h; exact sM miCount mCount (fun _ _ => m_count) o apos cpos co es (sArgs (r.E c) es))
    else if h : name = "insert" then (by subst h; exact sM miInsert mInsert (fun _ _ => m_insert) o apos cpos co es (sArgs (r.E c) es))
    else if h : name = "update" then (by subst h; exact sM miUpdate mUpdate (fun _ _ => m_update) o apos cpos co es (sArgs (r.E c) es))
    else if h : name = "get" then (by subst h; exact sM miGet mGet (fun _ h => m_get h) o apos cpos co es (sArgs (r.E c) es))
    else if hasM G name = true then sOwnM o name apos cpos co es (sArgs (r.E c) es) else none
end

/-! ### what is not followed: no meaning, and so no duty -/
def dNoE : DenE := fun _ _ => .no
def dNoT : DenT := fun _ _ => .no
def dNoS : DenS := fun _ _ => .no
theorem de_no {X : Cx} {W : WX} {e : Expr} : PE X e (tE ⟨X.K, X.mg, X.w⟩ W dNoE) := ⟨fun pins s σ H Q I h => by
  obtain ⟨_, _, _, _, _, _, p⟩ := h
  exact p.elim⟩
theorem dt_no {X : Cx} {W : WX} {e : Expr} : PT X e (tT ⟨X.K, X.mg, X.w⟩ W dNoT) := ⟨fun pins s σ H Q I h => by
  obtain ⟨_, _, _, _, _, _, p⟩ := h
  exact p.elim⟩
theorem ds_no {X : Cx} {W : WX} {st : Stmt} : PS X st (tS ⟨X.K, X.mg, X.w⟩ W dNoS) := ⟨fun pins s σ H D I h => by
  obtain ⟨_, _, _, _, _, _, p⟩ := h
  exact p.elim⟩
def orE {G : GEnv} {c : Ctx} {e : Expr} (o : Option (CE G c e)) : Option (CE G c e) := match o with
  | some x => some x
  | none => some ⟨fun _ => dNoE, fun _ _ _ _ _ _ => de_no⟩
def orT {G : GEnv} {c : Ctx} {e : Expr} (o : Option (CT G c e)) : Option (CT G c e) := match o with
  | some x => some x
  | none => some ⟨fun _ => dNoT, fun _ _ _ _ _ _ => dt_no⟩
def orS {G : GEnv} {c : Ctx} {st : Stmt} (o : Option (CS G c st)) : Option (CS G c st) := match o with
  | some x => some x
  | none => some ⟨fun _ => dNoS, fun _ _ _ _ _ _ => ds_no⟩

/-! ### expressions together -/
def sLRange {G : GEnv} {c : Ctx} (x y : Str) (p p2 pos pos2 : Pos) (a b : Expr) (ca : Option (CE G c a)) (cb : Option (CE G c b)) : Option (CE G c (.Call (.Name x p) [.Call (.Name y p2) [a, b] [] pos2] [] pos)) := match ca, cb with
  | some ca, some cb => if h : (x = "list" ∧ y = "range") ∧ (glB c.sc "list" = true ∧ glB c.sc "range" = true) ∧ (isStar a = false ∧ isStar b = false) then some ⟨fun Φ => dLRange (ca.den Φ) (cb.den Φ), fun Φ k X W A tk => by
      obtain ⟨⟨rfl, rfl⟩, ⟨h1, h2⟩, h3, h4⟩ := h
      exact de_lrange A.calm (A.gl h1) (A.free _ (by decide +kernel)) (A.gl h2) (A.free _ (by decide +kernel)) (ca.ok Φ k X W A tk) (cb.ok Φ k X W A tk) (star_cons h3) (star_cons h4) (star_any (by rw [List.all_cons, h4]; rfl))⟩ else none
  | _, _ => none
def stepE {G : GEnv} (r : Cps G) (c : Ctx) : (e : Expr) → Option (CE G c e)
  | .Name x pos => sName x pos
  | .Constant v j pos => sConst v j pos
  | .BinOp a op b pos => sBin a op b pos (r.E c a) (r.E c b)
  | .UnaryOp op a pos => sUn op a pos (r.E c a)
  | .BoolOp op es pos => sBools (r.E c) pos op es
  | .Compare a [op] [b] pos => sCmp a op b pos (r.E c a) (r.E c b)
  | .Compare a [op, op'] [b, d] pos => sChain a op op' b d pos (r.E c a) (r.E c b) (r.E c d)
  | .IfExp t a b pos => sIf t a b pos (r.T c t) (r.E c a) (r.E c b)
  | .Subscript a (.Slice lo hi none p2) pos => sSl a lo hi p2 pos (r.E c a) (sPart (r.E c) lo) (sPart (r.E c) hi)
  | .Subscript a (.Slice none none (some (.UnaryOp .USub (.Constant (.int 1) j p1) p2)) p3) pos => match r.E c a with
    | some ca => some ⟨fun Φ => dRev (ca.den Φ), fun Φ k X W A tk => de_rev (ca.ok Φ k X W A tk)⟩
    | none => none
  | .Subscript a b pos => sIx a b pos (r.E c a) (r.E c b)
  | .Attribute o f pos => sAttr o f pos (r.E c o)
  | .Call (.Name x p) [.Call (.Name y p2) [a, b] [] pos2] [] pos => match sLRange x y p p2 pos pos2 a b (r.E c a) (r.E c b) with
    | some ce => some ce
    | none => sCall x [.Call (.Name y p2) [a, b] [] pos2] p pos (r.L c) (sArgs (r.E c) [.Call (.Name y p2) [a, b] [] pos2])
  | .Call (.Name x p) es [] pos => sCall x es p pos (r.L c) (sArgs (r.E c) es)
  | .Call (.Name x p) [e] [⟨nm, k, kpos⟩] pos => sMaxD (r.L c) (r.E c) x p e nm k kpos pos
  | .Call (.Attribute (.Name b p1) name apos) (e :: es) [] pos => match sBaseM b name p1 apos pos e es (sArgs (r.E c) (e :: es)) with
    | some ce => some ce
    | none => sMeth r (.Name b p1) apos pos name (e :: es)
  | .Call (.Attribute o name apos) es [] pos => sMeth r o apos pos name es
  | .Tuple es n pos => sTupE es n pos (sArgs (r.E c) es)
  | .List es pos => sLstE es pos (sArgs (r.E c) es)
  | .Dict keys values pos => sDict pos keys values (sPairs (r.E c) keys values)
  | .ListComp elt gs scope pos => sKeep (sComp r pos elt scope gs)
  | _ => none
def stepL {G : GEnv} (r : Cps G) (c : Ctx) : (e : Expr) → Option (CL G c e)
  | .List es pos => sLstL es pos (sArgs (r.E c) es)
  | .ListComp elt gs scope pos => sComp r pos elt scope gs
  | _ => none
def stepT {G : GEnv} (r : Cps G) (c : Ctx) : (e : Expr) → Option (CT G c e)
  | .UnaryOp .Not a pos => match r.T c a with
    | some ct => some ⟨fun Φ => dTNot (ct.den Φ), fun Φ k X W A tk => dt_not (ct.ok Φ k X W A tk)⟩
    | none => none
  | .BoolOp op es pos => match sBoolsW (r.T c) pos op es with
    | some cw => some ⟨cw.den, fun Φ k X W A tk => (cw.ok Φ k X W A tk).pt⟩
    | none => none
  | .Compare a [op] [b] pos => sCmpT a op b pos (r.E c a) (r.E c b)
  | .Compare a [op, op'] [b, d] pos => sChainT a op op' b d pos (r.E c a) (r.E c b) (r.E c d)
  | e => if h : isPlainT e = true then match r.E c e with
    | some ce => some ⟨fun Φ => dTr (ce.den Φ), fun Φ k X W A tk => dt_truth (ce.ok Φ k X W A tk) (test_ok h)⟩
    | none => none else none
def comps (G : GEnv) : Nat → Cps G
  | 0 => ⟨fun _ _ => none, fun _ _ => none, fun _ _ => none⟩
  | n + 1 => ⟨fun c e => orE (stepE (comps G n) c e), stepL (comps G n), fun c e => orT (stepT (comps G n) c e)⟩

/-! ### statements -/
section
variable {G : GEnv} {c : Ctx}
def sStmts (rec_ : (st : Stmt) → Option (CS G c st)) : (sts : List Stmt) → Option (CSs G c sts)
  | [] => some ⟨fun _ => dNil, fun Φ k X W B tk => have A := B.toAmb; ds_nil⟩
  | st :: rest => match rec_ st, sStmts rec_ rest with
    | some a, some b => some ⟨fun Φ => dSeq (a.den Φ) (b.den Φ), fun Φ k X W B tk => ds_seq (a.ok Φ k X W B tk) (b.ok Φ k X W B tk)⟩
    | _, _ => none
def sSetG (x : Str) (px pos : Pos) (e : Expr) (hsw : ∀ X : Cx, X.env.scope = c.sc → X.env.scope.kind = .function → swapsWith e (some (.Name x px)) pos.line X.env = pure false) (ce : Option (CE G c e)) : Option (CS G c (.Assign [.Name x px] e pos)) :=
  match ce, hi : ixOf c.N x with
  | some ce, some i => if hs : stB c x = true then some ⟨fun Φ => dSet i (ce.den Φ), fun Φ k X W B tk => have A := B.toAmb; ds_set A.nd (A.ix hi) (A.st hs).1 (ce.ok Φ k X W A tk) (hsw X A.sc A.kind) (A.st hs).2⟩ else none
  | _, _ => none
def sSetLc (r : Cps G) (x : Str) (px pos pos2 : Pos) (elt tg iter : Expr) (ifs : List Expr) (scope : Scope) : Option (CS G c (.Assign [.Name x px] (.ListComp elt [⟨tg, iter, ifs, 0⟩] scope pos2) pos)) :=
  if hb : swB c.sc x px.line pos2.line scope = false then
    sSetG x px pos _ (fun X h1 h2 => sw_comp h2 (by rw [h1]; exact hb)) (r.E c _)
  else if hb : swB c.sc x px.line pos2.line scope = true then
    match sLc (c := c) r elt tg iter ifs scope, hi : ixOf c.N x with
    | some l, some i => if hl : isLoc c.sc x = true then some ⟨fun Φ => dSet i (dKeep (l.den Φ)), fun Φ k X W B tk => have A := B.toAmb;
        have hk := (l.blk A).kind
        ds_setLc A.calm A.nd (A.ix hi) (A.lk hl) (sw_comp A.kind (by rw [A.sc]; exact hb)) (l.ci.ok Φ k X W A tk) (l.blk A) (fun s H C cl fp => l.cg.ok Φ k _ (A.blk hk s H C cl fp)) (fun s H C cl fp => l.ct.ok Φ k _ _ (A.blk hk s H C cl fp) takes0)
          (fun s H C cl fp => l.ce.ok Φ k _ _ (A.blk hk s H C cl fp) takes0) (folded_ok l.set)⟩ else none
    | _, _ => none
  else none
def sSet (r : Cps G) (x : Str) (px pos : Pos) : (e : Expr) → Option (CS G c (.Assign [.Name x px] e pos))
  | .ListComp elt [⟨tg, iter, ifs, 0⟩] scope pos2 => sSetLc r x px pos pos2 elt tg iter ifs scope
  | e => if h : isComp e = false then sSetG x px pos e (fun _ _ _ => swaps_no h) (r.E c e) else none
theorem sole_no {t e : Expr} {l : Nat} {env : Env} (h : isComp e = false) : swapsWithSole [t] e l env = pure false := swaps_no (t := some t) h
def sPar (x y : Str) (px py pt pt2 pos : Pos) (kt k2 : Nat) (a b : Expr) (cs : Option (CA G c [a, b])) : Option (CS G c (.Assign [.Tuple [.Name x px, .Name y py] kt pt] (.Tuple [a, b] k2 pt2) pos)) :=
  match cs, hi : ixOf c.N x, hj : ixOf c.N y with
  | some cs, some i, some j => if h : (isLoc c.sc x = true ∧ isLoc c.sc y = true ∧ x ≠ y) ∧ isStar a = false ∧ isStar b = false ∧ py.line = px.line ∧ fold2 [a, b] = false ∧ cons2 [a, b] = false ∧ i ≠ j then
      some ⟨fun Φ => dPar i j (cs.den Φ), fun Φ k X W B tk => have A := B.toAmb; ds_par A.calm A.nd (A.ix hi) (A.ix hj) h.2.2.2.2.2.2 (A.lk h.1.1) (A.lk h.1.2.1) (cs.ok Φ k X W A tk)
        (par_ok A.kind (A.lk h.1.1) (A.lk h.1.2.1) h.1.2.2 h.2.1 h.2.2.1 h.2.2.2.1 h.2.2.2.2.1 h.2.2.2.2.2.1) (sole_no rfl)⟩ else none
  | _, _, _ => none
def allIx (N : List Str) : List Nat := List.range N.length
def sAsgT (es : List Expr) (kt : Nat) (pt pos : Pos) (e : Expr) (ce : Option (CE G c e)) : Option (CS G c (.Assign [.Tuple es kt pt] e pos)) :=
  match ce, sTg (G := G) (c := c) (allIx c.N) 3 (.Tuple es kt pt) with
  | some ce, some cg => if h : isComp e = false ∧ (isTupE e = false ∨ foldT e = true) then some ⟨fun Φ => dAsg cg.den (ce.den Φ), fun Φ k X W B tk => have A := B.toAmb; ds_asg (ce.ok Φ k X W A tk) (cg.ok Φ k X A) (sole_no h.1) (h.2.elim swapped_no swapped_fold) (assign1 rfl)⟩ else none
  | _, _ => none
def sSetIx (o i e : Expr) (tpos pos : Pos) (co : Option (CE G c o)) (ci : Option (CE G c i)) (ce : Option (CE G c e)) : Option (CS G c (.Assign [.Subscript o i tpos] e pos)) :=
  match co, ci, ce with
  | some co, some ci, some ce => if h : isSlice i = false ∧ isComp e = false then some ⟨fun Φ => dSetIx (co.den Φ) (ci.den Φ) (ce.den Φ), fun Φ k X W B tk => have A := B.toAmb;
      ds_setIx A.hu (ce.ok Φ k X W A tk) (co.ok Φ k X W A tk) (ci.ok Φ k X W A tk) (setIx_ok h.1) (sole_no h.2) (swapped_no' rfl) (assign1 rfl)⟩ else none
  | _, _, _ => none
def sSetFld (o e : Expr) (f : Str) (apos pos : Pos) (co : Option (CE G c o)) (ce : Option (CE G c e)) : Option (CS G c (.Assign [.Attribute o f apos] e pos)) := match co, ce with
  | some co, some ce => if h : isComp e = false then some ⟨fun Φ => dSetFld (objOf G) f (co.den Φ) (ce.den Φ), fun Φ k X W B tk => have A := B.toAmb;
      ds_setFld A.ob (co.ok Φ k X W A tk) (ce.ok Φ k X W A tk) (swaps_no h)⟩ else none
  | _, _ => none
def sSetSl (o : Expr) (lo hi : Option Expr) (e : Expr) (p2 tpos pos : Pos) (co : Option (CE G c o)) (cl : Option (CO G c lo)) (ch : Option (CO G c hi)) (ce : Option (CE G c e)) : Option (CS G c (.Assign [.Subscript o (.Slice lo hi none p2) tpos] e pos)) :=
  match co, cl, ch, ce with
  | some co, some cl, some ch, some ce => if h : isComp e = false then some ⟨fun Φ => dSetSl (co.den Φ) (cl.den Φ) (ch.den Φ) (ce.den Φ), fun Φ k X W B tk => have A := B.toAmb;
      ds_setSl (ce.ok Φ k X W A tk) (co.ok Φ k X W A tk) (cl.ok Φ k X W A tk) (ch.ok Φ k X W A tk) (sole_no h) (swapped_no' rfl) (assign1 rfl)⟩ else none
  | _, _, _, _ => none
def sAssign (r : Cps G) (pos : Pos) : (ts : List Expr) → (e : Expr) → Option (CS G c (.Assign ts e pos))
  | [.Name x px], e => sSet r x px pos e
  | [.Subscript o (.Slice lo hi none p2) tpos], e => sSetSl o lo hi e p2 tpos pos (r.E c o) (sPart (r.E c) lo) (sPart (r.E c) hi) (r.E c e)
  | [.Attribute o f apos], e => sSetFld o e f apos pos (r.E c o) (r.E c e)
  | [.Subscript o i tpos], e => sSetIx o i e tpos pos (r.E c o) (r.E c i) (r.E c e)
  | [.Tuple [.Name x px, .Name y py] kt pt], .Tuple [a, b] k2 pt2 => match sPar x y px py pt pt2 pos kt k2 a b (sArgs (r.E c) [a, b]) with
    | some s => some s
    | none => sAsgT [.Name x px, .Name y py] kt pt pos (.Tuple [a, b] k2 pt2) (r.E c (.Tuple [a, b] k2 pt2))
  | [.Tuple es kt pt], e => sAsgT es kt pt pos e (r.E c e)
  | _, _ => none
def sAug (x : Str) (px pos : Pos) (op : Operator) (e : Expr) (ce : Option (CE G c e)) : Option (CS G c (.AugAssign (.Name x px) op e pos)) :=
  match op, ce, hi : ixOf c.N x with
  | .Add, some ce, some i => if hs : stB c x = true then some ⟨fun Φ => dAug i aIAdd (ce.den Φ), fun Φ k X W B tk => have A := B.toAmb; ds_aug A.nd (A.ix hi) (A.st hs).1 (ce.ok Φ k X W A tk) ipr_add (A.st hs).2⟩ else none
  | .Sub, some ce, some i => if hs : stB c x = true then some ⟨fun Φ => dAug i aSub (ce.den Φ), fun Φ k X W B tk => have A := B.toAmb; ds_aug A.nd (A.ix hi) (A.st hs).1 (ce.ok Φ k X W A tk) ipr_sub (A.st hs).2⟩ else none
  | _, _, _ => none
def sAugFld (o e : Expr) (f : Str) (tpos pos : Pos) (op : Operator) (co : Option (CE G c o)) (ce : Option (CE G c e)) : Option (CS G c (.AugAssign (.Attribute o f tpos) op e pos)) :=
  match op, co, ce with
  | .Add, some co, some ce => some ⟨fun Φ => dAugFld (objOf G) f (· + ·) (co.den Φ) (ce.den Φ), fun Φ k X W B tk => have A := B.toAmb; ds_augFld A.ob in_add (fun i j H Q q => ⟨i, j, rfl, rfl, q⟩) (co.ok Φ k X W A tk) (ce.ok Φ k X W A tk)⟩
  | .Sub, some co, some ce => some ⟨fun Φ => dAugFld (objOf G) f (· - ·) (co.den Φ) (ce.den Φ), fun Φ k X W B tk => have A := B.toAmb; ds_augFld A.ob in_sub (fun i j H Q q => ⟨i, j, rfl, rfl, q⟩) (co.ok Φ k X W A tk) (ce.ok Φ k X W A tk)⟩
  | _, _, _ => none
def sExpr (e : Expr) (pos : Pos) (ce : Option (CE G c e)) : Option (CS G c (.Expr e pos)) := match ce with
  | some ce => if h : isComp e = false then some ⟨fun Φ => dExpr (ce.den Φ), fun Φ k X W B tk => have A := B.toAmb; ds_expr (ce.ok Φ k X W A tk) (swaps_no h)⟩ else none
  | none => none
def sRet (pos : Pos) : (e : Option Expr) → (ce : (e : Expr) → Option (CE G c e)) → Option (CS G c (.Return e pos))
  | none, _ => some ⟨fun _ => dRetN, fun Φ k X W B tk => have A := B.toAmb; ds_retN⟩
  | some e, f => match f e with
    | some ce => some ⟨fun Φ => dRet (ce.den Φ), fun Φ k X W B tk => have A := B.toAmb; ds_ret (ce.ok Φ k X W A tk)⟩
    | none => none
def sIfS (t : Expr) (xs ys : List Stmt) (pos : Pos) (ct : Option (CT G c t)) (a : Option (CSs G c xs)) (b : Option (CSs G c ys)) : Option (CS G c (.If t xs ys pos)) := match ct, a, b with
  | some ct, some a, some b => some ⟨fun Φ => dIfS (ct.den Φ) (a.den Φ) (b.den Φ), fun Φ k X W B tk => ds_if (ct.ok Φ k X W B.toAmb tk) (a.ok Φ k X W B tk) (b.ok Φ k X W B tk)⟩
  | _, _, _ => none
def sWhile (t : Expr) (xs : List Stmt) (pos : Pos) (ct : Option (CT G c t)) (a : Option (CSs G c xs)) : Option (CS G c (.While t xs [] pos)) := match ct, a with
  | some ct, some a => some ⟨fun Φ => dWhile (ct.den Φ) (a.den Φ), fun Φ k X W B tk => ds_while B.po (ct.ok Φ k X W B.toAmb tk) (a.ok Φ k X W B tk)⟩
  | _, _ => none
def sFor (tg iter : Expr) (xs : List Stmt) (pos : Pos) (ci : Option (CI G c tg iter)) (a : Option (CSs G c xs)) : Option (CS G c (.For tg iter xs [] pos)) := match ci, sTg (G := G) (c := c) (allIx c.N) 3 tg, a with
  | some ci, some cg, some a => if h : isSetE iter = false then some ⟨fun Φ => dFor cg.den (ci.den Φ) (a.den Φ), fun Φ k X W B tk => ds_for B.po B.calm (ci.ok Φ k X W B.toAmb tk) (cg.ok Φ k X B.toAmb) (a.ok Φ k X W B tk) (folded_ok h)⟩ else none
  | _, _, _ => none
def sRaise1 (x : Str) (es : List Expr) (p pos pos' : Pos) (cs : Option (CA G c es)) : Option (CS G c (.Raise (some (.Call (.Name x p) es [] pos)) none pos')) := match es, cs, hq : G.lookup x with
  | e :: es, some cs, some (.xcl u f) => if h : okN x = true ∧ glB c.sc x = true then some ⟨fun Φ => dRaise1 x f (cs.den Φ), fun Φ k X W B tk => by
      have A := B.toAmb
      have hs := cs.star
      rw [List.all_cons, Bool.and_eq_true] at hs
      exact ds_raise1 A.calm tk (A.xi x u f hq) A.rm2 (A.gl h.2) (okN_dbg h.1).1 (cs.ok Φ k X W A tk) (star_cons (by simpa using hs.1)) (star_any hs.2)⟩ else none
  | _, _, _ => none
def sRaise (rE : (e : Expr) → Option (CE G c e)) : (e : Expr) → (pos : Pos) → Option (CS G c (.Raise (some e) none pos))
  | .Call (.Name x p) [.Constant (.str m) j p2] [] p3, pos => match hq : G.lookup x with
    | some (.cls u true) => if h : okN x = true ∧ glB c.sc x = true then some ⟨fun _ => dRaise x, fun Φ k X W B tk => by
        have A := B.toAmb
        obtain ⟨C, F⟩ := A.cls.at_ x u (by unfold upOf; rw [hq])
        exact ds_raise A.calm tk F PySem.F.excBase_ValueError (A.rs x u C hq F.gm) (A.gl h.2) (okN_dbg h.1).1⟩ else none
    | _ => none
  | .Call (.Name x p) es [] p3, pos => sRaise1 x es p p3 pos (sArgs rE es)
  | _, _ => none
def sTryK (y n k n2 : Str) (np pk pn pa pos pos' : Pos) (body : List Stmt) (b : Option (CSs G c body)) : Option (CS G c (.Try body [.ExceptHandler (some (.Name y np)) (some n) [.Assign [.Name k pk] (.Name n2 pn) pa] pos'] [] [] pos)) :=
  match b, hq : upOf G y, hi : ixOf c.N n, hj : ixOf c.N k with
  | some b, some u, some i, some j => if h : (okN y = true ∧ glB c.sc y = true) ∧ (okN n = true ∧ isLoc c.sc n = true ∧ isLoc c.sc k = true) ∧ n2 = n then some ⟨fun Φ => dTryK (upOf G) y i j (b.den Φ), fun Φ k X W B tk => by
      have A := B.toAmb
      obtain ⟨C, F⟩ := A.cls.at_ y u hq
      obtain ⟨h1, h2, rfl⟩ := h
      exact ds_tryK A.cls B.stk B.frm B.ex A.nd (A.ix hi) (A.ix hj) (A.lk h2.2.1) (A.lk h2.2.2) F (A.gl h1.2) (okN_dbg h1.1).1 (okN_dbg h2.1) tk (fun W pn xe tk' po => b.ok Φ k (X.tr pn xe) W (B.tr pn xe po) tk')⟩ else none
  | _, _, _, _ => none
def sTryC (y k : Str) (v : Const) (j : Nat) (np pk cp pa pos pos' : Pos) (body : List Stmt) (b : Option (CSs G c body)) : Option (CS G c (.Try body [.ExceptHandler (some (.Name y np)) none [.Assign [.Name k pk] (.Constant v j cp) pa] pos'] [] [] pos)) :=
  match b, hq : upOf G y, hj : ixOf c.N k, hv : cvD v with
  | some b, some u, some i, some (d, u2) => if h : (okN y = true ∧ glB c.sc y = true) ∧ isLoc c.sc k = true then some ⟨fun Φ => dTryC (upOf G) y i d (b.den Φ), fun Φ k X W B tk => by
      have A := B.toAmb
      obtain ⟨C, F⟩ := A.cls.at_ y u hq
      obtain ⟨h1, h2⟩ := cv_ok (j := j) (p := cp) hv
      exact ds_tryC A.cls B.stk B.frm A.nd (A.ix hj) (A.lk h.2) F (A.gl h.1.2) (okN_dbg h.1.1).1 tk h1 (fun X => swaps_no rfl) (fun w => h2 _ w) (fun W pn xe tk' po => b.ok Φ k (X.tr pn xe) W (B.tr pn xe po) tk')⟩ else none
  | _, _, _, _ => none
def sTryF (y n k n2 f : Str) (np pk pn pt pa pos pos' : Pos) (body : List Stmt) (b : Option (CSs G c body)) : Option (CS G c (.Try body [.ExceptHandler (some (.Name y np)) (some n) [.Assign [.Name k pk] (.Attribute (.Name n2 pn) f pt) pa] pos'] [] [] pos)) :=
  match b, hq : upOf G y, hx : xiOf G y, hi : ixOf c.N n, hj : ixOf c.N k with
  | some b, some u, some f2, some i, some j => if h : ((okN y = true ∧ glB c.sc y = true) ∧ (okN n = true ∧ isLoc c.sc n = true ∧ isLoc c.sc k = true)) ∧ n2 = n ∧ f2 = f then some ⟨fun Φ => dTryF (upOf G) (xiOf G) y f i j (b.den Φ), fun Φ k X W B tk => by
      have A := B.toAmb
      obtain ⟨C, F⟩ := A.cls.at_ y u hq
      obtain ⟨⟨h1, h2⟩, rfl, rfl⟩ := h
      exact ds_tryF A.cls A.xiR hx B.stk B.frm A.nd (A.ix hi) (A.ix hj) (A.lk h2.2.1) (A.lk h2.2.2) F (A.gl h1.2) (okN_dbg h1.1).1 (okN_dbg h2.1) tk (fun W pn xe tk' po => b.ok Φ k (X.tr pn xe) W (B.tr pn xe po) tk')⟩ else none
  | _, _, _, _, _ => none
def sTry (body : List Stmt) (b : Option (CSs G c body)) : (hs : List ExceptHandler) → (pos : Pos) → Option (CS G c (.Try body hs [] [] pos))
  | [.ExceptHandler (some (.Name y np)) (some n) [.Assign [.Name k pk] (.Name n2 pn) pa] pos'], pos => sTryK y n k n2 np pk pn pa pos pos' body b
  | [.ExceptHandler (some (.Name y np)) (some n) [.Assign [.Name k pk] (.Attribute (.Name n2 pn) f pt) pa] pos'], pos => sTryF y n k n2 f np pk pn pt pa pos pos' body b
  | [.ExceptHandler (some (.Name y np)) none [.Assign [.Name k pk] (.Constant v j cp) pa] pos'], pos => sTryC y k v j np pk cp pa pos pos' body b
  | _, _ => none
def stepS (r : Cps G) (rec_ : (st : Stmt) → Option (CS G c st)) : (st : Stmt) → Option (CS G c st)
  | .Expr (.Constant (.str x) j pos) pos' => some ⟨fun _ => dNil, fun Φ k X W B tk => have A := B.toAmb; ds_doc⟩
  | .Expr e pos => sExpr e pos (r.E c e)
  | .Assign ts e pos => sAssign r pos ts e
  | .AugAssign (.Name x px) op e pos => sAug x px pos op e (r.E c e)
  | .AugAssign (.Attribute o f tpos) op e pos => sAugFld o e f tpos pos op (r.E c o) (r.E c e)
  | .If t xs ys pos => sIfS t xs ys pos (r.T c t) (sStmts rec_ xs) (sStmts rec_ ys)
  | .While t xs [] pos => sWhile t xs pos (r.T c t) (sStmts rec_ xs)
  | .For tg iter xs [] pos => sFor tg iter xs pos (sIter r tg iter) (sStmts rec_ xs)
  | .Return e pos => sRet pos e (r.E c)
  | .Pass pos => some ⟨fun _ => dNil, fun Φ k X W B tk => have A := B.toAmb; ds_pass⟩
  | .Raise (some e) none pos => sRaise (r.E c) e pos
  | .Try body hs [] [] pos => sTry body (sStmts rec_ body) hs pos
  | .Break pos => some ⟨fun _ => dBreak, fun Φ k X W B tk => have A := B.toAmb; ds_break⟩
  | .Continue pos => some ⟨fun _ => dCont, fun Φ k X W B tk => have A := B.toAmb; ds_cont⟩
  | _ => none
def compS (G : GEnv) (c : Ctx) : Nat → (st : Stmt) → Option (CS G c st)
  | 0, _ => none
  | n + 1, st => orS (stepS (comps G 40) (compS G c n) st)
def compB (G : GEnv) (c : Ctx) (body : List Stmt) : Option (CSs G c body) := sStmts (compS G c 12) body
end
end
end DL
/-! DN, part e: an exception's __init__ that keeps its parameter, walked once. -/
namespace DL
open PySem PySem.Spec PyProof.Rows L2
theorem init_ok {P : Program} {W0 : World} {K : PySem.W.Frag} {mg : Str → Option Value} {base : Heap} {x qual b self p fl msg : Str} {B C f : Addr} {fd : FuncData} {args : Arguments} {sc : Scope} {j : Nat} {p1 p2 p3 p4 p5 p6 q1 q2 q3 q4 : Pos}
    (F : FunD K x qual args [.Expr (.Call (.Attribute (.Name b p1) "__init__" p2) [.Name self p4, .Constant (.str msg) j p5] [] p6) p3, .Assign [.Attribute (.Name self q1) fl q2] (.Name p q3) q4] sc [] [] f fd)
    (S : FnScope [self, p] [self, p] sc) (v1 : visB sc self = true) (v2 : visB sc p = true) (n1 : okN self = true) (n2 : okN p = true) (gb : glB sc b = true) (nb : okN b = true) (hline : (p2.endLine == p6.line) = true)
    (hm : mg b = some (.ref B)) (hsp : PySem.W.specialIn K (.ref B) "__getattribute__" = some (some (.builtin "type.__getattribute__"))) (hrd : PySem.W.readsIn K B (.type "type") = true)
    (vV : PySem.W.findCls K (.ref B) (.type "type") "__init__" = some (.val (.builtin "ValueError.__init__"))) (T : OexC K C) (hno : PySem.W.findIn K (.ref C) fl = some none) : FnOk P W0 K mg base (L2.CX P W0) 1 f fd [self, p] (spXi C fl) := by
  refine FunD.ok (k := 0) F S (fun vs H Q E h => by obtain ⟨a, v, rfl, _⟩ := h; rfl) (fun cdv A outer s H vs Q E hr h => ?_)
  obtain ⟨a, v, rfl, hH, hq⟩ := h
  refine ⟨_, pss_cons (ps_expr (pe_binit (B := B) (glB_ok gb) hm (okN_dbg nb).1 hsp hrd vV (pa_cons (pe_var (i := 0) rfl (visB_ok v1) (okN_dbg n1).1 (okN_dbg n1).2) (pa_cons pe_str pa_nil)) rfl hline rfl rfl)) (pss_cons (ps_ost (pe_var (i := 0) rfl (visB_ok v1) (okN_dbg n1).1 (okN_dbg n1).2) (pe_var (i := 1) rfl (visB_ok v2) (okN_dbg n2).1 (okN_dbg n2).2)) pss_nil), ?_⟩
  exact ⟨.ref a, rfl, a, C, [.str msg], rfl, by simp, T, hH, v, rfl, .ref a, rfl, a, C, rfl, T, hno, .inl ⟨hH, hq⟩⟩

/-! ### such a class, looked at -/
def oexB (K : PySem.W.Frag) (C : Addr) : Bool := match K.lookup C with
  | some ⟨.type t, _, .cls ⟨_, _, .ref D :: bm, _, _, true, _, _, _, _, false⟩, ⟨[_, _, _, _, some (.builtin n), _]⟩⟩ => decide (t = "type") && decide (D = C) && HandSPX.refsVE bm && decide (n = "ValueError.__new__")
  | _ => false
theorem oexB_ok {K : PySem.W.Frag} {C : Addr} (h : oexB K C = true) : ∃ nm q N bs bm sn sub ab col dd k0 k1 k2 k3 k5, K.lookup C = some (excClassObj nm q C N bs bm true sn sub ab col dd k0 k1 k2 k3 k5 "ValueError.__new__") ∧ HandSPX.refsVE bm = true := by
  unfold oexB at h
  split at h
  · rename_i q
    rw [Bool.and_eq_true, Bool.and_eq_true, Bool.and_eq_true, decide_eq_true_eq, decide_eq_true_eq, decide_eq_true_eq] at h
    obtain ⟨⟨⟨rfl, rfl⟩, h3⟩, rfl⟩ := h
    exact ⟨_, _, _, _, _, _, _, _, _, _, _, _, _, _, _, q, h3⟩
  · cases h
/-- a class of exceptions that keeps one thing: its name, the thing's, the base, the names and words of its __init__ -/
structure XDef where
  x : Str
  fl : Str
  b : Str
  self : Str
  p : Str
  msg : Str
  qual : Str
  st : Stmt
def XDef.defD (d : XDef) : He.DefD := ⟨(d.x, some "__init__"), "__init__", d.qual, defArgs d.st, defBody d.st, defScope d.st, [], []⟩
structure XOk (d : XDef) : Prop where
  body : ∃ (j : Nat) (p1 p2 p3 p4 p5 p6 q1 q2 q3 q4 : Pos), defBody d.st = [.Expr (.Call (.Attribute (.Name d.b p1) "__init__" p2) [.Name d.self p4, .Constant (.str d.msg) j p5] [] p6) p3, .Assign [.Attribute (.Name d.self q1) d.fl q2] (.Name d.p q3) q4] ∧ (p2.endLine == p6.line) = true
  sc : FnScope [d.self, d.p] [d.self, d.p] (defScope d.st)
  nm : visB (defScope d.st) d.self = true ∧ visB (defScope d.st) d.p = true ∧ okN d.self = true ∧ okN d.p = true ∧ glB (defScope d.st) d.b = true ∧ okN d.b = true
  bd : ∀ (kV doc pm : Value) (an : Option Addr) (cdv ct : Value) (us : List Value), us.length = 2 → bindArgs (PySem.W.fnOf "__init__" d.qual (defArgs d.st) (defBody d.st) (defScope d.st) .none kV doc pm an cdv ct) ⟨us, []⟩ = pure ([d.self, d.p].zip us)
def AllX : List XDef → Prop
  | [] => True
  | d :: r => XOk d ∧ AllX r
theorem AllX.at_ : ∀ {T : List XDef} {i : Nat} {d : XDef}, AllX T → T[i]? = some d → XOk d
  | d :: r, 0, _, h, e => by cases e; exact h.1
  | d :: r, i + 1, _, h, e => AllX.at_ h.2 (by simpa using e)
def xiB (K : PySem.W.Frag) (d : XDef) : Bool := He.eqO (PySem.W.nsIn K mainGlobals d.x) (some (some (.ref (He.ga K d.x)))) && He.eqO (PySem.W.nsIn K mainGlobals d.b) (some (some (.ref (He.ga K d.b)))) && oexB K (He.ga K d.x) &&
  decide (PySem.W.findIn K (.ref (He.ga K d.x)) "__setattr__" = some (some (.builtin "object.__setattr__")) ∧ PySem.W.subIn K (.ref (He.ga K d.x)) (.type "BaseException") = some true ∧ PySem.W.typeIn K (.ref (He.ga K d.x)) = some (.type "type") ∧ PySem.W.keepIn K (.ref (He.ga K d.x)) = true ∧
    PySem.W.findIn K (.ref (He.ga K d.x)) "__getattribute__" = some (some (.builtin "BaseException.__getattribute__")) ∧ PySem.W.findIn K (.ref (He.ga K d.x)) "__getattr__" = some none ∧ PySem.W.hasDictIn K (He.ga K d.x) = true ∧ PySem.W.findIn K (.ref (He.ga K d.x)) d.fl = some none ∧
    PySem.W.findIn K (.ref (He.ga K d.x)) "__init__" = some (some (.ref (He.ma K (He.ga K d.x) "__init__"))) ∧ PySem.W.typeIn K (.ref (He.ma K (He.ga K d.x) "__init__")) = some (.type "function") ∧
    PySem.W.specialIn K (.ref (He.ga K d.b)) "__getattribute__" = some (some (.builtin "type.__getattribute__")) ∧ PySem.W.readsIn K (He.ga K d.b) (.type "type") = true) &&
  (match PySem.W.findCls K (.ref (He.ga K d.b)) (.type "type") "__init__" with
    | some (.val (.builtin n)) => decide (n = "ValueError.__init__")
    | _ => false)
theorem xi_ok {P : Program} {W0 : World} {K : PySem.W.Frag} {h : Heap} {mg : Str → Option Value} {base : Heap} {d : XDef} {fd : FuncData} (X : K.In h) (GN : h.Ns mainGlobals mg) (O : XOk d) (F : FunD K "__init__" d.qual (defArgs d.st) (defBody d.st) (defScope d.st) [] [] (He.ma K (He.ga K d.x) "__init__") fd)
    (e : xiB K d = true) : XI P W0 K mg base d.x d.fl := by
  unfold xiB at e
  rw [Bool.and_eq_true, Bool.and_eq_true, Bool.and_eq_true, Bool.and_eq_true, decide_eq_true_eq] at e
  obtain ⟨⟨⟨⟨m1, m2⟩, o⟩, h1, h2, h3, h4, h5, h6, h7, h8, h9, h10, h11, h12⟩, vV⟩ := e
  have vV : PySem.W.findCls K (.ref (He.ga K d.b)) (.type "type") "__init__" = some (.val (.builtin "ValueError.__init__")) := by
    split at vV
    · rename_i n q
      rw [q, of_decide_eq_true vV]
    · cases vV
  have T : OexC K (He.ga K d.x) := ⟨oexB_ok o, h1, h2, h3, h4⟩
  obtain ⟨j, p1, p2, p3, p4, p5, p6, q1, q2, q3, q4, eb, hl⟩ := O.body
  obtain ⟨n1, n2, n3, n4, n5, n6⟩ := O.nm
  have bd := O.bd
  have sc := O.sc
  rw [eb] at F bd
  exact ⟨_, _, fd, [d.self, d.p], PySem.W.mg_of X GN (He.eqO_ok m1), T, ⟨h5, h6, h2, h7⟩, h8, h9, h10, F.bindsN bd, init_ok F sc n1 n2 n3 n4 n5 n6 hl (PySem.W.mg_of X GN (He.eqO_ok m2)) h11 h12 vV T h8⟩
end DL
/-! DL, part q: a program's defs, the promise of all, the law's end. -/
namespace DL
open PySem PySem.Spec PyProof.Rows L2

/-! ### constants of the module -/
mutual
def conB (K : PySem.W.Frag) : D → Value → Bool
  | .non, u => (match u with | .none => true | _ => false)
  | .bl b, u => (match u with | .bool c => b == c | _ => false)
  | .int i, u => (match u with | .int j _ => decide (i = j) | _ => false)
  | .str x, u => (match u with | .str y _ => decide (x = y) | _ => false)
  | .ty n, u => (match u with | .type m => decide (n = m) | _ => false)
  | .gl x, u => (match u with | .ref a => He.eqO (PySem.W.nsIn K mainGlobals x) (some (some (.ref a))) | _ => false)
  | .tup ds, u => (match u with
    | .ref a => (match K.lookup a with
      | some ⟨.type c, _, .seq its _, _⟩ => decide (c = "tuple") && (decide (its.size ≤ sizeLine) && conL K ds its.toList)
      | _ => false)
    | _ => false)
  | .rl ds, u => (match u with
    | .ref a => (match K.lookup a with
      | some ⟨.type c, none, .seq its _, _⟩ => decide (c = "list") && (decide (its.size ≤ sizeLine) && conL K ds its.toList)
      | _ => false)
    | _ => false)
  | .ob _, _ => false
  | .kd _ _, _ => false
  | .xo _ _ _, _ => false
def conL (K : PySem.W.Frag) : List D → List Value → Bool
  | [], us => us.isEmpty
  | d :: ds, us => (match us with
    | u :: us => conB K d u && conL K ds us
    | [] => false)
end
section
variable {K : PySem.W.Frag} {h : Heap} {mg : Str → Option Value}
theorem len_vals : ∀ {vs : List V} {us : List Value}, Vals vs us → vs.length = us.length
  | _, _, .nil => rfl
  | _, _, .cons _ t => by rw [List.length_cons, List.length_cons, len_vals t]
variable {w0 : World}
mutual
theorem conB_ok (X : K.In h) (G : h.Ns mainGlobals mg) : ∀ (d : D) (u : Value), conB K d u = true → ∃ v, RelV v u ∧ ∀ w, Rep ⟨K, mg, w0⟩ w d v
  | .non, u, e => by
    cases u with
    | none => exact ⟨.non, rfl, fun _ => .non⟩
    | _ => cases e
  | .bl b, u, e => by
    cases u with
    | bool c =>
      have e1 : b = c := eq_of_beq (show (b == c) = true from e)
      exact ⟨.bl b, by rw [e1]; rfl, fun _ => .bl b⟩
    | _ => cases e
  | .int i, u, e => by
    cases u with
    | int j t =>
      have e1 : i = j := of_decide_eq_true e
      exact ⟨.int i, ⟨t, by rw [e1]⟩, fun _ => .int i⟩
    | _ => cases e
  | .str x, u, e => by
    cases u with
    | str j t =>
      have e1 : x = j := of_decide_eq_true e
      exact ⟨.str x, ⟨t, by rw [e1]⟩, fun _ => .str x⟩
    | _ => cases e
  | .ty n, u, e => by
    cases u with
    | type m =>
      have e1 : n = m := of_decide_eq_true e
      exact ⟨.ty n, by rw [e1]; rfl, fun _ => .ty n⟩
    | _ => cases e
  | .gl x, u, e => by
    cases u with
    | ref a => exact ⟨.ref a, rfl, fun _ => .gl (PySem.W.mg_of X G (He.eqO_ok e))⟩
    | _ => cases e
  | .tup ds, u, e => by
    cases u with
    | ref a =>
      unfold conB at e
      dsimp only at e
      cases q : K.lookup a with
      | none => rw [q] at e; cases e
      | some o =>
        obtain ⟨oc, od, dt, osl⟩ := o
        rw [q] at e
        cases oc with
        | type c =>
          cases dt with
          | seq its n =>
            dsimp only at e
            rw [Bool.and_eq_true, Bool.and_eq_true] at e
            obtain ⟨h1, h2, h3⟩ := e
            obtain ⟨vs, r, hr⟩ := conL_ok X G ds its.toList h3
            have hl := of_decide_eq_true h2
            refine ⟨.ref a, rfl, fun w => .tup (.inr ⟨_, its, n, q, congrArg Value.type (of_decide_eq_true h1), rfl, hl, r⟩) ?_ (hr w)⟩
            rw [(hr w).length, len_vals r]
            simpa using hl
          | _ => cases e
        | _ => cases e
    | _ => cases e
  | .rl ds, u, e => by
    cases u with
    | ref a =>
      unfold conB at e
      dsimp only at e
      cases q : K.lookup a with
      | none => rw [q] at e; cases e
      | some o =>
        obtain ⟨oc, od, dt, osl⟩ := o
        rw [q] at e
        cases oc with
        | type c =>
          cases od with
          | none =>
            cases dt with
            | seq its n =>
              dsimp only at e
              rw [Bool.and_eq_true, Bool.and_eq_true] at e
              obtain ⟨h1, h2, h3⟩ := e
              obtain ⟨vs, r, hr⟩ := conL_ok X G ds its.toList h3
              have hl := of_decide_eq_true h2
              refine ⟨.ref a, rfl, fun w => .rl (.inr ⟨_, its, n, q, congrArg Value.type (of_decide_eq_true h1), rfl, rfl, hl, r⟩) ?_ (hr w)⟩
              rw [(hr w).length, len_vals r]
              simpa using hl
            | _ => cases e
          | some z => cases dt <;> cases e
        | _ => cases od <;> cases dt <;> cases e
    | _ => cases e
  | .ob n, u, e => by cases e
theorem conL_ok (X : K.In h) (G : h.Ns mainGlobals mg) : ∀ (ds : List D) (us : List Value), conL K ds us = true → ∃ vs, Vals vs us ∧ ∀ w, Reps ⟨K, mg, w0⟩ w ds vs
  | [], us, e => by
    cases us with
    | nil => exact ⟨[], .nil, fun _ => .nil⟩
    | cons a b => cases e
  | d :: ds, us, e => by
    cases us with
    | nil => cases e
    | cons u us =>
      unfold conL at e
      dsimp only at e
      rw [Bool.and_eq_true] at e
      obtain ⟨v, r1, h1⟩ := conB_ok X G d u e.1
      obtain ⟨vs, r2, h2⟩ := conL_ok X G ds us e.2
      exact ⟨v :: vs, .cons r1 r2, fun w => .cons (h1 w) (h2 w)⟩
end
end
/-- a written dict's values -/
def kdB (K : PySem.W.Frag) (a : Addr) (ks : List Str) (vs : List D) : Bool := match K.lookup a with
  | some ⟨_, _, .dict es _, _⟩ => conL K vs (es.toList.map (·.val))
  | _ => false
def conF (K : PySem.W.Frag) (p : Str × D) : Bool := match PySem.W.nsIn K mainGlobals p.1 with
  | some (some u) => (match p.2 with
    | .kd ks vs => (match u with
      | .ref a => kdB K a ks vs
      | _ => false)
    | d => conB K d u)
  | _ => false
def kdsOf : List (Str × D) → List (Str × List Str)
  | [] => []
  | (x, .kd ks _) :: r => (x, ks) :: kdsOf r
  | _ :: r => kdsOf r
theorem kdsOf_mem : ∀ {cs : List (Str × D)} {x : Str} {ks : List Str} {vs : List D}, (x, D.kd ks vs) ∈ cs → (x, ks) ∈ kdsOf cs
  | p :: r, x, ks, vs, h => by
    rcases List.mem_cons.mp h with h | h
    · rw [← h]
      exact List.mem_cons_self
    · have ih := kdsOf_mem h
      obtain ⟨y, d⟩ := p
      cases d with
      | kd ks' vs' => exact List.mem_cons_of_mem _ ih
      | _ => exact ih
theorem conF_ok {w0 : World} {K : PySem.W.Frag} {h : Heap} {mg : Str → Option Value} (X : K.In h) (G : h.Ns mainGlobals mg) {x : Str} {d : D} (e : conF K (x, d) = true)
    (hk : ∀ ks vs, d = .kd ks vs → He.dicW K (He.ga K x) = some (He.keysIn w0.params ks)) : ∃ v u, mg x = some u ∧ RelV v u ∧ ∀ w, Rep ⟨K, mg, w0⟩ w d v := by
  unfold conF at e
  dsimp only at e
  cases q : PySem.W.nsIn K mainGlobals x with
  | none => rw [q] at e; cases e
  | some o =>
    rw [q] at e
    cases o with
    | none => cases e
    | some u =>
      have hmg := PySem.W.mg_of X G q
      have plain : conB K d u = true → ∃ v u, mg x = some u ∧ RelV v u ∧ ∀ w, Rep ⟨K, mg, w0⟩ w d v := fun e => by
        obtain ⟨v, r, hr⟩ := conB_ok (w0 := w0) X G d u e
        exact ⟨v, u, hmg, r, hr⟩
      cases d with
      | kd ks vs =>
        cases u with
        | ref a =>
          have ega : He.ga K x = a := by
            unfold He.ga
            rw [q]
          have e : kdB K a ks vs = true := e
          have hd := hk ks vs rfl
          rw [ega] at hd
          obtain ⟨es, n, kk⟩ := He.dicW_ok hd
          have eK : es.toList.map He.keyOf = He.keysIn w0.params ks := by
            unfold He.dicW at hd
            rw [kk.at_, kk.low] at hd
            exact Option.some.inj hd
          unfold kdB at e
          rw [kk.at_] at e
          dsimp only at e
          obtain ⟨us, r, hr⟩ := conL_ok (w0 := w0) X G vs _ e
          refine ⟨.ref a, .ref a, hmg, rfl, fun w => .kd kk (fun z => ?_) r (hr w)⟩
          unfold PySem.W.nsIn
          rw [kk.at_]
          dsimp only
          have main : ∀ (l : List DictEntry) (ks : List Str), l.map He.keyOf = He.keysIn w0.params ks → (match l.find? (·.key.isStr z) with
              | some e => some (some e.val)
              | none => if l.any (·.refKey) then none else some none) = some ((ks.zip (l.map (·.val))).lookup z) := by
            intro l
            induction l with
            | nil => intro ks _; cases ks <;> rfl
            | cons e l ih =>
              intro ks hks
              cases ks with
              | nil => cases hks
              | cons k ks =>
                have hks : He.keyOf e :: l.map He.keyOf = some (k, PyData.keyHash w0.params k) :: He.keysIn w0.params ks := hks
                injection hks with h1 h2
                have hke : ∃ t, e.key = .str k t := by
                  unfold He.keyOf at h1
                  split at h1
                  · rename_i y t qk
                    have e1 := (Prod.mk.inj (Option.some.inj h1)).1
                    subst e1
                    exact ⟨t, qk⟩
                  · cases h1
                obtain ⟨t, hke⟩ := hke
                have hrf : e.refKey = false := by
                  unfold DictEntry.refKey
                  rw [hke]
                have his : e.key.isStr z = (z == k) := by
                  rw [hke]
                  show (k == z) = (z == k)
                  rw [Bool.eq_iff_iff, beq_iff_eq, beq_iff_eq]
                  exact eq_comm
                have ih := ih ks h2
                simp only [List.find?_cons, List.any_cons, List.map_cons, List.zip_cons_cons, List.lookup_cons, his, hrf, Bool.false_or]
                cases z == k with
                | true => rfl
                | false => exact ih
          exact main _ _ eK
        | _ => cases e
      | _ => exact plain e

/-! ### own classes -/
abbrev ClsL := List (Str × List Str × Bool)
def clsOf : GEnv → ClsL
  | [] => []
  | (x, .cls u b) :: r => (x, u, b) :: clsOf r
  | (x, .xcl u _) :: r => (x, u, false) :: clsOf r
  | _ :: r => clsOf r
theorem clsOf_cls : ∀ {G : GEnv} {x : Str} {u : List Str} {b : Bool}, (x, GK.cls u b) ∈ G → (x, u, b) ∈ clsOf G
  | p :: r, x, u, b, h => by
    rcases List.mem_cons.mp h with h | h
    · rw [← h]
      exact List.mem_cons_self
    · have ih := clsOf_cls h
      obtain ⟨y, d⟩ := p
      cases d with
      | cls u' b' => exact List.mem_cons_of_mem _ ih
      | xcl u' b' => exact List.mem_cons_of_mem _ ih
      | _ => exact ih
theorem clsOf_xcl : ∀ {G : GEnv} {x f : Str} {u : List Str}, (x, GK.xcl u f) ∈ G → (x, u, false) ∈ clsOf G
  | p :: r, x, f, u, h => by
    rcases List.mem_cons.mp h with h | h
    · rw [← h]
      exact List.mem_cons_self
    · have ih := clsOf_xcl h
      obtain ⟨y, d⟩ := p
      cases d with
      | cls u' b' => exact List.mem_cons_of_mem _ ih
      | xcl u' b' => exact List.mem_cons_of_mem _ ih
      | _ => exact ih
/-- where a class stands -/
def clsA (K : PySem.W.Frag) (x : Str) : Option Addr := match PySem.W.nsIn K mainGlobals x with
  | some (some (.ref C)) => some C
  | _ => none
def clsQ1 (K : PySem.W.Frag) (cl : ClsL) (p : Str × List Str × Bool) : Bool := match clsA K p.1 with
  | some C => clsB K C && (!p.2.2 || PySem.W.excIn K C veMro "ValueError.__new__") && (cl.all fun q => match clsA K q.1 with
      | some D => decide (PySem.W.exmOne K (.ref C) (.ref D) = some (decide (q.1 ∈ p.2.1)) ∧ PySem.W.kitOne K (.ref C) (.ref D) = some (decide (q.1 ∈ p.2.1)))
      | none => false) && xTys.all fun n => decide (PySem.W.kitOne K (.ref C) (.type n) = some (decide (Str.ofString n ∈ p.2.1)))
  | none => false
def clsQB (K : PySem.W.Frag) (cl : ClsL) : Bool := cl.all (clsQ1 K cl)
theorem clsA_mg {K : PySem.W.Frag} {h : Heap} {mg : Str → Option Value} {x : Str} {C : Addr} (X : K.In h) (G : h.Ns mainGlobals mg) (e : clsA K x = some C) : mg x = some (.ref C) := by
  unfold clsA at e
  split at e
  · rename_i C' q
    cases e
    exact PySem.W.mg_of X G q
  · cases e
theorem clsQ_ok {K : PySem.W.Frag} {h : Heap} {mg : Str → Option Value} {G : GEnv} (X : K.In h) (GN : h.Ns mainGlobals mg) (e : clsQB K (clsOf G) = true) :
    ClsR K mg (upOf G) ∧ ∀ x u C, G.lookup x = some (.cls u true) → mg x = some (.ref C) → PySem.W.excIn K C veMro "ValueError.__new__" = true := by
  have look : ∀ x u b, (x, u, b) ∈ clsOf G → ∃ C, clsA K x = some C ∧ mg x = some (.ref C) ∧ clsB K C = true ∧ (b = true → PySem.W.excIn K C veMro "ValueError.__new__" = true) ∧
      (∀ q ∈ clsOf G, ∃ D, clsA K q.1 = some D ∧ PySem.W.exmOne K (.ref C) (.ref D) = some (decide (q.1 ∈ u)) ∧ PySem.W.kitOne K (.ref C) (.ref D) = some (decide (q.1 ∈ u))) ∧
      ∀ n ∈ xTys, PySem.W.kitOne K (.ref C) (.type n) = some (decide (Str.ofString n ∈ u)) := fun x u b hx => by
    have h1 := List.all_eq_true.mp e _ hx
    unfold clsQ1 at h1
    dsimp only at h1
    cases q : clsA K x with
    | none => rw [q] at h1; cases h1
    | some C =>
      rw [q] at h1
      dsimp only at h1
      rw [Bool.and_eq_true, Bool.and_eq_true, Bool.and_eq_true] at h1
      obtain ⟨⟨⟨h2, h3⟩, h4⟩, h5⟩ := h1
      refine ⟨C, rfl, clsA_mg X GN q, h2, fun hb => ?_, fun p hp => ?_, fun n hn => of_decide_eq_true (List.all_eq_true.mp h5 n hn)⟩
      · rw [hb] at h3
        simpa using h3
      · have h6 := List.all_eq_true.mp h4 p hp
        cases q2 : clsA K p.1 with
        | none => rw [q2] at h6; cases h6
        | some D =>
          rw [q2] at h6
          exact ⟨D, rfl, of_decide_eq_true h6⟩
  have up : ∀ x u, upOf G x = some u → ∃ b, (x, u, b) ∈ clsOf G := fun x u h => by
    unfold upOf at h
    split at h
    · rename_i u' b q
      cases h
      exact ⟨b, clsOf_cls (mem_of_look q)⟩
    · rename_i u' b q
      cases h
      exact ⟨false, clsOf_xcl (mem_of_look q)⟩
    · cases h
  refine ⟨⟨fun x u hu => ?_, fun x u y u' C D hx hy mx my => ?_, fun x u C hx mx n hn => ?_⟩, fun x u C hx mx => ?_⟩
  · obtain ⟨b, hb⟩ := up x u hu
    obtain ⟨C, h1, h2, h3, _⟩ := look x u b hb
    exact ⟨C, clsB_ok h2 h3⟩
  · obtain ⟨b, hb⟩ := up x u hx
    obtain ⟨b', hb'⟩ := up y u' hy
    obtain ⟨C', h1, h2, _, _, h5, _⟩ := look x u b hb
    obtain ⟨D', g1, g2⟩ := h5 _ hb'
    have e1 := clsA_mg X GN g1
    dsimp only at e1
    rw [mx] at h2
    rw [my] at e1
    cases h2; cases e1
    exact g2
  · obtain ⟨b, hb⟩ := up x u hx
    obtain ⟨C', h1, h2, _, _, _, h6⟩ := look x u b hb
    rw [mx] at h2
    cases h2
    exact h6 n hn
  · obtain ⟨C', h1, h2, _, h4, _⟩ := look x u true (clsOf_cls (mem_of_look hx))
    rw [mx] at h2
    cases h2
    exact h4 rfl

/-! ### what is looked at, at the end of the top -/
/-- a class off which methods are called -/
def bmB (K : PySem.W.Frag) (p : Str × List Str) : Bool := decide (PySem.W.specialIn K (.ref (He.ga K p.1)) "__getattribute__" = some (some (.builtin "type.__getattribute__")) ∧ PySem.W.readsIn K (He.ga K p.1) (.type "type") = true) && p.2.all fun m => PySem.W.keepIn K (.ref (He.ma K (He.ga K p.1) m)) &&
  (match PySem.W.findCls K (.ref (He.ga K p.1)) (.type "type") m with
    | some (.val (.ref f)) => decide (f = He.ma K (He.ga K p.1) m)
    | _ => false)
theorem bmB_ok {K : PySem.W.Frag} {p : Str × List Str} (h : bmB K p = true) : (PySem.W.specialIn K (.ref (He.ga K p.1)) "__getattribute__" = some (some (.builtin "type.__getattribute__")) ∧ PySem.W.readsIn K (He.ga K p.1) (.type "type") = true) ∧
    ∀ m ∈ p.2, PySem.W.keepIn K (.ref (He.ma K (He.ga K p.1) m)) = true ∧ PySem.W.findCls K (.ref (He.ga K p.1)) (.type "type") m = some (.val (.ref (He.ma K (He.ga K p.1) m))) := by
  unfold bmB at h
  rw [Bool.and_eq_true, decide_eq_true_eq] at h
  refine ⟨h.1, fun m hm => ?_⟩
  have z := List.all_eq_true.mp h.2 m hm
  rw [Bool.and_eq_true] at z
  refine ⟨z.1, ?_⟩
  have z2 := z.2
  split at z2
  · rename_i f q
    rw [q, of_decide_eq_true z2]
  · cases z2
abbrev AlQ : Type := He.AlD × List (Option (List (Option (Str × Int))))
def obsQ (cs : List (Str × D)) (cl : ClsL) (xs : List XDef) (bl : List (Str × List Str)) (fa : List He.Fa) (fn : List He.DefD) (K : PySem.W.Frag) : AlQ := (((((fa.all fun f => f.ok K) && fn.all fun d => d.ok K) && cs.all (conF K)) && clsQB K cl && xs.all (xiB K) && bl.all (bmB K), fn.map fun d => He.fnW K d.at_), (kdsOf cs).map fun p => He.dicW K (He.ga K p.1))
def valQ (cs : List (Str × D)) (fn : List He.DefD) (w0 : World) : AlQ := (He.valD fn, (kdsOf cs).map fun p => some (He.keysIn w0.params p.2))
def SaysQ (cs : List (Str × D)) (cl : ClsL) (xs : List XDef) (bl : List (Str × List Str)) (fa : List He.Fa) (fn : List He.DefD) (w0 : World) (K : PySem.W.Frag) : Prop := obsQ cs cl xs bl fa fn K = valQ cs fn w0
theorem SaysQ.d {cs : List (Str × D)} {cl : ClsL} {xs : List XDef} {bl : List (Str × List Str)} {fa : List He.Fa} {fn : List He.DefD} {w0 : World} {K : PySem.W.Frag} (c : SaysQ cs cl xs bl fa fn w0 K) : He.SaysD fa fn K ∧ (∀ p ∈ cs, conF K p = true) ∧ (∀ p ∈ kdsOf cs, He.dicW K (He.ga K p.1) = some (He.keysIn w0.params p.2)) ∧ clsQB K cl = true ∧ (∀ d ∈ xs, xiB K d = true) ∧ ∀ p ∈ bl, bmB K p = true := by
  have c1 : ((((fa.all fun f => f.ok K) && fn.all fun d => d.ok K) && cs.all (conF K)) && clsQB K cl && xs.all (xiB K) && bl.all (bmB K)) = true := congrArg (fun z : AlQ => z.1.1) c
  have c2 : fn.map (fun d => He.fnW K d.at_) = fn.map He.DefD.val := congrArg (fun z : AlQ => z.1.2) c
  have c3 : ((kdsOf cs).map fun p => He.dicW K (He.ga K p.1)) = (kdsOf cs).map fun p => some (He.keysIn w0.params p.2) := congrArg (fun z : AlQ => z.2) c
  rw [Bool.and_eq_true, Bool.and_eq_true, Bool.and_eq_true, Bool.and_eq_true] at c1
  refine ⟨?_, fun p hp => List.all_eq_true.mp c1.1.1.1.2 p hp, fun p hp => List.map_inj_left.mp c3 p hp, c1.1.1.2, fun d hd => List.all_eq_true.mp c1.1.2 d hd, fun p hp => List.all_eq_true.mp c1.2 p hp⟩
  unfold He.SaysD He.obsD He.valD
  rw [c1.1.1.1.1, c2]
def obsQG (n : Nat) (cs : List (Str × D)) (cl : ClsL) (xs : List XDef) (bl : List (Str × List Str)) (fa : List He.Fa) (fn : List He.DefD) (g : Addr → Option Obj) : AlQ := obsQ cs cl xs bl fa fn (He.frG g (cStatics :: He.asD g n))
def hookQ (n : Nat) (cs : List (Str × D)) (cl : ClsL) (xs : List XDef) (bl : List (Str × List Str)) (fa : List He.Fa) (fn : List He.DefD) : PySem.W.Hook where
  α := AlQ
  obs := fun s => obsQG n cs cl xs bl fa fn s.heap.get?
  val := fun w => valQ cs fn w
  says := fun w h => ∃ K : PySem.W.Frag, K.In h ∧ SaysQ cs cl xs bl fa fn w K
  of := fun _ _ e => ⟨_, He.frG_in, e⟩
  keeps := fun _ _ _ ⟨K, hK, c⟩ k => ⟨K, PySem.W.Frag.In.keeps hK k, c⟩
theorem obsQG_eq {n : Nat} {cs : List (Str × D)} {cl : ClsL} {xs : List XDef} {bl : List (Str × List Str)} {fa : List He.Fa} {fn : List He.DefD} {g : Addr → Option Obj} {s : Shared} (h : ∀ a, g a = s.heap.get? a) : obsQG n cs cl xs bl fa fn g = (hookQ n cs cl xs bl fa fn).obs s := by
  have e : g = s.heap.get? := funext h
  rw [e] <;> rfl

/-! ### a program -/
structure FDef where
  /-- the module's name for it -/
  gn : Str
  name : Str
  st : Stmt
  ps : List Str
  N : List Str
  /-- the method's name, of a class' -/
  me : Option Str
  qual : Str
def FDef.ctx (d : FDef) : Ctx := ⟨defScope d.st, d.N, fun _ => true⟩
noncomputable def FDef.comp (d : FDef) (G : GEnv) : Option (CSs G d.ctx (defBody d.st)) := compB G d.ctx (defBody d.st)
noncomputable def FDef.den (d : FDef) (G : GEnv) : Option (PhT → DenS) := (d.comp G).map (·.den)
def FDef.defD (d : FDef) : He.DefD := ⟨(d.gn, d.me), d.name, d.qual, defArgs d.st, defBody d.st, defScope d.st, [], []⟩
/-- what the defs do, k calls deep at most -/
noncomputable def PhiR (T : List FDef) (G : GEnv) : Nat → PhT
  | 0 => fun _ _ _ => .no
  | k + 1 => fun i ds S => match T[i]? with
    | none => .no
    | some d => match d.den G with
      | none => .no
      | some b => runB d.N.length (b (PhiR T G k)) ds S
/-- .. in one step, never opened by itself -/
@[irreducible] noncomputable def Phi (T : List FDef) (G : GEnv) (k : Nat) : PhT := PhiR T G k
theorem Phi_zero {T : List FDef} {G : GEnv} (i : Nat) (ds : List D) (S : Sto) : Phi T G 0 i ds S = .no := by
  unfold Phi
  rfl
theorem Phi_succ {T : List FDef} {G : GEnv} (k i : Nat) (ds : List D) (S : Sto) : Phi T G (k + 1) i ds S = match T[i]? with
    | none => .no
    | some d => match d.den G with
      | none => .no
      | some b => runB d.N.length (b (Phi T G k)) ds S := by
  unfold Phi
  rfl
structure FOk (d : FDef) : Prop where
  sc : FnScope d.N d.ps (defScope d.st)
  bd : ∀ (kV doc pm : Value) (an : Option Addr) (cdv ct : Value) (us : List Value), us.length = d.ps.length → bindArgs (PySem.W.fnOf d.name d.qual (defArgs d.st) (defBody d.st) (defScope d.st) .none kV doc pm an cdv ct) ⟨us, []⟩ = pure (d.ps.zip us)
def AllOk : List FDef → Prop
  | [] => True
  | d :: r => FOk d ∧ AllOk r
theorem AllOk.at_ : ∀ {T : List FDef} {i : Nat} {d : FDef}, AllOk T → T[i]? = some d → FOk d
  | d :: r, 0, _, h, e => by cases e; exact h.1
  | d :: r, i + 1, _, h, e => AllOk.at_ h.2 (by simpa using e)
def isDef (T : List FDef) (id ar : Nat) (x : Str) (m : Option Str) : Bool := match T[id]? with
  | some d => decide (d.gn = x) && decide (d.me = m) && decide (d.ps.length = ar)
  | none => false
theorem isDef_ok {T : List FDef} {id ar : Nat} {x : Str} {m : Option Str} (h : isDef T id ar x m = true) : ∃ d, T[id]? = some d ∧ d.gn = x ∧ d.me = m ∧ d.ps.length = ar := by
  unfold isDef at h
  split at h
  · rename_i d q
    rw [Bool.and_eq_true, Bool.and_eq_true, decide_eq_true_eq, decide_eq_true_eq, decide_eq_true_eq] at h
    exact ⟨d, q, h.1.1, h.1.2, h.2⟩
  · cases h
def gB (T : List FDef) (xs : List XDef) (G : GEnv) : Bool := G.all fun p => match p.2 with
  | .fn id ar => isDef T id ar p.1 none
  | .con _ => true
  | .cls _ _ => true
  | .xcl _ f => xs.any fun d => decide (d.x = p.1) && decide (d.fl = f)
  | .obj i => (match i.ini with
    | some (id, ar) => isDef T id ar p.1 (some "__init__")
    | none => true) && (i.ms.all (fun q => isDef T q.2.1 q.2.2 p.1 (some q.1)) && i.bs.all fun q => isDef T q.2.1 q.2.2 p.1 (some q.1))
/-- the classes off which methods are called -/
def basesOf : GEnv → List (Str × List Str)
  | [] => []
  | (x, .obj i) :: r => if i.bs.isEmpty then basesOf r else (x, i.bs.map (·.1)) :: basesOf r
  | _ :: r => basesOf r
theorem basesOf_mem : ∀ {G : GEnv} {x m : Str} {i : ObjI} {q : Nat × Nat}, (x, GK.obj i) ∈ G → (m, q) ∈ i.bs → (x, i.bs.map (·.1)) ∈ basesOf G
  | p :: r, x, m, i, q, h, hm => by
    rcases List.mem_cons.mp h with h | h
    · subst h
      unfold basesOf
      rw [if_neg (by intro z; rw [List.isEmpty_iff.mp z] at hm; cases hm)]
      exact List.mem_cons_self
    · have ih := basesOf_mem h hm
      obtain ⟨y, d⟩ := p
      cases d with
      | obj j =>
        unfold basesOf
        split
        · exact ih
        · exact List.mem_cons_of_mem _ ih
      | _ => exact ih
/-- what is asked of own classes -/
def obFa : GEnv → List He.Fa
  | [] => []
  | (x, .obj i) :: r => (.glo x :: .cls x :: (match i.ini with
    | some _ => [.mkr x]
    | none => [])) ++ (i.fs.map (He.Fa.noat x) ++ (i.ms.map (fun q => He.Fa.meth x q.1) ++ obFa r))
  | _ :: r => obFa r
theorem obFa_mem : ∀ {G : GEnv} {x : Str} {i : ObjI}, (x, GK.obj i) ∈ G → He.Fa.glo x ∈ obFa G ∧ He.Fa.cls x ∈ obFa G ∧ (i.ini.isSome = true → He.Fa.mkr x ∈ obFa G) ∧ (∀ f ∈ i.fs, He.Fa.noat x f ∈ obFa G) ∧ ∀ q ∈ i.ms, He.Fa.meth x q.1 ∈ obFa G
  | p :: r, x, i, h => by
    have sub : ∀ f, f ∈ obFa r → f ∈ obFa (p :: r) := fun f hf => by
      obtain ⟨y, d⟩ := p
      cases d with
      | obj j =>
        show f ∈ (.glo y :: .cls y :: _) ++ (_ ++ (_ ++ obFa r))
        simp [hf]
      | _ => exact hf
    rcases List.mem_cons.mp h with h | h
    · subst h
      refine ⟨?_, ?_, fun z => ?_, fun f hf => ?_, fun q hq => ?_⟩
      · show _ ∈ (He.Fa.glo x :: .cls x :: _) ++ _
        simp
      · show _ ∈ (He.Fa.glo x :: .cls x :: _) ++ _
        simp
      · show _ ∈ (He.Fa.glo x :: .cls x :: (match i.ini with | some _ => [He.Fa.mkr x] | none => [])) ++ _
        cases e : i.ini with
        | none => rw [e] at z; cases z
        | some v => simp
      · show _ ∈ (He.Fa.glo x :: .cls x :: _) ++ (i.fs.map (He.Fa.noat x) ++ _)
        simp only [List.mem_append, List.mem_map]
        exact .inr (.inl ⟨f, hf, rfl⟩)
      · show _ ∈ (He.Fa.glo x :: .cls x :: _) ++ (i.fs.map (He.Fa.noat x) ++ (i.ms.map (fun q => He.Fa.meth x q.1) ++ _))
        simp only [List.mem_append, List.mem_map]
        exact .inr (.inr (.inl ⟨q, hq, rfl⟩))
    · obtain ⟨h1, h2, h3, h4, h5⟩ := obFa_mem h
      exact ⟨sub _ h1, sub _ h2, fun z => sub _ (h3 z), fun f hf => sub _ (h4 f hf), fun q hq => sub _ (h5 q hq)⟩
def csOf : GEnv → List (Str × D)
  | [] => []
  | (x, .con d) :: r => (x, d) :: csOf r
  | (_, .fn _ _) :: r => csOf r
  | (_, .cls _ _) :: r => csOf r
  | (_, .xcl _ _) :: r => csOf r
  | (_, .obj _) :: r => csOf r
theorem csOf_mem : ∀ {G : GEnv} {x : Str} {d : D}, (x, GK.con d) ∈ G → (x, d) ∈ csOf G
  | (y, .con e) :: r, x, d, h => by
    rcases List.mem_cons.mp h with h | h
    · cases h; exact List.mem_cons_self
    · exact List.mem_cons_of_mem _ (csOf_mem h)
  | (y, .fn i j) :: r, x, d, h => by
    rcases List.mem_cons.mp h with h | h
    · cases h
    · exact csOf_mem (G := r) h
  | (y, .cls i j) :: r, x, d, h => by
    rcases List.mem_cons.mp h with h | h
    · cases h
    · exact csOf_mem (G := r) h
  | (y, .xcl i j) :: r, x, d, h => by
    rcases List.mem_cons.mp h with h | h
    · cases h
    · exact csOf_mem (G := r) h
  | (y, .obj i) :: r, x, d, h => by
    rcases List.mem_cons.mp h with h | h
    · cases h
    · exact csOf_mem (G := r) h
theorem fn_okD {P : Program} {W0 : World} {K : PySem.W.Frag} {mg : Str → Option Value} {base : Heap} {x qual : Str} {args : Arguments} {body : List Stmt} {sc : Scope} {dvs : List V} {kws : List (Str × V)} {f : Addr} {fd : FuncData} {N ps : List Str} {k : Nat} {b : DenS}
    (F : FunD K x qual args body sc dvs kws f fd) (S : FnScope N ps sc)
    (hbody : ∀ (X : Cx) (W : WX), X.prog = P → X.w = W0 → X.K = K → X.mg = mg → X.base = base → X.N = N → X.env.scope = sc → Room k X.A → X.A.guards = some [] → X.calm = true → (∀ y, X.fn y = true) → X.stack = X.env :: X.outer → X.env.frame = some X.env.locals → X.ex = [] → Takes X W →
      PassesOwn (model X.prog X.w) X.A X.env X.xe → PSs X body (tS ⟨X.K, X.mg, X.w⟩ W b)) :
    FnG P W0 K mg base (L2.CX P W0) (k + 1) f fd ps (spD ⟨K, mg, W0⟩ ps.length (runB N.length b)) := by
  refine FunD.okG F S (fun vs H Q E h => ?_) (fun cdv A outer s H vs Q E hr hgd h => ?_)
  · obtain ⟨w, S, ds, _, _, r, hl, _⟩ := h
    rw [← r.length, hl]
  · obtain ⟨w, S0, ds, eH, so, r, hl, p⟩ := h
    refine ⟨_, hbody _ (fun c d _ H => E c d H) rfl rfl rfl rfl rfl rfl rfl hr hgd rfl (fun _ => rfl) rfl rfl rfl (takes_of rfl rfl rfl rfl) PassesOwn.leaving, w, S0, ds.map some ++ List.replicate (N.length - ds.length) none, eH, so, FrOk.start r, ?_⟩
    unfold runB at p
    cases q : b (ds.map some ++ List.replicate (N.length - ds.length) none) S0 with
    | ok fl fr S' =>
      rw [q] at p
      cases fl with
      | nx => exact fun w' σ' st so' fo' => gc_post so p st so' .non
      | rt d => exact fun w' v st so' r' => gc_post so p st so' r'
      | bk => exact p.elim
      | ct => exact p.elim
    | ex e fr S' =>
      rw [q] at p
      exact fun w' σ' c dx st so' fo' rx => gcX_post so p st so' rx
    | no => rw [q] at p; exact p
theorem fn_no {P : Program} {w : World} {K : PySem.W.Frag} {mg : Str → Option Value} {base : Heap} {C : CXT} {k n : Nat} {f : Addr} {fd : FuncData} {ps : List Str} {g : Gnd} {φ : List D → Sto → Out D} (h : ∀ ds S, φ ds S = .no) : FnG P w K mg base C k f fd ps (spD g n φ) := by
  have hf : ∀ vs H Q E, spD g n φ vs H Q E → False := fun vs H Q E q => by
    obtain ⟨w, S, ds, _, _, _, _, p⟩ := q
    rw [h] at p
    exact p
  exact ⟨fun vs H Q E q => (hf _ _ _ _ q).elim, fun A outer s H args us vs Q E hr hgd he hb hv hs => (hf _ _ _ _ hs).elim⟩
/-- what is known of own classes, in a module -/
structure ObK (K : PySem.W.Frag) (mg : Str → Option Value) (G : GEnv) : Prop where
  at_ : ∀ x i, objOf G x = some i → mg x = some (.ref (He.ga K x)) ∧ Cls K (He.ga K x) ∧ (i.ini.isSome = true → Mk K (He.ga K x) (He.ma K (He.ga K x) "__init__")) ∧ (∀ f ∈ i.fs, NoAttr K (He.ga K x) f) ∧ ∀ q ∈ i.ms, Meth K (He.ga K x) q.1 (He.ma K (He.ga K x) q.1)
theorem objOf_mem {G : GEnv} {x : Str} {i : ObjI} (h : objOf G x = some i) : (x, GK.obj i) ∈ G := by
  unfold objOf at h
  split at h
  · rename_i j q
    cases h
    exact mem_of_look q
  · cases h
/-- EVERY DEF KEEPS ITS PROMISE -/
theorem all_ok {P : Program} {W0 : World} {K : PySem.W.Frag} {mg : Str → Option Value} {base : Heap} {T : List FDef} {TX : List XDef} {G : GEnv} (hT : ∀ (i : Nat) (d : FDef), T[i]? = some d → ∃ fd : FuncData, FunD K d.name d.qual (defArgs d.st) (defBody d.st) (defScope d.st) [] [] (He.fAd K (d.gn, d.me)) fd)
    (hgl : ∀ (i : Nat) (d : FDef), T[i]? = some d → mg d.gn = some (.ref (He.ga K d.gn))) (hob : ObK K mg G) (hbl : ∀ p ∈ basesOf G, bmB K p = true)
    (hA : AllOk T) (hG : gB T TX G = true) (hcon : ∀ x d, (x, GK.con d) ∈ G → ∃ v u, mg x = some u ∧ RelV v u ∧ ∀ w, Rep ⟨K, mg, W0⟩ w d v) (hfree : ∀ x ∈ freeN, mg x = none) (hcls : ClsR K mg (upOf G)) (hrs : ∀ x u C, G.lookup x = some (.cls u true) → mg x = some (.ref C) → PySem.W.excIn K C veMro "ValueError.__new__" = true) (hxi : ∀ x u f, G.lookup x = some (.xcl u f) → XI P W0 K mg base x f) :
    ∀ (k i : Nat) (d : FDef), T[i]? = some d → ∀ (fd : FuncData), FunD K d.name d.qual (defArgs d.st) (defBody d.st) (defScope d.st) [] [] (He.fAd K (d.gn, d.me)) fd →
      FnG P W0 K mg base (L2.CX P W0) (2 * k + 1) (He.fAd K (d.gn, d.me)) fd d.ps (spD ⟨K, mg, W0⟩ d.ps.length (Phi T G k i)) := by
  intro k
  induction k with
  | zero => exact fun i d _ fd _ => fn_no fun _ _ => Phi_zero _ _ _
  | succ k ih =>
    intro i d hi fd F
    cases q : d.den G with
    | none =>
      refine fn_no fun ds S => ?_
      rw [Phi_succ, hi]
      dsimp only
      rw [q]
    | some b =>
      have eP : Phi T G (k + 1) i = runB d.N.length (b (Phi T G k)) := by
        funext ds S
        rw [Phi_succ, hi]
        dsimp only
        rw [q]
      rw [eP]
      unfold FDef.den at q
      cases q2 : d.comp G with
      | none => rw [q2] at q; cases q
      | some c =>
        rw [q2] at q
        cases q
        have def_ : ∀ {id ar : Nat} {x : Str} {m : Option Str}, isDef T id ar x m = true → ∃ (fd : FuncData) (ps : List Str), L2.Binds K fd ps [] ∧ (m = none → PySem.W.keepIn K (.ref (He.fAd K (x, m))) = true) ∧ FnG P W0 K mg base (L2.CX P W0) (2 * k + 1) (He.fAd K (x, m)) fd ps (spD ⟨K, mg, W0⟩ ar (Phi T G k id)) := fun h => by
          obtain ⟨d', q3, z1, z2, z3⟩ := isDef_ok h
          subst z1 z2 z3
          obtain ⟨fd', F'⟩ := hT _ d' q3
          exact ⟨fd', d'.ps, F'.bindsN (hA.at_ q3).bd, fun _ => F'.kp, ih _ d' q3 fd' F'⟩
        refine fn_okD F (hA.at_ hi).sc fun X W e1 e2 e3 e4 e5 e6 e7 hr hgd hcalm hfn hst hfr hex tk po => c.ok (Phi T G k) (2 * k + 1) X W ?_ tk
        refine ⟨⟨e7, e6, by rw [e6]; exact (hA.at_ hi).sc.nd, hcalm, hr, by omega, hgd, by rw [e7]; exact (hA.at_ hi).sc.kind, po, fun y _ => hfn y, fun x id ar hx => ⟨?_⟩, fun x d hx => ?_, fun x hx => by rw [e4]; exact hfree x hx, by rw [e3, e4]; exact hcls, by rw [e3, e4]; exact hrs, by rw [e1, e2, e3, e4, e5]; exact hxi, ?_, fun x i id ar hx hi => ⟨?_⟩, fun x i m p hx hp => ⟨?_⟩, fun m C sp hm => ?_⟩, hst, hfr, hex⟩
        · have z := List.all_eq_true.mp hG _ (mem_of_look hx)
          obtain ⟨d', q3, z1, z2, z3⟩ := isDef_ok z
          obtain ⟨fd', ps', b1, b2, b3⟩ := def_ z
          have z1 : d'.gn = x := z1
          refine ⟨He.ga K x, fd', ps', ?_, ?_, ?_, ?_⟩
          · rw [e4, ← z1]
            exact hgl _ d' q3
          · rw [e3]
            exact b2 rfl
          · rw [e3]
            exact b1
          · rw [e1, e2, e3, e4, e5]
            exact b3
        · obtain ⟨v, u, h1, h2, h3⟩ := hcon x d (mem_of_look hx)
          rw [e2, e3, e4]
          exact ⟨v, u, h1, h2, h3⟩
        · rw [e3, e4]
          exact ⟨fun c i h => let ⟨h1, h2, _, h4, _⟩ := hob.at_ c i h; ⟨_, h1, h2, h4⟩⟩
        · have z := List.all_eq_true.mp hG _ (objOf_mem hx)
          obtain ⟨o1, o2, o3, o4, o5⟩ := hob.at_ x i hx
          dsimp only at z
          rw [hi, Bool.and_eq_true] at z
          obtain ⟨fd', ps', b1, b2, b3⟩ := def_ z.1
          refine ⟨_, _, fd', ps', by rw [e4]; exact o1, by rw [e3]; exact o3 (by rw [hi]; rfl), by rw [e3]; exact b1, ?_⟩
          rw [e1, e2, e3, e4, e5]
          exact b3
        · have z := List.all_eq_true.mp hG _ (objOf_mem hx)
          obtain ⟨o1, o2, o3, o4, o5⟩ := hob.at_ x i hx
          dsimp only at z
          rw [Bool.and_eq_true, Bool.and_eq_true] at z
          have zm := List.all_eq_true.mp z.2.2 _ (mem_of_look hp)
          obtain ⟨fd', ps', b1, b2, b3⟩ := def_ zm
          obtain ⟨g1, g2⟩ := bmB_ok (hbl _ (basesOf_mem (objOf_mem hx) (mem_of_look hp)))
          obtain ⟨g3, g4⟩ := g2 m (List.mem_map.mpr ⟨_, mem_of_look hp, rfl⟩)
          refine ⟨_, _, fd', ps', by rw [e4]; exact o1, by rw [e3]; exact g1.1, by rw [e3]; exact g1.2, by rw [e3]; exact g4, by rw [e3]; exact g3, by rw [e3]; exact b1, ?_⟩
          rw [e1, e2, e3, e4, e5]
          exact b3
        · obtain ⟨c, i, p, h1, h2, h3, rfl⟩ := hm
          have z := List.all_eq_true.mp hG _ (objOf_mem h1)
          obtain ⟨o1, o2, o3, o4, o5⟩ := hob.at_ c i h1
          dsimp only at z h3
          rw [Bool.and_eq_true, Bool.and_eq_true] at z
          have zm := List.all_eq_true.mp z.2.1 _ (mem_of_look h2)
          obtain ⟨fd', ps', b1, b2, b3⟩ := def_ zm
          rw [e4, o1] at h3
          cases h3
          have o6 := o5 _ (mem_of_look h2)
          refine ⟨by rw [e3]; exact o2, _, fd', ps', by rw [e3]; exact o6, by rw [e3]; exact b1, ?_⟩
          rw [e1, e2, e3, e4, e5]
          exact b3
def faOf (T : List FDef) (G : GEnv) : List He.Fa := (T.map (fun d : FDef => He.Fa.glo d.gn) ++ freeN.map He.Fa.free) ++ obFa G
theorem facts {P : Program} {W0 : World} {K : PySem.W.Frag} {h : Heap} {mg : Str → Option Value} {f : Addr} (X : K.In h) (GN : h.Ns mainGlobals mg) {T : List FDef} {G : GEnv} {TX : List XDef} (c : SaysQ (csOf G) (clsOf G) TX (basesOf G) (faOf T G) (T.map FDef.defD ++ TX.map XDef.defD) W0 K) (hA : AllOk T) (hX : AllX TX) (hG : gB T TX G = true)
    {li : Nat} {dl : FDef} {x : Str} (hl : T[li]? = some dl) (hme : dl.me = none) (hx : dl.ps = [x]) (hfa : mg dl.gn = some (.ref f)) (k : Nat) :
    ∃ fd : FuncData, (∀ (s : Shared) (v : Value), BindsTo s fd ⟨[v], []⟩ [(x, v)]) ∧ ∀ base : Heap, FnG P W0 K mg base (L2.CX P W0) (2 * k + 1) f fd [x] (spD ⟨K, mg, W0⟩ 1 (Phi T G k li)) := by
  obtain ⟨cd, cc, ck, cq, cx, cb⟩ := c.d
  obtain ⟨hcls, hrs⟩ := clsQ_ok X GN cq
  have fact : ∀ z ∈ faOf T G, He.Fa.ok K z = true := fun z hz => by
    obtain ⟨j, hj, e⟩ := List.mem_iff_getElem.mp hz
    exact cd.fact j (f := z) (by rw [List.getElem?_eq_getElem hj, e])
  have hglo : ∀ (i : Nat) (d : FDef), T[i]? = some d → mg d.gn = some (.ref (He.ga K d.gn)) := fun i d e => He.glo_ok X GN (fact _ (List.mem_append_left _ (List.mem_append_left _ (List.mem_map.mpr ⟨d, List.mem_of_getElem? e, rfl⟩))))
  have hfun : ∀ (i : Nat) (d : FDef), T[i]? = some d → ∃ fd, FunD K d.name d.qual (defArgs d.st) (defBody d.st) (defScope d.st) [] [] (He.fAd K (d.gn, d.me)) fd := fun i d e =>
    cd.def_ i (d := FDef.defD d) (by rw [List.getElem?_append_left (by rw [List.length_map]; exact (List.getElem?_eq_some_iff.mp e).1), List.getElem?_map, e]; rfl)
  have hfree : ∀ x ∈ freeN, mg x = none := fun x hx => He.free_ok X GN (fact _ (List.mem_append_left _ (List.mem_append_right _ (List.mem_map.mpr ⟨x, hx, rfl⟩))))
  have hob : ObK K mg G := ⟨fun x i h => by
    obtain ⟨h1, h2, h3, h4, h5⟩ := obFa_mem (objOf_mem h)
    have fo : ∀ z ∈ obFa G, He.Fa.ok K z = true := fun z hz => fact z (List.mem_append_right _ hz)
    exact ⟨He.glo_ok X GN (fo _ h1), He.cls_ok (fo _ h2), fun z => He.mkr_ok (fo _ (h3 z)), fun f hf => He.noat_ok (fo _ (h4 f hf)), fun q hq => He.meth_ok (fo _ (h5 q hq))⟩⟩
  have hxi : ∀ (base : Heap) x u f, G.lookup x = some (.xcl u f) → XI P W0 K mg base x f := fun base x u f hx => by
    have z := List.all_eq_true.mp hG _ (mem_of_look hx)
    obtain ⟨d, hd, z⟩ := List.any_eq_true.mp z
    rw [Bool.and_eq_true, decide_eq_true_eq, decide_eq_true_eq] at z
    obtain ⟨z1, z2⟩ := z
    obtain ⟨j, hj, e⟩ := List.mem_iff_getElem.mp hd
    have e : TX[j]? = some d := by rw [List.getElem?_eq_getElem hj, e]
    obtain ⟨fd, F⟩ := cd.def_ (T.length + j) (d := XDef.defD d) (by rw [List.getElem?_append_right (by rw [List.length_map]; omega), List.length_map, Nat.add_sub_cancel_left, List.getElem?_map, e]; rfl)
    have q := xi_ok (P := P) (W0 := W0) (base := base) X GN (hX.at_ e) F (cx d hd)
    rw [z1, z2] at q
    exact q
  obtain ⟨fd, F⟩ := hfun li dl hl
  have ef : f = He.ga K dl.gn := by
    have z := hglo li dl hl
    rw [hfa] at z
    cases z
    rfl
  have efa : He.fAd K (dl.gn, dl.me) = f := by rw [hme, ef]; rfl
  have b := F.bindsA (hA.at_ hl).bd
  refine ⟨fd, fun s v => ?_, fun base => ?_⟩
  · have z := b s [v] (by rw [hx]; rfl)
    rw [hx] at z
    exact z
  · have z := all_ok (P := P) (W0 := W0) (base := base) hfun hglo hob cb hA hG (fun x d hxd => conF_ok X GN (cc _ (csOf_mem hxd)) fun ks vs e => ck (x, ks) (kdsOf_mem (by rw [← e]; exact csOf_mem hxd))) hfree hcls hrs (hxi base) k li dl hl fd F
    rw [hx, efa] at z
    exact z
/-- the script, as data -/
theorem sp_start {K : PySem.W.Frag} {mg : Str → Option Value} {φ : List D → Sto → Out D} {n : Nat} (hn : n ≤ sizeLine) (h : ∀ ns : List Int, ns.length ≤ n → ∃ S', φ [.rl (ns.map D.int)] [] = .ok (.bl true) S') (H : Hp) (a : Addr) (ns : List Int)
    (hl : ns.length ≤ n) (hO : Only H) (hS : SqL K H a (ns.map V.int)) : spD ⟨K, mg, W0⟩ 1 φ [.ref a] H (fun v _ => v = .bl true) (fun _ _ _ => False) := by
  refine ⟨⟨fun _ => 0, 0, H⟩, [], [.rl (ns.map D.int)], rfl, ⟨rfl, fun i o e => ?_, fun i j hi => absurd hi (Nat.not_lt_zero _)⟩, .cons (.rl ?_ ?_ (Reps.of_ints ns)) .nil, rfl, ?_⟩
  · simp at e
  · rcases hS with (hS | ⟨o, hS⟩) | hS
    · rcases hO a with z | ⟨o, xs, z⟩
      · rw [hS] at z; cases z
      · rw [hS] at z; cases z
    · exact .inl ⟨o, hS⟩
    · exact .inr hS
  · rw [List.length_map]
    exact Nat.le_trans hl hn
  · obtain ⟨S', e⟩ := h ns hl
    rw [e]
    intro w' b st so r
    cases r
    rfl
theorem cx_no {P : Program} {W0 : World} (H : Hp) (s : Shared) (e : Value) (s' : Shared) (h : L2.CX P W0 [] H s (fun _ _ _ => False) e s') : False := by
  obtain ⟨_, _, _, _, _, _, _, _, _, _, _, _, z⟩ := h
  exact z
end DL
/-! DL, part r: the numbers that a law draws. -/
namespace DL
open PySem PySem.Spec PyProof.Rows L2
noncomputable section

/-! ### a def's end -/
theorem und_app {S T : Sto} : Olds S (S ++ T) := ⟨by rw [List.length_append]; omega, fun i h => .inl (List.getElem?_append_left h)⟩
theorem gc_pure {S T : Sto} {d : D} (h : d.und S.length = true) : gcO S d (S ++ T) = .ok d S := by
  unfold gcO
  rw [if_pos ⟨und_app, h⟩, List.take_left]
theorem gc_pure0 {S : Sto} {d : D} (h : d.und S.length = true) : gcO S d S = .ok d S := by
  have := gc_pure (T := []) h
  rwa [List.append_nil] at this
theorem gc_lst {S T U : Sto} {o : O} (h : o.und S.length = true) : gcO S (.ob (S.length + T.length)) (S ++ T ++ o :: U) = .ok (.ob S.length) (S ++ [o]) := by
  unfold gcO
  rw [if_neg (fun z => by have z2 := of_decide_eq_true (show decide (S.length + T.length < S.length) = true from z.2); omega)]
  have e : (S ++ T ++ o :: U)[S.length + T.length]? = some o := by
    rw [List.getElem?_append_right (by rw [List.length_append]; omega)]
    simp
  dsimp only
  rw [e]
  dsimp only
  rw [if_pos ⟨by rw [List.append_assoc]; exact und_app, by omega, h⟩, List.append_assoc, List.take_left]

/-! ### the store of a law: the list [0], the cells, the draw -/
structure Ds where
  a : Int
  l : Int
  u : Int
def drw (s : Ds) : O := .dk [(.inr "cells", .ob 1), (.inr "at", .int s.a), (.inr "left", .int s.l), (.inr "used", .int s.u)]
def dst (cs : List Int) (s : Ds) (R : Sto) : Sto := .lst [.int 0] :: .lst (cs.map D.int) :: drw s :: R
/-- what may be drawn from: b, how often at most -/
structure Dr (b : Nat) (cs : List Int) (s : Ds) : Prop where
  a0 : 0 ≤ s.a
  ab : s.a ≤ b
  u0 : 0 ≤ s.u
  ub : s.u ≤ b
  ne : cs ≠ []
  le : cs.length ≤ 64
theorem Dr.mono {b b' : Nat} {cs : List Int} {s : Ds} (h : Dr b cs s) (q : b ≤ b') : Dr b' cs s := ⟨h.a0, by have := h.ab; omega, h.u0, by have := h.ub; omega, h.ne, h.le⟩
theorem gc_dst {cs : List Int} {s s' : Ds} {R T : Sto} {d : D} (h : d.und (R.length + 3) = true) : gcO (dst cs s R) d (dst cs s' (R ++ T)) = .ok d (dst cs s' R) := by
  have hl : (dst cs s R).length = R.length + 3 := rfl
  have ho : Olds (dst cs s R) (dst cs s' (R ++ T)) := by
    refine ⟨?_, fun i hi => ?_⟩
    · show R.length + 3 ≤ (R ++ T).length + 3
      rw [List.length_append]; omega
    · match i, hi with
      | 0, _ => exact .inl rfl
      | 1, _ => exact .inl rfl
      | 2, _ =>
        refine .inr ⟨drw s', rfl, ?_⟩
        rw [hl]
        show (decide (1 < R.length + 3) && (true && (true && (true && true)))) = true
        rw [decide_eq_true (by omega)]
        rfl
      | i + 3, hi =>
        refine .inl ?_
        show (R ++ T)[i]? = R[i]?
        exact List.getElem?_append_left (by rw [hl] at hi; omega)
  unfold gcO
  rw [if_pos ⟨ho, by rw [hl]; exact h⟩]
  show Out.ok d (.lst [.int 0] :: .lst (cs.map D.int) :: drw s' :: (R ++ T).take R.length) = _
  rw [List.take_left]
  rfl
theorem gc_dst0 {cs : List Int} {s s' : Ds} {R : Sto} {d : D} (h : d.und (R.length + 3) = true) : gcO (dst cs s R) d (dst cs s' R) = .ok d (dst cs s' R) := by
  have := gc_dst (cs := cs) (s := s) (s' := s') (R := R) (T := []) h
  rwa [List.append_nil] at this
theorem dst_app {cs : List Int} {s : Ds} {R T : Sto} : dst cs s R ++ T = dst cs s (R ++ T) := rfl
theorem dst_len {cs : List Int} {s : Ds} {R : Sto} : (dst cs s R).length = R.length + 3 := rfl
theorem dst_get {cs : List Int} {s : Ds} {R : Sto} {i : Nat} : (dst cs s R)[i + 3]? = R[i]? := rfl
theorem dst_get2 {cs : List Int} {s : Ds} {R : Sto} : (dst cs s R)[2]? = some (drw s) := rfl
theorem dst_get1 {cs : List Int} {s : Ds} {R : Sto} : (dst cs s R)[1]? = some (.lst (cs.map D.int)) := rfl

/-! ### the bodies -/
def bMixed (Φ : PhT) : DenS :=
  (dSeq (dSet 2 (dOp aMod (dOp aMul (dOp aAdd (dOp aAdd (dOp aAdd (dOp aMod (dVar 0) (dC (.int 1000000007))) (dOp aMul (dOp aMul (dC (.int 7919)) (dVar 1)) (dVar 1))) (dOp aMul (dC (.int 31)) (dVar 1))) (dC (.int 7))) (dC (.int 48271))) (dC (.int 2147483647))))
  (dSeq (dRet (dOp aFDiv (dOp aMod (dOp aMul (dVar 2) (dOp aAdd (dC (.int 69621)) (dOp aMul (dC (.int 2)) (dOp aMod (dVar 1) (dC (.int 1000)))))) (dC (.int 2147483629))) (dC (.int 7)))) dNil))
def bNext (m : Nat) (Φ : PhT) : DenS :=
  (dSeq (dIfS (dCmpT aGt (dOp aIx (dVar 0) (dC (.str "left"))) (dC (.int 0))) (dSeq (dSet 2 (dOp aMod (dOp aIx (dVar 0) (dC (.str "left"))) (dVar 1)))
    (dSeq (dSetIx (dVar 0) (dC (.str "left")) (dOp aFDiv (dOp aIx (dVar 0) (dC (.str "left"))) (dVar 1))) (dSeq (dRet (dVar 2)) dNil))) dNil)
  (dSeq (dSet 3 (dOp aIx (dVar 0) (dC (.str "cells"))))
  (dSeq (dSet 4 (dOp aIx (dVar 3) (dOp aMod (dOp aIx (dVar 0) (dC (.str "at"))) (dB fLen (dACons (dVar 3) dANil)))))
  (dSeq (dSetIx (dVar 0) (dC (.str "at")) (dOp aAdd (dOp aIx (dVar 0) (dC (.str "at"))) (dC (.int 1))))
  (dSeq (dIfS (dTAnd (dCmpT aGe (dVar 4) (dOp aPow (dC (.int 10)) (dC (.int 18)))) (dCmpT aLe (dOp aIx (dVar 0) (dC (.str "at"))) (dB fLen (dACons (dVar 3) dANil))))
    (dSeq (dSetIx (dVar 0) (dC (.str "left")) (dOp aFDiv (dVar 4) (dVar 1))) (dSeq (dRet (dOp aMod (dVar 4) (dVar 1))) dNil)) dNil)
  (dSeq (dSetIx (dVar 0) (dC (.str "used")) (dOp aAdd (dOp aIx (dVar 0) (dC (.str "used"))) (dC (.int 1))))
  (dSeq (dRet (dOp aMod (dCall 2 (Φ m) (dACons (dCall 2 (Φ m) (dACons (dVar 4) (dACons (dOp aIx (dVar 0) (dC (.str "at"))) dANil))) (dACons (dOp aIx (dVar 0) (dC (.str "used"))) dANil))) (dVar 1))) dNil)))))))
def bBegin (Φ : PhT) : DenS :=
  (dSeq (dRet (dDict [((dC (.str "cells")), (dOp aAdd (dVar 0) (dLst (dACons (dC (.int 0)) dANil)))), ((dC (.str "at")), (dC (.int 0))), ((dC (.str "left")), (dC (.int 0))), ((dC (.str "used")), (dC (.int 0)))])) dNil)

/-! ### what they do -/
theorem fmod_bd {i j : Int} (h : 0 < j) : 0 ≤ i.fmod j ∧ i.fmod j < j := ⟨Int.fmod_nonneg_of_pos i h, Int.fmod_lt_of_pos i h⟩
theorem mul_l {i j : Int} {S : Sto} (h : -(2 ^ 64) < i ∧ i < 2 ^ 64) : aMul (.int i) (.int j) S = some (.int (i * j), S) := by
  show (if CMul i j then some (D.int (i * j), S) else none) = _
  rw [if_pos (show CMul i j from Or.inl h)]
theorem mul_r {i j : Int} {S : Sto} (h : -(2 ^ 64) < j ∧ j < 2 ^ 64) : aMul (.int i) (.int j) S = some (.int (i * j), S) := by
  show (if CMul i j then some (D.int (i * j), S) else none) = _
  rw [if_pos (show CMul i j from Or.inr h)]
theorem mod_ok {i j : Int} {S : Sto} (h : j ≠ 0) : aMod (.int i) (.int j) S = some (.int (i.fmod j), S) := by
  show (if j ≠ 0 then some (D.int (i.fmod j)) else none).map (fun d => (d, S)) = _
  rw [if_pos h]
  rfl
theorem div_okW {i j : Int} {S : Sto} (h : DivOk i j) : aFDiv (.int i) (.int j) S = some (.int (i.fdiv j), S) := by
  show (if DivOk i j then some (D.int (i.fdiv j)) else none).map (fun d => (d, S)) = _
  rw [if_pos h]
  rfl
theorem div_ok {i j : Int} {S : Sto} (h : j ≠ 0 ∧ j.natAbs < 1073741824) : aFDiv (.int i) (.int j) S = some (.int (i.fdiv j), S) := by
  exact div_okW (.inl h)
theorem pow_ok {i j : Int} {S : Sto} (h : 0 ≤ j ∧ j ≤ 1000000 ∧ i.natAbs < 2 ^ 64) : aPow (.int i) (.int j) S = some (.int (i ^ j.toNat), S) := by
  show (if CPow i j then some (D.int (i ^ j.toNat)) else none).map (fun d => (d, S)) = _
  rw [if_pos (show CPow i j from h)]
  rfl
theorem add_int {i j : Int} {S : Sto} : aAdd (.int i) (.int j) S = some (.int (i + j), S) := rfl
theorem sub_int {i j : Int} {S : Sto} : aSub (.int i) (.int j) S = some (.int (i - j), S) := rfl
theorem lt_int {i j : Int} {S : Sto} : aLt (.int i) (.int j) S = some (.bl (decide (i < j)), S) := rfl
theorem le_int {i j : Int} {S : Sto} : aLe (.int i) (.int j) S = some (.bl (decide (i ≤ j)), S) := rfl
theorem gt_int {i j : Int} {S : Sto} : aGt (.int i) (.int j) S = some (.bl (decide (j < i)), S) := rfl
theorem ge_int {i j : Int} {S : Sto} : aGe (.int i) (.int j) S = some (.bl (decide (j ≤ i)), S) := rfl
def mixH (c k : Int) : Int := ((c.fmod 1000000007 + 7919 * k * k + 31 * k + 7) * 48271).fmod 2147483647
def mixI (c k : Int) : Int := ((mixH c k * (69621 + 2 * k.fmod 1000)).fmod 2147483629).fdiv 7
theorem mixed_run {Φ : PhT} {c k : Int} {S : Sto} (h0 : 0 ≤ k) (h1 : k < 2 ^ 62) : runB 3 (bMixed Φ) [.int c, .int k] S = .ok (.int (mixI c k)) S := by
  have hk := fmod_bd (i := k) (j := 1000) (by decide)
  have hh := fmod_bd (i := (c.fmod 1000000007 + 7919 * k * k + 31 * k + 7) * 48271) (j := 2147483647) (by decide)
  have e : bMixed Φ [some (.int c), some (.int k), none] S = .ok (.rt (.int (mixI c k))) [some (.int c), some (.int k), some (.int (mixH c k))] S := by
    simp only [bMixed, dSeq, dSet, dRet, dOp, dVar, dC, Out.bnd, Out.thn, Out.ofO, List.getElem?_cons_zero, List.getElem?_cons_succ, mod_ok (show (1000000007 : Int) ≠ 0 by decide), mod_ok (show (1000 : Int) ≠ 0 by decide), mod_ok (show (2147483647 : Int) ≠ 0 by decide), mod_ok (show (2147483629 : Int) ≠ 0 by decide),
      mul_l (show -(2 ^ 64) < (7919 : Int) ∧ (7919 : Int) < 2 ^ 64 by decide), mul_l (show -(2 ^ 64) < (31 : Int) ∧ (31 : Int) < 2 ^ 64 by decide), mul_l (show -(2 ^ 64) < (2 : Int) ∧ (2 : Int) < 2 ^ 64 by decide), mul_r (show -(2 ^ 64) < (48271 : Int) ∧ (48271 : Int) < 2 ^ 64 by decide),
      mul_r (show -(2 ^ 64) < k ∧ k < 2 ^ 64 by omega), add_int, List.set_cons_succ, List.set_cons_zero, div_ok (show (7 : Int) ≠ 0 ∧ (7 : Int).natAbs < 1073741824 by decide)]
    rw [mul_l (by omega)]
    simp only [mod_ok (show (2147483629 : Int) ≠ 0 by decide), div_ok (show (7 : Int) ≠ 0 ∧ (7 : Int).natAbs < 1073741824 by decide)]
    rfl
  show (match bMixed Φ [some (.int c), some (.int k), none] S with
    | .ok (.rt d) _ S' => gcO S d S'
    | .ok .nx _ S' => gcO S .non S'
    | .ex e _ S' => gcX S e S'
    | _ => .no) = _
  rw [e]
  exact gc_pure0 rfl
theorem ix_left {cs : List Int} {s : Ds} {R : Sto} : aIx (.ob 2) (.str "left") (dst cs s R) = some (.int s.l, dst cs s R) := by kernel_rfl
theorem ix_at {cs : List Int} {s : Ds} {R : Sto} : aIx (.ob 2) (.str "at") (dst cs s R) = some (.int s.a, dst cs s R) := by kernel_rfl
theorem ix_used {cs : List Int} {s : Ds} {R : Sto} : aIx (.ob 2) (.str "used") (dst cs s R) = some (.int s.u, dst cs s R) := by kernel_rfl
theorem ix_cells {cs : List Int} {s : Ds} {R : Sto} : aIx (.ob 2) (.str "cells") (dst cs s R) = some (.ob 1, dst cs s R) := by kernel_rfl
theorem set_left {cs : List Int} {s : Ds} {R : Sto} {x : Int} : aSet (.ob 2) (.str "left") (.int x) (dst cs s R) = some (dst cs ⟨s.a, x, s.u⟩ R) := by kernel_rfl
theorem set_at {cs : List Int} {s : Ds} {R : Sto} {x : Int} : aSet (.ob 2) (.str "at") (.int x) (dst cs s R) = some (dst cs ⟨x, s.l, s.u⟩ R) := by kernel_rfl
theorem set_used {cs : List Int} {s : Ds} {R : Sto} {x : Int} : aSet (.ob 2) (.str "used") (.int x) (dst cs s R) = some (dst cs ⟨s.a, s.l, x⟩ R) := by kernel_rfl
theorem len_cells {cs : List Int} {s : Ds} {R : Sto} : fLen [.ob 1] (dst cs s R) = some (.int cs.length, dst cs s R) := by
  show some (D.int ((cs.map D.int).length : Nat), dst cs s R) = _
  rw [List.length_map]
theorem atI_ok {α : Type} {xs : List α} {i : Int} {j : Nat} {x : α} (e : i = j) (h : xs[j]? = some x) : L2.atI xs i = some x := by
  subst e
  have hj := (List.getElem?_eq_some_iff.mp h).1
  unfold L2.atI L2.ixN
  rw [if_pos (by omega), if_pos (by omega)]
  show xs[((j : Int)).toNat]? = _
  rw [Int.toNat_natCast]
  exact h
theorem ix_cell {cs : List Int} {s : Ds} {R : Sto} {i : Int} {c : Int} (h0 : 0 ≤ i) (h : cs[i.toNat]? = some c) : aIx (.ob 1) (.int i) (dst cs s R) = some (.int c, dst cs s R) := by
  show (L2.atI (cs.map D.int) i).map (fun d => (d, dst cs s R)) = _
  rw [atI_ok (j := i.toNat) (x := .int c) (by omega) (by rw [List.getElem?_map, h]; rfl)]
  rfl
theorem next_run {Φ : PhT} {mi b : Nat} {cs : List Int} {s : Ds} {m : Int} (hΦ : ∀ (c k : Int) (S : Sto), 0 ≤ k → k < 2 ^ 62 → Φ mi [.int c, .int k] S = .ok (.int (mixI c k)) S) (hd : Dr b cs s) (hb : b < 2 ^ 61) (hm : 0 < m) (hm2 : m < 1000000000000000000) :
    ∃ r s', 0 ≤ r ∧ r < m ∧ Dr (b + 1) cs s' ∧ ∀ R, runB 5 (bNext mi Φ) [.ob 2, .int m] (dst cs s R) = .ok (.int r) (dst cs s' R) := by
  have hm' : m ≠ 0 := by omega
  have hm3 : ∀ i, DivOk i m := fun i => .inr ⟨hm, Nat.lt_of_lt_of_le (show m.natAbs < 1000000000000000000 by omega) (by decide)⟩
  have h1 := hd.a0
  have h2 := hd.ab
  have h3 := hd.u0
  have h4 := hd.ub
  by_cases hl : 0 < s.l
  · have q := fmod_bd (i := s.l) hm
    refine ⟨s.l.fmod m, ⟨s.a, s.l.fdiv m, s.u⟩, q.1, q.2, ⟨h1, by show s.a ≤ ((b + 1 : Nat) : Int); omega, h3, by show s.u ≤ ((b + 1 : Nat) : Int); omega, hd.ne, hd.le⟩, fun R => ?_⟩
    have e : bNext mi Φ [some (.ob 2), some (.int m), none, none, none] (dst cs s R) = .ok (.rt (.int (s.l.fmod m))) [some (.ob 2), some (.int m), some (.int (s.l.fmod m)), none, none] (dst cs ⟨s.a, s.l.fdiv m, s.u⟩ R) := by
      simp only [bNext, dSeq, dSet, dSetIx, dIfS, dCmpT, dRet, dOp, dVar, dC, Out.bnd, Out.thn, Out.ofO, List.getElem?_cons_zero, List.getElem?_cons_succ, ix_left, gt_int, hl, decide_true, mod_ok hm', div_okW (hm3 _), set_left, List.set_cons_succ, List.set_cons_zero]
    show (match bNext mi Φ [some (.ob 2), some (.int m), none, none, none] (dst cs s R) with
      | .ok (.rt d) _ S' => gcO (dst cs s R) d S'
      | .ok .nx _ S' => gcO (dst cs s R) .non S'
      | .ex e _ S' => gcX (dst cs s R) e S'
      | _ => .no) = _
    rw [e]
    exact gc_dst0 rfl
  · have hlen : 0 < cs.length := List.length_pos_iff.mpr hd.ne
    have hl64 := hd.le
    have q := fmod_bd (i := s.a) (j := (cs.length : Int)) (by omega)
    have hlt : (s.a.fmod cs.length).toNat < cs.length := by omega
    have hc := List.getElem?_eq_getElem hlt
    generalize cs[(s.a.fmod cs.length).toNat] = c at hc
    have hne : (cs.length : Int) ≠ 0 := by omega
    have hp : (10 : Int) ^ (18 : Int).toNat = 1000000000000000000 := by decide +kernel
    by_cases hx : 1000000000000000000 ≤ c ∧ s.a + 1 ≤ cs.length
    · have q2 := fmod_bd (i := c) hm
      refine ⟨c.fmod m, ⟨s.a + 1, c.fdiv m, s.u⟩, q2.1, q2.2, ⟨by show 0 ≤ s.a + 1; omega, by show s.a + 1 ≤ ((b + 1 : Nat) : Int); omega, h3, by show s.u ≤ ((b + 1 : Nat) : Int); omega, hd.ne, hd.le⟩, fun R => ?_⟩
      have e : bNext mi Φ [some (.ob 2), some (.int m), none, none, none] (dst cs s R) = .ok (.rt (.int (c.fmod m))) [some (.ob 2), some (.int m), none, some (.ob 1), some (.int c)] (dst cs ⟨s.a + 1, c.fdiv m, s.u⟩ R) := by
        simp only [bNext, dSeq, dSet, dSetIx, dIfS, dCmpT, dTAnd, dRet, dOp, dVar, dC, dB, dACons, dANil, dNil, Out.bnd, Out.thn, Out.ofO, List.getElem?_cons_zero, List.getElem?_cons_succ, ix_left, ix_cells, ix_at, ix_used, len_cells, gt_int, ge_int, le_int, add_int, hl, decide_true, decide_false,
          mod_ok hm', div_okW (hm3 _), mod_ok hne, ix_cell q.1 hc, set_left, set_at, set_used, List.set_cons_succ, List.set_cons_zero, pow_ok (show (0 : Int) ≤ 18 ∧ (18 : Int) ≤ 1000000 ∧ (10 : Int).natAbs < 2 ^ 64 by decide), hp, hx.1, hx.2]
      show (match bNext mi Φ [some (.ob 2), some (.int m), none, none, none] (dst cs s R) with
        | .ok (.rt d) _ S' => gcO (dst cs s R) d S'
        | .ok .nx _ S' => gcO (dst cs s R) .non S'
        | .ex e _ S' => gcX (dst cs s R) e S'
        | _ => .no) = _
      rw [e]
      exact gc_dst0 rfl
    · have q2 := fmod_bd (i := mixI (mixI c (s.a + 1)) (s.u + 1)) hm
      refine ⟨(mixI (mixI c (s.a + 1)) (s.u + 1)).fmod m, ⟨s.a + 1, s.l, s.u + 1⟩, q2.1, q2.2, ⟨by show 0 ≤ s.a + 1; omega, by show s.a + 1 ≤ ((b + 1 : Nat) : Int); omega, by show 0 ≤ s.u + 1; omega, by show s.u + 1 ≤ ((b + 1 : Nat) : Int); omega, hd.ne, hd.le⟩, fun R => ?_⟩
      have e : bNext mi Φ [some (.ob 2), some (.int m), none, none, none] (dst cs s R) = .ok (.rt (.int ((mixI (mixI c (s.a + 1)) (s.u + 1)).fmod m))) [some (.ob 2), some (.int m), none, some (.ob 1), some (.int c)] (dst cs ⟨s.a + 1, s.l, s.u + 1⟩ R) := by
        by_cases hx1 : 1000000000000000000 ≤ c
        · have hx2 : ¬ (s.a + 1 ≤ cs.length) := fun z => hx ⟨hx1, z⟩
          simp only [bNext, dSeq, dSet, dSetIx, dIfS, dCmpT, dTAnd, dRet, dOp, dVar, dC, dB, dACons, dANil, dNil, dCall, Out.bnd, Out.thn, Out.ofO, List.getElem?_cons_zero, List.getElem?_cons_succ, ix_left, ix_cells, ix_at, ix_used, len_cells, gt_int, ge_int, le_int, add_int, hl, decide_true, decide_false,
            mod_ok hm', div_okW (hm3 _), mod_ok hne, ix_cell q.1 hc, set_left, set_at, set_used, List.set_cons_succ, List.set_cons_zero, pow_ok (show (0 : Int) ≤ 18 ∧ (18 : Int) ≤ 1000000 ∧ (10 : Int).natAbs < 2 ^ 64 by decide), hp, hx1, hx2, List.length_cons, List.length_nil, if_true, Nat.reduceAdd, hΦ _ (s.a + 1) _ (by omega) (by omega), hΦ _ (s.u + 1) _ (by omega) (by omega)]
        · simp only [bNext, dSeq, dSet, dSetIx, dIfS, dCmpT, dTAnd, dRet, dOp, dVar, dC, dB, dACons, dANil, dNil, dCall, Out.bnd, Out.thn, Out.ofO, List.getElem?_cons_zero, List.getElem?_cons_succ, ix_left, ix_cells, ix_at, ix_used, len_cells, gt_int, ge_int, le_int, add_int, hl, decide_true, decide_false,
            mod_ok hm', div_okW (hm3 _), mod_ok hne, ix_cell q.1 hc, set_left, set_at, set_used, List.set_cons_succ, List.set_cons_zero, pow_ok (show (0 : Int) ≤ 18 ∧ (18 : Int) ≤ 1000000 ∧ (10 : Int).natAbs < 2 ^ 64 by decide), hp, hx1, List.length_cons, List.length_nil, if_true, Nat.reduceAdd, hΦ _ (s.a + 1) _ (by omega) (by omega), hΦ _ (s.u + 1) _ (by omega) (by omega)]
      show (match bNext mi Φ [some (.ob 2), some (.int m), none, none, none] (dst cs s R) with
        | .ok (.rt d) _ S' => gcO (dst cs s R) d S'
        | .ok .nx _ S' => gcO (dst cs s R) .non S'
        | .ex e _ S' => gcX (dst cs s R) e S'
        | _ => .no) = _
      rw [e]
      exact gc_dst0 rfl
/-- the draw begins -/
theorem begin_run {Φ : PhT} {ns : List Int} (h : ns.length ≤ 63) : runB 1 (bBegin Φ) [.rl (ns.map D.int)] [] = .ok (.ob 2) (dst (ns ++ [0]) ⟨0, 0, 0⟩ []) ∧ Dr 0 (ns ++ [0]) ⟨0, 0, 0⟩ := by
  refine ⟨?_, ⟨by decide, by decide, by decide, by decide, by simp, by rw [List.length_append]; show ns.length + 1 ≤ 64; omega⟩⟩
  have hs : (ns.map D.int).length + [D.int 0].length ≤ sizeLine := by
    rw [List.length_map, sizeLine_eq]
    show ns.length + 1 ≤ _
    omega
  have e1 : aAdd (.rl (ns.map D.int)) (.ob 0) [.lst [.int 0]] = some (.ob 1, [.lst [.int 0], .lst ((ns ++ [0]).map D.int)]) := by
    show (if (ns.map D.int).length + [D.int 0].length ≤ sizeLine then some (D.ob 1, [O.lst [.int 0], .lst (ns.map D.int ++ [.int 0])]) else none) = _
    rw [if_pos hs, List.map_append]
    rfl
  have e : bBegin Φ [some (.rl (ns.map D.int))] [] = .ok (.rt (.ob 2)) [some (.rl (ns.map D.int))] (dst (ns ++ [0]) ⟨0, 0, 0⟩ []) := by
    have hz : [D.int 0].length ≤ sizeLine := by rw [sizeLine_eq]; show 1 ≤ _; omega
    simp only [bBegin, dSeq, dRet, dDict, evP, dOp, dVar, dC, dLst, dACons, dANil, Out.bnd, Out.thn, Out.ofO, List.getElem?_cons_zero, if_pos hz, List.length_nil, List.nil_append, e1]
    rfl
  show (match bBegin Φ [some (.rl (ns.map D.int))] [] with
    | .ok (.rt d) _ S' => gcO [] d S'
    | .ok .nx _ S' => gcO [] .non S'
    | .ex e _ S' => gcX [] e S'
    | _ => .no) = _
  rw [e]
  show gcO [] (.ob 2) (dst (ns ++ [0]) ⟨0, 0, 0⟩ []) = _
  unfold gcO
  rw [if_neg (fun z => by cases z.2)]
  have e2 : (dst (ns ++ [0]) ⟨0, 0, 0⟩ [])[2]? = some (drw ⟨0, 0, 0⟩) := rfl
  dsimp only
  rw [e2]
  dsimp only
  rw [if_neg (fun z => by cases z.2.2)]
end
end DL
/-! DL, part s: what the meanings do, in plain terms. -/
namespace DL
open PySem PySem.Spec PyProof.Rows L2
noncomputable section

theorem phi_succ {T : List FDef} {G : GEnv} {k i : Nat} {d : FDef} {b : PhT → DenS} (hT : T[i]? = some d) (hd : d.den G = some b) : Phi T G (k + 1) i = runB d.N.length (b (Phi T G k)) := by
  funext ds S
  rw [Phi_succ, hT]
  dsimp only
  rw [hd]
theorem runB_rt {n : Nat} {b : DenS} {ds : List D} {S S' : Sto} {d : D} {fr : Fr} {o : Out D} (h : b (ds.map some ++ List.replicate (n - ds.length) none) S = .ok (.rt d) fr S') (hg : gcO S d S' = o) : runB n b ds S = o := by
  unfold runB
  rw [h]
  exact hg
theorem runB_nx {n : Nat} {b : DenS} {ds : List D} {S S' : Sto} {fr : Fr} {o : Out D} (h : b (ds.map some ++ List.replicate (n - ds.length) none) S = .ok .nx fr S') (hg : gcO S .non S' = o) : runB n b ds S = o := by
  unfold runB
  rw [h]
  exact hg

/-! ### == -/
section
variable {S : Sto}
theorem eq_int {i j : Int} : aEq (.int i) (.int j) S = some (.bl (decide (i = j)), S) := by
  have e : PyData.eqv (.int i) (.int j) = decide (i = j) := by
    show (i == j) = _
    exact Bool.beq_eq_decide_eq i j
  show some (D.bl (PyData.eqv (.int i) (.int j)), S) = _
  rw [e]
theorem ne_int {i j : Int} : aNe (.int i) (.int j) S = some (.bl (!decide (i = j)), S) := by
  have e : PyData.eqv (.int i) (.int j) = decide (i = j) := by
    show (i == j) = _
    exact Bool.beq_eq_decide_eq i j
  show some (D.bl (!PyData.eqv (.int i) (.int j)), S) = _
  rw [e]
theorem eq_str {i j : Str} : aEq (.str i) (.str j) S = some (.bl (decide (i = j)), S) := by
  have e : PyData.eqv (.str i) (.str j) = decide (i = j) := by
    show (i == j) = _
    exact Bool.beq_eq_decide_eq i j
  show some (D.bl (PyData.eqv (.str i) (.str j)), S) = _
  rw [e]
theorem ne_str {i j : Str} : aNe (.str i) (.str j) S = some (.bl (!decide (i = j)), S) := by
  have e : PyData.eqv (.str i) (.str j) = decide (i = j) := by
    show (i == j) = _
    exact Bool.beq_eq_decide_eq i j
  show some (D.bl (!PyData.eqv (.str i) (.str j)), S) = _
  rw [e]
theorem eq_bl {i j : Bool} : aEq (.bl i) (.bl j) S = some (.bl (decide (i = j)), S) := by
  cases i <;> cases j <;> rfl
theorem ne_bl {i j : Bool} : aNe (.bl i) (.bl j) S = some (.bl (!decide (i = j)), S) := by
  cases i <;> cases j <;> rfl
theorem is_non {d : D} : aIs d .non S = some (.bl (isNon d), S) := rfl
theorem isNot_non {d : D} : aIsNot d .non S = some (.bl (!isNon d), S) := rfl
theorem isNot_true {b : Bool} : aIsNot (.bl b) (.bl true) S = some (.bl (!b), S) := by cases b <;> rfl
theorem eq_empty {i j : Nat} {xs : List D} {ps : List PyData} (hi : S[i]? = some (.lst xs)) (hj : S[j]? = some (.lst [])) (hp : toPs (obP 11 S) xs = some ps) :
    aEq (.ob i) (.ob j) S = some (.bl xs.isEmpty, S) ∧ aNe (.ob i) (.ob j) S = some (.bl (!xs.isEmpty), S) := by
  have h1 : dP S (.ob i) = some (.list ps) := by
    show (match S[i]? with | some (.lst xs) => (toPs (obP 11 S) xs).map PyData.list | _ => none) = _
    rw [hi]
    dsimp only
    rw [hp]
    rfl
  have h2 : dP S (.ob j) = some (.list []) := by
    show (match S[j]? with | some (.lst xs) => (toPs (obP 11 S) xs).map PyData.list | _ => none) = _
    rw [hj]
    rfl
  have h3 : ps.isEmpty = xs.isEmpty := by
    cases xs with
    | nil => cases hp; rfl
    | cons a b =>
      unfold toPs at hp
      split at hp
      · cases hp; rfl
      · cases hp
  have h4 : PyData.eqv (.list ps) (.list []) = ps.isEmpty := by cases ps <;> rfl
  have h5 : min (PyData.depth (.list ps)) (PyData.depth (.list [])) ≤ 100 := Nat.le_trans (Nat.min_le_right _ _) (by decide)
  unfold aEq aNe eqP
  rw [h1, h2]
  dsimp only
  rw [if_pos h5, h4, h3]
  exact ⟨rfl, by rw [if_pos h5]; rfl⟩
theorem toPs_strs {f : Nat → Option PyData} : ∀ l : List Str, toPs f (l.map D.str) = some (l.map PyData.str)
  | [] => rfl
  | a :: l => by
    show (match toP f (.str a), toPs f (l.map D.str) with | some p, some ps => some (p :: ps) | _, _ => none) = _
    rw [toPs_strs l]
    rfl
end

/-! ### texts -/
theorem optAll_bl {α : Type} (p : α → Bool) : ∀ l : List α, optAll blOf (l.map fun c => D.bl (p c)) = some (l.map p)
  | [] => rfl
  | a :: l => by
    have := optAll_bl p l
    rw [List.map_cons]
    unfold optAll
    rw [this]
    rfl
theorem optAll_strs : ∀ l : List Str, optAll strOf (l.map D.str) = some l
  | [] => rfl
  | a :: l => by
    have := optAll_strs l
    rw [List.map_cons]
    unfold optAll
    rw [this]
    rfl
theorem fAll_bl {α : Type} (p : α → Bool) (l : List α) (S : Sto) : fAll (l.map fun c => D.bl (p c)) S = some (.bl (l.all p), S) := by
  unfold fAll
  rw [optAll_bl]
  show some (D.bl ((l.map p).all id), S) = _
  rw [List.all_map]
  rfl
theorem sub1 {c : Nat} {y : Str} : subS ⟨#[c]⟩ y = decide (c ∈ y.cps.toList) := rfl
theorem in_one {c : Nat} {y : Str} {S : Sto} : aIn (.str ⟨#[c]⟩) (.str y) S = some (.bl (decide (c ∈ y.cps.toList)), S) := rfl
theorem notIn_one {c : Nat} {y : Str} {S : Sto} : aNotIn (.str ⟨#[c]⟩) (.str y) S = some (.bl (!decide (c ∈ y.cps.toList)), S) := rfl
theorem len_str {z : Str} {S : Sto} (h : z.length ≤ sizeLine) : fLen [.str z] S = some (.int z.length, S) := if_pos h
theorem str_len (z : Str) : z.length = z.cps.toList.length := by
  show z.cps.size = _
  rw [Array.length_toList]

/-! ### comprehensions -/
theorem compL_ok {ok : Sto → Prop} {t : DTg} {tt : DenT} {e : DenE} {fr : Fr} {S : Sto} {α : Type} (mk : α → D) (p : α → Bool) (v : α → D) (hok : ok S) : ∀ (items : List α),
    (∀ a ∈ items, ∃ fr1, t (mk a) fr S = some fr1 ∧ tt fr1 S = .ok (p a) S ∧ (p a = true → e fr1 S = .ok (v a) S)) → compL ok t tt e fr (items.map mk) S = .ok ((items.filter p).map v) S
  | [], _ => by
    unfold compL
    exact if_pos hok
  | a :: l, h => by
    obtain ⟨fr1, h1, h2, h3⟩ := h a List.mem_cons_self
    have ih := compL_ok mk p v hok l fun b hb => h b (List.mem_cons_of_mem _ hb)
    rw [List.map_cons]
    unfold compL
    rw [if_pos hok, h1]
    dsimp only
    rw [h2]
    cases q : p a with
    | false =>
      rw [List.filter_cons_of_neg (by rw [q]; exact Bool.false_ne_true)]
      exact ih
    | true =>
      rw [List.filter_cons_of_pos q]
      dsimp only
      rw [h3 q]
      dsimp only
      rw [ih]
      rfl
theorem noGuard {xs : List D} {S : Sto} : (Src.mk xs []).ok S := fun p hp => by cases hp
/-- over the signs of a text -/
theorem comp_signs {i j : Nat} {tt : DenT} {e : DenE} {fr : Fr} {S : Sto} {z : Str} (p : Nat → Bool) (v : Nat → D) (hj : fr[j]? = some (some (.str z))) (hl : z.length ≤ sizeLine)
    (h : ∀ c, tt ((wipeD fr [i]).set i (some (.str ⟨#[c]⟩))) S = .ok (p c) S ∧ (p c = true → e ((wipeD fr [i]).set i (some (.str ⟨#[c]⟩))) S = .ok (v c) S)) :
    dComp [i] (dISeq (dVar j)) (gN i) tt e fr S = .ok ((z.cps.toList.filter p).map v) S := by
  have e1 : dISeq (dVar j) fr S = .ok ⟨signs z, []⟩ S := by
    unfold dISeq dVar
    rw [hj]
    show Out.ofS (if z.length ≤ sizeLine then some (Src.mk (signs z) []) else none) S = _
    rw [if_pos hl]
    rfl
  unfold dComp
  rw [e1]
  exact compL_ok (fun c => D.str ⟨#[c]⟩) p v noGuard z.cps.toList fun c _ => ⟨_, rfl, h c⟩
/-- drawn: what each turn gives is of P, and wants at most c numbers -/
theorem compL_dr {ok : Sto → Prop} {t : DTg} {e : DenE} {fr : Fr} {cs : List Int} {P : D → Prop} {c B : Nat} (hok : ∀ S, ok S) : ∀ (items : List D) (b : Nat) (s : Ds),
    (∀ d ∈ items, ∀ (b : Nat) (s : Ds), Dr b cs s → b ≤ B → ∃ v s', P v ∧ Dr (b + c) cs s' ∧ ∀ R, ∃ fr1, t d fr (dst cs s R) = some fr1 ∧ e fr1 (dst cs s R) = .ok v (dst cs s' R)) → Dr b cs s → b + c * items.length ≤ B →
    ∃ vs s', vs.length = items.length ∧ (∀ v ∈ vs, P v) ∧ Dr (b + c * items.length) cs s' ∧ ∀ R, compL ok t dYes e fr items (dst cs s R) = .ok vs (dst cs s' R)
  | [], b, s, _, hd, _ => ⟨[], s, rfl, fun v hv => (by cases hv), hd, fun R => (by
      unfold compL
      exact if_pos (hok _))⟩
  | d :: l, b, s, h, hd, hb => by
    rw [List.length_cons, Nat.mul_succ] at hb
    obtain ⟨v, s1, h1, h2, h3⟩ := h d List.mem_cons_self b s hd (by omega)
    obtain ⟨vs, s2, k1, k2, k3, k4⟩ := compL_dr hok l (b + c) s1 (fun d' hd' => h d' (List.mem_cons_of_mem _ hd')) h2 (by omega)
    refine ⟨v :: vs, s2, by rw [List.length_cons, List.length_cons, k1], fun w hw => ?_, ?_, fun R => ?_⟩
    · rcases List.mem_cons.mp hw with z | z
      · rw [z]; exact h1
      · exact k2 w z
    · rw [List.length_cons, Nat.mul_succ]
      exact k3.mono (by omega)
    · obtain ⟨fr1, q1, q2⟩ := h3 R
      unfold compL
      rw [if_pos (hok _), q1]
      dsimp only [dYes]
      rw [q2]
      dsimp only
      rw [k4 R]
end
end DL
/-! DL, part t: the meanings run by simp. -/
namespace DL
open PySem PySem.Spec PyProof.Rows L2
noncomputable section
section
variable {S : Sto} {fr : Fr} {f h : DenE} {g : DenA} {t u : DenT} {a b : DenS}
@[simp] theorem ev_var {i : Nat} : dVar i fr S = match fr[i]? with
  | some (some d) => .ok d S
  | _ => .no := rfl
@[simp] theorem ev_c {d : D} : dC d fr S = .ok d S := rfl
@[simp] theorem ev_bok {α β : Type} {x : α} {k : α → Sto → Out β} : (Out.ok x S).bnd k = k x S := rfl
@[simp] theorem ev_bex {α β : Type} {x : Ex} {k : α → Sto → Out β} : (Out.ex x S : Out α).bnd k = .ex x S := rfl
@[simp] theorem ev_tok {α : Type} {x : α} {k : α → Sto → OutS} : (Out.ok x S).thn fr k = k x S := rfl
@[simp] theorem ev_tex {α : Type} {x : Ex} {k : α → Sto → OutS} : (Out.ex x S : Out α).thn fr k = .ex x fr S := rfl
@[simp] theorem ev_of {α : Type} {x : α} : Out.ofO (some (x, S)) = .ok x S := rfl
@[simp] theorem ev_op {o : F2} : dOp o f h fr S = (f fr S).bnd fun x S' => (h fr S').bnd fun y S'' => .ofO (o x y S'') := rfl
@[simp] theorem ev_anil : dANil fr S = .ok [] S := rfl
@[simp] theorem ev_acons : dACons f g fr S = (f fr S).bnd fun d S' => (g fr S').bnd fun ds S'' => .ok (d :: ds) S'' := rfl
@[simp] theorem ev_b {o : FB} : dB o g fr S = (g fr S).bnd fun ds S' => .ofO (o ds S') := rfl
@[simp] theorem ev_tr : dTr f fr S = (f fr S).bnd fun d S' => match truD d S' with
  | some b => .ok b S'
  | none => .no := by unfold dTr; rfl
@[simp] theorem ev_tand : dTAnd t u fr S = (t fr S).bnd fun b S' => match b with
  | true => u fr S'
  | false => .ok false S' := by unfold dTAnd; rfl
@[simp] theorem ev_tor : dTOr t u fr S = (t fr S).bnd fun b S' => match b with
  | true => .ok true S'
  | false => u fr S' := by unfold dTOr; rfl
@[simp] theorem ev_tnot : dTNot t fr S = (t fr S).bnd fun b S' => .ok (!b) S' := rfl
@[simp] theorem ev_yes : dYes fr S = .ok true S := rfl
@[simp] theorem ev_if : dIf t f h fr S = (t fr S).bnd fun b S' => match b with
  | true => f fr S'
  | false => h fr S' := by unfold dIf; rfl
@[simp] theorem ev_cmpT {o : F2} : dCmpT o f h fr S = (f fr S).bnd fun x S' => (h fr S').bnd fun y S'' => match o x y S'' with
  | some (.bl k, S3) => .ok k S3
  | _ => .no := by unfold dCmpT; rfl
@[simp] theorem ev_chain {o o' : F2} {c : DenE} : dChain o o' f h c fr S = (f fr S).bnd fun x S' => (h fr S').bnd fun y S'' => match o x y S'' with
  | some (.bl true, S3) => (c fr S3).bnd fun z S4 => .ofO (o' y z S4)
  | some (.bl false, S3) => .ok (.bl false) S3
  | _ => .no := by unfold dChain; rfl
@[simp] theorem ev_chainT {o o' : F2} {c : DenE} : dChainT o o' f h c fr S = (dChain o o' f h c fr S).bnd fun d S' => match d with
  | .bl k => .ok k S'
  | _ => .no := by unfold dChainT; rfl
@[simp] theorem ev_seq : dSeq a b fr S = match a fr S with
  | .ok .nx fr' S' => b fr' S'
  | o => o := by unfold dSeq; rfl
@[simp] theorem ev_nil : dNil fr S = .ok .nx fr S := rfl
@[simp] theorem ev_break : dBreak fr S = .ok .bk fr S := rfl
@[simp] theorem ev_cont : dCont fr S = .ok .ct fr S := rfl
@[simp] theorem ev_set {i : Nat} : dSet i f fr S = (f fr S).thn fr fun d S' => .ok .nx (fr.set i (some d)) S' := rfl
@[simp] theorem ev_expr : dExpr f fr S = (f fr S).thn fr fun _ S' => .ok .nx fr S' := rfl
@[simp] theorem ev_ret : dRet f fr S = (f fr S).thn fr fun d S' => .ok (.rt d) fr S' := rfl
@[simp] theorem ev_retN : dRetN fr S = .ok (.rt .non) fr S := rfl
@[simp] theorem ev_ifS : dIfS t a b fr S = (t fr S).thn fr fun c S' => match c with
  | true => a fr S'
  | false => b fr S' := by unfold dIfS; rfl
@[simp] theorem ev_andV : dAndV f h fr S = (f fr S).bnd fun d S' => match truD d S' with
  | some true => h fr S'
  | some false => .ok d S'
  | none => .no := by unfold dAndV; rfl
@[simp] theorem ev_orV : dOrV f h fr S = (f fr S).bnd fun d S' => match truD d S' with
  | some true => .ok d S'
  | some false => h fr S'
  | none => .no := by unfold dOrV; rfl
@[simp] theorem ev_notV : dNotV f fr S = (f fr S).bnd fun d S' => match truD d S' with
  | some b => .ok (.bl (!b)) S'
  | none => .no := by unfold dNotV; rfl
@[simp] theorem ev_neg : dNeg f fr S = (f fr S).bnd fun d S' => match d with
  | .int i => .ok (.int (-i)) S'
  | _ => .no := by unfold dNeg; rfl
@[simp] theorem ev_call {n : Nat} {φ : List D → Sto → Out D} : dCall n φ g fr S = (g fr S).bnd fun ds S' => if ds.length = n then φ ds S' else .no := rfl
@[simp] theorem ev_m {T : String} {m : FM} : dM T m f g fr S = (f fr S).bnd fun d S' => if mtyD d S' = some T then (g fr S').bnd fun ds S2 => .ofO (m d ds S2) else .no := rfl
@[simp] theorem ev_keep : dKeep g fr S = (g fr S).bnd fun ds S' => .ok (.ob S'.length) (S' ++ [.lst ds]) := rfl
@[simp] theorem ev_partN : dPart none fr S = .ok none S := rfl
@[simp] theorem ev_partS : dPart (some f) fr S = (f fr S).bnd fun d S' => match d with
  | .int i => .ok (some i) S'
  | _ => .no := by unfold dPart; rfl
@[simp] theorem ev_sl {lo hi : Option DenE} : dSl f lo hi fr S = (f fr S).bnd fun d S' => (dPart lo fr S').bnd fun l S2 => (dPart hi fr S2).bnd fun h S3 => .ofO (aSl d l h S3) := rfl
theorem five_line : (5 : Nat) ≤ 100 := by decide
theorem small_line {n : Nat} (h : n ≤ 1000) : n ≤ sizeLine := by rw [sizeLine_eq]; omega
@[simp] theorem size_small {n : Nat} (h : n ≤ 1000) : (n ≤ sizeLine) = True := eq_true (small_line h)
@[simp] theorem ev_tup : dTup g fr S = (g fr S).bnd fun ds S' => if ds.length ≤ sizeLine then .ok (.tup ds) S' else .no := rfl
@[simp] theorem ev_lst : dLst g fr S = (g fr S).bnd fun ds S' => if ds.length ≤ sizeLine then .ok (.ob S'.length) (S' ++ [.lst ds]) else .no := rfl
@[simp] theorem ev_lstT : dLstT g fr S = (g fr S).bnd fun ds S' => if ds.length ≤ sizeLine then .ok ds S' else .no := rfl
@[simp] theorem ev_dict0 : dDict [] fr S = .ok (.ob S.length) (S ++ [.dk []]) := rfl
@[simp] theorem tr_bl {c : Bool} : truD (.bl c) S = some c := rfl
@[simp] theorem tr_non : truD .non S = some false := rfl
@[simp] theorem s_add {i j : Int} : aAdd (.int i) (.int j) S = some (.int (i + j), S) := rfl
@[simp] theorem s_sub {i j : Int} : aSub (.int i) (.int j) S = some (.int (i - j), S) := rfl
@[simp] theorem s_lt {i j : Int} : aLt (.int i) (.int j) S = some (.bl (decide (i < j)), S) := rfl
@[simp] theorem s_le {i j : Int} : aLe (.int i) (.int j) S = some (.bl (decide (i ≤ j)), S) := rfl
@[simp] theorem s_gt {i j : Int} : aGt (.int i) (.int j) S = some (.bl (decide (j < i)), S) := rfl
@[simp] theorem s_ge {i j : Int} : aGe (.int i) (.int j) S = some (.bl (decide (j ≤ i)), S) := rfl
@[simp] theorem s_eqi {i j : Int} : aEq (.int i) (.int j) S = some (.bl (decide (i = j)), S) := eq_int
@[simp] theorem s_nei {i j : Int} : aNe (.int i) (.int j) S = some (.bl (!decide (i = j)), S) := ne_int
@[simp] theorem s_eqs {i j : Str} : aEq (.str i) (.str j) S = some (.bl (decide (i = j)), S) := eq_str
@[simp] theorem s_nes {i j : Str} : aNe (.str i) (.str j) S = some (.bl (!decide (i = j)), S) := ne_str
@[simp] theorem s_eqb {i j : Bool} : aEq (.bl i) (.bl j) S = some (.bl (decide (i = j)), S) := eq_bl
@[simp] theorem s_neb {i j : Bool} : aNe (.bl i) (.bl j) S = some (.bl (!decide (i = j)), S) := ne_bl
@[simp] theorem s_is {d : D} : aIs d .non S = some (.bl (isNon d), S) := rfl
@[simp] theorem s_isN {d : D} : aIsNot d .non S = some (.bl (!isNon d), S) := rfl
@[simp] theorem s_isT {b c : Bool} : aIs (.bl b) (.bl c) S = some (.bl (decide (b = c)), S) := by cases b <;> cases c <;> rfl
@[simp] theorem s_isNT {b c : Bool} : aIsNot (.bl b) (.bl c) S = some (.bl (!decide (b = c)), S) := by cases b <;> cases c <;> rfl
/-- an int literal's product -/
@[simp] theorem s_mulL {i j : Int} (h : -18446744073709551616 < i ∧ i < 18446744073709551616) : aMul (.int i) (.int j) S = some (.int (i * j), S) := mul_l (by omega)
@[simp] theorem s_mulR {i j : Int} (h : -18446744073709551616 < j ∧ j < 18446744073709551616) : aMul (.int i) (.int j) S = some (.int (i * j), S) := mul_r (by omega)
@[simp] theorem s_mod {i j : Int} (h : j ≠ 0) : aMod (.int i) (.int j) S = some (.int (i.fmod j), S) := mod_ok h
@[simp] theorem s_div {i j : Int} (h : j ≠ 0 ∧ j.natAbs < 1073741824) : aFDiv (.int i) (.int j) S = some (.int (i.fdiv j), S) := div_ok h
@[simp] theorem s_pow {i j : Int} (h : (0 ≤ j ∧ j ≤ 1000000) ∧ i.natAbs < 18446744073709551616) : aPow (.int i) (.int j) S = some (.int (i ^ j.toNat), S) := pow_ok ⟨h.1.1, h.1.2, h.2⟩
@[simp] theorem s_len {z : Str} (h : z.length ≤ 1000) : fLen [.str z] S = some (.int z.length, S) := len_str (small_line h)
@[simp] theorem mt_str {z : Str} : mtyD (.str z) S = some "str" := rfl
@[simp] theorem und_non {n : Nat} : D.und n .non = true := rfl
@[simp] theorem und_bl {n : Nat} {c : Bool} : D.und n (.bl c) = true := rfl
@[simp] theorem und_int {n : Nat} {c : Int} : D.und n (.int c) = true := rfl
@[simp] theorem und_str {n : Nat} {c : Str} : D.und n (.str c) = true := rfl
@[simp] theorem d_app {cs : List Int} {s : Ds} {R T : Sto} : dst cs s R ++ T = dst cs s (R ++ T) := rfl
@[simp] theorem d_len {cs : List Int} {s : Ds} {R : Sto} : List.length (dst cs s R) = R.length + 3 := rfl
@[simp] theorem d_get {cs : List Int} {s : Ds} {R : Sto} {i : Nat} : (dst cs s R)[i + 3]? = R[i]? := rfl
end
/-- what a def's body gives back -/
def rtOf : OutS → Option (D × Sto)
  | .ok (.rt d) _ S => some (d, S)
  | .ok .nx _ S => some (.non, S)
  | _ => none
@[simp] theorem rt_rt {d : D} {fr : Fr} {S : Sto} : rtOf (.ok (.rt d) fr S) = some (d, S) := rfl
@[simp] theorem rt_nx {fr : Fr} {S : Sto} : rtOf (.ok .nx fr S) = some (.non, S) := rfl
theorem runB_of {n : Nat} {b : DenS} {ds : List D} {S S' : Sto} {d : D} {o : Out D} (h : rtOf (b (ds.map some ++ List.replicate (n - ds.length) none) S) = some (d, S')) (hg : gcO S d S' = o) : runB n b ds S = o := by
  unfold runB
  cases q : b (ds.map some ++ List.replicate (n - ds.length) none) S with
  | ok fl fr S2 =>
    rw [q] at h
    cases fl <;> cases h <;> exact hg
  | ex e fr S2 => rw [q] at h; cases h
  | no => rw [q] at h; cases h
/-- the type that isinstance sees, of a thing of plain kind -/
def knd : D → Option String
  | .non => some "NoneType"
  | .bl _ => some "bool"
  | .int _ => some "int"
  | .str _ => some "str"
  | .tup _ => some "tuple"
  | .rl _ => some "list"
  | _ => none
theorem isi_ok {d : D} {S : Sto} {a b : String} (h : tyD d S = some a) (hb : b ∈ tyNames) : fIsi [d, .ty b] S = some (.bl (isTy a b), S) := by
  show (match tyD d S with
    | some a => if b ∈ tyNames then some (D.bl (isTy a b), S) else none
    | none => none) = _
  rw [h]
  exact if_pos hb
theorem tyD_ob {n : Nat} {S : Sto} {a : String} (h : tyD (.ob n) S = some a) : a = "list" ∨ a = "dict" := by
  unfold tyD at h
  dsimp only at h
  split at h
  · cases h; exact .inl rfl
  · cases h; exact .inr rfl
  · cases h
end
end DL
/-! DL, part u: lists, texts and drawn texts. -/
namespace DL
open PySem PySem.Spec PyProof.Rows L2
noncomputable section
def tx (cs : List Nat) : Str := ⟨cs.toArray⟩
theorem tx_cps (cs : List Nat) : (tx cs).cps.toList = cs := by simp [tx]
theorem tx_len (cs : List Nat) : (tx cs).length = cs.length := by rw [str_len, tx_cps]
theorem tx_of (z : Str) : z = tx z.cps.toList := by
  obtain ⟨a⟩ := z
  simp [tx]
theorem tx_inj {a b : List Nat} : tx a = tx b ↔ a = b := by
  constructor
  · intro h
    have := congrArg (fun z : Str => z.cps.toList) h
    rwa [tx_cps, tx_cps] at this
  · intro h; rw [h]
theorem ix_lst {S : Sto} {j : Nat} {xs : List D} {r : Int} {d : D} (hj : S[j]? = some (.lst xs)) (h0 : 0 ≤ r) (hd : xs[r.toNat]? = some d) : aIx (.ob j) (.int r) S = some (d, S) := by
  have e : seqD (.ob j) S = some xs := by
    show (match S[j]? with
      | some (.lst xs) => some xs
      | _ => none) = _
    rw [hj]
  show (match seqD (.ob j) S with
    | some xs => (L2.atI xs r).map fun d => (d, S)
    | none => match S[j]? with
      | some (.dk kvs) => match keyD (.int r) with
        | some k => (valD kvs k).map fun d => (d, S)
        | none => none
      | _ => none) = _
  rw [e]
  dsimp only
  rw [atI_ok (j := r.toNat) (x := d) (by omega) hd]
  rfl
theorem get_int {α : Type} (xs : List α) {r : Int} (h0 : 0 ≤ r) (h1 : r < xs.length) : ∃ d, d ∈ xs ∧ xs[r.toNat]? = some d := by
  have hl : r.toNat < xs.length := by omega
  exact ⟨xs[r.toNat], List.getElem_mem hl, List.getElem?_eq_getElem hl⟩
theorem ix_str {z : Str} {r : Int} (h0 : 0 ≤ r) (h1 : r < z.length) (hz : z.length ≤ 1000) : ∃ c, c ∈ z.cps.toList ∧ ∀ S, aIx (.str z) (.int r) S = some (.str ⟨#[c]⟩, S) := by
  obtain ⟨c, hc, e⟩ := get_int z.cps.toList (r := r) h0 (by rw [← str_len]; exact h1)
  refine ⟨c, hc, fun S => ?_⟩
  show (if z.length ≤ sizeLine then (L2.atI z.cps.toList r).map (fun c => (D.str ⟨#[c]⟩, S)) else none) = _
  rw [if_pos (small_line hz), atI_ok (j := r.toNat) (x := c) (by omega) e]
  rfl
theorem cut_len (z : Str) (lo hi : Option Int) : (cutS z lo hi).length ≤ z.length := by
  rw [str_len, str_len]
  unfold cutS
  simp only [List.length_take, List.length_drop]
  omega
theorem sl_any {z : Str} (lo hi : Option Int) (hz : z.length ≤ 1000) : ∃ y : Str, y.length ≤ z.length ∧ ∀ S, aSl (.str z) lo hi S = some (.str y, S) :=
  ⟨cutS z lo hi, cut_len z lo hi, fun S => if_pos (small_line hz)⟩
theorem add_str {x y : Str} {S : Sto} (h : x.length + y.length ≤ 1000) : aAdd (.str x) (.str y) S = some (.str (x ++ y), S) := if_pos (small_line h)
theorem app_len (x y : Str) : (x ++ y).length = x.length + y.length := by
  show (x.cps ++ y.cps).size = _
  rw [Array.size_append]
  rfl
theorem one_len (c : Nat) : (⟨#[c]⟩ : Str).length = 1 := rfl
theorem join_one {vs : List D} (h : ∀ v ∈ vs, ∃ c, v = D.str ⟨#[c]⟩) (hl : vs.length ≤ 1000) : ∃ z : Str, z.length = vs.length ∧ ∀ S, mJoinT (.str "") vs S = some (.str z, S) := by
  have : ∃ l : List Str, vs = l.map D.str ∧ ∀ a ∈ l, a.length = 1 := by
    clear hl
    induction vs with
    | nil => exact ⟨[], rfl, fun a ha => by cases ha⟩
    | cons v vs ih =>
      obtain ⟨l, e, h1⟩ := ih fun w hw => h w (List.mem_cons_of_mem _ hw)
      obtain ⟨c, rfl⟩ := h v List.mem_cons_self
      refine ⟨⟨#[c]⟩ :: l, by rw [e]; rfl, fun a ha => ?_⟩
      rcases List.mem_cons.mp ha with q | q
      · rw [q]; rfl
      · exact h1 a q
  obtain ⟨l, rfl, h1⟩ := this
  rw [List.length_map] at hl
  refine ⟨Txt.join "" l, ?_, fun S => ?_⟩
  · rw [List.length_map]
    exact PySem.W.KT.join_ones l h1
  · show (match optAll strOf (l.map D.str) with
      | some ys => if joinOk "" ys then some (D.str (Txt.join "" ys), S) else none
      | none => none) = _
    rw [optAll_strs]
    dsimp only
    rw [if_pos]
    have e0 : (("" : Str)).length = 0 := by decide +kernel
    have es : (l.map (·.length)).sum = l.length := by
      clear hl h
      induction l with
      | nil => rfl
      | cons a l ih =>
        rw [List.map_cons, List.sum_cons, List.length_cons, ih fun b hb => h1 b (List.mem_cons_of_mem _ hb), h1 a List.mem_cons_self]
        omega
    show (l.map (·.length)).sum + l.length * (("" : Str)).length ≤ 16777216
    rw [es, e0]
    omega
theorem range1 {h : DenA} {fr : Fr} {S S' : Sto} {n : Int} (e : h fr S = .ok [.int n] S') (h0 : 0 ≤ n) (hn : n ≤ 1000) : dIRange1 h fr S = .ok ⟨upTo 0 n.toNat, []⟩ S' := by
  unfold dIRange1
  rw [e]
  show (if -(2 ^ 62) ≤ n ∧ n ≤ 16777216 then Out.ok (Src.mk (upTo 0 n.toNat) []) S' else .no) = _
  rw [if_pos ⟨by omega, by omega⟩]
theorem dst_new {cs : List Int} {s : Ds} {R T : Sto} (j : Nat) : (dst cs s (R ++ T))[R.length + 3 + j]? = T[j]? := by
  rw [show R.length + 3 + j = (R.length + j) + 3 by omega, dst_get, List.getElem?_append_right (by omega), Nat.add_sub_cancel_left]
theorem upTo_len (lo : Int) (n : Nat) : (upTo lo n).length = n := by
  unfold upTo
  rw [List.length_map, List.length_range]
/-- a loop that goes through all its items -/
theorem forL_nx {ok : Sto → Prop} {t : DTg} {b : DenS} (hok : ∀ S, ok S) (N : Nat) (I : Nat → Fr → Sto → Prop) : ∀ (items : List D), (∀ d ∈ items, ∀ n fr S, n < N → I n fr S → ∃ fr1 fr2 S2, t d fr S = some fr1 ∧ (b fr1 S = .ok .nx fr2 S2 ∨ b fr1 S = .ok .ct fr2 S2) ∧ I (n + 1) fr2 S2) →
    ∀ n fr S, n + items.length ≤ N → I n fr S → ∃ fr' S', forL ok t b items fr S = .ok .nx fr' S' ∧ I (n + items.length) fr' S'
  | [], _, n, fr, S, _, hI => ⟨fr, S, by unfold forL; exact if_pos (hok S), hI⟩
  | d :: l, h, n, fr, S, hn, hI => by
    rw [List.length_cons] at hn
    obtain ⟨fr1, fr2, S2, h1, h2, h3⟩ := h d List.mem_cons_self n fr S (by omega) hI
    obtain ⟨fr', S', e, hI'⟩ := forL_nx hok N I l (fun d' hd' => h d' (List.mem_cons_of_mem _ hd')) (n + 1) fr2 S2 (by omega) h3
    refine ⟨fr', S', ?_, by rw [List.length_cons, Nat.add_comm l.length 1, ← Nat.add_assoc]; exact hI'⟩
    unfold forL
    rw [if_pos (hok S), h1]
    dsimp only
    rcases h2 with h2 | h2 <;> rw [h2] <;> exact e
end
end DL
/-! the defs of this law, their table and their meanings (written by gen.py) -/
namespace K07
open PySem PySem.Spec PyProof.Rows L2 DL
noncomputable section
def top (i : Nat) : Stmt := PySem.Challenge.pw_borderkin_k07_terms_told.main.body.getD i (.Pass ⟨0, 0, 0, 0⟩)
def f_is_formed : FDef := ⟨"is_formed", "is_formed", top 4, ["thing", "deep"], ["thing", "deep", "part"], none, "is_formed"⟩
def f_many_in : FDef := ⟨"many_in", "many_in", top 5, ["kind"], ["kind", "part"], none, "many_in"⟩
def f_is_kind : FDef := ⟨"is_kind", "is_kind", top 6, ["thing"], ["thing"], none, "is_kind"⟩
def f_is_whole : FDef := ⟨"is_whole", "is_whole", top 11, ["thing", "least", "most"], ["thing", "least", "most"], none, "is_whole"⟩
def f_is_name : FDef := ⟨"is_name", "is_name", top 12, ["thing"], ["thing", "sign"], none, "is_name"⟩
def f_is_number : FDef := ⟨"is_number", "is_number", top 18, ["thing"], ["thing"], none, "is_number"⟩
def f_is_part_shaped : FDef := ⟨"is_part_shaped", "is_part_shaped", top 19, ["sign", "thing"], ["sign", "thing"], none, "is_part_shaped"⟩
def f_is_shaped : FDef := ⟨"is_shaped", "is_shaped", top 20, ["thing"], ["thing", "form", "sign", "part"], none, "is_shaped"⟩
def f_parts_of : FDef := ⟨"parts_of", "parts_of", top 21, ["term"], ["term", "sign", "part"], none, "parts_of"⟩
def f_is_term : FDef := ⟨"is_term", "is_term", top 22, ["thing"], ["thing", "row", "many", "deep", "behind", "one"], none, "is_term"⟩
def f_law_begin : FDef := ⟨"_law_begin", "_law_begin", top 24, ["_law_script"], ["_law_script"], none, "_law_begin"⟩
def f_law_mixed : FDef := ⟨"_law_mixed", "_law_mixed", top 25, ["_law_cell", "_law_k"], ["_law_cell", "_law_k", "_law_number"], none, "_law_mixed"⟩
def f_law_next : FDef := ⟨"_law_next", "_law_next", top 26, ["_law_draw", "_law_many"], ["_law_draw", "_law_many", "_law_found", "_law_cells", "_law_cell"], none, "_law_next"⟩
def f_law_kind : FDef := ⟨"_law_kind", "_law_kind", top 27, ["_law_draw", "_law_deep"], ["_law_draw", "_law_deep", "_law_way"], none, "_law_kind"⟩
def f_law_name : FDef := ⟨"_law_name", "_law_name", top 28, ["_law_draw", "_law_names"], ["_law_draw", "_law_names", "_law_some"], none, "_law_name"⟩
def f_law_plain : FDef := ⟨"_law_plain", "_law_plain", top 29, ["_law_draw", "_law_word", "_law_names"], ["_law_draw", "_law_word", "_law_names", "_law_some"], none, "_law_plain"⟩
def f_law_holder : FDef := ⟨"_law_holder", "_law_holder", top 30, ["_law_draw", "_law_word", "_law_names", "_law_room", "_law_deep"], ["_law_draw", "_law_word", "_law_names", "_law_room", "_law_deep", "_law_one", "_law_kind_here", "_law_ahead", "_law_other", "_law_more"], none, "_law_holder"⟩
def f_law_term : FDef := ⟨"_law_term", "_law_term", top 31, ["_law_draw", "_law_names", "_law_room", "_law_deep"], ["_law_draw", "_law_names", "_law_room", "_law_deep", "_law_words", "_law_word", "_law_head", "_law_many", "_law_k"], none, "_law_term"⟩
def f_law_drawn : FDef := ⟨"_law_drawn", "_law_drawn", top 32, ["_law_draw"], ["_law_draw"], none, "_law_drawn"⟩
def f_law_form : FDef := ⟨"_law_form", "_law_form", top 33, ["_law_word"], ["_law_word", "_law_some"], none, "_law_form"⟩
def f_law_odd : FDef := ⟨"_law_odd", "_law_odd", top 34, ["_law_draw", "_law_sign"], ["_law_draw", "_law_sign", "_law_odd_here"], none, "_law_odd"⟩
def f_law_bent : FDef := ⟨"_law_bent", "_law_bent", top 35, ["_law_draw", "_law_term_here"], ["_law_draw", "_law_term_here", "_law_way", "_law_odd_here", "_law_form_here", "_law_at", "_law_part", "_law_bent_here"], none, "_law_bent"⟩
def f_law_chain : FDef := ⟨"_law_chain", "_law_chain", top 36, ["_law_many"], ["_law_many", "_law_found", "_law_k"], none, "_law_chain"⟩
def f_law_wide : FDef := ⟨"_law_wide", "_law_wide", top 37, ["_law_last"], ["_law_last", "_law_pair", "_law_found", "_law_k"], none, "_law_wide"⟩
def f_law : FDef := ⟨"law", "law", top 38, ["_law_script"], ["_law_script", "_law_draw", "_law_turn", "_law_term_here", "_law_bent_here", "_law_time", "_law_more", "_law_told", "_law_one"], none, "law"⟩
def TX : List XDef := []
theorem allX : AllX TX := trivial
abbrev i_is_formed : Nat := 0
abbrev i_many_in : Nat := 1
abbrev i_is_kind : Nat := 2
abbrev i_is_whole : Nat := 3
abbrev i_is_name : Nat := 4
abbrev i_is_number : Nat := 5
abbrev i_is_part_shaped : Nat := 6
abbrev i_is_shaped : Nat := 7
abbrev i_parts_of : Nat := 8
abbrev i_is_term : Nat := 9
abbrev i_law_begin : Nat := 10
abbrev i_law_mixed : Nat := 11
abbrev i_law_next : Nat := 12
abbrev i_law_kind : Nat := 13
abbrev i_law_name : Nat := 14
abbrev i_law_plain : Nat := 15
abbrev i_law_holder : Nat := 16
abbrev i_law_term : Nat := 17
abbrev i_law_drawn : Nat := 18
abbrev i_law_form : Nat := 19
abbrev i_law_odd : Nat := 20
abbrev i_law_bent : Nat := 21
abbrev i_law_chain : Nat := 22
abbrev i_law_wide : Nat := 23
abbrev i_law : Nat := 24
def T0 : List FDef := [f_is_formed, f_many_in, f_is_kind, f_is_whole, f_is_name, f_is_number, f_is_part_shaped, f_is_shaped, f_parts_of, f_is_term, f_law_begin, f_law_mixed, f_law_next, f_law_kind, f_law_name, f_law_plain, f_law_holder, f_law_term, f_law_drawn, f_law_form, f_law_odd, f_law_bent, f_law_chain, f_law_wide, f_law]
def T : List FDef := T0
def G0 : GEnv := [("is_formed", .fn 0 2),
  ("many_in", .fn 1 1),
  ("is_kind", .fn 2 1),
  ("is_whole", .fn 3 3),
  ("is_name", .fn 4 1),
  ("is_number", .fn 5 1),
  ("is_part_shaped", .fn 6 2),
  ("is_shaped", .fn 7 1),
  ("parts_of", .fn 8 1),
  ("is_term", .fn 9 1),
  ("_law_begin", .fn 10 1),
  ("_law_mixed", .fn 11 2),
  ("_law_next", .fn 12 2),
  ("_law_kind", .fn 13 2),
  ("_law_name", .fn 14 2),
  ("_law_plain", .fn 15 3),
  ("_law_holder", .fn 16 5),
  ("_law_term", .fn 17 4),
  ("_law_drawn", .fn 18 1),
  ("_law_form", .fn 19 1)]
def G1 : GEnv := [("_law_odd", .fn 20 2),
  ("_law_bent", .fn 21 2),
  ("_law_chain", .fn 22 1),
  ("_law_wide", .fn 23 1),
  ("law", .fn 24 1),
  ("MOST_DEEP_terms", .con (.int 20)),
  ("MOST_PARTS_terms", .con (.int 120)),
  ("FORMS", .con (.kd ["number", "truth", "name", "fun", "rec", "call", "let", "if", "op", "pair", "first", "second", "box", "open", "put", "as"] [(.str "i"), (.str "b"), (.str "n"), (.str "nkt"), (.str "nnkkt"), (.str "tt"), (.str "nktt"), (.str "ttt"), (.str "stt"), (.str "tt"), (.str "t"), (.str "t"), (.str "t"), (.str "t"), (.str "tt"), (.str "tk")])),
  ("SIGNS", .con (.tup [(.str "+"), (.str "-"), (.str "*"), (.str "<"), (.str "=")])),
  ("MOST_NUMBER", .con (.int 1000000000000)),
  ("MOST_LETTERS", .con (.int 8)),
  ("LETTERS", .con (.str "abcdefghijklmnopqrstuvwxyz")),
  ("MOST_DEEP_kinds", .con (.int 8)),
  ("MOST_PARTS_kinds", .con (.int 60)),
  ("PARTS_OF", .con (.kd ["num", "truth", "any", "fun", "pair", "box"] [(.int 0), (.int 0), (.int 0), (.int 2), (.int 2), (.int 1)]))]
def G : GEnv := G0 ++ G1
def b_is_formed (Φ : PhT) : DenS :=
  (dSeq (dIfS (dTOr (dCmpT aEq (dVar 1) (dC (.int 0))) (dTOr (dTNot (dTr (dB fIsi (dACons (dVar 0) (dACons (dC (.ty "tuple")) dANil))))) (dTOr (dCmpT aEq (dVar 0) (dTup dANil)) (dTNot (dTr (dB fIsi (dACons (dOp aIx (dVar 0) (dC (.int 0))) (dACons (dC (.ty "str")) dANil)))))))) (dSeq (dRet (dC (.bl false)))
  dNil) dNil)
 (dSeq (dIfS (dTOr (dCmpT aNotIn (dOp aIx (dVar 0) (dC (.int 0))) (dC (.kd ["num", "truth", "any", "fun", "pair", "box"] [(.int 0), (.int 0), (.int 0), (.int 2), (.int 2), (.int 1)]))) (dCmpT aNe (dB fLen (dACons (dVar 0) dANil)) (dOp aAdd (dC (.int 1)) (dOp aIx (dC (.kd ["num", "truth", "any", "fun", "pair", "box"] [(.int 0), (.int 0), (.int 0), (.int 2), (.int 2), (.int 1)])) (dOp aIx (dVar 0) (dC (.int 0))))))) (dSeq (dRet (dC (.bl false)))
  dNil) dNil)
 (dSeq (dRet (dB fAll (dComp [2] (dISeq (dSl (dVar 0) (some (dC (.int 1))) none)) (gN 2) dYes (dCall 2 (Φ i_is_formed) (dACons (dVar 2) (dACons (dOp aSub (dVar 1) (dC (.int 1))) dANil))))))
 dNil)))
theorem den_is_formed : f_is_formed.den G = some b_is_formed := by kernel_rfl
def b_many_in (Φ : PhT) : DenS :=
  (dSeq (dRet (dOp aAdd (dC (.int 1)) (dB fSum (dComp [1] (dISeq (dSl (dVar 0) (some (dC (.int 1))) none)) (gN 1) dYes (dCall 1 (Φ i_many_in) (dACons (dVar 1) dANil))))))
 dNil)
theorem den_many_in : f_many_in.den G = some b_many_in := by kernel_rfl
def b_is_kind (Φ : PhT) : DenS :=
  (dSeq (dRet (dAndV (dCall 2 (Φ i_is_formed) (dACons (dVar 0) (dACons (dC (.int 8)) dANil))) (dOp aLe (dCall 1 (Φ i_many_in) (dACons (dVar 0) dANil)) (dC (.int 60)))))
 dNil)
theorem den_is_kind : f_is_kind.den G = some b_is_kind := by kernel_rfl
def b_is_whole (Φ : PhT) : DenS :=
  (dSeq (dRet (dAndV (dB fIsi (dACons (dVar 0) (dACons (dC (.ty "int")) dANil))) (dAndV (dNotV (dB fIsi (dACons (dVar 0) (dACons (dC (.ty "bool")) dANil)))) (dChain aLe aLe (dVar 1) (dVar 0) (dVar 2)))))
 dNil)
theorem den_is_whole : f_is_whole.den G = some b_is_whole := by kernel_rfl
def b_is_name (Φ : PhT) : DenS :=
  (dSeq (dIfS (dTOr (dTNot (dTr (dB fIsi (dACons (dVar 0) (dACons (dC (.ty "str")) dANil))))) (dTNot (dChainT aLe aLe (dC (.int 1)) (dB fLen (dACons (dVar 0) dANil)) (dC (.int 8))))) (dSeq (dRet (dC (.bl false)))
  dNil) dNil)
 (dSeq (dRet (dB fAll (dComp [1] (dISeq (dVar 0)) (gN 1) dYes (dOp aIn (dVar 1) (dC (.str "abcdefghijklmnopqrstuvwxyz"))))))
 dNil))
theorem den_is_name : f_is_name.den G = some b_is_name := by kernel_rfl
def b_is_number (Φ : PhT) : DenS :=
  (dSeq (dRet (dCall 3 (Φ i_is_whole) (dACons (dVar 0) (dACons (dNeg (dC (.int 1000000000000))) (dACons (dC (.int 1000000000000)) dANil)))))
 dNil)
theorem den_is_number : f_is_number.den G = some b_is_number := by kernel_rfl
def b_is_part_shaped (Φ : PhT) : DenS :=
  (dSeq (dIfS (dCmpT aEq (dVar 0) (dC (.str "i"))) (dSeq (dRet (dCall 1 (Φ i_is_number) (dACons (dVar 1) dANil)))
  dNil) dNil)
 (dSeq (dIfS (dCmpT aEq (dVar 0) (dC (.str "b"))) (dSeq (dRet (dB fIsi (dACons (dVar 1) (dACons (dC (.ty "bool")) dANil))))
  dNil) dNil)
 (dSeq (dIfS (dCmpT aEq (dVar 0) (dC (.str "n"))) (dSeq (dRet (dCall 1 (Φ i_is_name) (dACons (dVar 1) dANil)))
  dNil) dNil)
 (dSeq (dIfS (dCmpT aEq (dVar 0) (dC (.str "k"))) (dSeq (dRet (dCall 1 (Φ i_is_kind) (dACons (dVar 1) dANil)))
  dNil) dNil)
 (dSeq (dRet (dOrV (dOp aEq (dVar 0) (dC (.str "t"))) (dAndV (dB fIsi (dACons (dVar 1) (dACons (dC (.ty "str")) dANil))) (dOp aIn (dVar 1) (dC (.tup [(.str "+"), (.str "-"), (.str "*"), (.str "<"), (.str "=")]))))))
 dNil)))))
theorem den_is_part_shaped : f_is_part_shaped.den G = some b_is_part_shaped := by kernel_rfl
def b_is_shaped (Φ : PhT) : DenS :=
  (dSeq (dIfS (dTOr (dTNot (dTr (dB fIsi (dACons (dVar 0) (dACons (dC (.ty "tuple")) dANil))))) (dTOr (dCmpT aEq (dVar 0) (dTup dANil)) (dTNot (dTr (dB fIsi (dACons (dOp aIx (dVar 0) (dC (.int 0))) (dACons (dC (.ty "str")) dANil))))))) (dSeq (dRet (dC (.bl false)))
  dNil) dNil)
 (dSeq (dSet 1 (dM "dict" mGet (dC (.kd ["number", "truth", "name", "fun", "rec", "call", "let", "if", "op", "pair", "first", "second", "box", "open", "put", "as"] [(.str "i"), (.str "b"), (.str "n"), (.str "nkt"), (.str "nnkkt"), (.str "tt"), (.str "nktt"), (.str "ttt"), (.str "stt"), (.str "tt"), (.str "t"), (.str "t"), (.str "t"), (.str "t"), (.str "tt"), (.str "tk")])) (dACons (dOp aIx (dVar 0) (dC (.int 0))) (dACons (dC (.str "")) dANil))))
 (dSeq (dIfS (dTOr (dCmpT aEq (dVar 1) (dC (.str ""))) (dCmpT aNe (dB fLen (dACons (dVar 0) dANil)) (dOp aAdd (dB fLen (dACons (dVar 1) dANil)) (dC (.int 1))))) (dSeq (dRet (dC (.bl false)))
  dNil) dNil)
 (dSeq (dRet (dB fAll (dComp [2, 3] (dIZip (dACons (dVar 1) (dACons (dSl (dVar 0) (some (dC (.int 1))) none) dANil))) (gT 2 (gsCons (gN 2) (gsCons (gN 3) gsNil))) dYes (dCall 2 (Φ i_is_part_shaped) (dACons (dVar 2) (dACons (dVar 3) dANil))))))
 dNil))))
theorem den_is_shaped : f_is_shaped.den G = some b_is_shaped := by kernel_rfl
def b_parts_of (Φ : PhT) : DenS :=
  (dSeq (dRet (dB fTup (dComp [1, 2] (dIZip (dACons (dOp aIx (dC (.kd ["number", "truth", "name", "fun", "rec", "call", "let", "if", "op", "pair", "first", "second", "box", "open", "put", "as"] [(.str "i"), (.str "b"), (.str "n"), (.str "nkt"), (.str "nnkkt"), (.str "tt"), (.str "nktt"), (.str "ttt"), (.str "stt"), (.str "tt"), (.str "t"), (.str "t"), (.str "t"), (.str "t"), (.str "tt"), (.str "tk")])) (dOp aIx (dVar 0) (dC (.int 0)))) (dACons (dSl (dVar 0) (some (dC (.int 1))) none) dANil))) (gT 2 (gsCons (gN 1) (gsCons (gN 2) gsNil))) (dCmpT aEq (dVar 1) (dC (.str "t"))) (dVar 2))))
 dNil)
theorem den_parts_of : f_parts_of.den G = some b_parts_of := by kernel_rfl
def b_is_term (Φ : PhT) : DenS :=
  (dSeq (dSet 1 (dLst (dACons (dVar 0) dANil)))
 (dSeq (dSet 2 (dC (.int 0)))
 (dSeq (dFor (gN 3) (dIRange1 (dACons (dC (.int 20)) dANil)) (dSeq (dAug 2 aIAdd (dB fLen (dACons (dVar 1) dANil)))
  (dSeq (dIfS (dTOr (dCmpT aGt (dVar 2) (dC (.int 120))) (dTNot (dTr (dB fAll (dComp [5] (dISeq (dVar 1)) (gN 5) dYes (dCall 1 (Φ i_is_shaped) (dACons (dVar 5) dANil))))))) (dSeq (dRet (dC (.bl false)))
   dNil) dNil)
  (dSeq (dSet 4 (dLst dANil))
  (dSeq (dFor (gN 5) (dISeq (dVar 1)) (dSeq (dExpr (dM "list" mExtend (dVar 4) (dACons (dCall 1 (Φ i_parts_of) (dACons (dVar 5) dANil)) dANil)))
   dNil))
  (dSeq (dSet 1 (dVar 4))
  dNil))))))
 (dSeq (dRet (dOp aEq (dVar 1) (dLst dANil)))
 dNil))))
theorem den_is_term : f_is_term.den G = some b_is_term := by kernel_rfl
def b_law_begin (Φ : PhT) : DenS :=
  (dSeq (dRet (dDict [((dC (.str "cells")), (dOp aAdd (dVar 0) (dLst (dACons (dC (.int 0)) dANil)))), ((dC (.str "at")), (dC (.int 0))), ((dC (.str "left")), (dC (.int 0))), ((dC (.str "used")), (dC (.int 0)))]))
 dNil)
theorem den_law_begin : f_law_begin.den G = some b_law_begin := by kernel_rfl
def b_law_mixed (Φ : PhT) : DenS :=
  (dSeq (dSet 2 (dOp aMod (dOp aMul (dOp aAdd (dOp aAdd (dOp aAdd (dOp aMod (dVar 0) (dC (.int 1000000007))) (dOp aMul (dOp aMul (dC (.int 7919)) (dVar 1)) (dVar 1))) (dOp aMul (dC (.int 31)) (dVar 1))) (dC (.int 7))) (dC (.int 48271))) (dC (.int 2147483647))))
 (dSeq (dRet (dOp aFDiv (dOp aMod (dOp aMul (dVar 2) (dOp aAdd (dC (.int 69621)) (dOp aMul (dC (.int 2)) (dOp aMod (dVar 1) (dC (.int 1000)))))) (dC (.int 2147483629))) (dC (.int 7))))
 dNil))
theorem den_law_mixed : f_law_mixed.den G = some b_law_mixed := by kernel_rfl
def b_law_next (Φ : PhT) : DenS :=
  (dSeq (dIfS (dCmpT aGt (dOp aIx (dVar 0) (dC (.str "left"))) (dC (.int 0))) (dSeq (dSet 2 (dOp aMod (dOp aIx (dVar 0) (dC (.str "left"))) (dVar 1)))
  (dSeq (dSetIx (dVar 0) (dC (.str "left")) (dOp aFDiv (dOp aIx (dVar 0) (dC (.str "left"))) (dVar 1)))
  (dSeq (dRet (dVar 2))
  dNil))) dNil)
 (dSeq (dSet 3 (dOp aIx (dVar 0) (dC (.str "cells"))))
 (dSeq (dSet 4 (dOp aIx (dVar 3) (dOp aMod (dOp aIx (dVar 0) (dC (.str "at"))) (dB fLen (dACons (dVar 3) dANil)))))
 (dSeq (dSetIx (dVar 0) (dC (.str "at")) (dOp aAdd (dOp aIx (dVar 0) (dC (.str "at"))) (dC (.int 1))))
 (dSeq (dIfS (dTAnd (dCmpT aGe (dVar 4) (dOp aPow (dC (.int 10)) (dC (.int 18)))) (dCmpT aLe (dOp aIx (dVar 0) (dC (.str "at"))) (dB fLen (dACons (dVar 3) dANil)))) (dSeq (dSetIx (dVar 0) (dC (.str "left")) (dOp aFDiv (dVar 4) (dVar 1)))
  (dSeq (dRet (dOp aMod (dVar 4) (dVar 1)))
  dNil)) dNil)
 (dSeq (dSetIx (dVar 0) (dC (.str "used")) (dOp aAdd (dOp aIx (dVar 0) (dC (.str "used"))) (dC (.int 1))))
 (dSeq (dRet (dOp aMod (dCall 2 (Φ i_law_mixed) (dACons (dCall 2 (Φ i_law_mixed) (dACons (dVar 4) (dACons (dOp aIx (dVar 0) (dC (.str "at"))) dANil))) (dACons (dOp aIx (dVar 0) (dC (.str "used"))) dANil))) (dVar 1)))
 dNil)))))))
theorem den_law_next : f_law_next.den G = some b_law_next := by kernel_rfl
def b_law_kind (Φ : PhT) : DenS :=
  (dSeq (dSet 2 (dCall 2 (Φ i_law_next) (dACons (dVar 0) (dACons (dOp aAdd (dC (.int 3)) (dOp aMul (dC (.int 3)) (dB fInt (dACons (dOp aGt (dVar 1) (dC (.int 0))) dANil)))) dANil))))
 (dSeq (dIfS (dCmpT aLt (dVar 2) (dC (.int 3))) (dSeq (dRet (dTup (dACons (dOp aIx (dLst (dACons (dC (.str "num")) (dACons (dC (.str "truth")) (dACons (dC (.str "any")) dANil)))) (dVar 2)) dANil)))
  dNil) dNil)
 (dSeq (dIfS (dCmpT aEq (dVar 2) (dC (.int 5))) (dSeq (dRet (dTup (dACons (dC (.str "box")) (dACons (dCall 2 (Φ i_law_kind) (dACons (dVar 0) (dACons (dOp aSub (dVar 1) (dC (.int 1))) dANil))) dANil))))
  dNil) dNil)
 (dSeq (dRet (dTup (dACons (dOp aIx (dLst (dACons (dC (.str "fun")) (dACons (dC (.str "pair")) dANil))) (dOp aSub (dVar 2) (dC (.int 3)))) (dACons (dCall 2 (Φ i_law_kind) (dACons (dVar 0) (dACons (dOp aSub (dVar 1) (dC (.int 1))) dANil))) (dACons (dCall 2 (Φ i_law_kind) (dACons (dVar 0) (dACons (dOp aSub (dVar 1) (dC (.int 1))) dANil))) dANil)))))
 dNil))))
theorem den_law_kind : f_law_kind.den G = some b_law_kind := by kernel_rfl
def b_law_name (Φ : PhT) : DenS :=
  (dSeq (dSet 2 (dLst (dACons (dC (.str "x")) (dACons (dC (.str "f")) (dACons (dC (.str "zz")) (dACons (dC (.str "a")) (dACons (dC (.str "longname")) (dACons (dC (.str "aa")) (dACons (dC (.str "b")) (dACons (dC (.str "ab")) dANil))))))))))
 (dSeq (dIfS (dTAnd (dCmpT aNe (dVar 1) (dTup dANil)) (dCmpT aGt (dCall 2 (Φ i_law_next) (dACons (dVar 0) (dACons (dC (.int 3)) dANil))) (dC (.int 0)))) (dSeq (dRet (dOp aIx (dVar 1) (dCall 2 (Φ i_law_next) (dACons (dVar 0) (dACons (dB fLen (dACons (dVar 1) dANil)) dANil)))))
  dNil) dNil)
 (dSeq (dRet (dOp aIx (dVar 2) (dCall 2 (Φ i_law_next) (dACons (dVar 0) (dACons (dC (.int 8)) dANil)))))
 dNil)))
theorem den_law_name : f_law_name.den G = some b_law_name := by kernel_rfl
def b_law_plain (Φ : PhT) : DenS :=
  (dSeq (dIfS (dCmpT aEq (dVar 1) (dC (.str "number"))) (dSeq (dSet 3 (dLst (dACons (dC (.int 0)) (dACons (dC (.int 1)) (dACons (dNeg (dC (.int 1))) (dACons (dC (.int 7)) (dACons (dOp aPow (dC (.int 10)) (dC (.int 12))) (dACons (dNeg (dOp aPow (dC (.int 10)) (dC (.int 12)))) (dACons (dCall 2 (Φ i_law_next) (dACons (dVar 0) (dACons (dOp aPow (dC (.int 10)) (dC (.int 12))) dANil))) (dACons (dOp aSub (dC (.int 0)) (dCall 2 (Φ i_law_next) (dACons (dVar 0) (dACons (dC (.int 1000)) dANil)))) dANil))))))))))
  (dSeq (dRet (dTup (dACons (dVar 1) (dACons (dOp aIx (dVar 3) (dCall 2 (Φ i_law_next) (dACons (dVar 0) (dACons (dC (.int 8)) dANil)))) dANil))))
  dNil)) dNil)
 (dSeq (dIfS (dCmpT aEq (dVar 1) (dC (.str "truth"))) (dSeq (dRet (dTup (dACons (dVar 1) (dACons (dOp aEq (dCall 2 (Φ i_law_next) (dACons (dVar 0) (dACons (dC (.int 2)) dANil))) (dC (.int 1))) dANil))))
  dNil) dNil)
 (dSeq (dRet (dTup (dACons (dVar 1) (dACons (dCall 2 (Φ i_law_name) (dACons (dVar 0) (dACons (dVar 2) dANil))) dANil))))
 dNil)))
theorem den_law_plain : f_law_plain.den G = some b_law_plain := by kernel_rfl
def b_law_holder (Φ : PhT) : DenS :=
  (dSeq (dSet 5 (dCall 2 (Φ i_law_name) (dACons (dVar 0) (dACons (dTup dANil) dANil))))
 (dSeq (dSet 6 (dCall 2 (Φ i_law_kind) (dACons (dVar 0) (dACons (dCall 2 (Φ i_law_next) (dACons (dVar 0) (dACons (dC (.int 4)) dANil))) dANil))))
 (dSeq (dIfS (dCmpT aEq (dVar 1) (dC (.str "fun"))) (dSeq (dRet (dTup (dACons (dVar 1) (dACons (dVar 5) (dACons (dVar 6) (dACons (dCall 4 (Φ i_law_term) (dACons (dVar 0) (dACons (dOp aAdd (dVar 2) (dTup (dACons (dVar 5) dANil))) (dACons (dVar 3) (dACons (dVar 4) dANil))))) dANil))))))
  dNil) dNil)
 (dSeq (dIfS (dCmpT aEq (dVar 1) (dC (.str "let"))) (dSeq (dSet 7 (dCall 4 (Φ i_law_term) (dACons (dVar 0) (dACons (dVar 2) (dACons (dVar 3) (dACons (dVar 4) dANil))))))
  (dSeq (dRet (dTup (dACons (dVar 1) (dACons (dVar 5) (dACons (dVar 6) (dACons (dVar 7) (dACons (dCall 4 (Φ i_law_term) (dACons (dVar 0) (dACons (dOp aAdd (dVar 2) (dTup (dACons (dVar 5) dANil))) (dACons (dVar 3) (dACons (dVar 4) dANil))))) dANil)))))))
  dNil)) dNil)
 (dSeq (dSet 8 (dCall 2 (Φ i_law_name) (dACons (dVar 0) (dACons (dTup dANil) dANil))))
 (dSeq (dSet 9 (dCall 2 (Φ i_law_kind) (dACons (dVar 0) (dACons (dCall 2 (Φ i_law_next) (dACons (dVar 0) (dACons (dC (.int 4)) dANil))) dANil))))
 (dSeq (dRet (dTup (dACons (dVar 1) (dACons (dVar 8) (dACons (dVar 5) (dACons (dVar 6) (dACons (dVar 9) (dACons (dCall 4 (Φ i_law_term) (dACons (dVar 0) (dACons (dOp aAdd (dVar 2) (dTup (dACons (dVar 8) (dACons (dVar 5) dANil)))) (dACons (dVar 3) (dACons (dVar 4) dANil))))) dANil))))))))
 dNil)))))))
theorem den_law_holder : f_law_holder.den G = some b_law_holder := by kernel_rfl
def b_law_term (Φ : PhT) : DenS :=
  (dSeq (dSetIx (dVar 2) (dC (.int 0)) (dOp aSub (dOp aIx (dVar 2) (dC (.int 0))) (dC (.int 1))))
 (dSeq (dSet 4 (dLst (dACons (dC (.str "number")) (dACons (dC (.str "truth")) (dACons (dC (.str "name")) (dACons (dC (.str "fun")) (dACons (dC (.str "rec")) (dACons (dC (.str "let")) (dACons (dC (.str "as")) (dACons (dC (.str "op")) (dACons (dC (.str "call")) (dACons (dC (.str "pair")) (dACons (dC (.str "put")) (dACons (dC (.str "first")) (dACons (dC (.str "second")) dANil)))))))))))))))
 (dSeq (dSet 5 (dOp aIx (dOp aAdd (dVar 4) (dLst (dACons (dC (.str "box")) (dACons (dC (.str "open")) (dACons (dC (.str "if")) dANil))))) (dCall 2 (Φ i_law_next) (dACons (dVar 0) (dACons (dIf (dTAnd (dCmpT aGt (dVar 3) (dC (.int 0))) (dCmpT aGt (dOp aIx (dVar 2) (dC (.int 0))) (dC (.int 0)))) (dC (.int 16)) (dC (.int 3))) dANil)))))
 (dSeq (dIfS (dCmpT aIn (dVar 5) (dTup (dACons (dC (.str "number")) (dACons (dC (.str "truth")) (dACons (dC (.str "name")) dANil))))) (dSeq (dRet (dCall 3 (Φ i_law_plain) (dACons (dVar 0) (dACons (dVar 5) (dACons (dVar 1) dANil)))))
  dNil) dNil)
 (dSeq (dIfS (dCmpT aIn (dVar 5) (dTup (dACons (dC (.str "fun")) (dACons (dC (.str "rec")) (dACons (dC (.str "let")) dANil))))) (dSeq (dRet (dCall 5 (Φ i_law_holder) (dACons (dVar 0) (dACons (dVar 5) (dACons (dVar 1) (dACons (dVar 2) (dACons (dOp aSub (dVar 3) (dC (.int 1))) dANil)))))))
  dNil) dNil)
 (dSeq (dIfS (dCmpT aEq (dVar 5) (dC (.str "as"))) (dSeq (dRet (dTup (dACons (dVar 5) (dACons (dCall 4 (Φ i_law_term) (dACons (dVar 0) (dACons (dVar 1) (dACons (dVar 2) (dACons (dOp aSub (dVar 3) (dC (.int 1))) dANil))))) (dACons (dCall 2 (Φ i_law_kind) (dACons (dVar 0) (dACons (dCall 2 (Φ i_law_next) (dACons (dVar 0) (dACons (dC (.int 4)) dANil))) dANil))) dANil)))))
  dNil) dNil)
 (dSeq (dSet 6 (dTup (dACons (dVar 5) dANil)))
 (dSeq (dIfS (dCmpT aEq (dVar 5) (dC (.str "op"))) (dSeq (dSet 6 (dTup (dACons (dVar 5) (dACons (dOp aIx (dLst (dACons (dC (.str "+")) (dACons (dC (.str "-")) (dACons (dC (.str "*")) (dACons (dC (.str "<")) (dACons (dC (.str "=")) dANil)))))) (dCall 2 (Φ i_law_next) (dACons (dVar 0) (dACons (dC (.int 5)) dANil)))) dANil))))
  dNil) dNil)
 (dSeq (dSet 7 (dM "dict" mGet (dDict [((dC (.str "first")), (dC (.int 1))), ((dC (.str "second")), (dC (.int 1))), ((dC (.str "box")), (dC (.int 1))), ((dC (.str "open")), (dC (.int 1))), ((dC (.str "if")), (dC (.int 3)))]) (dACons (dVar 5) (dACons (dC (.int 2)) dANil))))
 (dSeq (dRet (dOp aAdd (dVar 6) (dB fTup (dComp [8] (dIRange1 (dACons (dVar 7) dANil)) (gN 8) dYes (dCall 4 (Φ i_law_term) (dACons (dVar 0) (dACons (dVar 1) (dACons (dVar 2) (dACons (dOp aSub (dVar 3) (dC (.int 1))) dANil)))))))))
 dNil))))))))))
theorem den_law_term : f_law_term.den G = some b_law_term := by kernel_rfl
def b_law_drawn (Φ : PhT) : DenS :=
  (dSeq (dRet (dCall 4 (Φ i_law_term) (dACons (dVar 0) (dACons (dTup dANil) (dACons (dLst (dACons (dOp aIx (dLst (dACons (dC (.int 1)) (dACons (dC (.int 6)) (dACons (dC (.int 20)) (dACons (dC (.int 45)) dANil))))) (dCall 2 (Φ i_law_next) (dACons (dVar 0) (dACons (dC (.int 4)) dANil)))) dANil)) (dACons (dC (.int 9)) dANil))))))
 dNil)
theorem den_law_drawn : f_law_drawn.den G = some b_law_drawn := by kernel_rfl
def b_law_form (Φ : PhT) : DenS :=
  (dSeq (dSet 1 (dDict [((dC (.str "number")), (dC (.str "i"))), ((dC (.str "truth")), (dC (.str "b"))), ((dC (.str "name")), (dC (.str "n"))), ((dC (.str "fun")), (dC (.str "nkt"))), ((dC (.str "rec")), (dC (.str "nnkkt"))), ((dC (.str "let")), (dC (.str "nktt"))), ((dC (.str "as")), (dC (.str "tk")))]))
 (dSeq (dExpr (dM "dict" mUpdate (dVar 1) (dACons (dDict [((dC (.str "op")), (dC (.str "stt"))), ((dC (.str "if")), (dC (.str "ttt"))), ((dC (.str "first")), (dC (.str "t"))), ((dC (.str "second")), (dC (.str "t"))), ((dC (.str "box")), (dC (.str "t"))), ((dC (.str "open")), (dC (.str "t")))]) dANil)))
 (dSeq (dRet (dM "dict" mGet (dVar 1) (dACons (dVar 0) (dACons (dC (.str "tt")) dANil))))
 dNil)))
theorem den_law_form : f_law_form.den G = some b_law_form := by kernel_rfl
def b_law_odd (Φ : PhT) : DenS :=
  (dSeq (dIfS (dCmpT aEq (dVar 1) (dC (.str "n"))) (dSeq (dRet (dOp aIx (dLst (dACons (dC (.str "")) (dACons (dC (.str "A")) (dACons (dC (.str "abcdefghi")) (dACons (dC (.str "a1")) (dACons (dC .non) (dACons (dC (.int 5)) (dACons (dTup (dACons (dC (.str "x")) dANil)) (dACons (dLst (dACons (dC (.str "x")) dANil)) (dACons (dC (.str "x ")) (dACons (dC (.bl true)) dANil))))))))))) (dCall 2 (Φ i_law_next) (dACons (dVar 0) (dACons (dC (.int 10)) dANil)))))
  dNil) dNil)
 (dSeq (dIfS (dCmpT aEq (dVar 1) (dC (.str "k"))) (dSeq (dSet 2 (dLst (dACons (dC .non) (dACons (dC (.str "num")) (dACons (dTup (dACons (dC (.str "num")) (dACons (dC (.int 1)) dANil))) (dACons (dTup (dACons (dC (.str "box")) dANil)) (dACons (dTup (dACons (dC (.str "fun")) (dACons (dTup (dACons (dC (.str "num")) dANil)) dANil))) (dACons (dTup (dACons (dC (.str "Num")) dANil)) (dACons (dLst (dACons (dC (.str "num")) dANil)) (dACons (dTup dANil) (dACons (dTup (dACons (dC (.str "pair")) (dACons (dTup (dACons (dC (.str "num")) dANil)) (dACons (dC (.int 5)) dANil)))) dANil)))))))))))
  (dSeq (dRet (dOp aIx (dVar 2) (dCall 2 (Φ i_law_next) (dACons (dVar 0) (dACons (dC (.int 9)) dANil)))))
  dNil)) dNil)
 (dSeq (dIfS (dCmpT aEq (dVar 1) (dC (.str "i"))) (dSeq (dRet (dOp aIx (dLst (dACons (dOp aAdd (dOp aPow (dC (.int 10)) (dC (.int 12))) (dC (.int 1))) (dACons (dOp aSub (dNeg (dOp aPow (dC (.int 10)) (dC (.int 12)))) (dC (.int 1))) (dACons (dC (.bl true)) (dACons (dC .non) (dACons (dC (.str "1")) (dACons (dTup (dACons (dC (.int 1)) dANil)) (dACons (dOp aPow (dC (.int 10)) (dC (.int 30))) dANil)))))))) (dCall 2 (Φ i_law_next) (dACons (dVar 0) (dACons (dC (.int 7)) dANil)))))
  dNil) dNil)
 (dSeq (dIfS (dCmpT aEq (dVar 1) (dC (.str "b"))) (dSeq (dRet (dOp aIx (dLst (dACons (dC (.int 0)) (dACons (dC (.int 1)) (dACons (dC .non) (dACons (dC (.str "True")) (dACons (dTup (dACons (dC (.bl true)) dANil)) dANil)))))) (dCall 2 (Φ i_law_next) (dACons (dVar 0) (dACons (dC (.int 5)) dANil)))))
  dNil) dNil)
 (dSeq (dIfS (dCmpT aEq (dVar 1) (dC (.str "s"))) (dSeq (dRet (dOp aIx (dLst (dACons (dC (.str "")) (dACons (dC (.str "/")) (dACons (dC (.str "++")) (dACons (dC .non) (dACons (dC (.str "plus")) (dACons (dTup (dACons (dC (.str "+")) dANil)) (dACons (dC (.int 5)) dANil)))))))) (dCall 2 (Φ i_law_next) (dACons (dVar 0) (dACons (dC (.int 7)) dANil)))))
  dNil) dNil)
 (dSeq (dSet 2 (dLst (dACons (dC .non) (dACons (dC (.int 5)) (dACons (dC (.str "x")) (dACons (dTup dANil) (dACons (dTup (dACons (dC (.str "name")) dANil)) (dACons (dTup (dACons (dC (.str "number")) (dACons (dC (.bl true)) dANil))) (dACons (dLst (dACons (dC (.str "name")) (dACons (dC (.str "x")) dANil))) (dACons (dTup (dACons (dC (.str "truth")) (dACons (dC (.int 1)) dANil))) (dACons (dTup (dACons (dC (.str "Name")) (dACons (dC (.str "x")) dANil))) (dACons (dDict []) (dACons (dTup (dACons (dC (.str "op")) (dACons (dC (.str "+")) dANil))) dANil)))))))))))))
 (dSeq (dSet 2 (dOp aAdd (dVar 2) (dLst (dACons (dTup (dACons (dC (.str "fun")) (dACons (dC (.str "x")) (dACons (dTup (dACons (dC (.str "num")) dANil)) dANil)))) (dACons (dTup (dACons (dC (.str "number")) (dACons (dC (.int 1)) (dACons (dC (.int 2)) dANil)))) (dACons (dTup (dACons (dC (.str "kind")) (dACons (dTup (dACons (dC (.str "num")) dANil)) dANil))) (dACons (dTup (dACons (dTup (dACons (dC (.str "number")) (dACons (dC (.int 1)) dANil))) dANil)) dANil)))))))
 (dSeq (dRet (dOp aIx (dOp aAdd (dVar 2) (dLst (dACons (dTup (dACons (dC (.str "call")) (dACons (dTup (dACons (dC (.str "number")) (dACons (dC (.int 1)) dANil))) dANil))) dANil))) (dCall 2 (Φ i_law_next) (dACons (dVar 0) (dACons (dC (.int 16)) dANil)))))
 dNil))))))))
theorem den_law_odd : f_law_odd.den G = some b_law_odd := by kernel_rfl
def b_law_bent (Φ : PhT) : DenS :=
  (dSeq (dSet 2 (dCall 2 (Φ i_law_next) (dACons (dVar 0) (dACons (dC (.int 6)) dANil))))
 (dSeq (dIfS (dCmpT aEq (dVar 2) (dC (.int 0))) (dSeq (dSet 3 (dLst (dACons (dB (onSeq fList) (dACons (dVar 1) dANil)) (dACons (dOp aAdd (dVar 1) (dTup (dACons (dC .non) dANil))) (dACons (dSl (dVar 1) none (some (dNeg (dC (.int 1))))) (dACons (dTup (dACons (dVar 1) dANil)) (dACons (dOp aAdd (dTup (dACons (dC (.str "x")) dANil)) (dSl (dVar 1) (some (dC (.int 1))) none)) (dACons (dOp aAdd (dTup (dACons (dC .non) dANil)) (dSl (dVar 1) (some (dC (.int 1))) none)) dANil))))))))
  (dSeq (dRet (dOp aIx (dVar 3) (dCall 2 (Φ i_law_next) (dACons (dVar 0) (dACons (dC (.int 6)) dANil)))))
  dNil)) dNil)
 (dSeq (dSet 4 (dCall 1 (Φ i_law_form) (dACons (dOp aIx (dVar 1) (dC (.int 0))) dANil)))
 (dSeq (dSet 5 (dCall 2 (Φ i_law_next) (dACons (dVar 0) (dACons (dB fLen (dACons (dVar 4) dANil)) dANil))))
 (dSeq (dSet 6 (dOp aIx (dVar 1) (dOp aAdd (dVar 5) (dC (.int 1)))))
 (dSeq (dSet 7 (dIf (dTAnd (dCmpT aEq (dOp aIx (dVar 4) (dVar 5)) (dC (.str "t"))) (dCmpT aGt (dVar 2) (dC (.int 1)))) (dCall 2 (Φ i_law_bent) (dACons (dVar 0) (dACons (dVar 6) dANil))) (dCall 2 (Φ i_law_odd) (dACons (dVar 0) (dACons (dOp aIx (dVar 4) (dVar 5)) dANil)))))
 (dSeq (dRet (dOp aAdd (dOp aAdd (dSl (dVar 1) none (some (dOp aAdd (dVar 5) (dC (.int 1))))) (dTup (dACons (dVar 7) dANil))) (dSl (dVar 1) (some (dOp aAdd (dVar 5) (dC (.int 2)))) none)))
 dNil)))))))
theorem den_law_bent : f_law_bent.den G = some b_law_bent := by kernel_rfl
def b_law_chain (Φ : PhT) : DenS :=
  (dSeq (dSet 1 (dTup (dACons (dC (.str "number")) (dACons (dC (.int 1)) dANil))))
 (dSeq (dFor (gN 2) (dIRange1 (dACons (dOp aSub (dVar 0) (dC (.int 1))) dANil)) (dSeq (dSet 1 (dTup (dACons (dC (.str "first")) (dACons (dVar 1) dANil))))
  dNil))
 (dSeq (dRet (dVar 1))
 dNil)))
theorem den_law_chain : f_law_chain.den G = some b_law_chain := by kernel_rfl
def b_law_wide (Φ : PhT) : DenS :=
  (dSeq (dSet 1 (dTup (dACons (dC (.str "pair")) (dACons (dTup (dACons (dC (.str "number")) (dACons (dC (.int 0)) dANil))) (dACons (dTup (dACons (dC (.str "name")) (dACons (dC (.str "x")) dANil))) dANil)))))
 (dSeq (dSet 2 (dVar 0))
 (dSeq (dFor (gN 3) (dIRange1 (dACons (dC (.int 17)) dANil)) (dSeq (dSet 2 (dTup (dACons (dC (.str "if")) (dACons (dVar 1) (dACons (dVar 1) (dACons (dVar 2) dANil))))))
  dNil))
 (dSeq (dRet (dVar 2))
 dNil))))
theorem den_law_wide : f_law_wide.den G = some b_law_wide := by kernel_rfl
def b_law (Φ : PhT) : DenS :=
  (dSeq (dSet 1 (dCall 1 (Φ i_law_begin) (dACons (dVar 0) dANil)))
 (dSeq (dFor (gN 2) (dIRange1 (dACons (dC (.int 7)) dANil)) (dSeq (dSet 3 (dCall 1 (Φ i_law_drawn) (dACons (dVar 1) dANil)))
  (dSeq (dSet 4 (dCall 2 (Φ i_law_bent) (dACons (dVar 1) (dACons (dVar 3) dANil))))
  (dSeq (dFor (gN 5) (dIRange1 (dACons (dC (.int 2)) dANil)) (dSeq (dIfS (dTOr (dCmpT aIsNot (dCall 1 (Φ i_is_term) (dACons (dVar 3) dANil)) (dC (.bl true))) (dCmpT aIsNot (dCall 1 (Φ i_is_term) (dACons (dVar 4) dANil)) (dC (.bl false)))) (dSeq (dRet (dC (.bl false)))
    dNil) dNil)
   dNil))
  (dSeq (dSet 6 (dCall 2 (Φ i_law_odd) (dACons (dVar 1) (dACons (dC (.str "t")) dANil))))
  (dSeq (dIfS (dTOr (dCmpT aIsNot (dCall 1 (Φ i_is_term) (dACons (dVar 6) dANil)) (dC (.bl false))) (dCmpT aIsNot (dCall 1 (Φ i_is_term) (dACons (dTup (dACons (dC (.str "pair")) (dACons (dVar 3) (dACons (dVar 6) dANil)))) dANil)) (dC (.bl false)))) (dSeq (dRet (dC (.bl false)))
   dNil) dNil)
  dNil))))))
 (dSeq (dSet 7 (dLst (dACons (dCall 1 (Φ i_is_term) (dACons (dCall 1 (Φ i_law_chain) (dACons (dC (.int 20)) dANil)) dANil)) (dACons (dCall 1 (Φ i_is_term) (dACons (dCall 1 (Φ i_law_chain) (dACons (dC (.int 21)) dANil)) dANil)) (dACons (dCall 1 (Φ i_is_term) (dACons (dCall 1 (Φ i_law_chain) (dACons (dC (.int 2000)) dANil)) dANil)) dANil)))))
 (dSeq (dSet 7 (dOp aAdd (dVar 7) (dLst (dACons (dCall 1 (Φ i_is_term) (dACons (dCall 1 (Φ i_law_wide) (dACons (dTup (dACons (dC (.str "number")) (dACons (dC (.int 1)) dANil))) dANil)) dANil)) (dACons (dCall 1 (Φ i_is_term) (dACons (dCall 1 (Φ i_law_wide) (dACons (dTup (dACons (dC (.str "box")) (dACons (dTup (dACons (dC (.str "number")) (dACons (dC (.int 1)) dANil))) dANil))) dANil)) dANil)) dANil)))))
 (dSeq (dRet (dAndV (dOp aEq (dVar 7) (dLst (dACons (dC (.bl true)) (dACons (dC (.bl false)) (dACons (dC (.bl false)) (dACons (dC (.bl true)) (dACons (dC (.bl false)) dANil))))))) (dOp aEq (dKeep (dComp [8] (dISeq (dVar 7)) (gN 8) (dTNot (dTr (dB fIsi (dACons (dVar 8) (dACons (dC (.ty "bool")) dANil))))) (dVar 8))) (dLst dANil))))
 dNil)))))
theorem den_law : f_law.den G = some b_law := by kernel_rfl
theorem run_is_formed {k : Nat} {S S' : Sto} {d0 d1 : D} {r : D} {o : Out D} (h : rtOf (b_is_formed (Phi T G k) [some d0, some d1, none] S) = some (r, S')) (hg : gcO S r S' = o) : Phi T G (k + 1) i_is_formed [d0, d1] S = o := by rw [phi_succ (d := f_is_formed) rfl den_is_formed]; exact runB_of h hg
theorem run_many_in {k : Nat} {S S' : Sto} {d0 : D} {r : D} {o : Out D} (h : rtOf (b_many_in (Phi T G k) [some d0, none] S) = some (r, S')) (hg : gcO S r S' = o) : Phi T G (k + 1) i_many_in [d0] S = o := by rw [phi_succ (d := f_many_in) rfl den_many_in]; exact runB_of h hg
theorem run_is_kind {k : Nat} {S S' : Sto} {d0 : D} {r : D} {o : Out D} (h : rtOf (b_is_kind (Phi T G k) [some d0] S) = some (r, S')) (hg : gcO S r S' = o) : Phi T G (k + 1) i_is_kind [d0] S = o := by rw [phi_succ (d := f_is_kind) rfl den_is_kind]; exact runB_of h hg
theorem run_is_whole {k : Nat} {S S' : Sto} {d0 d1 d2 : D} {r : D} {o : Out D} (h : rtOf (b_is_whole (Phi T G k) [some d0, some d1, some d2] S) = some (r, S')) (hg : gcO S r S' = o) : Phi T G (k + 1) i_is_whole [d0, d1, d2] S = o := by rw [phi_succ (d := f_is_whole) rfl den_is_whole]; exact runB_of h hg
theorem run_is_name {k : Nat} {S S' : Sto} {d0 : D} {r : D} {o : Out D} (h : rtOf (b_is_name (Phi T G k) [some d0, none] S) = some (r, S')) (hg : gcO S r S' = o) : Phi T G (k + 1) i_is_name [d0] S = o := by rw [phi_succ (d := f_is_name) rfl den_is_name]; exact runB_of h hg
theorem run_is_number {k : Nat} {S S' : Sto} {d0 : D} {r : D} {o : Out D} (h : rtOf (b_is_number (Phi T G k) [some d0] S) = some (r, S')) (hg : gcO S r S' = o) : Phi T G (k + 1) i_is_number [d0] S = o := by rw [phi_succ (d := f_is_number) rfl den_is_number]; exact runB_of h hg
theorem run_is_part_shaped {k : Nat} {S S' : Sto} {d0 d1 : D} {r : D} {o : Out D} (h : rtOf (b_is_part_shaped (Phi T G k) [some d0, some d1] S) = some (r, S')) (hg : gcO S r S' = o) : Phi T G (k + 1) i_is_part_shaped [d0, d1] S = o := by rw [phi_succ (d := f_is_part_shaped) rfl den_is_part_shaped]; exact runB_of h hg
theorem run_is_shaped {k : Nat} {S S' : Sto} {d0 : D} {r : D} {o : Out D} (h : rtOf (b_is_shaped (Phi T G k) [some d0, none, none, none] S) = some (r, S')) (hg : gcO S r S' = o) : Phi T G (k + 1) i_is_shaped [d0] S = o := by rw [phi_succ (d := f_is_shaped) rfl den_is_shaped]; exact runB_of h hg
theorem run_parts_of {k : Nat} {S S' : Sto} {d0 : D} {r : D} {o : Out D} (h : rtOf (b_parts_of (Phi T G k) [some d0, none, none] S) = some (r, S')) (hg : gcO S r S' = o) : Phi T G (k + 1) i_parts_of [d0] S = o := by rw [phi_succ (d := f_parts_of) rfl den_parts_of]; exact runB_of h hg
theorem run_is_term {k : Nat} {S S' : Sto} {d0 : D} {r : D} {o : Out D} (h : rtOf (b_is_term (Phi T G k) [some d0, none, none, none, none, none] S) = some (r, S')) (hg : gcO S r S' = o) : Phi T G (k + 1) i_is_term [d0] S = o := by rw [phi_succ (d := f_is_term) rfl den_is_term]; exact runB_of h hg
theorem run_law_begin {k : Nat} {S S' : Sto} {d0 : D} {r : D} {o : Out D} (h : rtOf (b_law_begin (Phi T G k) [some d0] S) = some (r, S')) (hg : gcO S r S' = o) : Phi T G (k + 1) i_law_begin [d0] S = o := by rw [phi_succ (d := f_law_begin) rfl den_law_begin]; exact runB_of h hg
theorem run_law_mixed {k : Nat} {S S' : Sto} {d0 d1 : D} {r : D} {o : Out D} (h : rtOf (b_law_mixed (Phi T G k) [some d0, some d1, none] S) = some (r, S')) (hg : gcO S r S' = o) : Phi T G (k + 1) i_law_mixed [d0, d1] S = o := by rw [phi_succ (d := f_law_mixed) rfl den_law_mixed]; exact runB_of h hg
theorem run_law_next {k : Nat} {S S' : Sto} {d0 d1 : D} {r : D} {o : Out D} (h : rtOf (b_law_next (Phi T G k) [some d0, some d1, none, none, none] S) = some (r, S')) (hg : gcO S r S' = o) : Phi T G (k + 1) i_law_next [d0, d1] S = o := by rw [phi_succ (d := f_law_next) rfl den_law_next]; exact runB_of h hg
theorem run_law_kind {k : Nat} {S S' : Sto} {d0 d1 : D} {r : D} {o : Out D} (h : rtOf (b_law_kind (Phi T G k) [some d0, some d1, none] S) = some (r, S')) (hg : gcO S r S' = o) : Phi T G (k + 1) i_law_kind [d0, d1] S = o := by rw [phi_succ (d := f_law_kind) rfl den_law_kind]; exact runB_of h hg
theorem run_law_name {k : Nat} {S S' : Sto} {d0 d1 : D} {r : D} {o : Out D} (h : rtOf (b_law_name (Phi T G k) [some d0, some d1, none] S) = some (r, S')) (hg : gcO S r S' = o) : Phi T G (k + 1) i_law_name [d0, d1] S = o := by rw [phi_succ (d := f_law_name) rfl den_law_name]; exact runB_of h hg
theorem run_law_plain {k : Nat} {S S' : Sto} {d0 d1 d2 : D} {r : D} {o : Out D} (h : rtOf (b_law_plain (Phi T G k) [some d0, some d1, some d2, none] S) = some (r, S')) (hg : gcO S r S' = o) : Phi T G (k + 1) i_law_plain [d0, d1, d2] S = o := by rw [phi_succ (d := f_law_plain) rfl den_law_plain]; exact runB_of h hg
theorem run_law_holder {k : Nat} {S S' : Sto} {d0 d1 d2 d3 d4 : D} {r : D} {o : Out D} (h : rtOf (b_law_holder (Phi T G k) [some d0, some d1, some d2, some d3, some d4, none, none, none, none, none] S) = some (r, S')) (hg : gcO S r S' = o) : Phi T G (k + 1) i_law_holder [d0, d1, d2, d3, d4] S = o := by rw [phi_succ (d := f_law_holder) rfl den_law_holder]; exact runB_of h hg
theorem run_law_term {k : Nat} {S S' : Sto} {d0 d1 d2 d3 : D} {r : D} {o : Out D} (h : rtOf (b_law_term (Phi T G k) [some d0, some d1, some d2, some d3, none, none, none, none, none] S) = some (r, S')) (hg : gcO S r S' = o) : Phi T G (k + 1) i_law_term [d0, d1, d2, d3] S = o := by rw [phi_succ (d := f_law_term) rfl den_law_term]; exact runB_of h hg
theorem run_law_drawn {k : Nat} {S S' : Sto} {d0 : D} {r : D} {o : Out D} (h : rtOf (b_law_drawn (Phi T G k) [some d0] S) = some (r, S')) (hg : gcO S r S' = o) : Phi T G (k + 1) i_law_drawn [d0] S = o := by rw [phi_succ (d := f_law_drawn) rfl den_law_drawn]; exact runB_of h hg
theorem run_law_form {k : Nat} {S S' : Sto} {d0 : D} {r : D} {o : Out D} (h : rtOf (b_law_form (Phi T G k) [some d0, none] S) = some (r, S')) (hg : gcO S r S' = o) : Phi T G (k + 1) i_law_form [d0] S = o := by rw [phi_succ (d := f_law_form) rfl den_law_form]; exact runB_of h hg
theorem run_law_odd {k : Nat} {S S' : Sto} {d0 d1 : D} {r : D} {o : Out D} (h : rtOf (b_law_odd (Phi T G k) [some d0, some d1, none] S) = some (r, S')) (hg : gcO S r S' = o) : Phi T G (k + 1) i_law_odd [d0, d1] S = o := by rw [phi_succ (d := f_law_odd) rfl den_law_odd]; exact runB_of h hg
theorem run_law_bent {k : Nat} {S S' : Sto} {d0 d1 : D} {r : D} {o : Out D} (h : rtOf (b_law_bent (Phi T G k) [some d0, some d1, none, none, none, none, none, none] S) = some (r, S')) (hg : gcO S r S' = o) : Phi T G (k + 1) i_law_bent [d0, d1] S = o := by rw [phi_succ (d := f_law_bent) rfl den_law_bent]; exact runB_of h hg
theorem run_law_chain {k : Nat} {S S' : Sto} {d0 : D} {r : D} {o : Out D} (h : rtOf (b_law_chain (Phi T G k) [some d0, none, none] S) = some (r, S')) (hg : gcO S r S' = o) : Phi T G (k + 1) i_law_chain [d0] S = o := by rw [phi_succ (d := f_law_chain) rfl den_law_chain]; exact runB_of h hg
theorem run_law_wide {k : Nat} {S S' : Sto} {d0 : D} {r : D} {o : Out D} (h : rtOf (b_law_wide (Phi T G k) [some d0, none, none, none] S) = some (r, S')) (hg : gcO S r S' = o) : Phi T G (k + 1) i_law_wide [d0] S = o := by rw [phi_succ (d := f_law_wide) rfl den_law_wide]; exact runB_of h hg
theorem run_law {k : Nat} {S S' : Sto} {d0 : D} {r : D} {o : Out D} (h : rtOf (b_law (Phi T G k) [some d0, none, none, none, none, none, none, none, none] S) = some (r, S')) (hg : gcO S r S' = o) : Phi T G (k + 1) i_law [d0] S = o := by rw [phi_succ (d := f_law) rfl den_law]; exact runB_of h hg
theorem ok_is_formed : FOk f_is_formed := ⟨⟨rfl, rfl, rfl, by decide +kernel, rfl, by decide +kernel, by decide +kernel⟩, fun _ _ _ _ _ _ us hl => match us, hl with | [_, _], _ => rfl⟩
theorem ok_many_in : FOk f_many_in := ⟨⟨rfl, rfl, rfl, by decide +kernel, rfl, by decide +kernel, by decide +kernel⟩, fun _ _ _ _ _ _ us hl => match us, hl with | [_], _ => rfl⟩
theorem ok_is_kind : FOk f_is_kind := ⟨⟨rfl, rfl, rfl, by decide +kernel, rfl, by decide +kernel, by decide +kernel⟩, fun _ _ _ _ _ _ us hl => match us, hl with | [_], _ => rfl⟩
theorem ok_is_whole : FOk f_is_whole := ⟨⟨rfl, rfl, rfl, by decide +kernel, rfl, by decide +kernel, by decide +kernel⟩, fun _ _ _ _ _ _ us hl => match us, hl with | [_, _, _], _ => rfl⟩
theorem ok_is_name : FOk f_is_name := ⟨⟨rfl, rfl, rfl, by decide +kernel, rfl, by decide +kernel, by decide +kernel⟩, fun _ _ _ _ _ _ us hl => match us, hl with | [_], _ => rfl⟩
theorem ok_is_number : FOk f_is_number := ⟨⟨rfl, rfl, rfl, by decide +kernel, rfl, by decide +kernel, by decide +kernel⟩, fun _ _ _ _ _ _ us hl => match us, hl with | [_], _ => rfl⟩
theorem ok_is_part_shaped : FOk f_is_part_shaped := ⟨⟨rfl, rfl, rfl, by decide +kernel, rfl, by decide +kernel, by decide +kernel⟩, fun _ _ _ _ _ _ us hl => match us, hl with | [_, _], _ => rfl⟩
theorem ok_is_shaped : FOk f_is_shaped := ⟨⟨rfl, rfl, rfl, by decide +kernel, rfl, by decide +kernel, by decide +kernel⟩, fun _ _ _ _ _ _ us hl => match us, hl with | [_], _ => rfl⟩
theorem ok_parts_of : FOk f_parts_of := ⟨⟨rfl, rfl, rfl, by decide +kernel, rfl, by decide +kernel, by decide +kernel⟩, fun _ _ _ _ _ _ us hl => match us, hl with | [_], _ => rfl⟩
theorem ok_is_term : FOk f_is_term := ⟨⟨rfl, rfl, rfl, by decide +kernel, rfl, by decide +kernel, by decide +kernel⟩, fun _ _ _ _ _ _ us hl => match us, hl with | [_], _ => rfl⟩
theorem ok_law_begin : FOk f_law_begin := ⟨⟨rfl, rfl, rfl, by decide +kernel, rfl, by decide +kernel, by decide +kernel⟩, fun _ _ _ _ _ _ us hl => match us, hl with | [_], _ => rfl⟩
theorem ok_law_mixed : FOk f_law_mixed := ⟨⟨rfl, rfl, rfl, by decide +kernel, rfl, by decide +kernel, by decide +kernel⟩, fun _ _ _ _ _ _ us hl => match us, hl with | [_, _], _ => rfl⟩
theorem ok_law_next : FOk f_law_next := ⟨⟨rfl, rfl, rfl, by decide +kernel, rfl, by decide +kernel, by decide +kernel⟩, fun _ _ _ _ _ _ us hl => match us, hl with | [_, _], _ => rfl⟩
theorem ok_law_kind : FOk f_law_kind := ⟨⟨rfl, rfl, rfl, by decide +kernel, rfl, by decide +kernel, by decide +kernel⟩, fun _ _ _ _ _ _ us hl => match us, hl with | [_, _], _ => rfl⟩
theorem ok_law_name : FOk f_law_name := ⟨⟨rfl, rfl, rfl, by decide +kernel, rfl, by decide +kernel, by decide +kernel⟩, fun _ _ _ _ _ _ us hl => match us, hl with | [_, _], _ => rfl⟩
theorem ok_law_plain : FOk f_law_plain := ⟨⟨rfl, rfl, rfl, by decide +kernel, rfl, by decide +kernel, by decide +kernel⟩, fun _ _ _ _ _ _ us hl => match us, hl with | [_, _, _], _ => rfl⟩
theorem ok_law_holder : FOk f_law_holder := ⟨⟨rfl, rfl, rfl, by decide +kernel, rfl, by decide +kernel, by decide +kernel⟩, fun _ _ _ _ _ _ us hl => match us, hl with | [_, _, _, _, _], _ => rfl⟩
theorem ok_law_term : FOk f_law_term := ⟨⟨rfl, rfl, rfl, by decide +kernel, rfl, by decide +kernel, by decide +kernel⟩, fun _ _ _ _ _ _ us hl => match us, hl with | [_, _, _, _], _ => rfl⟩
theorem ok_law_drawn : FOk f_law_drawn := ⟨⟨rfl, rfl, rfl, by decide +kernel, rfl, by decide +kernel, by decide +kernel⟩, fun _ _ _ _ _ _ us hl => match us, hl with | [_], _ => rfl⟩
theorem ok_law_form : FOk f_law_form := ⟨⟨rfl, rfl, rfl, by decide +kernel, rfl, by decide +kernel, by decide +kernel⟩, fun _ _ _ _ _ _ us hl => match us, hl with | [_], _ => rfl⟩
theorem ok_law_odd : FOk f_law_odd := ⟨⟨rfl, rfl, rfl, by decide +kernel, rfl, by decide +kernel, by decide +kernel⟩, fun _ _ _ _ _ _ us hl => match us, hl with | [_, _], _ => rfl⟩
theorem ok_law_bent : FOk f_law_bent := ⟨⟨rfl, rfl, rfl, by decide +kernel, rfl, by decide +kernel, by decide +kernel⟩, fun _ _ _ _ _ _ us hl => match us, hl with | [_, _], _ => rfl⟩
theorem ok_law_chain : FOk f_law_chain := ⟨⟨rfl, rfl, rfl, by decide +kernel, rfl, by decide +kernel, by decide +kernel⟩, fun _ _ _ _ _ _ us hl => match us, hl with | [_], _ => rfl⟩
theorem ok_law_wide : FOk f_law_wide := ⟨⟨rfl, rfl, rfl, by decide +kernel, rfl, by decide +kernel, by decide +kernel⟩, fun _ _ _ _ _ _ us hl => match us, hl with | [_], _ => rfl⟩
theorem ok_law : FOk f_law := ⟨⟨rfl, rfl, rfl, by decide +kernel, rfl, by decide +kernel, by decide +kernel⟩, fun _ _ _ _ _ _ us hl => match us, hl with | [_], _ => rfl⟩
theorem allOk : AllOk T := ⟨ok_is_formed, ok_many_in, ok_is_kind, ok_is_whole, ok_is_name, ok_is_number, ok_is_part_shaped, ok_is_shaped, ok_parts_of, ok_is_term, ok_law_begin, ok_law_mixed, ok_law_next, ok_law_kind, ok_law_name, ok_law_plain, ok_law_holder, ok_law_term, ok_law_drawn, ok_law_form, ok_law_odd, ok_law_bent, ok_law_chain, ok_law_wide, ok_law, trivial⟩
def loose0 : List Str := ["PARTS_OF", "MOST_DEEP_kinds", "MOST_PARTS_kinds", "is_formed", "many_in", "is_kind", "LETTERS", "MOST_LETTERS", "MOST_NUMBER", "is_whole", "is_name", "MOST_PARTS_terms", "MOST_DEEP_terms", "SIGNS", "FORMS", "is_number", "is_part_shaped", "is_shaped", "parts_of", "is_term"]
def loose1 : List Str := ["_law_begin", "_law_mixed", "_law_next", "_law_kind", "_law_name", "_law_plain", "_law_holder", "_law_term", "_law_drawn", "_law_form", "_law_odd", "_law_bent", "_law_chain", "_law_wide"]
def loose : List Str := loose0 ++ loose1
abbrev R : PySem.W.OpenRow := PySem.W.OpenLaw.row PySem.Challenge.rw_borderkin_k07_terms_told
abbrev hk : PySem.W.Hook := hookQ 5 (csOf G) (clsOf G) TX (basesOf G) (faOf T G) (T.map FDef.defD ++ TX.map XDef.defD)
def ob (s : PySem.W.SharedT) : AlQ := obsQG 5 (csOf G) (clsOf G) TX (basesOf G) (faOf T G) (T.map FDef.defD ++ TX.map XDef.defD) (HandSHeadRun.getT s)
theorem ob_eq (s : PySem.W.SharedT) : ob s = hk.obs s.abs := obsQG_eq (HandSHeadRun.getT_eq s)
theorem run (w : World) : HandSHeadRun.RunEq R (PySem.W.view R.prog [38]) hk ob 9000 loose w := by
  refine PySem.W.byRow2 "special-get-raises" (P := fun w => HandSHeadRun.RunEq R (PySem.W.view R.prog [38]) hk ob 9000 loose w) (fun w => ?_) (fun w => ?_) w
  · intro os
    kernel_rfl
  · intro os
    kernel_rfl
open PySem PySem.W PySem.Calls PyProof.Rows
theorem head (hp : ∀ ns : List Int, ns.length ≤ 63 → ∃ S', Phi T G 115 24 [.rl (ns.map D.int)] [] = .ok (.bl true) S') : PySem.Challenge.rw_borderkin_k07_terms_told.Holds := by
  w_on; o_law
  refine HandSHeadRun.head_any (r := OpenLaw.row PySem.Challenge.rw_borderkin_k07_terms_told) (q := view (OpenLaw.row PySem.Challenge.rw_borderkin_k07_terms_told).prog [38]) (H := hk) (ob := ob) (M := 9000) (loose := loose) (d := HandSHeadRun.topDef (OpenLaw.row PySem.Challenge.rw_borderkin_k07_terms_told).prog 38) (kwd := []) ob_eq
    (by kernel_rfl) (fun s => by kernel_rfl) run (by kernel_rfl) (by kernel_rfl) (by kernel_rfl) (by rfl) (by first | assumption | decide +kernel) (by decide +kernel) ⟨rfl, rfl, rfl, rfl, rfl, by decide +kernel⟩ ?hw ?hc
  case hw => w_witness2
  case hc =>
    refine DL.walk_G (l := PySem.Challenge.rw_borderkin_k07_terms_told) (n := 63) (k := 231) (x := "_law_script") (C := fun a b c d e f => ∃ w, L2.CX (PySem.Challenge.rw_borderkin_k07_terms_told).prog w a b c d e f) rfl (by decide) (by kernel_rfl) ⟨rfl, by decide, by decide⟩ ?F (fun H s e s' ⟨w, z⟩ => cx_no H s e s' z)
    intro w mg fa h Y GN hmg0
    obtain ⟨K, KX, c⟩ := Y
    have hmg : mg ("law" : PySem.Str) = some (.ref fa) := by
      have e : (HandSHeadRun.topDef (OpenLaw.row PySem.Challenge.rw_borderkin_k07_terms_told).prog 38).name = ("law" : PySem.Str) := by kernel_rfl
      rw [← e]
      exact hmg0
    obtain ⟨fd, hb, hF⟩ := facts (P := (PySem.Challenge.rw_borderkin_k07_terms_told).prog) (W0 := w) (li := 24) (dl := f_law) KX GN c allOk allX (by decide +kernel) rfl rfl rfl hmg 115
    exact ⟨K, fd, _, KX, hb, sp_start (n := 63) (by decide) hp, fun base _ _ => (hF base).ctx fun a b c d e f z => ⟨w, z⟩⟩
end
end K07
/-! DK, part a: plain data (numbers, texts, None, tuples of such), its ==; runs of pure defs. -/
namespace DL
open PySem PySem.Spec PyProof.Rows L2
noncomputable section

/-! ### plain data -/
mutual
def D.pt : D → Bool
  | .non => true
  | .int _ => true
  | .str _ => true
  | .tup xs => ptL xs
  | _ => false
def ptL : List D → Bool
  | [] => true
  | d :: ds => d.pt && ptL ds
end
mutual
def D.pd : D → PyData
  | .bl b => .bool b
  | .int i => .int i
  | .str x => .str x
  | .tup xs => .tuple (pdL xs)
  | _ => .none
def pdL : List D → List PyData
  | [] => []
  | d :: ds => d.pd :: pdL ds
end
mutual
def D.dep : D → Nat
  | .tup xs => depL xs + 1
  | _ => 0
def depL : List D → Nat
  | [] => 0
  | d :: ds => max d.dep (depL ds)
end
mutual
theorem toP_pt {f : Nat → Option PyData} : ∀ d : D, d.pt = true → toP f d = some d.pd ∧ d.pd.depth = d.dep
  | .non, _ => ⟨rfl, rfl⟩
  | .int _, _ => ⟨rfl, rfl⟩
  | .str _, _ => ⟨rfl, rfl⟩
  | .tup xs, h => by
    unfold D.pt at h
    obtain ⟨h1, h2⟩ := toPs_pt (f := f) xs h
    unfold toP D.pd D.dep PyData.depth
    rw [h1, h2]
    exact ⟨rfl, rfl⟩
  | .bl _, h => (by cases h)
  | .ob _, h => (by cases h)
  | .ty _, h => (by cases h)
  | .gl _, h => (by cases h)
  | .rl _, h => (by cases h)
  | .kd _ _, h => (by cases h)
  | .xo _ _ _, h => (by cases h)
theorem toPs_pt {f : Nat → Option PyData} : ∀ ds : List D, ptL ds = true → toPs f ds = some (pdL ds) ∧ PyData.depthAll (pdL ds) = depL ds
  | [], _ => ⟨rfl, rfl⟩
  | d :: ds, h => by
    unfold ptL at h
    rw [Bool.and_eq_true] at h
    obtain ⟨h1, h2⟩ := toP_pt (f := f) d h.1
    obtain ⟨h3, h4⟩ := toPs_pt (f := f) ds h.2
    unfold toPs pdL depL PyData.depthAll
    rw [h1, h3, h2, h4]
    exact ⟨rfl, rfl⟩
end
theorem dP_pt {S : Sto} {d : D} (h : d.pt = true) : dP S d = some d.pd := (toP_pt d h).1
mutual
theorem eqv_pt : ∀ a b : D, a.pt = true → b.pt = true → (PyData.eqv a.pd b.pd = true ↔ a = b)
  | .tup xs, .tup ys, h1, h2 => by
    unfold D.pt at h1 h2
    unfold D.pd PyData.eqv
    rw [eqvL_pt xs ys h1 h2, D.tup.injEq]
  | .int i, .int j, _, _ => by
    show (i == j) = true ↔ _
    rw [beq_iff_eq, D.int.injEq]
  | .str i, .str j, _, _ => by
    show (i == j) = true ↔ _
    rw [beq_iff_eq, D.str.injEq]
  | .non, b, _, h2 => by
    cases b <;> first | (cases h2; done) | (simp [D.pd, PyData.eqv])
  | .int i, .non, _, _ => by simp [D.pd, PyData.eqv]
  | .int i, .str _, _, _ => by simp [D.pd, PyData.eqv]
  | .int i, .tup _, _, _ => by simp [D.pd, PyData.eqv]
  | .str i, .non, _, _ => by simp [D.pd, PyData.eqv]
  | .str i, .int _, _, _ => by simp [D.pd, PyData.eqv]
  | .str i, .tup _, _, _ => by simp [D.pd, PyData.eqv]
  | .tup i, .non, _, _ => by simp [D.pd, PyData.eqv]
  | .tup i, .int _, _, _ => by simp [D.pd, PyData.eqv]
  | .tup i, .str _, _, _ => by simp [D.pd, PyData.eqv]
theorem eqvL_pt : ∀ a b : List D, ptL a = true → ptL b = true → (PyData.eqvAll (pdL a) (pdL b) = true ↔ a = b)
  | [], [], _, _ => by simp [pdL, PyData.eqvAll]
  | [], _ :: _, _, _ => by simp [pdL, PyData.eqvAll]
  | _ :: _, [], _, _ => by simp [pdL, PyData.eqvAll]
  | a :: as, b :: bs, h1, h2 => by
    unfold ptL at h1 h2
    rw [Bool.and_eq_true] at h1 h2
    unfold pdL PyData.eqvAll
    rw [Bool.and_eq_true, eqv_pt a b h1.1 h2.1, eqvL_pt as bs h1.2 h2.2, List.cons.injEq]
end
/-- == of plain data is equality -/
theorem eq_pt {S : Sto} {a b : D} {c : Bool} (ha : a.pt = true) (hb : b.pt = true) (hd : a.dep ≤ 100 ∨ b.dep ≤ 100) (hc : c = true ↔ a = b) : aEq a b S = some (.bl c, S) ∧ aNe a b S = some (.bl (!c), S) := by
  have h1 := dP_pt (S := S) ha
  have h2 := dP_pt (S := S) hb
  have e1 := (toP_pt (f := fun _ => none) a ha).2
  have e2 := (toP_pt (f := fun _ => none) b hb).2
  have h3 : min a.pd.depth b.pd.depth ≤ 100 := by omega
  have h4 : PyData.eqv a.pd b.pd = c := by
    rw [Bool.eq_iff_iff, eqv_pt a b ha hb, hc]
  unfold aEq aNe eqP
  rw [h1, h2]
  dsimp only
  rw [if_pos h3, h4, if_pos h3]
  exact ⟨rfl, rfl⟩
theorem in_pt {S : Sto} {a : D} {xs : List D} {c : Bool} (ha : a.pt = true) (hb : ptL xs = true) (hd : depL xs ≤ 100) (hc : c = true ↔ a ∈ xs) : aIn a (.tup xs) S = some (.bl c, S) ∧ aNotIn a (.tup xs) S = some (.bl (!c), S) := by
  have h1 := dP_pt (S := S) ha
  have h2 : dP S (.tup xs) = some (.tuple (pdL xs)) := dP_pt (d := .tup xs) (by unfold D.pt; exact hb)
  have h3 : PyData.depthAll (pdL xs) ≤ 100 := by rw [(toPs_pt (f := fun _ => none) xs hb).2]; exact hd
  have h4 : ((pdL xs).any fun z => PyData.eqv z a.pd) = c := by
    rw [Bool.eq_iff_iff, hc]
    clear h2 h3 hd hc
    induction xs with
    | nil => simp [pdL]
    | cons x xs ih =>
      unfold ptL at hb
      rw [Bool.and_eq_true] at hb
      unfold pdL
      rw [List.any_cons, Bool.or_eq_true, ih hb.2, eqv_pt x a hb.1 ha, List.mem_cons]
      exact or_congr eq_comm Iff.rfl
  unfold aIn aNotIn inP
  dsimp only
  rw [h1, h2]
  dsimp only
  rw [if_pos h3, h4, if_pos h3]
  exact ⟨rfl, rfl⟩
/-- .. in a list of the store -/
theorem in_pl {S : Sto} {a : D} {n : Nat} {xs : List D} {c : Bool} (hn : S[n]? = some (.lst xs)) (ha : a.pt = true) (hb : ptL xs = true) (hd : depL xs ≤ 100) (hc : c = true ↔ a ∈ xs) : aIn a (.ob n) S = some (.bl c, S) ∧ aNotIn a (.ob n) S = some (.bl (!c), S) := by
  have h1 := dP_pt (S := S) ha
  have h2 : dP S (.ob n) = some (.list (pdL xs)) := by
    show (match S[n]? with | some (.lst xs) => (toPs (obP 11 S) xs).map PyData.list | _ => none) = _
    rw [hn]
    dsimp only
    rw [(toPs_pt xs hb).1]
    rfl
  have h3 : PyData.depthAll (pdL xs) ≤ 100 := by rw [(toPs_pt (f := fun _ => none) xs hb).2]; exact hd
  have h4 : ((pdL xs).any fun z => PyData.eqv z a.pd) = c := by
    rw [Bool.eq_iff_iff, hc]
    clear h2 h3 hd hc hn
    induction xs with
    | nil => simp [pdL]
    | cons x xs ih =>
      unfold ptL at hb
      rw [Bool.and_eq_true] at hb
      unfold pdL
      rw [List.any_cons, Bool.or_eq_true, ih hb.2, eqv_pt x a hb.1 ha, List.mem_cons]
      exact or_congr eq_comm Iff.rfl
  unfold aIn aNotIn inP
  dsimp only
  rw [hn]
  dsimp only
  rw [h1, h2]
  dsimp only
  rw [if_pos h3, h4, if_pos h3]
  exact ⟨rfl, rfl⟩
mutual
theorem pt_und {n : Nat} : ∀ d : D, d.pt = true → d.und n = true
  | .non, _ => rfl
  | .int _, _ => rfl
  | .str _, _ => rfl
  | .tup xs, h => by unfold D.pt at h; unfold D.und; exact ptL_und xs h
  | .bl _, h => (by cases h)
  | .ob _, h => (by cases h)
  | .ty _, h => (by cases h)
  | .gl _, h => (by cases h)
  | .rl _, h => (by cases h)
  | .kd _ _, h => (by cases h)
  | .xo _ _ _, h => (by cases h)
theorem ptL_und {n : Nat} : ∀ ds : List D, ptL ds = true → undL n ds = true
  | [], _ => rfl
  | d :: ds, h => by
    unfold ptL at h
    rw [Bool.and_eq_true] at h
    unfold undL
    rw [pt_und d h.1, ptL_und ds h.2]
    rfl
end

/-! ### tuples, read -/
theorem ixT {S : Sto} {xs : List D} {i : Int} {d : D} (j : Nat) (h1 : i = (j : Int)) (h2 : xs[j]? = some d) : aIx (.tup xs) (.int i) S = some (d, S) := by
  show (L2.atI xs i).map (fun d => (d, S)) = _
  rw [atI_ok h1 h2]
  rfl
@[simp] theorem ixT0 {S : Sto} {a : D} {r : List D} : aIx (.tup (a :: r)) (.int 0) S = some (a, S) := ixT 0 rfl rfl
@[simp] theorem ixT1 {S : Sto} {a b : D} {r : List D} : aIx (.tup (a :: b :: r)) (.int 1) S = some (b, S) := ixT 1 rfl rfl
@[simp] theorem ixT2 {S : Sto} {a b c : D} {r : List D} : aIx (.tup (a :: b :: c :: r)) (.int 2) S = some (c, S) := ixT 2 rfl rfl
@[simp] theorem ixT3 {S : Sto} {a b c d : D} {r : List D} : aIx (.tup (a :: b :: c :: d :: r)) (.int 3) S = some (d, S) := ixT 3 rfl rfl
@[simp] theorem lenT {S : Sto} {xs : List D} : fLen [.tup xs] S = some (.int xs.length, S) := rfl
theorem cut_tail {α : Type} (a : α) (r : List α) : cutD (a :: r) (some 1) none = r := by
  unfold cutD
  rw [show (some (1 : Int)) = some ((1 : Nat) : Int) from rfl, HT.sIx_nat, HT.sIx_none, List.length_cons, Nat.min_eq_left (by omega), List.drop_succ_cons, List.drop_zero, Nat.add_sub_cancel, List.take_length]
@[simp] theorem slT {S : Sto} {a : D} {r : List D} : aSl (.tup (a :: r)) (some 1) none S = some (.tup r, S) := by
  show some (D.tup (cutD (a :: r) (some 1) none), S) = _
  rw [cut_tail]
theorem cut_head {α : Type} (a : α) (r : List α) : cutD (a :: r) none (some 1) = [a] := by
  unfold cutD
  rw [show (some (1 : Int)) = some ((1 : Nat) : Int) from rfl, HT.sIx_nat, HT.sIx_none, List.length_cons, Nat.min_eq_left (by omega), List.drop_zero, Nat.sub_zero]
  rfl
@[simp] theorem slH {S : Sto} {a : D} {r : List D} : aSl (.tup (a :: r)) none (some 1) S = some (.tup [a], S) := by
  show some (D.tup (cutD (a :: r) none (some 1)), S) = _
  rw [cut_head]
theorem addT {S : Sto} {xs ys : List D} (h : xs.length + ys.length ≤ 1000) : aAdd (.tup xs) (.tup ys) S = some (.tup (xs ++ ys), S) := if_pos (small_line h)

section
variable {S : Sto} {fr : Fr} {i j k l : Nat} {a b c d : D}
@[simp] theorem ev_asg {t : DTg} {f : DenE} : dAsg t f fr S = (f fr S).thn fr fun d S' => match t d fr S' with
  | some fr' => .ok .nx fr' S'
  | none => .no := rfl
@[simp] theorem gT2 : gT 2 (gsCons (gN i) (gsCons (gN j) gsNil)) (.tup [a, b]) fr S = some ((fr.set i (some a)).set j (some b)) := rfl
@[simp] theorem gT3 : gT 3 (gsCons (gN i) (gsCons (gN j) (gsCons (gN k) gsNil))) (.tup [a, b, c]) fr S = some (((fr.set i (some a)).set j (some b)).set k (some c)) := rfl
@[simp] theorem gT4 : gT 4 (gsCons (gN i) (gsCons (gN j) (gsCons (gN k) (gsCons (gN l) gsNil)))) (.tup [a, b, c, d]) fr S = some ((((fr.set i (some a)).set j (some b)).set k (some c)).set l (some d)) := rfl
@[simp] theorem ev_par {h : DenA} : dPar i j h fr S = (h fr S).thn fr fun ds S' => match ds with
  | [d, e] => .ok .nx ((fr.set i (some d)).set j (some e)) S'
  | _ => .no := rfl
end
/-! ### comprehensions and walks without a trace -/
theorem compL_map {ok : Sto → Prop} {t : DTg} {e : DenE} {fr : Fr} {S : Sto} {v : D → D} (hok : ok S) : ∀ (items : List D), (∀ a ∈ items, ∃ fr1, t a fr S = some fr1 ∧ e fr1 S = .ok (v a) S) → compL ok t dYes e fr items S = .ok (items.map v) S
  | [], _ => by
    unfold compL
    exact if_pos hok
  | a :: l, h => by
    obtain ⟨fr1, h1, h2⟩ := h a List.mem_cons_self
    have ih := compL_map (e := e) hok l fun b hb => h b (List.mem_cons_of_mem _ hb)
    unfold compL
    rw [if_pos hok, h1]
    dsimp only [dYes]
    rw [h2]
    dsimp only
    rw [ih]
    rfl
/-- [e for x in (a tuple)] -/
theorem comp_tup {i : Nat} {fi : Fr → Sto → Out Src} {e : DenE} {fr : Fr} {S : Sto} {xs : List D} (v : D → D) (hi : fi fr S = .ok ⟨xs, []⟩ S) (h : ∀ a ∈ xs, e ((wipeD fr [i]).set i (some a)) S = .ok (v a) S) : dComp [i] fi (gN i) dYes e fr S = .ok (xs.map v) S := by
  unfold dComp
  rw [hi]
  exact compL_map noGuard xs fun a ha => ⟨_, rfl, h a ha⟩
/-- [e for x, y in zip(..)] -/
theorem comp_zip {i j : Nat} {fi : Fr → Sto → Out Src} {e : DenE} {fr : Fr} {S : Sto} {xs ys : List D} (v : D → D → D) (hi : fi fr S = .ok ⟨zipD xs ys, []⟩ S) (h : ∀ a ∈ xs, ∀ b ∈ ys, e (((wipeD fr [i, j]).set i (some a)).set j (some b)) S = .ok (v a b) S) :
    dComp [i, j] fi (gT 2 (gsCons (gN i) (gsCons (gN j) gsNil))) dYes e fr S = .ok (List.zipWith v xs ys) S := by
  unfold dComp
  rw [hi]
  show compL _ _ _ _ _ (zipD xs ys) S = _
  have main : ∀ (xs ys : List D), (∀ a ∈ xs, ∀ b ∈ ys, e (((wipeD fr [i, j]).set i (some a)).set j (some b)) S = .ok (v a b) S) → ∀ ok : Sto → Prop, ok S → compL ok (gT 2 (gsCons (gN i) (gsCons (gN j) gsNil))) dYes e (wipeD fr [i, j]) (zipD xs ys) S = .ok (List.zipWith v xs ys) S := by
    intro xs
    induction xs with
    | nil => intro ys _ ok hok; unfold zipD compL; exact if_pos hok
    | cons a xs ih =>
      intro ys h ok hok
      cases ys with
      | nil => unfold zipD compL; exact if_pos hok
      | cons b ys =>
        have q := h a List.mem_cons_self b List.mem_cons_self
        have ih := ih ys (fun a' ha b' hb => h a' (List.mem_cons_of_mem _ ha) b' (List.mem_cons_of_mem _ hb)) ok hok
        unfold zipD compL
        rw [if_pos hok]
        have et : gT 2 (gsCons (gN i) (gsCons (gN j) gsNil)) (.tup [a, b]) (wipeD fr [i, j]) S = some (((wipeD fr [i, j]).set i (some a)).set j (some b)) := rfl
        rw [et]
        dsimp only [dYes]
        rw [q]
        dsimp only
        rw [ih]
        rfl
  exact main xs ys h _ noGuard
@[simp] theorem zip_tup {h : DenA} {fr : Fr} {S S' : Sto} {xs ys : List D} (e : h fr S = .ok [.tup xs, .tup ys] S') : dIZip h fr S = .ok ⟨zipD xs ys, []⟩ S' := by
  unfold dIZip
  rw [e]
  rfl
@[simp] theorem seq_tup {f : DenE} {fr : Fr} {S S' : Sto} {xs : List D} (e : f fr S = .ok (.tup xs) S') : dISeq f fr S = .ok ⟨xs, []⟩ S' := by
  unfold dISeq
  rw [e]
  rfl
theorem fAll_list (bs : List Bool) (S : Sto) : fAll (bs.map D.bl) S = some (.bl (bs.all id), S) := by
  have := fAll_bl (fun b : Bool => b) bs S
  exact this
theorem optAll_ints : ∀ l : List Int, optAll intOf (l.map D.int) = some l := optAll_mk fun _ => rfl
theorem fSum_list (ns : List Int) (S : Sto) : fSum (ns.map D.int) S = some (.int ns.sum, S) := by
  unfold fSum
  rw [optAll_ints]
  rfl
/-- a pure def's call -/
theorem run_p {n : Nat} {b : DenS} {ds : List D} {S : Sto} {d : D} (h : rtOf (b (ds.map some ++ List.replicate (n - ds.length) none) S) = some (d, S)) (hd : d.und S.length = true) : runB n b ds S = .ok d S := runB_of h (gc_pure0 hd)
end
end DL
/-! DK, part b: kinds as data. -/
namespace DL
open PySem PySem.Spec PyProof.Rows L2
noncomputable section
inductive Kd where
  | num | truth | any | fn (a b : Kd) | pr (a b : Kd) | bx (a : Kd)
  deriving DecidableEq
namespace Kd
def word : Kd → Str
  | num => "num" | truth => "truth" | any => "any" | fn _ _ => "fun" | pr _ _ => "pair" | bx _ => "box"
def parts : Kd → List Kd
  | fn a b => [a, b] | pr a b => [a, b] | bx a => [a] | _ => []
def d : Kd → D
  | num => .tup [.str "num"] | truth => .tup [.str "truth"] | any => .tup [.str "any"]
  | fn a b => .tup [.str "fun", a.d, b.d] | pr a b => .tup [.str "pair", a.d, b.d] | bx a => .tup [.str "box", a.d]
def deep : Kd → Nat
  | fn a b => max a.deep b.deep + 1 | pr a b => max a.deep b.deep + 1 | bx a => a.deep + 1 | _ => 1
def many : Kd → Nat
  | fn a b => a.many + b.many + 1 | pr a b => a.many + b.many + 1 | bx a => a.many + 1 | _ => 1
theorem d_eq (k : Kd) : k.d = .tup (.str k.word :: k.parts.map d) := by cases k <;> rfl
theorem pt : ∀ k : Kd, k.d.pt = true
  | num => rfl | truth => rfl | any => rfl
  | fn a b => by
    show (true && (a.d.pt && (b.d.pt && true))) = true
    rw [pt a, pt b]; rfl
  | pr a b => by
    show (true && (a.d.pt && (b.d.pt && true))) = true
    rw [pt a, pt b]; rfl
  | bx a => by
    show (true && (a.d.pt && true)) = true
    rw [pt a]; rfl
@[simp] theorem und {n : Nat} (k : Kd) : k.d.und n = true := pt_und _ k.pt
theorem dep : ∀ k : Kd, k.d.dep = k.deep
  | num => rfl | truth => rfl | any => rfl
  | fn a b => by
    show max 0 (max a.d.dep (max b.d.dep 0)) + 1 = _
    rw [dep a, dep b]; show _ = max a.deep b.deep + 1; omega
  | pr a b => by
    show max 0 (max a.d.dep (max b.d.dep 0)) + 1 = _
    rw [dep a, dep b]; show _ = max a.deep b.deep + 1; omega
  | bx a => by
    show max 0 (max a.d.dep 0) + 1 = _
    rw [dep a]; show _ = a.deep + 1; omega
theorem deep_pos (k : Kd) : 1 ≤ k.deep := by cases k <;> simp [deep]
theorem many_pos (k : Kd) : 1 ≤ k.many := by cases k <;> simp [many]
theorem word_ne : (("num" : Str)) ≠ "truth" ∧ (("num" : Str)) ≠ "any" ∧ (("num" : Str)) ≠ "fun" ∧ (("num" : Str)) ≠ "pair" ∧ (("num" : Str)) ≠ "box" ∧ (("truth" : Str)) ≠ "any" ∧ (("truth" : Str)) ≠ "fun" ∧ (("truth" : Str)) ≠ "pair" ∧ (("truth" : Str)) ≠ "box" ∧
    (("any" : Str)) ≠ "fun" ∧ (("any" : Str)) ≠ "pair" ∧ (("any" : Str)) ≠ "box" ∧ (("fun" : Str)) ≠ "pair" ∧ (("fun" : Str)) ≠ "box" ∧ (("pair" : Str)) ≠ "box" := by decide +kernel
/-- the words, by number -/
def wno : Kd → Nat
  | num => 0 | truth => 1 | any => 2 | fn _ _ => 3 | pr _ _ => 4 | bx _ => 5
theorem word_inj {a b : Kd} : a.word = b.word ↔ a.wno = b.wno := by
  obtain ⟨h1, h2, h3, h4, h5, h6, h7, h8, h9, h10, h11, h12, h13, h14, h15⟩ := word_ne
  cases a <;> cases b <;> simp [word, wno, h1, h2, h3, h4, h5, h6, h7, h8, h9, h10, h11, h12, h13, h14, h15, Ne.symm h1, Ne.symm h2, Ne.symm h3, Ne.symm h4, Ne.symm h5, Ne.symm h6, Ne.symm h7, Ne.symm h8, Ne.symm h9, Ne.symm h10, Ne.symm h11, Ne.symm h12, Ne.symm h13, Ne.symm h14, Ne.symm h15]
theorem inj : ∀ {a b : Kd}, a.d = b.d → a = b := by
  intro a
  induction a with
  | num => intro b h; have hw : num.word = b.word := by rw [d_eq, d_eq b] at h; simpa using (List.cons.inj (D.tup.inj h)).1
           rw [word_inj] at hw; cases b <;> first | rfl | (cases hw)
  | truth => intro b h; have hw : truth.word = b.word := by rw [d_eq, d_eq b] at h; simpa using (List.cons.inj (D.tup.inj h)).1
             rw [word_inj] at hw; cases b <;> first | rfl | (cases hw)
  | any => intro b h; have hw : any.word = b.word := by rw [d_eq, d_eq b] at h; simpa using (List.cons.inj (D.tup.inj h)).1
           rw [word_inj] at hw; cases b <;> first | rfl | (cases hw)
  | fn x y ix iy => intro b h; have hw : (fn x y).word = b.word := by rw [d_eq, d_eq b] at h; simpa using (List.cons.inj (D.tup.inj h)).1
                    rw [word_inj] at hw
                    cases b <;> first | (cases hw; done) | skip
                    simp only [d, D.tup.injEq, List.cons.injEq, and_true, true_and] at h
                    rw [ix h.1, iy h.2]
  | pr x y ix iy => intro b h; have hw : (pr x y).word = b.word := by rw [d_eq, d_eq b] at h; simpa using (List.cons.inj (D.tup.inj h)).1
                    rw [word_inj] at hw
                    cases b <;> first | (cases hw; done) | skip
                    simp only [d, D.tup.injEq, List.cons.injEq, and_true, true_and] at h
                    rw [ix h.1, iy h.2]
  | bx x ix => intro b h; have hw : (bx x).word = b.word := by rw [d_eq, d_eq b] at h; simpa using (List.cons.inj (D.tup.inj h)).1
               rw [word_inj] at hw
               cases b <;> first | (cases hw; done) | skip
               simp only [d, D.tup.injEq, List.cons.injEq, and_true, true_and] at h
               rw [ix h]
theorem d_inj {a b : Kd} : a.d = b.d ↔ a = b := ⟨inj, fun h => by rw [h]⟩
section
variable {S : Sto}
theorem eq {a b : Kd} (h : a.deep ≤ 100) : aEq a.d b.d S = some (.bl (decide (a = b)), S) ∧ aNe a.d b.d S = some (.bl (!decide (a = b)), S) :=
  eq_pt a.pt b.pt (.inl (by rw [dep]; exact h)) (by rw [decide_eq_true_iff, d_inj])
@[simp] theorem eq_any {a : Kd} : aEq a.d (.tup [.str "any"]) S = some (.bl (decide (a = any)), S) :=
  (eq_pt (b := any.d) a.pt any.pt (.inr (by decide +kernel)) (by rw [decide_eq_true_iff, d_inj])).1
@[simp] theorem ne_any {a : Kd} : aNe a.d (.tup [.str "any"]) S = some (.bl (!decide (a = any)), S) :=
  (eq_pt (b := any.d) a.pt any.pt (.inr (by decide +kernel)) (by rw [decide_eq_true_iff, d_inj])).2
@[simp] theorem ne_nil {a : Kd} : aEq a.d (.tup []) S = some (.bl false, S) := (eq_pt (b := .tup []) a.pt rfl (.inr (by decide +kernel)) (by rw [d_eq]; simp)).1
@[simp] theorem ix0 {a : Kd} : aIx a.d (.int 0) S = some (.str a.word, S) := by rw [d_eq]; exact ixT0
@[simp] theorem len {a : Kd} : fLen [a.d] S = some (.int (1 + a.parts.length), S) := by
  rw [d_eq, lenT, List.length_cons, List.length_map]
  congr 3
  omega
@[simp] theorem sl {a : Kd} : aSl a.d (some 1) none S = some (.tup (a.parts.map d), S) := by rw [d_eq]; exact slT
@[simp] theorem slh {a : Kd} : aSl a.d none (some 1) S = some (.tup [.str a.word], S) := by rw [d_eq]; exact slH
@[simp] theorem ty {a : Kd} : tyD a.d S = some "tuple" := by rw [d_eq]; rfl
@[simp] theorem isi_tup {a : Kd} : fIsi [a.d, .ty "tuple"] S = some (.bl true, S) := isi_ok (ty (S := S) (a := a)) (by decide)
@[simp] theorem isi_word {a : Kd} : fIsi [.str a.word, .ty "str"] S = some (.bl true, S) := isi_ok (d := .str a.word) (S := S) rfl (by decide)
theorem eq_word {a b : Kd} : aEq (.str a.word) (.str b.word) S = some (.bl (decide (a.wno = b.wno)), S) ∧ aNe (.str a.word) (.str b.word) S = some (.bl (!decide (a.wno = b.wno)), S) := by
  rw [eq_str, ne_str]
  exact ⟨by simp only [word_inj], by simp only [word_inj]⟩
abbrev table : D := .kd ["num", "truth", "any", "fun", "pair", "box"] [.int 0, .int 0, .int 0, .int 2, .int 2, .int 1]
theorem get (a : Kd) : kdGet ["num", "truth", "any", "fun", "pair", "box"] [.int 0, .int 0, .int 0, .int 2, .int 2, .int 1] a.word = some (.int a.parts.length) := by
  cases a <;> kernel_rfl
@[simp] theorem notin_table {a : Kd} : aNotIn (.str a.word) table S = some (.bl false, S) := by
  show some (D.bl (!(kdGet ["num", "truth", "any", "fun", "pair", "box"] [.int 0, .int 0, .int 0, .int 2, .int 2, .int 1] a.word).isSome), S) = _
  rw [get]
  rfl
@[simp] theorem ix_table {a : Kd} : aIx table (.str a.word) S = some (.int a.parts.length, S) := by
  show (kdGet ["num", "truth", "any", "fun", "pair", "box"] [.int 0, .int 0, .int 0, .int 2, .int 2, .int 1] a.word).map (fun d => (d, S)) = _
  rw [get]
  rfl
end
/-- the parts' measure -/
theorem deep_part {k p : Kd} (h : p ∈ k.parts) : p.deep < k.deep := by
  cases k <;> simp [parts] at h <;> first | (rcases h with rfl | rfl <;> simp [deep] <;> omega) | (subst h; simp [deep])
theorem parts_len (k : Kd) : k.parts.length ≤ 2 := by cases k <;> simp [parts]
end Kd

/-! ### what the program's functions tell of kinds -/
namespace Kd
def alike : Kd → Kd → Bool
  | any, _ => true
  | _, any => true
  | num, num => true
  | truth, truth => true
  | fn a b, fn c e => alike a c && alike b e
  | pr a b, pr c e => alike a c && alike b e
  | bx a, bx c => alike a c
  | _, _ => false
theorem alike_any (a : Kd) : alike a any = true := by cases a <;> simp [alike]
theorem any_alike (a : Kd) : alike any a = true := by cases a <;> simp [alike]
theorem alike_refl : ∀ a : Kd, alike a a = true
  | num => rfl | truth => rfl | any => rfl
  | fn a b => by simp [alike, alike_refl a, alike_refl b]
  | pr a b => by simp [alike, alike_refl a, alike_refl b]
  | bx a => by simp [alike, alike_refl a]
theorem alike_symm : ∀ a b : Kd, alike a b = alike b a
  | any, b => by rw [any_alike, alike_any]
  | a, any => by rw [any_alike, alike_any]
  | num, num => rfl | truth, truth => rfl
  | fn a b, fn c e => by simp [alike, alike_symm a c, alike_symm b e]
  | pr a b, pr c e => by simp [alike, alike_symm a c, alike_symm b e]
  | bx a, bx c => by simp [alike, alike_symm a c]
  | num, truth => rfl | num, fn _ _ => rfl | num, pr _ _ => rfl | num, bx _ => rfl
  | truth, num => rfl | truth, fn _ _ => rfl | truth, pr _ _ => rfl | truth, bx _ => rfl
  | fn _ _, num => rfl | fn _ _, truth => rfl | fn _ _, pr _ _ => rfl | fn _ _, bx _ => rfl
  | pr _ _, num => rfl | pr _ _, truth => rfl | pr _ _, fn _ _ => rfl | pr _ _, bx _ => rfl
  | bx _, num => rfl | bx _, truth => rfl | bx _, fn _ _ => rfl | bx _, pr _ _ => rfl
/-- unlike any, of one word -/
theorem alike_parts {a b : Kd} (h1 : a ≠ any) (h2 : b ≠ any) : alike a b = (decide (a.wno = b.wno) && (List.zipWith alike a.parts b.parts).all id) := by
  cases a <;> cases b <;> first | exact absurd rfl h1 | exact absurd rfl h2 | simp [alike, wno, parts]
/-- the kind of a word, its parts any -/
def opened : Kd → Kd
  | fn _ _ => fn any any | pr _ _ => pr any any | bx _ => bx any | k => k
end Kd
end
end DL
/-! DK, part c: crossings as data, and the plain law of their joining. -/
namespace DL
open PySem PySem.Spec PyProof.Rows L2
noncomputable section
/-- the words of values -/
inductive Wr where
  | num | truth | fn | pr | bx
  deriving DecidableEq
namespace Wr
def s : Wr → Str
  | num => "num" | truth => "truth" | fn => "fun" | pr => "pair" | bx => "box"
def no : Wr → Nat
  | num => 0 | truth => 1 | fn => 3 | pr => 4 | bx => 5
theorem s_inj {a b : Wr} : a.s = b.s ↔ a = b := by
  obtain ⟨h1, h2, h3, h4, h5, h6, h7, h8, h9, h10, h11, h12, h13, h14, h15⟩ := Kd.word_ne
  cases a <;> cases b <;> simp [s, h1, h2, h3, h4, h5, h6, h7, h8, h9, h10, h11, h12, h13, h14, h15, Ne.symm h1, Ne.symm h2, Ne.symm h3, Ne.symm h4, Ne.symm h5, Ne.symm h6, Ne.symm h7, Ne.symm h8, Ne.symm h9, Ne.symm h10, Ne.symm h11, Ne.symm h12, Ne.symm h13, Ne.symm h14, Ne.symm h15]
end Wr
/-- a label and a side -/
structure Lb where
  p : Int
  k : Int
  side : Int
  deriving DecidableEq
namespace Lb
def ok (l : Lb) : Prop := (0 ≤ l.p ∧ l.p ≤ 119) ∧ (0 ≤ l.k ∧ l.k ≤ 2) ∧ 0 ≤ l.side ∧ l.side ≤ 1
def d (l : Lb) : D := .tup [.int l.p, .int l.k]
def turn (l : Lb) : Lb := ⟨l.p, l.k, 1 - l.side⟩
theorem turn_ok {l : Lb} (h : l.ok) : l.turn.ok := ⟨h.1, h.2.1, by show 0 ≤ 1 - l.side; have := h.2.2; omega, by show 1 - l.side ≤ 1; have := h.2.2; omega⟩
end Lb
inductive En where
  | no | into (w : Wr) | fail (l : Lb)
  deriving DecidableEq
/-- a crossing: stay; with the middle same; with a middle of parts -/
inductive Cr where
  | stay
  | leaf (o : Option (Lb × Wr)) (e : En)
  | wrap (o : Option (Lb × Wr)) (w : Wr) (c d : Cr) (e : En)
  deriving DecidableEq
inductive Md where
  | same | wr (w : Wr) (c d : Cr)
  deriving DecidableEq
def outD : Option (Lb × Wr) → D
  | none => .non
  | some (l, w) => .tup [l.d, .int l.side, .str w.s]
def En.d : En → D
  | no => .non
  | into w => .tup [.str "in", .str w.s]
  | fail l => .tup [.str "fail", l.d, .int l.side]
def Cr.d : Cr → D
  | stay => .tup [.str "stay"]
  | leaf o e => .tup [.str "go", outD o, .tup [.str "same"], e.d]
  | wrap o w c d e => .tup [.str "go", outD o, .tup [.str w.s, c.d, d.d], e.d]
def Md.d : Md → D
  | same => .tup [.str "same"]
  | wr w c d => .tup [.str w.s, c.d, d.d]
def Cr.out : Cr → Option (Lb × Wr)
  | stay => none | leaf o _ => o | wrap o _ _ _ _ => o
def Cr.mid : Cr → Md
  | wrap _ w c d _ => .wr w c d | _ => .same
def Cr.en : Cr → En
  | stay => .no | leaf _ e => e | wrap _ _ _ _ e => e
/-- go, out, middle, end -/
def mkC (o : Option (Lb × Wr)) (m : Md) (e : En) : Cr := match m with
  | .same => .leaf o e
  | .wr w c d => .wrap o w c d e
theorem mkC_d (o : Option (Lb × Wr)) (m : Md) (e : En) : (mkC o m e).d = .tup [.str "go", outD o, m.d, e.d] := by cases m <;> rfl
theorem Cr.d_go {c : Cr} (h : c ≠ .stay) : c.d = .tup [.str "go", outD c.out, c.mid.d, c.en.d] := by cases c <;> first | exact absurd rfl h | rfl
theorem Cr.mk_eq {c : Cr} (h : c ≠ .stay) : mkC c.out c.mid c.en = c := by cases c <;> first | exact absurd rfl h | rfl
def En.fails : En → Bool
  | fail _ => true
  | _ => false
def formedC (o : Option (Lb × Wr)) (m : Md) (e : En) : Cr := if e.fails = true then .leaf o e else if o = none ∧ m = .same ∧ e = .no then .stay else mkC o m e
def wrapC (w : Wr) (c d : Cr) : Md := if c = .stay ∧ d = .stay then .same else .wr w c d
/-- the word of a kind that isn't any -/
def Kd.wr : Kd → Wr
  | num => .num | truth => .truth | any => .num | fn _ _ => .fn | pr _ _ => .pr | bx _ => .bx
theorem Kd.wr_s {k : Kd} (h : k ≠ .any) : k.wr.s = k.word := by cases k <;> first | exact absurd rfl h | rfl
/-- the middle of two kinds of one word, by t for their parts -/
def midK (t : Kd → Kd → Lb → Cr) (a b : Kd) (l : Lb) : Md := match a, b with
  | .fn p q, .fn r s => wrapC .fn (t r p l.turn) (t q s l)
  | .pr p q, .pr r s => wrapC .pr (t p r l) (t q s l)
  | .bx p, .bx r => wrapC .bx (t p r l) (t r p l.turn)
  | _, _ => .same
/-- the crossing of a border, by so many turns at the most -/
def btw : Nat → Kd → Kd → Lb → Cr
  | 0, _, _, _ => .stay
  | n + 1, a, b, l => if a = b then .stay else if b = .any then formedC none (midK (btw n) a a.opened l) (.into a.wr) else if a = .any then formedC (some (l, b.wr)) (midK (btw n) b.opened b l) .no else formedC none (midK (btw n) a b l) .no
/-- two middles of one word, one behind the other, by t for their parts -/
def mids (t : Cr → Cr → Cr) : Md → Md → Md
  | .same, m => m
  | .wr w c d, .same => .wr w c d
  | .wr w c d, .wr _ e f => match w with
    | .fn => wrapC .fn (t e c) (t d f)
    | .pr => wrapC .pr (t c e) (t d f)
    | _ => wrapC .bx (t c e) (t f d)
/-- two crossings, one behind the other -/
def tog : Nat → Cr → Cr → Cr
  | 0, c, _ => c
  | n + 1, c, e => if c = .stay then e else if e = .stay then c else if c.en.fails = true then c else
      match e.out, c.en with
      | some (l, w), .into v => if v = w then formedC c.out (mids (tog n) c.mid e.mid) e.en else formedC c.out .same (.fail l)
      | _, _ => formedC c.out (mids (tog n) c.mid e.mid) e.en
def Cr.high : Cr → Nat
  | stay => 0 | leaf _ _ => 1 | wrap _ _ c d _ => max c.high d.high + 1
def Cr.size : Cr → Nat
  | stay => 1 | leaf _ _ => 1 | wrap _ _ c d _ => c.size + d.size + 1
end
end DL
/-! DK, part d: which crossings go from a kind to a kind. -/
namespace DL
open PySem PySem.Spec PyProof.Rows L2
noncomputable section
namespace Kd
def p1 : Kd → Kd
  | fn a _ => a | pr a _ => a | bx a => a | _ => any
def p2 : Kd → Kd
  | fn _ b => b | pr _ b => b | _ => any
theorem same_of {a b : Kd} (h1 : a ≠ any) (h2 : b ≠ any) (h3 : a.wr = b.wr) (h4 : a.p1 = b.p1) (h5 : a.p2 = b.p2) : a = b := by
  cases a <;> cases b <;> first | exact absurd rfl h1 | exact absurd rfl h2 | (cases h3; done) | (simp [p1, p2] at h4 h5; simp [h4, h5]) | rfl
end Kd
def OutT (a : Kd) (w : Wr) : Option (Lb × Wr) → Prop
  | none => a ≠ .any ∧ a.wr = w
  | some (l, v) => a = .any ∧ v = w ∧ l.ok
def EndT (b : Kd) (w : Wr) : En → Prop
  | .no => b ≠ .any ∧ b.wr = w
  | .into v => b = .any ∧ v = w
  | .fail _ => False
/-- a middle from a to b, of the word w, its parts by R -/
def MidT (R : Kd → Kd → Cr → Prop) (a b : Kd) (w : Wr) : Md → Prop
  | .same => a.p1 = b.p1 ∧ a.p2 = b.p2
  | .wr v x y => v = w ∧ ¬ (x = .stay ∧ y = .stay) ∧ match w with
    | .fn => R b.p1 a.p1 x ∧ R a.p2 b.p2 y
    | .pr => R a.p1 b.p1 x ∧ R a.p2 b.p2 y
    | .bx => a.p2 = b.p2 ∧ R a.p1 b.p1 x ∧ R b.p1 a.p1 y
    | _ => False
/-- out, middle, end from a to b -/
def GoT (R : Kd → Kd → Cr → Prop) (a b : Kd) (o : Option (Lb × Wr)) (m : Md) (e : En) : Prop := match e with
  | .fail l => m = .same ∧ l.ok ∧ ∃ w, OutT a w o
  | e => ∃ w, OutT a w o ∧ EndT b w e ∧ MidT R a b w m ∧ ¬ (o = none ∧ m = .same ∧ e = .no)
/-- c goes from a to b, its kinds at most so deep -/
def Ty : Nat → Kd → Kd → Cr → Prop
  | 0, a, b, c => c = .stay ∧ a = b
  | n + 1, a, b, c => (c = .stay ∧ a = b) ∨ (c ≠ .stay ∧ GoT (Ty n) a b c.out c.mid c.en)
theorem Ty.stay_eq : ∀ {n : Nat} {a b : Kd}, Ty n a b .stay → a = b
  | 0, _, _, h => h.2
  | n + 1, _, _, h => by
    rcases h with h | h
    · exact h.2
    · exact absurd rfl h.1
theorem Ty.refl {n : Nat} {a : Kd} : Ty n a a .stay := by
  cases n
  · exact ⟨rfl, rfl⟩
  · exact .inl ⟨rfl, rfl⟩
/-- the formed one -/
theorem formed_ty {n : Nat} {a b : Kd} {o : Option (Lb × Wr)} {m : Md} {e : En} {w : Wr} (ho : OutT a w o) (h : (e.fails = true ∧ ∃ l, e = .fail l ∧ l.ok) ∨ (EndT b w e ∧ MidT (Ty n) a b w m)) : Ty (n + 1) a b (formedC o m e) := by
  unfold formedC
  rcases h with ⟨h1, l, rfl, hl⟩ | ⟨h1, h2⟩
  · rw [if_pos h1]
    exact .inr ⟨(by intro z; cases z), rfl, hl, w, ho⟩
  · have hf : ¬ e.fails = true := by cases e <;> first | exact h1.elim | exact Bool.false_ne_true
    rw [if_neg hf]
    by_cases q : o = none ∧ m = .same ∧ e = .no
    · rw [if_pos q]
      obtain ⟨rfl, rfl, rfl⟩ := q
      refine .inl ⟨rfl, Kd.same_of ho.1 h1.1 (by rw [ho.2, h1.2]) h2.1 h2.2⟩
    · rw [if_neg q]
      refine .inr ⟨by cases m <;> (intro z; cases z), ?_⟩
      have e1 : (mkC o m e).out = o := by cases m <;> rfl
      have e2 : (mkC o m e).mid = m := by cases m <;> rfl
      have e3 : (mkC o m e).en = e := by cases m <;> rfl
      rw [e1, e2, e3]
      cases e with
      | fail l => exact h1.elim
      | no => exact ⟨w, ho, h1, h2, q⟩
      | into v => exact ⟨w, ho, h1, h2, q⟩
theorem wrap_ty {n : Nat} {a b : Kd} {w : Wr} {x y : Cr} (h : match w with
    | .fn => Ty n b.p1 a.p1 x ∧ Ty n a.p2 b.p2 y
    | .pr => Ty n a.p1 b.p1 x ∧ Ty n a.p2 b.p2 y
    | .bx => a.p2 = b.p2 ∧ Ty n a.p1 b.p1 x ∧ Ty n b.p1 a.p1 y
    | _ => False) : MidT (Ty n) a b w (wrapC w x y) := by
  unfold wrapC
  by_cases q : x = .stay ∧ y = .stay
  · rw [if_pos q]
    obtain ⟨rfl, rfl⟩ := q
    cases w with
    | fn => exact ⟨h.1.stay_eq.symm, h.2.stay_eq⟩
    | pr => exact ⟨h.1.stay_eq, h.2.stay_eq⟩
    | bx => exact ⟨h.2.1.stay_eq, h.1⟩
    | num => exact h.elim
    | truth => exact h.elim
  · rw [if_neg q]
    exact ⟨rfl, q, h⟩
/-- a border's crossing -/
theorem btw_ty : ∀ {n : Nat} {a b : Kd} {l : Lb}, a.alike b = true → a.deep ≤ n → b.deep ≤ n → l.ok → Ty n a b (btw n a b l)
  | 0, a, b, l, _, h, _, _ => by have := a.deep_pos; omega
  | n + 1, a, b, l, h, ha, hb, hl => by
    -- middles of one word
    have hm : ∀ {a b : Kd}, a ≠ .any → b ≠ .any → a.alike b = true → a.deep ≤ n + 1 → b.deep ≤ n + 1 → ∀ a' b' : Kd, a'.p1 = a.p1 → a'.p2 = a.p2 → b'.p1 = b.p1 → b'.p2 = b.p2 →
        MidT (Ty n) a' b' a.wr (midK (btw n) a b l) := by
      intro a b h1 h2 h ha hb a' b' e1 e2 e3 e4
      cases a <;> cases b <;> first | exact absurd rfl h1 | exact absurd rfl h2 | (cases h; done) | skip
      · exact ⟨e1.trans e3.symm, e2.trans e4.symm⟩
      · exact ⟨e1.trans e3.symm, e2.trans e4.symm⟩
      · rename_i p q r s
        simp only [Kd.alike, Bool.and_eq_true] at h
        simp only [Kd.deep] at ha hb
        refine wrap_ty (w := .fn) ⟨?_, ?_⟩
        · rw [e1, e3]; exact btw_ty (by rw [Kd.alike_symm]; exact h.1) (by show r.deep ≤ n; omega) (by show p.deep ≤ n; omega) (Lb.turn_ok hl)
        · rw [e2, e4]; exact btw_ty h.2 (by show q.deep ≤ n; omega) (by show s.deep ≤ n; omega) hl
      · rename_i p q r s
        simp only [Kd.alike, Bool.and_eq_true] at h
        simp only [Kd.deep] at ha hb
        refine wrap_ty (w := .pr) ⟨?_, ?_⟩
        · rw [e1, e3]; exact btw_ty h.1 (by show p.deep ≤ n; omega) (by show r.deep ≤ n; omega) hl
        · rw [e2, e4]; exact btw_ty h.2 (by show q.deep ≤ n; omega) (by show s.deep ≤ n; omega) hl
      · rename_i p r
        simp only [Kd.alike] at h
        simp only [Kd.deep] at ha hb
        refine wrap_ty (w := .bx) ⟨by rw [e2, e4]; rfl, ?_, ?_⟩
        · rw [e1, e3]; exact btw_ty h (by show p.deep ≤ n; omega) (by show r.deep ≤ n; omega) hl
        · rw [e1, e3]; exact btw_ty (by rw [Kd.alike_symm]; exact h) (by show r.deep ≤ n; omega) (by show p.deep ≤ n; omega) (Lb.turn_ok hl)
    have hop : ∀ a : Kd, a ≠ .any → a.opened ≠ .any ∧ a.alike a.opened = true ∧ a.opened.alike a = true ∧ a.opened.deep ≤ a.deep ∧ a.opened.p1 = .any ∧ a.opened.p2 = .any ∧ a.opened.wr = a.wr := by
      intro a h
      cases a <;> first | exact absurd rfl h | simp [Kd.opened, Kd.alike, Kd.deep, Kd.p1, Kd.p2, Kd.wr, Kd.alike_any, Kd.any_alike]
      all_goals (have := Kd.deep_pos; first | (rename_i x y; have h1 := this x; have h2 := this y; omega) | (rename_i x; have h1 := this x; omega))
    unfold btw
    by_cases q : a = b
    · rw [if_pos q, q]; exact Ty.refl
    · rw [if_neg q]
      by_cases q2 : b = .any
      · rw [if_pos q2]
        subst q2
        obtain ⟨o1, o2, o3, o4, o5, o6, o7⟩ := hop a q
        exact formed_ty (w := a.wr) ⟨q, rfl⟩ (.inr ⟨⟨rfl, rfl⟩, hm q o1 o2 ha (by omega) a .any rfl rfl o5.symm o6.symm⟩)
      · rw [if_neg q2]
        by_cases q3 : a = .any
        · rw [if_pos q3]
          subst q3
          obtain ⟨o1, o2, o3, o4, o5, o6, o7⟩ := hop b q2
          have := hm o1 q2 o3 (by omega) hb .any b o5.symm o6.symm rfl rfl
          rw [o7] at this
          exact formed_ty (w := b.wr) ⟨rfl, rfl, hl⟩ (.inr ⟨⟨q2, rfl⟩, this⟩)
        · rw [if_neg q3]
          have hw : a.wr = b.wr := by cases a <;> cases b <;> first | exact absurd rfl q2 | exact absurd rfl q3 | (cases h; done) | rfl
          exact formed_ty (w := a.wr) ⟨q3, rfl⟩ (.inr ⟨⟨q2, hw.symm⟩, hm q3 q2 h ha hb a b rfl rfl rfl rfl⟩)
theorem GoT.nofail {R : Kd → Kd → Cr → Prop} {a b : Kd} {o : Option (Lb × Wr)} {m : Md} {e : En} (h : GoT R a b o m e) (hf : ¬ e.fails = true) : ∃ w, OutT a w o ∧ EndT b w e ∧ MidT R a b w m ∧ ¬ (o = none ∧ m = .same ∧ e = .no) := by
  cases e with
  | fail l => exact absurd rfl hf
  | no => exact h
  | into v => exact h
theorem GoT.out {R : Kd → Kd → Cr → Prop} {a b : Kd} {o : Option (Lb × Wr)} {m : Md} {e : En} (h : GoT R a b o m e) : ∃ w, OutT a w o := by
  cases e with
  | fail l => exact h.2.2
  | no => obtain ⟨w, h1, _⟩ := h; exact ⟨w, h1⟩
  | into v => obtain ⟨w, h1, _⟩ := h; exact ⟨w, h1⟩
/-- middles one behind the other -/
theorem mids_ty {n : Nat} (ih : ∀ {a b c : Kd} {x y : Cr}, Ty n a b x → Ty n b c y → Ty n a c (tog n x y)) {a b c : Kd} {w : Wr} : ∀ {m m' : Md}, MidT (Ty n) a b w m → MidT (Ty n) b c w m' → MidT (Ty n) a c w (mids (tog n) m m')
  | .same, .same, h, h' => ⟨h.1.trans h'.1, h.2.trans h'.2⟩
  | .same, .wr v x y, h, h' => by
    refine ⟨h'.1, h'.2.1, ?_⟩
    have := h'.2.2
    rw [h.1, h.2]
    exact this
  | .wr v x y, .same, h, h' => by
    refine ⟨h.1, h.2.1, ?_⟩
    have := h.2.2
    rw [← h'.1, ← h'.2]
    exact this
  | .wr v x y, .wr v' x' y', h, h' => by
    obtain ⟨rfl, _, h2⟩ := h
    obtain ⟨_, _, h3⟩ := h'
    unfold mids
    cases v with
    | fn => exact wrap_ty (w := .fn) ⟨ih h3.1 h2.1, ih h2.2 h3.2⟩
    | pr => exact wrap_ty (w := .pr) ⟨ih h2.1 h3.1, ih h2.2 h3.2⟩
    | bx => exact wrap_ty (w := .bx) ⟨h2.1.trans h3.1, ih h2.2.1 h3.2.1, ih h3.2.2 h2.2.2⟩
    | num => exact h2.elim
    | truth => exact h2.elim
/-- joined -/
theorem tog_ty : ∀ {n : Nat} {a b c : Kd} {x y : Cr}, Ty n a b x → Ty n b c y → Ty n a c (tog n x y)
  | 0, a, b, c, x, y, h, h' => by
    obtain ⟨rfl, rfl⟩ := h
    obtain ⟨rfl, rfl⟩ := h'
    exact ⟨rfl, rfl⟩
  | n + 1, a, b, c, x, y, h, h' => by
    unfold tog
    by_cases q : x = .stay
    · rw [if_pos q]
      subst q
      rw [h.stay_eq]
      exact h'
    · rw [if_neg q]
      by_cases q2 : y = .stay
      · rw [if_pos q2]
        subst q2
        rw [← h'.stay_eq]
        exact h
      · rw [if_neg q2]
        rcases h with h | ⟨_, h⟩
        · exact absurd h.1 q
        rcases h' with h' | ⟨_, h'⟩
        · exact absurd h'.1 q2
        by_cases q3 : x.en.fails = true
        · rw [if_pos q3]
          refine .inr ⟨q, ?_⟩
          cases hx : x.en with
          | fail l => rw [hx] at h; exact h
          | no => rw [hx] at q3; cases q3
          | into v => rw [hx] at q3; cases q3
        · rw [if_neg q3]
          obtain ⟨w, h1, h2, h3, h4⟩ := h.nofail q3
          have fin : (∀ w', OutT b w' y.out → w' = w) → Ty (n + 1) a c (formedC x.out (mids (tog n) x.mid y.mid) y.en) := fun hw => by
            by_cases q4 : y.en.fails = true
            · refine formed_ty (w := w) h1 (.inl ⟨q4, ?_⟩)
              cases hy : y.en with
              | fail l => rw [hy] at h'; exact ⟨l, rfl, h'.2.1⟩
              | no => rw [hy] at q4; cases q4
              | into v => rw [hy] at q4; cases q4
            · obtain ⟨w', k1, k2, k3, k4⟩ := h'.nofail q4
              obtain rfl := hw w' k1
              exact formed_ty (w := w') h1 (.inr ⟨k2, mids_ty tog_ty h3 k3⟩)
          cases ho : y.out with
          | none =>
            dsimp only
            refine fin fun w' z => ?_
            rw [ho] at z
            cases hx : x.en with
            | fail l => rw [hx] at q3; exact absurd rfl q3
            | no => rw [hx] at h2; rw [← z.2, ← h2.2]
            | into v => rw [hx] at h2; exact absurd h2.1 z.1
          | some p =>
            obtain ⟨l, v'⟩ := p
            cases hx : x.en with
            | fail l => rw [hx] at q3; exact absurd rfl q3
            | no =>
              rw [hx] at h2
              obtain ⟨w', z⟩ := h'.out
              rw [ho] at z
              exact absurd z.1 h2.1
            | into v =>
              rw [hx] at h2
              dsimp only
              obtain ⟨w', z⟩ := h'.out
              rw [ho] at z
              by_cases q5 : v = v'
              · rw [if_pos q5]
                exact fin fun w'' z2 => by rw [ho] at z2; rw [← z2.2.1, ← q5, h2.2]
              · rw [if_neg q5]
                exact formed_ty (w := w) h1 (.inl ⟨rfl, l, rfl, z.2.2⟩)
/-- the bounds -/
theorem Ty.high : ∀ {n : Nat} {a b : Kd} {c : Cr}, Ty n a b c → c.high ≤ n ∧ c.size < 2 ^ (n + 1)
  | 0, _, _, _, ⟨rfl, _⟩ => ⟨Nat.le_refl _, by decide⟩
  | n + 1, a, b, c, h => by
    have hp : 2 ^ (n + 1 + 1) = 2 ^ (n + 1) + 2 ^ (n + 1) := by rw [Nat.pow_succ]; omega
    have h1 : 1 ≤ 2 ^ (n + 1) := Nat.one_le_two_pow
    cases c with
    | stay => exact ⟨Nat.zero_le _, by show 1 < _; omega⟩
    | leaf o e => exact ⟨by show 1 ≤ _; omega, by show 1 < _; omega⟩
    | wrap o w x y e =>
      rcases h with h | ⟨_, h⟩
      · cases h.1
      · have hf : ¬ e.fails = true := by
          cases e with
          | fail l => cases h.1
          | no => exact Bool.false_ne_true
          | into v => exact Bool.false_ne_true
        obtain ⟨v, _, _, h3, _⟩ := GoT.nofail h hf
        have key : (x.high ≤ n ∧ x.size < 2 ^ (n + 1)) ∧ (y.high ≤ n ∧ y.size < 2 ^ (n + 1)) := by
          have h4 := h3.2.2
          cases v with
          | fn => exact ⟨h4.1.high, h4.2.high⟩
          | pr => exact ⟨h4.1.high, h4.2.high⟩
          | bx => exact ⟨h4.2.1.high, h4.2.2.high⟩
          | num => exact h4.elim
          | truth => exact h4.elim
        obtain ⟨⟨k1, k2⟩, k3, k4⟩ := key
        exact ⟨by show max x.high y.high + 1 ≤ _; omega, by show x.size + y.size + 1 < _; omega⟩
end
end DL
/-! DK, part e: crossings: loops; what == and in see. -/
namespace DL
open PySem PySem.Spec PyProof.Rows L2
noncomputable section

/-! ### loops -/
theorem mkC_ne (o : Option (Lb × Wr)) (m : Md) (e : En) : mkC o m e ≠ .stay := by cases m <;> (intro z; cases z)
theorem tog_go {n : Nat} {a : Kd} {w : Wr} {c e : Cr} (h1 : c ≠ .stay) (h2 : e ≠ .stay) (h3 : ¬ c.en.fails = true) (h4 : OutT a w e.out) (h5 : EndT a w c.en) : tog (n + 1) c e = formedC c.out (mids (tog n) c.mid e.mid) e.en := by
  unfold tog
  rw [if_neg h1, if_neg h2, if_neg h3]
  cases ho : e.out with
  | none => rfl
  | some p =>
    obtain ⟨l, v⟩ := p
    cases hx : c.en with
    | fail l => rfl
    | no => rfl
    | into v' =>
      rw [ho] at h4
      rw [hx] at h5
      dsimp only
      rw [if_pos (h5.2.trans h4.2.1.symm)]
theorem loop_ty : ∀ {n : Nat} {a : Kd} {g : Cr}, Ty n a a g → (tog n g g = .stay → g = .stay) ∧ tog n (tog n g g) g = tog n g g ∧ tog n g (tog n g g) = tog n g g
  | 0, a, g, h => by
    obtain ⟨rfl, _⟩ := h
    exact ⟨fun _ => rfl, rfl, rfl⟩
  | n + 1, a, g, h => by
    by_cases q : g = .stay
    · subst q
      have e : tog (n + 1) .stay .stay = .stay := rfl
      rw [e]
      exact ⟨fun _ => rfl, e, e⟩
    · rcases h with h | ⟨_, h⟩
      · exact absurd h.1 q
      · by_cases hf : g.en.fails = true
        · have e : tog (n + 1) g g = g := by
            unfold tog
            rw [if_neg q, if_neg q, if_pos hf]
          rw [e]
          exact ⟨fun z => z, e, e⟩
        · obtain ⟨w, h1, h2, h3, h4⟩ := h.nofail hf
          have e1 := tog_go (n := n) q q hf h1 h2
          have hm : (mids (tog n) g.mid g.mid = .same → g.mid = .same) ∧ mids (tog n) (mids (tog n) g.mid g.mid) g.mid = mids (tog n) g.mid g.mid ∧ mids (tog n) g.mid (mids (tog n) g.mid g.mid) = mids (tog n) g.mid g.mid := by
            cases hg : g.mid with
            | same => exact ⟨fun _ => rfl, rfl, rfl⟩
            | wr v x y =>
              rw [hg] at h3
              obtain ⟨rfl, hne, h5⟩ := h3
              have main : ∀ (u : Wr) (x' y' : Cr), (x' = .stay → x = .stay) → (y' = .stay → y = .stay) → wrapC u x' y' = .wr u x' y' := fun u x' y' hx hy => if_neg fun z => hne ⟨hx z.1, hy z.2⟩
              cases v with
              | fn =>
                obtain ⟨a1, a2, a3⟩ := loop_ty h5.1
                obtain ⟨b1, b2, b3⟩ := loop_ty h5.2
                have e : mids (tog n) (.wr .fn x y) (.wr .fn x y) = .wr .fn (tog n x x) (tog n y y) := main _ _ _ a1 b1
                rw [e]
                refine ⟨fun z => (by cases z), ?_, ?_⟩
                · show wrapC .fn (tog n x (tog n x x)) (tog n (tog n y y) y) = _
                  rw [a3, b2]; exact main _ _ _ a1 b1
                · show wrapC .fn (tog n (tog n x x) x) (tog n y (tog n y y)) = _
                  rw [a2, b3]; exact main _ _ _ a1 b1
              | pr =>
                obtain ⟨a1, a2, a3⟩ := loop_ty h5.1
                obtain ⟨b1, b2, b3⟩ := loop_ty h5.2
                have e : mids (tog n) (.wr .pr x y) (.wr .pr x y) = .wr .pr (tog n x x) (tog n y y) := main _ _ _ a1 b1
                rw [e]
                refine ⟨fun z => (by cases z), ?_, ?_⟩
                · show wrapC .pr (tog n (tog n x x) x) (tog n (tog n y y) y) = _
                  rw [a2, b2]; exact main _ _ _ a1 b1
                · show wrapC .pr (tog n x (tog n x x)) (tog n y (tog n y y)) = _
                  rw [a3, b3]; exact main _ _ _ a1 b1
              | bx =>
                obtain ⟨a1, a2, a3⟩ := loop_ty h5.2.1
                obtain ⟨b1, b2, b3⟩ := loop_ty h5.2.2
                have e : mids (tog n) (.wr .bx x y) (.wr .bx x y) = .wr .bx (tog n x x) (tog n y y) := main _ _ _ a1 b1
                rw [e]
                refine ⟨fun z => (by cases z), ?_, ?_⟩
                · show wrapC .bx (tog n (tog n x x) x) (tog n y (tog n y y)) = _
                  rw [a2, b3]; exact main _ _ _ a1 b1
                · show wrapC .bx (tog n x (tog n x x)) (tog n (tog n y y) y) = _
                  rw [a3, b2]; exact main _ _ _ a1 b1
              | num => exact h5.elim
              | truth => exact h5.elim
          obtain ⟨m1, m2, m3⟩ := hm
          have e2 : formedC g.out (mids (tog n) g.mid g.mid) g.en = mkC g.out (mids (tog n) g.mid g.mid) g.en := by
            unfold formedC
            rw [if_neg hf, if_neg fun z => h4 ⟨z.1, m1 z.2.1, z.2.2⟩]
          rw [e2] at e1
          rw [e1]
          have hne := mkC_ne g.out (mids (tog n) g.mid g.mid) g.en
          have k1 : (mkC g.out (mids (tog n) g.mid g.mid) g.en).out = g.out := by cases mids (tog n) g.mid g.mid <;> rfl
          have k2 : (mkC g.out (mids (tog n) g.mid g.mid) g.en).mid = mids (tog n) g.mid g.mid := by cases mids (tog n) g.mid g.mid <;> rfl
          have k3 : (mkC g.out (mids (tog n) g.mid g.mid) g.en).en = g.en := by cases mids (tog n) g.mid g.mid <;> rfl
          refine ⟨fun z => absurd z hne, ?_, ?_⟩
          · rw [tog_go (w := w) (a := a) hne q (by rw [k3]; exact hf) h1 (by rw [k3]; exact h2), k1, k2, m2, e2]
          · rw [tog_go (w := w) (a := a) q hne hf (by rw [k1]; exact h1) h2, k2, k3, m3, e2]

/-! ### what == sees -/
theorem Lb.pt (l : Lb) : l.d.pt = true := rfl
theorem outD_pt (o : Option (Lb × Wr)) : (outD o).pt = true := by cases o <;> rfl
theorem En.pt (e : En) : e.d.pt = true := by cases e <;> rfl
theorem Cr.pt : ∀ c : Cr, c.d.pt = true
  | stay => rfl
  | leaf o e => by
    show (true && ((outD o).pt && (true && (e.d.pt && true)))) = true
    rw [outD_pt, En.pt]; rfl
  | wrap o w c d e => by
    show (true && ((outD o).pt && ((true && (c.d.pt && (d.d.pt && true))) && (e.d.pt && true)))) = true
    rw [outD_pt, En.pt, pt c, pt d]; rfl
theorem Md.pt (m : Md) : m.d.pt = true := by
  cases m with
  | same => rfl
  | wr w c d =>
    show (true && (c.d.pt && (d.d.pt && true))) = true
    rw [c.pt, d.pt]; rfl
@[simp] theorem Cr.und {n : Nat} (c : Cr) : c.d.und n = true := pt_und _ c.pt
@[simp] theorem Md.und {n : Nat} (c : Md) : c.d.und n = true := pt_und _ c.pt
@[simp] theorem En.und {n : Nat} (c : En) : c.d.und n = true := pt_und _ c.pt
@[simp] theorem outD_und {n : Nat} (c : Option (Lb × Wr)) : (outD c).und n = true := pt_und _ (outD_pt c)
theorem outD_dep (o : Option (Lb × Wr)) : (outD o).dep ≤ 2 := by
  cases o with
  | none => decide
  | some p => exact Nat.le_refl 2
theorem En.dep (e : En) : e.d.dep ≤ 2 := by
  cases e with
  | no => decide
  | into v => show 1 ≤ 2; decide
  | fail l => exact Nat.le_refl 2
theorem Cr.dep : ∀ c : Cr, c.d.dep ≤ 2 * c.high + 3
  | stay => by decide
  | leaf o e => by
    have h1 := outD_dep o
    have h2 := e.dep
    show max 0 (max (outD o).dep (max 1 (max e.d.dep 0))) + 1 ≤ 2 * 1 + 3
    omega
  | wrap o w c d e => by
    have h1 := outD_dep o
    have h2 := e.dep
    have h3 := dep c
    have h4 := dep d
    show max 0 (max (outD o).dep (max (max 0 (max c.d.dep (max d.d.dep 0)) + 1) (max e.d.dep 0))) + 1 ≤ 2 * (max c.high d.high + 1) + 3
    omega
theorem go_stay : (("go" : Str)) ≠ "stay" := by decide +kernel
theorem Cr.d_stay {c : Cr} : c.d = .tup [.str "stay"] ↔ c = .stay := by
  constructor
  · intro h
    cases c with
    | stay => rfl
    | leaf o e => simp [Cr.d] at h
    | wrap o w c d e => simp [Cr.d] at h
  · intro h; rw [h]; rfl
theorem Wr.s_same (w : Wr) : w.s ≠ "same" := by cases w <;> decide +kernel
theorem Md.d_same {m : Md} : m.d = .tup [.str "same"] ↔ m = .same := by
  constructor
  · intro h
    cases m with
    | same => rfl
    | wr w c d => simp [Md.d] at h
  · intro h; rw [h]; rfl
section
variable {S : Sto}
@[simp] theorem Cr.eq_stay {c : Cr} : aEq c.d (.tup [.str "stay"]) S = some (.bl (decide (c = .stay)), S) := (eq_pt (b := Cr.stay.d) c.pt rfl (.inr (by decide +kernel)) (by rw [decide_eq_true_iff]; exact Cr.d_stay.symm)).1
@[simp] theorem Cr.ne_stay {c : Cr} : aNe c.d (.tup [.str "stay"]) S = some (.bl (!decide (c = .stay)), S) := (eq_pt (b := Cr.stay.d) c.pt rfl (.inr (by decide +kernel)) (by rw [decide_eq_true_iff]; exact Cr.d_stay.symm)).2
@[simp] theorem Md.eq_same {m : Md} : aEq m.d (.tup [.str "same"]) S = some (.bl (decide (m = .same)), S) := (eq_pt (b := Md.same.d) m.pt rfl (.inr (by decide +kernel)) (by rw [decide_eq_true_iff]; exact Md.d_same.symm)).1
@[simp] theorem Md.ne_same {m : Md} : aNe m.d (.tup [.str "same"]) S = some (.bl (!decide (m = .same)), S) := (eq_pt (b := Md.same.d) m.pt rfl (.inr (by decide +kernel)) (by rw [decide_eq_true_iff]; exact Md.d_same.symm)).2
@[simp] theorem Wr.in_seen {w : Wr} : aIn (.str w.s) (.tup [.str "num", .str "truth", .str "fun", .str "pair", .str "box"]) S = some (.bl true, S) :=
  (in_pt rfl rfl (by decide +kernel) (by cases w <;> simp [Wr.s])).1
theorem Wr.in_wrapped {w : Wr} (h : w ≠ .num ∧ w ≠ .truth) : aNotIn (.str w.s) (.tup [.str "fun", .str "pair", .str "box"]) S = some (.bl false, S) :=
  (in_pt (c := true) rfl rfl (by decide +kernel) (by cases w <;> simp [Wr.s] <;> first | exact absurd rfl h.1 | exact absurd rfl h.2)).2
@[simp] theorem isi_tt {xs : List D} : fIsi [.tup xs, .ty "tuple"] S = some (.bl true, S) := isi_ok (d := .tup xs) (S := S) rfl (by decide)
@[simp] theorem isi_ss {z : Str} : fIsi [.str z, .ty "str"] S = some (.bl true, S) := isi_ok (d := .str z) (S := S) rfl (by decide)
@[simp] theorem isi_ii {i : Int} : fIsi [.int i, .ty "int"] S = some (.bl true, S) := isi_ok (d := .int i) (S := S) rfl (by decide)
@[simp] theorem isi_ib {i : Int} : fIsi [.int i, .ty "bool"] S = some (.bl false, S) := isi_ok (d := .int i) (S := S) rfl (by decide)
@[simp] theorem Cr.isi {c : Cr} : fIsi [c.d, .ty "tuple"] S = some (.bl true, S) := by cases c <;> exact isi_tt
@[simp] theorem Md.isi {c : Md} : fIsi [c.d, .ty "tuple"] S = some (.bl true, S) := by cases c <;> exact isi_tt
@[simp] theorem isNon_n : DL.isNon .non = true := rfl
@[simp] theorem isNon_t {xs : List D} : DL.isNon (.tup xs) = false := rfl
@[simp] theorem isNon_outD {o : Option (Lb × Wr)} : DL.isNon (outD o) = decide (o = none) := by cases o <;> rfl
@[simp] theorem isNon_en {e : En} : DL.isNon e.d = decide (e = .no) := by cases e <;> rfl
@[simp] theorem nofail_fail : ((("in" : Str)) = "fail") = False := eq_false (by decide +kernel)
@[simp] theorem fail_in : ((("fail" : Str)) = "in") = False := eq_false (by decide +kernel)
section
variable {a b : Kd}
@[simp] theorem ixf1 : aIx (Kd.fn a b).d (.int 1) S = some (a.d, S) := ixT1
@[simp] theorem ixf2 : aIx (Kd.fn a b).d (.int 2) S = some (b.d, S) := ixT2
@[simp] theorem ixp1 : aIx (Kd.pr a b).d (.int 1) S = some (a.d, S) := ixT1
@[simp] theorem ixp2 : aIx (Kd.pr a b).d (.int 2) S = some (b.d, S) := ixT2
@[simp] theorem ixb1 : aIx (Kd.bx a).d (.int 1) S = some (a.d, S) := ixT1
end
@[simp] theorem lit_num_truth : ((("num" : Str)) = "truth") = False := eq_false (by decide +kernel)
@[simp] theorem lit_num_any : ((("num" : Str)) = "any") = False := eq_false (by decide +kernel)
@[simp] theorem lit_num_fun : ((("num" : Str)) = "fun") = False := eq_false (by decide +kernel)
@[simp] theorem lit_num_pair : ((("num" : Str)) = "pair") = False := eq_false (by decide +kernel)
@[simp] theorem lit_num_box : ((("num" : Str)) = "box") = False := eq_false (by decide +kernel)
@[simp] theorem lit_truth_num : ((("truth" : Str)) = "num") = False := eq_false (by decide +kernel)
@[simp] theorem lit_truth_any : ((("truth" : Str)) = "any") = False := eq_false (by decide +kernel)
@[simp] theorem lit_truth_fun : ((("truth" : Str)) = "fun") = False := eq_false (by decide +kernel)
@[simp] theorem lit_truth_pair : ((("truth" : Str)) = "pair") = False := eq_false (by decide +kernel)
@[simp] theorem lit_truth_box : ((("truth" : Str)) = "box") = False := eq_false (by decide +kernel)
@[simp] theorem lit_any_num : ((("any" : Str)) = "num") = False := eq_false (by decide +kernel)
@[simp] theorem lit_any_truth : ((("any" : Str)) = "truth") = False := eq_false (by decide +kernel)
@[simp] theorem lit_any_fun : ((("any" : Str)) = "fun") = False := eq_false (by decide +kernel)
@[simp] theorem lit_any_pair : ((("any" : Str)) = "pair") = False := eq_false (by decide +kernel)
@[simp] theorem lit_any_box : ((("any" : Str)) = "box") = False := eq_false (by decide +kernel)
@[simp] theorem lit_fun_num : ((("fun" : Str)) = "num") = False := eq_false (by decide +kernel)
@[simp] theorem lit_fun_truth : ((("fun" : Str)) = "truth") = False := eq_false (by decide +kernel)
@[simp] theorem lit_fun_any : ((("fun" : Str)) = "any") = False := eq_false (by decide +kernel)
@[simp] theorem lit_fun_pair : ((("fun" : Str)) = "pair") = False := eq_false (by decide +kernel)
@[simp] theorem lit_fun_box : ((("fun" : Str)) = "box") = False := eq_false (by decide +kernel)
@[simp] theorem lit_pair_num : ((("pair" : Str)) = "num") = False := eq_false (by decide +kernel)
@[simp] theorem lit_pair_truth : ((("pair" : Str)) = "truth") = False := eq_false (by decide +kernel)
@[simp] theorem lit_pair_any : ((("pair" : Str)) = "any") = False := eq_false (by decide +kernel)
@[simp] theorem lit_pair_fun : ((("pair" : Str)) = "fun") = False := eq_false (by decide +kernel)
@[simp] theorem lit_pair_box : ((("pair" : Str)) = "box") = False := eq_false (by decide +kernel)
@[simp] theorem lit_box_num : ((("box" : Str)) = "num") = False := eq_false (by decide +kernel)
@[simp] theorem lit_box_truth : ((("box" : Str)) = "truth") = False := eq_false (by decide +kernel)
@[simp] theorem lit_box_any : ((("box" : Str)) = "any") = False := eq_false (by decide +kernel)
@[simp] theorem lit_box_fun : ((("box" : Str)) = "fun") = False := eq_false (by decide +kernel)
@[simp] theorem lit_box_pair : ((("box" : Str)) = "pair") = False := eq_false (by decide +kernel)
section
variable {l : Lb} {w : Wr} {x y : Cr}
@[simp] theorem ixO0 : aIx (outD (some (l, w))) (.int 0) S = some (l.d, S) := ixT0
@[simp] theorem ixO1 : aIx (outD (some (l, w))) (.int 1) S = some (.int l.side, S) := ixT1
@[simp] theorem ixO2 : aIx (outD (some (l, w))) (.int 2) S = some (.str w.s, S) := ixT2
@[simp] theorem ixM0 : aIx (Md.wr w x y).d (.int 0) S = some (.str w.s, S) := ixT0
@[simp] theorem ixM1 : aIx (Md.wr w x y).d (.int 1) S = some (x.d, S) := ixT1
@[simp] theorem ixM2 : aIx (Md.wr w x y).d (.int 2) S = some (y.d, S) := ixT2
@[simp] theorem ixI0 : aIx (En.into w).d (.int 0) S = some (.str "in", S) := ixT0
@[simp] theorem ixI1 : aIx (En.into w).d (.int 1) S = some (.str w.s, S) := ixT1
@[simp] theorem ixF0 : aIx (En.fail l).d (.int 0) S = some (.str "fail", S) := ixT0
@[simp] theorem ixF1 : aIx (En.fail l).d (.int 1) S = some (l.d, S) := ixT1
@[simp] theorem ixF2 : aIx (En.fail l).d (.int 2) S = some (.int l.side, S) := ixT2
@[simp] theorem lenO : fLen [outD (some (l, w))] S = some (.int 3, S) := rfl
@[simp] theorem lenM : fLen [(Md.wr w x y).d] S = some (.int 3, S) := rfl
@[simp] theorem lenI : fLen [(En.into w).d] S = some (.int 2, S) := rfl
@[simp] theorem lenF : fLen [(En.fail l).d] S = some (.int 3, S) := rfl
@[simp] theorem isiO : fIsi [outD (some (l, w)), .ty "tuple"] S = some (.bl true, S) := isi_tt
@[simp] theorem isiI : fIsi [(En.into w).d, .ty "tuple"] S = some (.bl true, S) := isi_tt
@[simp] theorem isiF : fIsi [(En.fail l).d, .ty "tuple"] S = some (.bl true, S) := isi_tt
end
@[simp] theorem mty_new {xs : List D} : mtyD (.ob S.length) (S ++ [.lst xs]) = some "list" := by
  have e : (S ++ [O.lst xs])[S.length]? = some (.lst xs) := by rw [List.getElem?_append_right (Nat.le_refl _), Nat.sub_self]; rfl
  unfold mtyD
  dsimp only
  rw [e]
/-- a list that was just made -/
@[simp] theorem app_new {xs : List D} {x : D} (h : xs.length ≤ 999) : mAppend (.ob S.length) [x] (S ++ [.lst xs]) = some (.non, S ++ [.lst (xs ++ [x])]) := by
  have e : (S ++ [O.lst xs])[S.length]? = some (.lst xs) := by rw [List.getElem?_append_right (Nat.le_refl _), Nat.sub_self]; rfl
  unfold mAppend
  dsimp only
  rw [e]
  dsimp only
  rw [if_pos (Nat.lt_of_lt_of_le (show xs.length < 1000 by omega) (small_line (Nat.le_refl _))), List.set_append_right _ _ (Nat.le_refl _), Nat.sub_self]
  rfl
end
end
end DL
/-! DK, part f: drawn comprehensions and loops, with a state. -/
namespace DL
open PySem PySem.Spec PyProof.Rows L2
noncomputable section
/-- drawn, each by its item -/
theorem compL_rel {ok : Sto → Prop} {t : DTg} {e : DenE} {fr : Fr} {cs : List Int} {P : D → D → Prop} {c B : Nat} (hok : ∀ S, ok S) : ∀ (items : List D) (b : Nat) (s : Ds),
    (∀ d ∈ items, ∀ (b : Nat) (s : Ds), Dr b cs s → b ≤ B → ∃ v s', P d v ∧ Dr (b + c) cs s' ∧ ∀ R, ∃ fr1, t d fr (dst cs s R) = some fr1 ∧ e fr1 (dst cs s R) = .ok v (dst cs s' R)) → Dr b cs s → b + c * items.length ≤ B →
    ∃ vs s', Paired P items vs ∧ Dr (b + c * items.length) cs s' ∧ ∀ R, compL ok t dYes e fr items (dst cs s R) = .ok vs (dst cs s' R)
  | [], b, s, _, hd, _ => ⟨[], s, .nil, hd, fun R => (by
      unfold compL
      exact if_pos (hok _))⟩
  | d :: l, b, s, h, hd, hb => by
    rw [List.length_cons, Nat.mul_succ] at hb
    obtain ⟨v, s1, h1, h2, h3⟩ := h d List.mem_cons_self b s hd (by omega)
    obtain ⟨vs, s2, k1, k3, k4⟩ := compL_rel hok l (b + c) s1 (fun d' hd' => h d' (List.mem_cons_of_mem _ hd')) h2 (by omega)
    refine ⟨v :: vs, s2, .cons h1 k1, ?_, fun R => ?_⟩
    · rw [List.length_cons, Nat.mul_succ]
      exact k3.mono (by omega)
    · obtain ⟨fr1, q1, q2⟩ := h3 R
      unfold compL
      rw [if_pos (hok _), q1]
      dsimp only [dYes]
      rw [q2]
      dsimp only
      rw [k4 R]
/-- a loop that draws: a state, its slots, what it has laid behind R -/
theorem forL_st {α : Type} {ok : Sto → Prop} {t : DTg} {b : DenS} {cs : List Int} {c B : Nat} (hok : ∀ S, ok S) (F : α → Nat → Fr) (X : α → Nat → Sto) (I : Nat → α → Prop) (N : Nat) : ∀ (items : List D) (n : Nat) (a : α) (bd : Nat) (s : Ds),
    (∀ d ∈ items, ∀ (n : Nat) (a : α) (bd : Nat) (s : Ds), n < N → I n a → Dr bd cs s → bd ≤ B → ∃ a' s', I (n + 1) a' ∧ Dr (bd + c) cs s' ∧ ∀ R, ∃ fr1, t d (F a R.length) (dst cs s (R ++ X a R.length)) = some fr1 ∧
      (b fr1 (dst cs s (R ++ X a R.length)) = .ok .nx (F a' R.length) (dst cs s' (R ++ X a' R.length)) ∨ b fr1 (dst cs s (R ++ X a R.length)) = .ok .ct (F a' R.length) (dst cs s' (R ++ X a' R.length)))) →
    n + items.length ≤ N → I n a → Dr bd cs s → bd + c * items.length ≤ B → ∃ a' s', I (n + items.length) a' ∧ Dr (bd + c * items.length) cs s' ∧ ∀ R, forL ok t b items (F a R.length) (dst cs s (R ++ X a R.length)) = .ok .nx (F a' R.length) (dst cs s' (R ++ X a' R.length))
  | [], n, a, bd, s, _, _, hI, hd, _ => ⟨a, s, hI, hd, fun R => (by
      unfold forL
      exact if_pos (hok _))⟩
  | d :: l, n, a, bd, s, h, hN, hI, hd, hb => by
    rw [List.length_cons, Nat.mul_succ] at hb
    rw [List.length_cons] at hN
    obtain ⟨a1, s1, h1, h2, h3⟩ := h d List.mem_cons_self n a bd s (by omega) hI hd (by omega)
    obtain ⟨a2, s2, k1, k2, k3⟩ := forL_st hok F X I N l (n + 1) a1 (bd + c) s1 (fun d' hd' => h d' (List.mem_cons_of_mem _ hd')) (by omega) h1 h2 (by omega)
    refine ⟨a2, s2, ?_, ?_, fun R => ?_⟩
    · rw [List.length_cons, Nat.add_comm l.length 1, ← Nat.add_assoc]
      exact k1
    · rw [List.length_cons, Nat.mul_succ]
      exact k2.mono (by omega)
    · obtain ⟨fr1, q1, q2⟩ := h3 R
      unfold forL
      rw [if_pos (hok _), q1]
      dsimp only
      rcases q2 with q2 | q2 <;> (rw [q2]; exact k3 R)
theorem Kd.many_lt : ∀ k : Kd, k.many < 2 ^ k.deep
  | num => by decide
  | truth => by decide
  | any => by decide
  | fn a b => by
    have h1 := many_lt a
    have h2 := many_lt b
    have h3 : 2 ^ a.deep ≤ 2 ^ max a.deep b.deep := Nat.pow_le_pow_right (by decide) (by omega)
    have h4 : 2 ^ b.deep ≤ 2 ^ max a.deep b.deep := Nat.pow_le_pow_right (by decide) (by omega)
    show a.many + b.many + 1 < 2 ^ (max a.deep b.deep + 1)
    rw [Nat.pow_succ]
    omega
  | pr a b => by
    have h1 := many_lt a
    have h2 := many_lt b
    have h3 : 2 ^ a.deep ≤ 2 ^ max a.deep b.deep := Nat.pow_le_pow_right (by decide) (by omega)
    have h4 : 2 ^ b.deep ≤ 2 ^ max a.deep b.deep := Nat.pow_le_pow_right (by decide) (by omega)
    show a.many + b.many + 1 < 2 ^ (max a.deep b.deep + 1)
    rw [Nat.pow_succ]
    omega
  | bx a => by
    have h1 := many_lt a
    show a.many + 1 < 2 ^ (a.deep + 1)
    rw [Nat.pow_succ]
    have := Nat.one_le_two_pow (n := a.deep)
    omega
theorem Kd.many_le {k : Kd} (h : k.deep ≤ 5) : k.many ≤ 31 := by
  have h1 := k.many_lt
  have h2 : 2 ^ k.deep ≤ 2 ^ 5 := Nat.pow_le_pow_right (by decide) h
  omega
/-- a border as the laws have it: two kinds, a label with its side -/
structure Bd where
  a : Kd
  b : Kd
  l : Lb
def Bd.d (x : Bd) : D := .tup [x.a.d, x.b.d, x.l.d, .int x.l.side]
/-- alike kinds, at most so deep -/
structure Bd.ok (n : Nat) (x : Bd) : Prop where
  al : x.a.alike x.b = true
  ha : x.a.deep ≤ n
  hb : x.b.deep ≤ n
  hl : x.l.ok
theorem Bd.pt (x : Bd) : x.d.pt = true := by
  show (x.a.d.pt && (x.b.d.pt && (true && (true && true)))) = true
  rw [x.a.pt, x.b.pt]
  rfl
@[simp] theorem Bd.und {n : Nat} (x : Bd) : x.d.und n = true := pt_und _ x.pt
theorem undL_map {α : Type} {f : α → D} {n : Nat} (h : ∀ a, (f a).und n = true) : ∀ l : List α, undL n (l.map f) = true
  | [] => rfl
  | a :: l => by
    rw [List.map_cons]
    unfold undL
    rw [h, undL_map h l]
    rfl
section
variable {S : Sto} {x : Bd}
@[simp] theorem Bd.ix0 : aIx x.d (.int 0) S = some (x.a.d, S) := ixT0
@[simp] theorem Bd.ix1 : aIx x.d (.int 1) S = some (x.b.d, S) := ixT1
@[simp] theorem Bd.ix2 : aIx x.d (.int 2) S = some (x.l.d, S) := ixT2
@[simp] theorem Bd.ix3 : aIx x.d (.int 3) S = some (.int x.l.side, S) := ixT3
end
/-- behind one another -/
def chain : Kd → List Bd → Kd → Prop
  | k, [], k' => k = k'
  | k, x :: r, k' => x.a = k ∧ chain x.b r k'
theorem chain_app : ∀ {k k' k'' : Kd} {xs ys : List Bd}, chain k xs k' → chain k' ys k'' → chain k (xs ++ ys) k''
  | _, _, _, [], _, h, h' => by cases h; exact h'
  | _, _, _, x :: r, _, h, h' => ⟨h.1, chain_app h.2 h'⟩
theorem mAppend_at {S : Sto} {n : Nat} {xs : List D} {x : D} (hn : S[n]? = some (.lst xs)) (h : xs.length ≤ 999) : mAppend (.ob n) [x] S = some (.non, S.set n (.lst (xs ++ [x]))) := by
  unfold mAppend
  dsimp only
  rw [hn]
  dsimp only
  rw [if_pos (Nat.lt_of_lt_of_le (show xs.length < 1000 by omega) (small_line (Nat.le_refl _)))]
theorem mty_at {S : Sto} {n : Nat} {xs : List D} (hn : S[n]? = some (.lst xs)) : mtyD (.ob n) S = some "list" := by
  unfold mtyD
  dsimp only
  rw [hn]
theorem dst_set {cs : List Int} {s : Ds} {R : Sto} {j : Nat} {o : O} : (dst cs s R).set (j + 3) o = dst cs s (R.set j o) := rfl
/-- the list that stands behind R alone -/
@[simp] theorem dst_last {cs : List Int} {s : Ds} {R : Sto} {o : O} : (dst cs s (R ++ [o]))[R.length + 3]? = some o := by
  rw [dst_get, List.getElem?_append_right (Nat.le_refl _), Nat.sub_self]
  rfl
@[simp] theorem dst_setLast {cs : List Int} {s : Ds} {R : Sto} {o o' : O} : (dst cs s (R ++ [o])).set (R.length + 3) o' = dst cs s (R ++ [o']) := by
  rw [dst_set, List.set_append_right _ _ (Nat.le_refl _), Nat.sub_self]
  rfl
/-- a def's end: one new object is handed out -/
theorem gc_dstN {cs : List Int} {s s' : Ds} {R T : Sto} {j : Nat} {o : O} (hj : T[j]? = some o) (h : o.und (R.length + 3) = true) : gcO (dst cs s R) (.ob (R.length + 3 + j)) (dst cs s' (R ++ T)) = .ok (.ob (R.length + 3)) (dst cs s' (R ++ [o])) := by
  have hl : (dst cs s R).length = R.length + 3 := rfl
  have ho : Olds (dst cs s R) (dst cs s' (R ++ T)) := by
    refine ⟨?_, fun i hi => ?_⟩
    · show R.length + 3 ≤ (R ++ T).length + 3
      rw [List.length_append]; omega
    · match i, hi with
      | 0, _ => exact .inl rfl
      | 1, _ => exact .inl rfl
      | 2, _ =>
        refine .inr ⟨drw s', rfl, ?_⟩
        rw [hl]
        show (decide (1 < R.length + 3) && (true && (true && (true && true)))) = true
        rw [decide_eq_true (by omega)]
        rfl
      | i + 3, hi =>
        refine .inl ?_
        show (R ++ T)[i]? = R[i]?
        exact List.getElem?_append_left (by rw [hl] at hi; omega)
  have e : (dst cs s' (R ++ T))[R.length + 3 + j]? = some o := by rw [dst_new, hj]
  have ht : (dst cs s' (R ++ T)).take (R.length + 3) ++ [o] = dst cs s' (R ++ [o]) := by
    show (.lst [.int 0] :: .lst (cs.map D.int) :: drw s' :: (R ++ T).take R.length) ++ [o] = _
    rw [List.take_left]
    rfl
  unfold gcO
  rw [if_neg (fun z => by
    have z2 := of_decide_eq_true (show decide (R.length + 3 + j < R.length + 3) = true from z.2)
    omega)]
  dsimp only
  rw [e]
  dsimp only
  rw [hl, if_pos ⟨ho, by omega, h⟩, ht]
theorem gc_dstN0 {cs : List Int} {s s' : Ds} {R : Sto} {o : O} (h : o.und (R.length + 3) = true) : gcO (dst cs s R) (.ob (R.length + 3)) (dst cs s' (R ++ [o])) = .ok (.ob (R.length + 3)) (dst cs s' (R ++ [o])) := gc_dstN (T := [o]) (j := 0) rfl h
theorem ev_for {t : DTg} {fi : Fr → Sto → Out Src} {b : DenS} {fr : Fr} {S : Sto} : dFor t fi b fr S = (fi fr S).thn fr fun src S' => forL src.ok t b src.items fr S' := rfl
theorem ev_maxD {h : DenA} {f : DenE} {fr : Fr} {S : Sto} : dMaxD h f fr S = (h fr S).bnd fun xs S' => (f fr S').bnd fun d S2 => .ofO (fMaxD d xs S2) := rfl
end
end DL
/-! the numbers that this law draws -/
namespace K07
open PySem PySem.Spec PyProof.Rows L2 DL
noncomputable section
theorem mix_i (k : Nat) (c j : Int) (S : Sto) (h0 : 0 ≤ j) (h1 : j < 2 ^ 62) : Phi T G (k + 1) i_law_mixed [.int c, .int j] S = .ok (.int (mixI c j)) S := by
  rw [phi_succ (d := f_law_mixed) rfl den_law_mixed]
  exact mixed_run (Φ := Phi T G k) h0 h1
theorem nx {b : Nat} {cs : List Int} {s : Ds} (k : Nat) (m : Int) (hd : Dr b cs s) (hb : b < 2 ^ 61) (hm : 0 < m) (hm2 : m < 1000000000000000000) :
    ∃ r s', 0 ≤ r ∧ r < m ∧ Dr (b + 1) cs s' ∧ ∀ R, Phi T G (k + 2) i_law_next [.ob 2, .int m] (dst cs s R) = .ok (.int r) (dst cs s' R) := by
  obtain ⟨r, s', h1, h2, h3, h4⟩ := next_run (Φ := Phi T G (k + 1)) (mi := i_law_mixed) (mix_i k) hd hb hm hm2
  refine ⟨r, s', h1, h2, h3, fun R => ?_⟩
  rw [phi_succ (d := f_law_next) rfl den_law_next]
  exact h4 R
theorem begin_i {k : Nat} {ns : List Int} (h : ns.length ≤ 63) : Phi T G (k + 1) i_law_begin [.rl (ns.map .int)] [] = .ok (.ob 2) (dst (ns ++ [0]) ⟨0, 0, 0⟩ []) ∧ Dr 0 (ns ++ [0]) ⟨0, 0, 0⟩ := by
  have q := begin_run (Φ := Phi T G k) h
  refine ⟨?_, q.2⟩
  rw [phi_succ (d := f_law_begin) rfl den_law_begin]
  exact q.1
end
end K07
/-! DK, part g: lists at hand: two joined, the last, all but the last, the greatest. -/
namespace DL
open PySem PySem.Spec PyProof.Rows L2
noncomputable section
section
variable {S : Sto} {xs ys : List D} {n : Nat}
theorem seq_at (h : S[n]? = some (.lst xs)) : seqD (.ob n) S = some xs := by
  show (match S[n]? with
      | some (.lst xs) => some xs
      | _ => none) = _
  rw [h]
theorem add_at {m : Nat} (h : S[n]? = some (.lst xs)) (h' : S[m]? = some (.lst ys)) (hl : xs.length + ys.length ≤ 1000) : aAdd (.ob n) (.ob m) S = some (.ob S.length, S ++ [.lst (xs ++ ys)]) := by
  show (match S[n]?, S[m]? with
    | some (.lst xs), some (.lst ys) => if xs.length + ys.length ≤ sizeLine then some (D.ob S.length, S ++ [O.lst (xs ++ ys)]) else none
    | _, _ => none) = _
  rw [h, h']
  dsimp only
  rw [if_pos (small_line hl)]
theorem onLst_at {f : FB} (h : S[n]? = some (.lst xs)) : onLst f [.ob n] S = f xs S := by
  show (match seqD (.ob n) S with
    | some xs => f xs S
    | none => none) = _
  rw [seq_at h]
theorem fMax_ints {l : List Int} (h : l ≠ []) : fMax (l.map D.int) S = some (.int (maxI l), S) := by
  unfold fMax
  rw [optAll_ints]
  cases l with
  | nil => exact absurd rfl h
  | cons a l => rfl
/-- max([0] + [..]) of new lists -/
theorem new1 {a b : O} : (S ++ [a, b])[S.length]? = some a := by
  rw [List.getElem?_append_right (Nat.le_refl _), Nat.sub_self]; rfl
theorem new2 {a b : O} : (S ++ [a, b])[S.length + 1]? = some b := by
  rw [List.getElem?_append_right (by omega), Nat.add_sub_cancel_left]; rfl
theorem new3 {a b c : O} : (S ++ [a, b, c])[S.length + 2]? = some c := by
  rw [List.getElem?_append_right (by omega), Nat.add_sub_cancel_left]; rfl
theorem add_two (hl : xs.length + ys.length ≤ 1000) : aAdd (.ob S.length) (.ob (S.length + 1)) (S ++ [.lst xs, .lst ys]) = some (.ob (S.length + 2), S ++ [.lst xs, .lst ys, .lst (xs ++ ys)]) := by
  rw [add_at new1 new2 hl]
  simp
theorem max_two {l : List Int} (h : l ≠ []) {a b : O} : onLst fMax [.ob (S.length + 2)] (S ++ [a, b, .lst (l.map D.int)]) = some (.int (maxI l), S ++ [a, b, .lst (l.map D.int)]) := by
  rw [onLst_at new3, fMax_ints h]
theorem max0 (l : List Int) (hl : l.length ≤ 900) : ∃ z, aAdd (.ob S.length) (.ob (S.length + 1)) (S ++ [.lst [.int 0], .lst (l.map D.int)]) = some (.ob (S.length + 2), S ++ [.lst [.int 0], .lst (l.map D.int), .lst z]) ∧
    onLst fMax [.ob (S.length + 2)] (S ++ [.lst [.int 0], .lst (l.map D.int), .lst z]) = some (.int (maxI (0 :: l)), S ++ [.lst [.int 0], .lst (l.map D.int), .lst z]) :=
  ⟨(0 :: l).map D.int, add_two (xs := [.int 0]) (by rw [List.length_map]; show 1 + _ ≤ _; omega), max_two (l := 0 :: l) (by simp)⟩
theorem ix_lastS {d : D} (h : S[n]? = some (.lst (xs ++ [d]))) : aIx (.ob n) (.int (-1)) S = some (d, S) := by
  show (match seqD (.ob n) S with
    | some xs => (L2.atI xs (-1)).map fun d => (d, S)
    | none => match S[n]? with
      | some (.dk kvs) => match keyD (.int (-1)) with
        | some k => (valD kvs k).map fun d => (d, S)
        | none => none
      | _ => none) = _
  rw [seq_at h]
  dsimp only
  have : L2.atI (xs ++ [d]) (-1) = some d := by
    unfold L2.atI L2.ixN
    have e : (-1 + ((xs.length : Int) + 1)).toNat = xs.length := by omega
    simp [e, show (1 : Int) ≤ (xs.length : Int) + 1 by omega]
  rw [this]
  rfl
theorem cut_last {d : D} : cutD (xs ++ [d]) none (some (-1)) = xs := by
  unfold cutD HT.sIx
  have e : (-1 + ((xs.length : Int) + 1)).toNat = xs.length := by omega
  simp [e]
theorem sl_last {d : D} (h : S[n]? = some (.lst (xs ++ [d]))) : aSl (.ob n) none (some (-1)) S = some (.ob S.length, S ++ [.lst xs]) := by
  show (match S[n]? with
    | some (.lst xs) => some (D.ob S.length, S ++ [O.lst (cutD xs none (some (-1)))])
    | _ => none) = _
  rw [h]
  dsimp only
  rw [cut_last]
theorem shl_ok {i j : Int} (h : CPow i j) : aShl (.int i) (.int j) S = some (.int (i * 2 ^ j.toNat), S) := by
  show (if CPow i j then some (D.int (i * 2 ^ j.toNat)) else none).map (fun d => (d, S)) = _
  rw [if_pos h]
  rfl
theorem iseq_at {f : DenE} {fr : Fr} {S0 : Sto} (e : f fr S0 = .ok (.ob n) S) (h : S[n]? = some (.lst xs)) : dISeq f fr S0 = .ok ⟨xs, [(n, xs)]⟩ S := by
  unfold dISeq
  rw [e]
  show Out.ofS (match S[n]? with
        | some (.lst xs) => some (Src.mk xs [(n, xs)])
        | _ => none) S = _
  rw [h]
  rfl
/-- a comprehension over a list that stays -/
theorem comp_lst {i : Nat} {fi : Fr → Sto → Out Src} {e : DenE} {fr : Fr} (v : D → D) (hn : S[n]? = some (.lst xs)) (hi : fi fr S = .ok ⟨xs, [(n, xs)]⟩ S) (h : ∀ a ∈ xs, e ((wipeD fr [i]).set i (some a)) S = .ok (v a) S) : dComp [i] fi (gN i) dYes e fr S = .ok (xs.map v) S := by
  unfold dComp
  rw [hi]
  exact compL_map (fun p hp => by rw [List.mem_singleton.mp hp]; exact hn) xs fun a ha => ⟨_, rfl, h a ha⟩
/-- a loop over a list that stays, the store as it was -/
theorem forL_inv {α : Type} {t : DTg} {b : DenS} (hn : S[n]? = some (.lst ys)) (F : α → Fr) (I : List D → α → Prop) : ∀ (items : List D) (a : α),
    (∀ d l a, I (d :: l) a → ∃ a' fr1, t d (F a) S = some fr1 ∧ b fr1 S = .ok .nx (F a') S ∧ I l a') → I items a → ∃ a', I [] a' ∧ forL (Src.mk ys [(n, ys)]).ok t b items (F a) S = .ok .nx (F a') S
  | [], a, _, hI => ⟨a, hI, by
      unfold forL
      exact if_pos (fun p hp => by rw [List.mem_singleton.mp hp]; exact hn)⟩
  | d :: l, a, h, hI => by
    obtain ⟨a1, fr1, h1, h2, h3⟩ := h d l a hI
    obtain ⟨a2, k1, k2⟩ := forL_inv hn F I l a1 h h3
    refine ⟨a2, k1, ?_⟩
    have hok : (Src.mk ys [(n, ys)]).ok S := fun p hp => by rw [List.mem_singleton.mp hp]; exact hn
    unfold forL
    rw [if_pos hok, h1]
    dsimp only
    rw [h2]
    exact k2
end
end
end DL
/-! DK, part h: what borders do to a value, and a crossing by its own form. -/
namespace DL
open PySem PySem.Spec PyProof.Rows L2
noncomputable section
/-- a loop, its state with its store -/
theorem forL_gen {α : Type} {ok : Sto → Prop} {t : DTg} {b : DenS} (F : α → Fr) (X : α → Sto) (I : List D → α → Prop) (hok : ∀ l a, I l a → ok (X a)) : ∀ (items : List D) (a : α),
    (∀ d l a, I (d :: l) a → ∃ a' fr1, t d (F a) (X a) = some fr1 ∧ (b fr1 (X a) = .ok .nx (F a') (X a') ∨ b fr1 (X a) = .ok .ct (F a') (X a')) ∧ I l a') → I items a → ∃ a', I [] a' ∧ forL ok t b items (F a) (X a) = .ok .nx (F a') (X a')
  | [], a, _, hI => ⟨a, hI, by
      unfold forL
      exact if_pos (hok _ _ hI)⟩
  | d :: l, a, h, hI => by
    obtain ⟨a1, fr1, h1, h2, h3⟩ := h d l a hI
    obtain ⟨a2, k1, k2⟩ := forL_gen F X I hok l a1 h h3
    refine ⟨a2, k1, ?_⟩
    unfold forL
    rw [if_pos (hok _ _ hI), h1]
    dsimp only
    rcases h2 with h2 | h2 <;> (rw [h2]; exact k2)
theorem new_at {S T : Sto} (j : Nat) : (S ++ T)[S.length + j]? = T[j]? := by
  rw [List.getElem?_append_right (by omega), Nat.add_sub_cancel_left]
theorem new_at0 {S T : Sto} : (S ++ T)[S.length]? = T[0]? := new_at 0
theorem set_new {S T : Sto} {o : O} (j : Nat) : (S ++ T).set (S.length + j) o = S ++ T.set j o := by
  rw [List.set_append_right _ _ (by omega), Nat.add_sub_cancel_left]
/-- a def's end: one of the new objects is handed out -/
theorem gc_new {S T : Sto} {j : Nat} {o : O} (hj : T[j]? = some o) (h : o.und S.length = true) : gcO S (.ob (S.length + j)) (S ++ T) = .ok (.ob S.length) (S ++ [o]) := by
  unfold gcO
  rw [if_neg (fun z => by
    have z2 := of_decide_eq_true (show decide (S.length + j < S.length) = true from z.2)
    omega)]
  dsimp only
  rw [new_at, hj]
  dsimp only
  rw [if_pos ⟨und_app, by omega, h⟩, List.take_left]
namespace Kd
/-- a kind's part by number; any's part is any -/
def part (k : Kd) (i : Int) : Kd := if i = 1 then k.p1 else k.p2
theorem part_any (i : Int) : part any i = any := by unfold part; split <;> rfl
end Kd
/-- a use of a value of a word: spot, number, back -/
def Wr.uses : Wr → List (Int × Int × Bool)
  | fn => [(1, 1, true), (2, 2, false)]
  | pr => [(1, 1, false), (2, 2, false)]
  | bx => [(1, 1, false), (2, 1, true)]
  | _ => []
def useD (u : Int × Int × Bool) : D := .tup [.int u.1, .int u.2.1, .bl u.2.2]
/-- the borders of a part -/
def Bd.part (x : Bd) (i : Int) (back : Bool) : Bd := if back = true then ⟨x.b.part i, x.a.part i, x.l.turn⟩ else ⟨x.a.part i, x.b.part i, x.l⟩
def partsB (bs : List Bd) (i : Int) (back : Bool) : List Bd := if back = true then (bs.map fun x => x.part i true).reverse else bs.map fun x => x.part i false
/-- where a value of a word is stopped -/
def stopB : List Bd → Wr → Option Lb
  | [], _ => none
  | x :: r, w => if x.a = .any ∧ x.b ≠ .any ∧ x.b.wr ≠ w then some x.l else stopB r w
def stopD : Option Lb → D
  | none => .non
  | some l => .tup [l.d, .int l.side]
/-- what a crossing does to a value of a word, by its own form -/
def doesC (c : Cr) (w : Wr) : Option Lb := if c = .stay then none else match c.out, c.en with
  | some (l, v), .fail m => if v ≠ w then some l else some m
  | some (l, v), _ => if v ≠ w then some l else none
  | none, .fail m => some m
  | none, _ => none
def withinC (c : Cr) (i : Int) : Cr := match c.mid with
  | .same => .stay
  | .wr _ x y => if i = 1 then x else y
theorem stopD_pt (o : Option Lb) : (stopD o).pt = true := by cases o <;> rfl
theorem stopD_inj {o p : Option Lb} : stopD o = stopD p ↔ o = p := by
  cases o with
  | none => cases p with
    | none => simp [stopD]
    | some l => simp [stopD]
  | some l => cases p with
    | none => simp [stopD]
    | some m =>
      obtain ⟨a, b, c⟩ := l
      obtain ⟨d, e, f⟩ := m
      simp [stopD, Lb.d, and_assoc]
theorem stopD_dep (o : Option Lb) : (stopD o).dep ≤ 2 := by
  cases o with
  | none => decide +kernel
  | some l => show max (max 0 (max 0 0) + 1) (max 0 0) + 1 ≤ 2; decide
theorem stopD_ne {o p : Option Lb} {S : Sto} : aNe (stopD o) (stopD p) S = some (.bl (!decide (o = p)), S) :=
  (eq_pt (S := S) (stopD_pt o) (stopD_pt p) (.inl (by have := stopD_dep o; omega)) (by rw [decide_eq_true_iff]; exact stopD_inj.symm)).2
theorem stopD_non {o : Option Lb} : DL.isNon (stopD o) = decide (o = none) := by cases o <;> rfl
/-- the words of the values that are tried -/
def wordsB (k : Kd) : List Wr := if k = .any then [.num, .truth, .fn, .pr, .bx] else [k.wr]
/-- a row of borders and a crossing that does what they do -/
structure Does (Ok : List Bd → Cr → Prop) : Prop where
  ne : ∀ {bs c}, Ok bs c → bs ≠ []
  le : ∀ {bs c}, Ok bs c → bs.length ≤ 100
  deep : ∀ {bs c}, Ok bs c → ∀ x ∈ bs, x.a.deep ≤ 100
  stay : ∀ {bs c}, Ok bs c → (∀ x ∈ bs, x.a = x.b) → c = .stay
  does : ∀ {x bs c w}, Ok (x :: bs) c → ¬ (∀ y ∈ x :: bs, y.a = y.b) → w ∈ wordsB x.a → doesC c w = stopB (x :: bs) w
  fit : ∀ {x bs c w}, Ok (x :: bs) c → w ∈ wordsB x.a → stopB (x :: bs) w = none → ∀ y ∈ x :: bs, (y.a = .any ∨ y.a.wr = w) ∧ (y.b = .any ∨ y.b.wr = w)
  within : ∀ {x bs c w}, Ok (x :: bs) c → ¬ (∀ y ∈ x :: bs, y.a = y.b) → w ∈ wordsB x.a → stopB (x :: bs) w = none → ∀ u ∈ w.uses, Ok (partsB (x :: bs) u.2.1 u.2.2) (withinC c u.1)
end
end DL
/-! DK, part i: the crossing of one border does what the border does. -/
namespace DL
open PySem PySem.Spec PyProof.Rows L2
noncomputable section
theorem mkC_out (o : Option (Lb × Wr)) (m : Md) (e : En) : (mkC o m e).out = o := by cases m <;> rfl
theorem mkC_mid (o : Option (Lb × Wr)) (m : Md) (e : En) : (mkC o m e).mid = m := by cases m <;> rfl
theorem mkC_en (o : Option (Lb × Wr)) (m : Md) (e : En) : (mkC o m e).en = e := by cases m <;> rfl
/-- a middle's part -/
def withM (m : Md) (i : Int) : Cr := match m with
  | .same => .stay
  | .wr _ x y => if i = 1 then x else y
theorem withM_wrap (w : Wr) (c d : Cr) (i : Int) : withM (wrapC w c d) i = if i = 1 then c else d := by
  unfold wrapC
  by_cases h : c = .stay ∧ d = .stay
  · rw [if_pos h, h.1, h.2]; show Cr.stay = _; split <;> rfl
  · rw [if_neg h]; rfl
/-- the three ways of a border between unlike kinds -/
theorem btw_any {n : Nat} {a : Kd} {l : Lb} (h : a ≠ .any) : btw (n + 1) a .any l = mkC none (midK (btw n) a a.opened l) (.into a.wr) := by
  unfold btw
  rw [if_neg h, if_pos rfl]
  unfold formedC
  rw [if_neg (by simp [En.fails]), if_neg (by simp)]
theorem any_btw {n : Nat} {b : Kd} {l : Lb} (h : b ≠ .any) : btw (n + 1) .any b l = mkC (some (l, b.wr)) (midK (btw n) b.opened b l) .no := by
  unfold btw
  rw [if_neg (Ne.symm h), if_neg h, if_pos rfl]
  unfold formedC
  rw [if_neg (by simp [En.fails]), if_neg (by simp)]
theorem btw_mid {n : Nat} {a b : Kd} {l : Lb} (h1 : a ≠ .any) (h2 : b ≠ .any) (h3 : a ≠ b) : (btw (n + 1) a b l = .stay ∧ midK (btw n) a b l = .same) ∨ btw (n + 1) a b l = mkC none (midK (btw n) a b l) .no := by
  unfold btw
  rw [if_neg h3, if_neg h2, if_neg h1]
  unfold formedC
  rw [if_neg (by simp [En.fails])]
  by_cases h : midK (btw n) a b l = .same
  · exact .inl ⟨if_pos ⟨rfl, h, rfl⟩, h⟩
  · exact .inr (if_neg fun z => h z.2.1)
theorem doesC_mk (o : Option (Lb × Wr)) (m : Md) (e : En) (w : Wr) : doesC (mkC o m e) w = match o, e with
  | some (l, v), .fail m => if v ≠ w then some l else some m
  | some (l, v), _ => if v ≠ w then some l else none
  | none, .fail m => some m
  | none, _ => none := by
  unfold doesC
  rw [if_neg (mkC_ne o m e), mkC_out, mkC_en]
  all_goals (cases o <;> cases e <;> rfl)
theorem withinC_mk (o : Option (Lb × Wr)) (m : Md) (e : En) (i : Int) : withinC (mkC o m e) i = withM m i := by
  unfold withinC
  rw [mkC_mid]
  rfl
theorem Kd.alike_wr {a b : Kd} (h : a.alike b = true) (h1 : a ≠ .any) (h2 : b ≠ .any) : a.wr = b.wr := by
  cases a <;> cases b <;> first | rfl | exact absurd rfl h1 | exact absurd rfl h2 | (simp [Kd.alike] at h)
/-- one border, and its crossing -/
def One (bs : List Bd) (c : Cr) : Prop := ∃ n x, bs = [x] ∧ x.a.alike x.b = true ∧ x.a.deep ≤ n ∧ x.b.deep ≤ n ∧ n ≤ 100 ∧ c = btw n x.a x.b x.l
theorem one_within {m : Nat} {a b : Kd} {l : Lb} {w : Wr} (h : a.alike b = true) (ha : a.deep ≤ m + 1) (hb : b.deep ≤ m + 1) (hm : m + 1 ≤ 100) (hne : a ≠ b) (fa : a = .any ∨ a.wr = w) (fb : b = .any ∨ b.wr = w) :
    ∀ u ∈ w.uses, One (partsB [⟨a, b, l⟩] u.2.1 u.2.2) (withinC (btw (m + 1) a b l) u.1) := by
  have hdp := fun (k : Kd) => k.deep_pos
  have key : ∀ (p q : Kd) (l' : Lb) (c : Cr), p.alike q = true → p.deep ≤ m → q.deep ≤ m → c = btw m p q l' → ∀ bs, bs = [⟨p, q, l'⟩] → One bs c := fun p q l' c h1 h2 h3 h4 bs hbs => ⟨m, _, hbs, h1, h2, h3, by omega, h4⟩
  by_cases a1 : a = .any
  · subst a1
    have b1 : b ≠ .any := fun z => hne z.symm
    rw [any_btw b1]
    intro u hu
    rw [withinC_mk]
    rcases fb with fb | fb
    · exact absurd fb b1
    subst fb
    cases b with
    | num => cases hu
    | truth => cases hu
    | any => exact absurd rfl b1
    | fn r s =>
      have hb : max r.deep s.deep + 1 ≤ m + 1 := hb
      have hr := hdp r
      rcases List.mem_cons.mp hu with rfl | hu
      · exact key r .any l.turn _ (Kd.alike_any r) (by omega) (by show 1 ≤ m; omega) (withM_wrap _ _ _ _) _ rfl
      · rcases List.mem_cons.mp hu with rfl | hu
        · exact key .any s l _ (Kd.any_alike s) (by show 1 ≤ m; omega) (by omega) (withM_wrap _ _ _ _) _ rfl
        · cases hu
    | pr r s =>
      have hb : max r.deep s.deep + 1 ≤ m + 1 := hb
      have hr := hdp r
      rcases List.mem_cons.mp hu with rfl | hu
      · exact key .any r l _ (Kd.any_alike r) (by show 1 ≤ m; omega) (by omega) (withM_wrap _ _ _ _) _ rfl
      · rcases List.mem_cons.mp hu with rfl | hu
        · exact key .any s l _ (Kd.any_alike s) (by show 1 ≤ m; omega) (by omega) (withM_wrap _ _ _ _) _ rfl
        · cases hu
    | bx r =>
      have hb : r.deep + 1 ≤ m + 1 := hb
      have hr := hdp r
      rcases List.mem_cons.mp hu with rfl | hu
      · exact key .any r l _ (Kd.any_alike r) (by show 1 ≤ m; omega) (by omega) (withM_wrap _ _ _ _) _ rfl
      · rcases List.mem_cons.mp hu with rfl | hu
        · exact key r .any l.turn _ (Kd.alike_any r) (by omega) (by show 1 ≤ m; omega) (withM_wrap _ _ _ _) _ rfl
        · cases hu
  · by_cases b1 : b = .any
    · subst b1
      rw [btw_any a1]
      intro u hu
      rw [withinC_mk]
      rcases fa with fa | fa
      · exact absurd fa a1
      subst fa
      cases a with
      | num => cases hu
      | truth => cases hu
      | any => exact absurd rfl a1
      | fn r s =>
        have ha : max r.deep s.deep + 1 ≤ m + 1 := ha
        have hr := hdp r
        rcases List.mem_cons.mp hu with rfl | hu
        · exact key .any r l.turn _ (Kd.any_alike r) (by show 1 ≤ m; omega) (by omega) (withM_wrap _ _ _ _) _ rfl
        · rcases List.mem_cons.mp hu with rfl | hu
          · exact key s .any l _ (Kd.alike_any s) (by omega) (by show 1 ≤ m; omega) (withM_wrap _ _ _ _) _ rfl
          · cases hu
      | pr r s =>
        have ha : max r.deep s.deep + 1 ≤ m + 1 := ha
        have hr := hdp r
        rcases List.mem_cons.mp hu with rfl | hu
        · exact key r .any l _ (Kd.alike_any r) (by omega) (by show 1 ≤ m; omega) (withM_wrap _ _ _ _) _ rfl
        · rcases List.mem_cons.mp hu with rfl | hu
          · exact key s .any l _ (Kd.alike_any s) (by omega) (by show 1 ≤ m; omega) (withM_wrap _ _ _ _) _ rfl
          · cases hu
      | bx r =>
        have ha : r.deep + 1 ≤ m + 1 := ha
        have hr := hdp r
        rcases List.mem_cons.mp hu with rfl | hu
        · exact key r .any l _ (Kd.alike_any r) (by omega) (by show 1 ≤ m; omega) (withM_wrap _ _ _ _) _ rfl
        · rcases List.mem_cons.mp hu with rfl | hu
          · exact key .any r l.turn _ (Kd.any_alike r) (by show 1 ≤ m; omega) (by omega) (withM_wrap _ _ _ _) _ rfl
          · cases hu
    · intro u hu
      have hwc : withinC (btw (m + 1) a b l) u.1 = withM (midK (btw m) a b l) u.1 := by
        rcases btw_mid (n := m) (l := l) a1 b1 hne with ⟨e1, e2⟩ | e
        · rw [e1, e2]; rfl
        · rw [e, withinC_mk]
      rw [hwc]
      rcases fa with fa | fa
      · exact absurd fa a1
      rcases fb with fb | fb
      · exact absurd fb b1
      subst fa
      cases a with
      | num => cases hu
      | truth => cases hu
      | any => exact absurd rfl a1
      | fn r s =>
        cases b with
        | fn r' s' =>
          have ha : max r.deep s.deep + 1 ≤ m + 1 := ha
          have hb : max r'.deep s'.deep + 1 ≤ m + 1 := hb
          simp [Kd.alike] at h
          rcases List.mem_cons.mp hu with rfl | hu
          · exact key r' r l.turn _ (by rw [Kd.alike_symm]; exact h.1) (by omega) (by omega) (withM_wrap _ _ _ _) _ rfl
          · rcases List.mem_cons.mp hu with rfl | hu
            · exact key s s' l _ h.2 (by omega) (by omega) (withM_wrap _ _ _ _) _ rfl
            · cases hu
        | _ => first | exact absurd rfl b1 | cases fb
      | pr r s =>
        cases b with
        | pr r' s' =>
          have ha : max r.deep s.deep + 1 ≤ m + 1 := ha
          have hb : max r'.deep s'.deep + 1 ≤ m + 1 := hb
          simp [Kd.alike] at h
          rcases List.mem_cons.mp hu with rfl | hu
          · exact key r r' l _ h.1 (by omega) (by omega) (withM_wrap _ _ _ _) _ rfl
          · rcases List.mem_cons.mp hu with rfl | hu
            · exact key s s' l _ h.2 (by omega) (by omega) (withM_wrap _ _ _ _) _ rfl
            · cases hu
        | _ => first | exact absurd rfl b1 | cases fb
      | bx r =>
        cases b with
        | bx r' =>
          have ha : r.deep + 1 ≤ m + 1 := ha
          have hb : r'.deep + 1 ≤ m + 1 := hb
          simp [Kd.alike] at h
          rcases List.mem_cons.mp hu with rfl | hu
          · exact key r r' l _ h (by omega) (by omega) (withM_wrap _ _ _ _) _ rfl
          · rcases List.mem_cons.mp hu with rfl | hu
            · exact key r' r l.turn _ (by rw [Kd.alike_symm]; exact h) (by omega) (by omega) (withM_wrap _ _ _ _) _ rfl
            · cases hu
        | _ => first | exact absurd rfl b1 | cases fb
theorem one_does : Does One where
  ne := fun ⟨n, x, e, _⟩ z => by rw [e] at z; cases z
  le := fun ⟨n, x, e, _⟩ => by rw [e]; show 1 ≤ 100; omega
  deep := fun ⟨n, x, e, _, h, _, h', _⟩ y hy => by rw [e] at hy; rw [List.mem_singleton.mp hy]; omega
  stay := fun ⟨n, x, e, _, _, _, _, hc⟩ h => by
    rw [hc, h x (by rw [e]; exact List.mem_cons_self)]
    cases n with
    | zero => rfl
    | succ n => unfold btw; rw [if_pos rfl]
  does := fun {x bs c w} h' h hw => by
    obtain ⟨n, y, e, hal, ha, hb, _, hc⟩ := h'
    obtain ⟨rfl, rfl⟩ : y = x ∧ bs = [] := by cases e; exact ⟨rfl, rfl⟩
    clear e
    have hne : y.a ≠ y.b := fun z => h fun v hv => by rw [List.mem_singleton.mp hv]; exact z
    subst hc
    obtain ⟨a, b, l⟩ := y
    have hap := a.deep_pos
    dsimp only at *
    cases n with
    | zero => omega
    | succ n =>
      by_cases a1 : a = .any
      · subst a1
        have b1 : b ≠ .any := fun z => hne z.symm
        rw [any_btw b1, doesC_mk]
        by_cases q : b.wr = w
        · simp [stopB, q, b1]
        · simp [stopB, q, b1]
      · by_cases b1 : b = .any
        · subst b1
          rw [btw_any a1, doesC_mk]
          simp [stopB]
        · have hz : stopB [⟨a, b, l⟩] w = none := by simp [stopB, a1]
          rw [hz]
          rcases btw_mid (n := n) (l := l) a1 b1 hne with ⟨e1, e2⟩ | e
          · rw [e1]; rfl
          · rw [e, doesC_mk]
  fit := fun {x bs c w} h' hw hs z hz => by
    obtain ⟨n, y, e, hal, _⟩ := h'
    obtain ⟨rfl, rfl⟩ : y = x ∧ bs = [] := by cases e; exact ⟨rfl, rfl⟩
    clear e
    rw [List.mem_singleton.mp hz]
    obtain ⟨a, b, l⟩ := y
    dsimp only at *
    unfold wordsB at hw
    by_cases a1 : a = .any
    · refine ⟨.inl a1, ?_⟩
      by_cases b1 : b = .any
      · exact .inl b1
      · refine .inr (Classical.not_not.mp fun q => ?_)
        unfold stopB at hs
        rw [if_pos ⟨a1, b1, q⟩] at hs
        cases hs
    · rw [if_neg a1] at hw
      have hw := List.mem_singleton.mp hw
      refine ⟨.inr hw.symm, ?_⟩
      by_cases b1 : b = .any
      · exact .inl b1
      · exact .inr (by rw [hw, Kd.alike_wr hal a1 b1])
  within := fun {x bs c w} h' h hw hs u hu => by
    have hfit : ∀ y ∈ x :: bs, (y.a = .any ∨ y.a.wr = w) ∧ (y.b = .any ∨ y.b.wr = w) := by
      obtain ⟨n, y, e, hal, _⟩ := h'
      obtain ⟨rfl, rfl⟩ : y = x ∧ bs = [] := by cases e; exact ⟨rfl, rfl⟩
      clear e
      intro z hz
      rw [List.mem_singleton.mp hz]
      obtain ⟨a, b, l⟩ := y
      dsimp only at *
      unfold wordsB at hw
      by_cases a1 : a = .any
      · refine ⟨.inl a1, ?_⟩
        by_cases b1 : b = .any
        · exact .inl b1
        · refine .inr (Classical.not_not.mp fun q => ?_)
          unfold stopB at hs
          rw [if_pos ⟨a1, b1, q⟩] at hs
          cases hs
      · rw [if_neg a1] at hw
        have hw := List.mem_singleton.mp hw
        refine ⟨.inr hw.symm, ?_⟩
        by_cases b1 : b = .any
        · exact .inl b1
        · exact .inr (by rw [hw, Kd.alike_wr hal a1 b1])
    obtain ⟨n, y, e, hal, ha, hb, hn, hc⟩ := h'
    obtain ⟨rfl, rfl⟩ : y = x ∧ bs = [] := by cases e; exact ⟨rfl, rfl⟩
    clear e
    subst hc
    have hne : y.a ≠ y.b := fun z => h fun v hv => by rw [List.mem_singleton.mp hv]; exact z
    have hf := hfit y List.mem_cons_self
    have hap := y.a.deep_pos
    cases n with
    | zero => omega
    | succ m => exact one_within hal ha hb hn hne hf.1 hf.2 u hu
end
end DL
/-! DK, part j: repr of a crossing. -/
namespace DL
open PySem PySem.Spec PyProof.Rows L2
noncomputable section
def Shw (d : D) (n : Nat) : Prop := d.pd.showable = true ∧ d.pd.hasDict = false ∧ d.pd.shown.length ≤ n
def ShwL (ds : List D) (n : Nat) : Prop := PyData.showableAll (pdL ds) = true ∧ PyData.hasDictAll (pdL ds) = false ∧ piled (PyData.shownAll (pdL ds)) ≤ n
theorem ShwL.nil : ShwL [] 0 := ⟨rfl, rfl, Nat.le_refl _⟩
theorem ShwL.cons {d : D} {ds : List D} {n m : Nat} (h : Shw d n) (h' : ShwL ds m) : ShwL (d :: ds) (n + 2 + m) := by
  obtain ⟨h1, h2, h3⟩ := h
  obtain ⟨k1, k2, k3⟩ := h'
  refine ⟨?_, ?_, ?_⟩
  · unfold pdL PyData.showableAll; rw [h1, k1]; rfl
  · unfold pdL PyData.hasDictAll; rw [h2, k2]; rfl
  · unfold pdL PyData.shownAll
    show (d.pd.shown.length + 2) + piled (PyData.shownAll (pdL ds)) ≤ _
    omega
theorem tupleText_le (ts : List Str) : (tupleText ts).length ≤ piled ts + 3 := by
  unfold tupleText
  rw [app_len, app_len]
  have e1 : ((("(" : String) : Str)).length = 1 := by decide +kernel
  have e2 : (((if ts.length == 1 then ",)" else ")" : String) : Str)).length ≤ 2 := by split <;> decide +kernel
  rw [e1]
  by_cases h : ts = []
  · subst h
    have : (Str.join ", " ([] : List Str)).length = 0 := by decide +kernel
    omega
  · have := join_length_add ts h
    omega
theorem Shw.tup {ds : List D} {n : Nat} (h : ShwL ds n) : Shw (.tup ds) (n + 3) := by
  obtain ⟨h1, h2, h3⟩ := h
  refine ⟨?_, ?_, ?_⟩
  · show PyData.showable (.tuple (pdL ds)) = true
    unfold PyData.showable; exact h1
  · show PyData.hasDict (.tuple (pdL ds)) = false
    unfold PyData.hasDict; exact h2
  · show (PyData.shown (.tuple (pdL ds))).length ≤ _
    unfold PyData.shown
    have := tupleText_le (PyData.shownAll (pdL ds))
    omega
theorem Shw.mono {d : D} {n m : Nat} (h : Shw d n) (q : n ≤ m) : Shw d m := ⟨h.1, h.2.1, Nat.le_trans h.2.2 q⟩
theorem shw_int {i : Int} (h0 : 0 ≤ i) (h1 : i ≤ 119) : Shw (.int i) 3 := by
  have key : ∀ n : Fin 120, PyData.showable (.int (n.val : Int)) = true ∧ PyData.hasDict (.int (n.val : Int)) = false ∧ (PyData.shown (.int (n.val : Int))).length ≤ 3 := by decide +kernel
  have := key ⟨i.toNat, by omega⟩
  rw [show ((i.toNat : Nat) : Int) = i by omega] at this
  exact this
theorem shw_go : Shw (.str "go") 4 := by unfold Shw; decide +kernel
theorem shw_in : Shw (.str "in") 4 := by unfold Shw; decide +kernel
theorem shw_fail : Shw (.str "fail") 6 := by unfold Shw; decide +kernel
theorem shw_wr (w : Wr) : Shw (.str w.s) 7 := by
  cases w <;> (unfold Shw; decide +kernel)
theorem shw_non : Shw .non 4 := by unfold Shw; decide +kernel
theorem shw_stay : Shw Cr.stay.d 9 := by unfold Shw; decide +kernel
theorem shw_same : Shw Md.same.d 9 := by unfold Shw; decide +kernel
theorem shw_lb {l : Lb} (h : l.ok) : Shw l.d 13 := Shw.tup (.cons (shw_int h.1.1 h.1.2) (.cons (shw_int h.2.1.1 (by have := h.2.1.2; omega)) .nil))
theorem shw_out {o : Option (Lb × Wr)} {a : Kd} {w : Wr} (h : OutT a w o) : Shw (outD o) 32 := by
  cases o with
  | none => exact shw_non.mono (by omega)
  | some p =>
    obtain ⟨l, v⟩ := p
    obtain ⟨_, _, hl⟩ := h
    exact Shw.tup (.cons (shw_lb hl) (.cons (shw_int hl.2.2.1 (by have := hl.2.2.2; omega)) (.cons (shw_wr v) .nil)))
theorem shw_end (e : En) (h : ∀ l, e = .fail l → l.ok) : Shw e.d 31 := by
  cases e with
  | no => exact shw_non.mono (by omega)
  | into v => exact (Shw.tup (.cons shw_in (.cons (shw_wr v) .nil))).mono (by omega)
  | fail l =>
    have hl := h l rfl
    exact Shw.tup (.cons shw_fail (.cons (shw_lb hl) (.cons (shw_int hl.2.2.1 (by have := hl.2.2.2; omega)) .nil)))
theorem Ty.shw : ∀ {n : Nat} {a b : Kd} {c : Cr}, Ty n a b c → Shw c.d (150 * c.size)
  | 0, a, b, c, h => by
    rw [h.1]
    exact shw_stay.mono (by decide)
  | n + 1, a, b, c, h => by
    rcases h with h | ⟨h, g⟩
    · rw [h.1]
      exact shw_stay.mono (by decide)
    · obtain ⟨w, ho⟩ := g.out
      have he : ∀ l, c.en = .fail l → l.ok := fun l e => by
        rw [e] at g
        exact g.2.1
      rw [Cr.d_go h]
      have hso : 1 ≤ c.size := by cases c <;> simp [Cr.size]
      by_cases hm : c.mid = .same
      · rw [hm]
        exact (Shw.tup (.cons shw_go (.cons (shw_out ho) (.cons shw_same (.cons (shw_end _ he) .nil))))).mono (by omega)
      · have hf : ¬ c.en.fails = true := fun z => by
          cases q : c.en with
          | fail l => rw [q] at g; exact hm g.1
          | no => rw [q] at z; cases z
          | into v => rw [q] at z; cases z
        obtain ⟨w', _, _, hM, _⟩ := g.nofail hf
        cases c with
        | stay => exact absurd rfl h
        | leaf o e => exact absurd rfl hm
        | wrap o v x y e =>
          have hM : MidT (Ty n) a b w' (.wr v x y) := hM
          obtain ⟨rfl, _, h2⟩ := hM
          have hxy : Shw x.d (150 * x.size) ∧ Shw y.d (150 * y.size) := by
            cases v with
            | fn => exact ⟨Ty.shw h2.1, Ty.shw h2.2⟩
            | pr => exact ⟨Ty.shw h2.1, Ty.shw h2.2⟩
            | bx => exact ⟨Ty.shw h2.2.1, Ty.shw h2.2.2⟩
            | num => exact h2.elim
            | truth => exact h2.elim
          have hmid : Shw (Md.wr v x y).d (7 + 2 + (150 * x.size + 2 + (150 * y.size + 2 + 0)) + 3) := Shw.tup (.cons (shw_wr v) (.cons hxy.1 (.cons hxy.2 .nil)))
          refine (Shw.tup (.cons shw_go (.cons (shw_out ho) (.cons hmid (.cons (shw_end _ he) .nil))))).mono ?_
          show _ ≤ 150 * (x.size + y.size + 1)
          omega
theorem Ty.repr {n : Nat} {a b : Kd} {c : Cr} {S : Sto} (h : Ty n a b c) (hn : n ≤ 8) : fRepr [c.d] S = some (.str c.d.pd.shown, S) := by
  have h1 := Ty.shw h
  have h2 := h.high
  have h3 : (2 : Nat) ^ (n + 1) ≤ 2 ^ 9 := Nat.pow_le_pow_right (by decide) (by omega)
  have h4 := (toP_pt (f := obP 11 S) c.d c.pt).2
  have h5 := Cr.dep c
  have hok : reprOk c.d.pd := ⟨⟨h1.1, h1.2.1⟩, by omega, by have := h1.2.2; rw [sizeLine_eq]; omega⟩
  unfold fRepr
  dsimp only
  rw [dP_pt c.pt]
  dsimp only
  rw [if_pos hok]
end
end DL
/-! DK, part n: things of any sort, looked at as kinds; levels of parts. -/
namespace DL
open PySem PySem.Spec PyProof.Rows L2
noncomputable section

/-! ### things -/
mutual
/-- a thing whose type is told, all its parts too -/
def thg (S : Sto) : D → Bool
  | .non => true
  | .bl _ => true
  | .int _ => true
  | .str _ => true
  | .tup xs => thgL S xs
  | .ob n => (match S[n]? with
    | some (.lst _) => true
    | some (.dk _) => true
    | _ => false)
  | .rl _ => false
  | .kd _ _ => false
  | .ty _ => false
  | .gl _ => false
  | .xo _ _ _ => false
def thgL (S : Sto) : List D → Bool
  | [] => true
  | d :: ds => thg S d && thgL S ds
end
theorem thgL_mem {S : Sto} : ∀ {ds : List D}, thgL S ds = true ↔ ∀ d ∈ ds, thg S d = true
  | [] => by simp [thgL]
  | d :: ds => by
    unfold thgL
    rw [Bool.and_eq_true, thgL_mem, List.forall_mem_cons]
def isTpl : D → Bool
  | .tup _ => true
  | _ => false
def isStr : D → Bool
  | .str _ => true
  | _ => false
theorem thg_ty {S : Sto} {d : D} (h : thg S d = true) : ∃ t, tyD d S = some t ∧ isTy t "tuple" = isTpl d ∧ isTy t "str" = isStr d := by
  cases d with
  | non => exact ⟨"NoneType", rfl, by kernel_rfl, by kernel_rfl⟩
  | bl b => exact ⟨"bool", rfl, by kernel_rfl, by kernel_rfl⟩
  | int i => exact ⟨"int", rfl, by kernel_rfl, by kernel_rfl⟩
  | str x => exact ⟨"str", rfl, by kernel_rfl, by kernel_rfl⟩
  | tup xs => exact ⟨"tuple", rfl, by kernel_rfl, by kernel_rfl⟩
  | ob n =>
    unfold thg at h
    unfold tyD
    dsimp only
    cases e : S[n]? with
    | none => rw [e] at h; cases h
    | some o =>
      rw [e] at h
      cases o with
      | lst xs => exact ⟨"list", rfl, by kernel_rfl, by kernel_rfl⟩
      | dk xs => exact ⟨"dict", rfl, by kernel_rfl, by kernel_rfl⟩
      | ins c fs => cases h
  | rl xs => cases h
  | kd a b => cases h
  | ty a => cases h
  | gl a => cases h
  | xo a b c => cases h
theorem thg_tup {S : Sto} {d : D} (h : thg S d = true) : fIsi [d, .ty "tuple"] S = some (.bl (isTpl d), S) := by
  obtain ⟨t, h1, h2, h3⟩ := thg_ty h
  rw [isi_ok h1 (by decide), h2]
theorem thg_str {S : Sto} {d : D} (h : thg S d = true) : fIsi [d, .ty "str"] S = some (.bl (isStr d), S) := by
  obtain ⟨t, h1, h2, h3⟩ := thg_ty h
  rw [isi_ok h1 (by decide), h3]
mutual
theorem thg_und {S : Sto} : ∀ d : D, thg S d = true → d.und S.length = true
  | .non, _ => rfl
  | .bl _, _ => rfl
  | .int _, _ => rfl
  | .str _, _ => rfl
  | .tup xs, h => by unfold thg at h; unfold D.und; exact thgL_und xs h
  | .ob n, h => by
    unfold thg at h
    unfold D.und
    cases e : S[n]? with
    | none => rw [e] at h; cases h
    | some o => exact decide_eq_true (List.getElem?_eq_some_iff.mp e).1
  | .rl _, h => by cases h
  | .kd _ _, h => by cases h
  | .ty _, h => by cases h
  | .gl _, h => by cases h
  | .xo _ _ _, h => by cases h
theorem thgL_und {S : Sto} : ∀ ds : List D, thgL S ds = true → undL S.length ds = true
  | [], _ => rfl
  | d :: ds, h => by
    unfold thgL at h
    rw [Bool.and_eq_true] at h
    unfold undL
    rw [thg_und d h.1, thgL_und ds h.2]
    rfl
end
mutual
/-- .. also where more stands -/
theorem thg_mono {S S' : Sto} (hs : ∀ (n : Nat) (o : O), S[n]? = some o → ∃ o', S'[n]? = some o' ∧ (o = o' ∨ (∃ a, o = .dk a) ∧ ∃ b, o' = .dk b)) : ∀ d : D, thg S d = true → thg S' d = true
  | .non, _ => rfl
  | .bl _, _ => rfl
  | .int _, _ => rfl
  | .str _, _ => rfl
  | .tup xs, h => by unfold thg at h ⊢; exact thgL_mono hs xs h
  | .ob n, h => by
    unfold thg at h ⊢
    cases e : S[n]? with
    | none => rw [e] at h; cases h
    | some o =>
      rw [e] at h
      obtain ⟨o', e', q⟩ := hs n o e
      rw [e']
      rcases q with rfl | ⟨_, b, rfl⟩
      · exact h
      · rfl
  | .rl _, h => by cases h
  | .kd _ _, h => by cases h
  | .ty _, h => by cases h
  | .gl _, h => by cases h
  | .xo _ _ _, h => by cases h
theorem thgL_mono {S S' : Sto} (hs : ∀ (n : Nat) (o : O), S[n]? = some o → ∃ o', S'[n]? = some o' ∧ (o = o' ∨ (∃ a, o = .dk a) ∧ ∃ b, o' = .dk b)) : ∀ ds : List D, thgL S ds = true → thgL S' ds = true
  | [], _ => rfl
  | d :: ds, h => by
    unfold thgL at h ⊢
    rw [Bool.and_eq_true] at h
    rw [thg_mono hs d h.1, thgL_mono hs ds h.2]
    rfl
end
theorem thg_kd {S : Sto} : ∀ k : Kd, thg S k.d = true
  | .num => rfl | .truth => rfl | .any => rfl
  | .fn a b => by show (true && (thg S a.d && (thg S b.d && true))) = true; rw [thg_kd a, thg_kd b]; rfl
  | .pr a b => by show (true && (thg S a.d && (thg S b.d && true))) = true; rw [thg_kd a, thg_kd b]; rfl
  | .bx a => by show (true && (thg S a.d && true)) = true; rw [thg_kd a]; rfl
/-- a tuple and the empty one -/
theorem eq_nil {S : Sto} {xs : List D} : aEq (.tup xs) (.tup []) S = some (.bl xs.isEmpty, S) := by
  have hb : dP S (.tup []) = some (.tuple []) := rfl
  have he : (PyData.tuple []).depth = 1 := by decide +kernel
  unfold aEq eqP
  rw [hb]
  cases q : dP S (.tup xs) with
  | none => rfl
  | some p =>
    dsimp only
    rw [if_pos (by rw [he]; omega)]
    unfold dP toP at q
    cases q2 : toPs (obP 12 S) xs with
    | none => rw [q2] at q; cases q
    | some ps =>
      rw [q2] at q
      cases q
      cases xs with
      | nil => cases q2; rfl
      | cons x r =>
        unfold toPs at q2
        split at q2
        · cases q2
          simp [PyData.eqv, PyData.eqvAll]
        · cases q2

/-! ### kinds among things -/
abbrev kWords : List Str := ["num", "truth", "any", "fun", "pair", "box"]
abbrev kArs : List D := [.int 0, .int 0, .int 0, .int 2, .int 2, .int 1]
/-- how many parts a word wants -/
def arOf (w : Str) : Option Nat := if w = "num" then some 0 else if w = "truth" then some 0 else if w = "any" then some 0 else if w = "fun" then some 2 else if w = "pair" then some 2 else if w = "box" then some 1 else none
theorem kd_ar {w : Str} : kdGet kWords kArs w = (arOf w).map fun n => .int n := by
  unfold kdGet arOf
  show List.lookup w [("num", D.int 0), ("truth", D.int 0), ("any", D.int 0), ("fun", D.int 2), ("pair", D.int 2), ("box", D.int 1)] = _
  by_cases h1 : w = "num"
  · subst h1; rw [if_pos rfl]; rfl
  rw [if_neg h1]
  by_cases h2 : w = "truth"
  · subst h2; rw [if_pos rfl]; kernel_rfl
  rw [if_neg h2]
  by_cases h3 : w = "any"
  · subst h3; rw [if_pos rfl]; kernel_rfl
  rw [if_neg h3]
  by_cases h4 : w = "fun"
  · subst h4; rw [if_pos rfl]; kernel_rfl
  rw [if_neg h4]
  by_cases h5 : w = "pair"
  · subst h5; rw [if_pos rfl]; kernel_rfl
  rw [if_neg h5]
  by_cases h6 : w = "box"
  · subst h6; rw [if_pos rfl]; kernel_rfl
  rw [if_neg h6]
  have hb : ∀ z : Str, w ≠ z → (w == z) = false := fun z h => by simpa using h
  simp only [List.lookup_cons, hb _ h1, hb _ h2, hb _ h3, hb _ h4, hb _ h5, hb _ h6]
  rfl
theorem ar_word (k : Kd) : arOf k.word = some k.parts.length := by cases k <;> kernel_rfl
theorem ar_cases {w : Str} {n : Nat} (h : arOf w = some n) : (n = 0 ∧ (w = "num" ∨ w = "truth" ∨ w = "any")) ∨ (n = 2 ∧ (w = "fun" ∨ w = "pair")) ∨ (n = 1 ∧ w = "box") := by
  unfold arOf at h
  split at h
  · cases h; exact .inl ⟨rfl, .inl (by assumption)⟩
  split at h
  · cases h; exact .inl ⟨rfl, .inr (.inl (by assumption))⟩
  split at h
  · cases h; exact .inl ⟨rfl, .inr (.inr (by assumption))⟩
  split at h
  · cases h; exact .inr (.inl ⟨rfl, .inl (by assumption)⟩)
  split at h
  · cases h; exact .inr (.inl ⟨rfl, .inr (by assumption)⟩)
  split at h
  · cases h; exact .inr (.inr ⟨rfl, by assumption⟩)
  · cases h
/-- a thing's form, so deep -/
def fm : Nat → D → Bool
  | n + 1, .tup (.str w :: ps) => decide (arOf w = some ps.length) && ps.all (fm n)
  | _, _ => false
theorem fm_zero (d : D) : fm 0 d = false := rfl
theorem fm_kd : ∀ {n : Nat} {d : D}, fm n d = true → ∃ k : Kd, d = k.d ∧ k.deep ≤ n
  | 0, d, h => by cases h
  | n + 1, d, h => by
    cases d with
    | tup xs =>
      cases xs with
      | nil => cases h
      | cons x ps =>
        cases x with
        | str w =>
          unfold fm at h
          rw [Bool.and_eq_true, decide_eq_true_eq, List.all_eq_true] at h
          obtain ⟨h1, h2⟩ := h
          rcases ar_cases h1 with ⟨hn, hw⟩ | ⟨hn, hw⟩ | ⟨hn, hw⟩
          · have : ps = [] := List.length_eq_zero_iff.mp hn
            subst this
            rcases hw with rfl | rfl | rfl
            · exact ⟨.num, rfl, by show 1 ≤ n + 1; omega⟩
            · exact ⟨.truth, rfl, by show 1 ≤ n + 1; omega⟩
            · exact ⟨.any, rfl, by show 1 ≤ n + 1; omega⟩
          · match ps, hn, h2 with
            | [a, b], _, h2 =>
              obtain ⟨ka, rfl, ha⟩ := fm_kd (h2 a (by simp))
              obtain ⟨kb, rfl, hb⟩ := fm_kd (h2 b (by simp))
              rcases hw with rfl | rfl
              · exact ⟨.fn ka kb, rfl, by show max ka.deep kb.deep + 1 ≤ n + 1; omega⟩
              · exact ⟨.pr ka kb, rfl, by show max ka.deep kb.deep + 1 ≤ n + 1; omega⟩
          · match ps, hn, h2 with
            | [a], _, h2 =>
              obtain ⟨ka, rfl, ha⟩ := fm_kd (h2 a (by simp))
              subst hw
              exact ⟨.bx ka, rfl, by show ka.deep + 1 ≤ n + 1; omega⟩
        | _ => cases h
    | _ => cases h
theorem kd_fm : ∀ {n : Nat} {k : Kd}, k.deep ≤ n → fm n k.d = true
  | 0, k, h => by have := k.deep_pos; omega
  | n + 1, k, h => by
    rw [k.d_eq]
    unfold fm
    rw [Bool.and_eq_true, decide_eq_true_eq, List.all_eq_true, ar_word, List.length_map]
    refine ⟨rfl, fun d hd => ?_⟩
    obtain ⟨p, hp, rfl⟩ := List.mem_map.mp hd
    have := Kd.deep_part hp
    exact kd_fm (by omega)
theorem fm_deep {n : Nat} {k : Kd} (h : fm n k.d = true) : k.deep ≤ n := by
  obtain ⟨k', e, h'⟩ := fm_kd h
  rw [Kd.inj e]
  exact h'
theorem fm_mono {n m : Nat} {d : D} (h : fm n d = true) (hm : n ≤ m) : fm m d = true := by
  obtain ⟨k, rfl, hk⟩ := fm_kd h
  exact kd_fm (by omega)

/-! ### levels -/
def kidsD : D → Option (List D)
  | .tup (.str w :: ps) => if arOf w = some ps.length then some ps else none
  | _ => none
def allKids : List D → Option (List D)
  | [] => some []
  | d :: r => match kidsD d, allKids r with
    | some a, some b => some (a ++ b)
    | _, _ => none
def levs : Nat → List D → Option (List Nat)
  | 0, _ => some []
  | n + 1, L => if L.isEmpty = true then some [] else match allKids L with
    | none => none
    | some L' => (levs n L').map (L.length :: ·)
theorem kids_kd (k : Kd) : kidsD k.d = some (k.parts.map Kd.d) := by
  rw [k.d_eq]
  unfold kidsD
  dsimp only
  rw [if_pos (by rw [ar_word, List.length_map])]
theorem allKids_kd : ∀ ks : List Kd, allKids (ks.map Kd.d) = some ((ks.flatMap Kd.parts).map Kd.d)
  | [] => rfl
  | k :: r => by
    rw [List.map_cons]
    unfold allKids
    rw [kids_kd, allKids_kd r]
    simp
def deepL : List Kd → Nat
  | [] => 0
  | k :: r => max k.deep (deepL r)
def manyL (ks : List Kd) : Nat := (ks.map Kd.many).sum
theorem deepL_app : ∀ (a b : List Kd), deepL (a ++ b) = max (deepL a) (deepL b)
  | [], b => by show deepL b = max 0 _; omega
  | k :: a, b => by
    show max k.deep (deepL (a ++ b)) = max (max k.deep (deepL a)) (deepL b)
    rw [deepL_app a b]; omega
theorem deep_parts (k : Kd) : k.deep = deepL k.parts + 1 := by cases k <;> simp [Kd.deep, Kd.parts, deepL]
theorem many_parts (k : Kd) : k.many = manyL k.parts + 1 := by cases k <;> simp [Kd.many, Kd.parts, manyL]
theorem deepL_flat : ∀ ks : List Kd, ks ≠ [] → deepL ks = deepL (ks.flatMap Kd.parts) + 1
  | [k], _ => by
    show max k.deep 0 = _
    rw [deep_parts k]; simp
  | k :: b :: r, _ => by
    show max k.deep (deepL (b :: r)) = deepL (k.parts ++ (b :: r).flatMap Kd.parts) + 1
    rw [deepL_app, deep_parts k, deepL_flat (b :: r) (by simp)]; omega
theorem manyL_flat : ∀ ks : List Kd, manyL ks = manyL (ks.flatMap Kd.parts) + ks.length
  | [] => rfl
  | k :: r => by
    have ih := manyL_flat r
    have e : manyL (k.parts ++ r.flatMap Kd.parts) = manyL k.parts + manyL (r.flatMap Kd.parts) := by simp [manyL]
    show k.many + manyL r = manyL (k.parts ++ r.flatMap Kd.parts) + (r.length + 1)
    rw [e, many_parts k]; omega
theorem levs_kd : ∀ (m : Nat) (ks : List Kd), deepL ks ≤ m → ∃ l, levs m (ks.map Kd.d) = some l ∧ l.length = deepL ks ∧ l.sum = manyL ks
  | 0, ks, h => by
    cases ks with
    | nil => exact ⟨[], rfl, rfl, rfl⟩
    | cons k r =>
      have := k.deep_pos
      have h : max k.deep (deepL r) ≤ 0 := h
      omega
  | m + 1, ks, h => by
    by_cases hk : ks = []
    · subst hk; exact ⟨[], rfl, rfl, rfl⟩
    · have h1 := deepL_flat ks hk
      obtain ⟨l, e, h2, h3⟩ := levs_kd m (ks.flatMap Kd.parts) (by omega)
      refine ⟨ks.length :: l, ?_, by rw [List.length_cons, h2, h1], by rw [List.sum_cons, h3, manyL_flat ks]; omega⟩
      unfold levs
      rw [if_neg (by simp [hk]), allKids_kd]
      dsimp only
      rw [e, List.length_map]
      rfl
theorem allKids_fm {n : Nat} : ∀ {L L' : List D}, allKids L = some L' → (∀ d ∈ L', fm n d = true) → ∀ d ∈ L, fm (n + 1) d = true
  | [], _, _, _, d, hd => by cases hd
  | x :: r, L', h, hf, d, hd => by
    unfold allKids at h
    split at h
    · rename_i a b e1 e2
      cases h
      rcases List.mem_cons.mp hd with rfl | hd
      · unfold kidsD at e1
        split at e1
        · rename_i w ps
          split at e1
          · rename_i har
            cases e1
            unfold fm
            rw [Bool.and_eq_true, decide_eq_true_eq, List.all_eq_true]
            exact ⟨har, fun p hp => hf p (List.mem_append_left _ hp)⟩
          · cases e1
        · cases e1
      · exact allKids_fm e2 (fun p hp => hf p (List.mem_append_right _ hp)) d hd
    · cases h
theorem levs_fm : ∀ {m : Nat} {L : List D} {l : List Nat}, levs m L = some l → l.length < m → ∀ d ∈ L, fm l.length d = true
  | 0, _, _, _, h => by omega
  | m + 1, L, l, e, h => by
    unfold levs at e
    split at e
    · rename_i hL
      intro d hd
      rw [List.isEmpty_iff.mp hL] at hd
      cases hd
    · split at e
      · cases e
      · rename_i L' eL
        cases e2 : levs m L' with
        | none => rw [e2] at e; cases e
        | some l' =>
          rw [e2] at e
          cases e
          rw [List.length_cons] at h ⊢
          exact allKids_fm eL (levs_fm e2 (by omega))
/-- what the law's look tells: a kind, or none -/
theorem due_of (d : D) : (∃ (k : Kd) (l : List Nat), d = k.d ∧ k.deep ≤ 8 ∧ levs 12 [d] = some l ∧ l.length = k.deep ∧ l.sum = k.many) ∨ (fm 8 d = false ∧ ∀ l, levs 12 [d] = some l → 9 ≤ l.length) := by
  cases h : fm 8 d with
  | true =>
    obtain ⟨k, rfl, hk⟩ := fm_kd h
    obtain ⟨l, e, h1, h2⟩ := levs_kd 12 [k] (by show max k.deep 0 ≤ 12; omega)
    refine .inl ⟨k, l, rfl, hk, e, ?_, ?_⟩
    · rw [h1]; show max k.deep 0 = _; omega
    · rw [h2]; simp [manyL]
  | false =>
    refine .inr ⟨rfl, fun l e => ?_⟩
    refine Classical.byContradiction fun hn => ?_
    have := levs_fm e (by omega) d (by simp)
    rw [fm_mono this (by omega)] at h
    cases h

/-! ### stores that grow -/
def Ext (S S' : Sto) : Prop := ∃ T, S' = S ++ T
theorem Ext.refl (S : Sto) : Ext S S := ⟨[], by simp⟩
theorem Ext.trans {A B C : Sto} (h : Ext A B) (h' : Ext B C) : Ext A C := by
  obtain ⟨T, rfl⟩ := h
  obtain ⟨U, rfl⟩ := h'
  exact ⟨T ++ U, by simp⟩
theorem Ext.app {S S' : Sto} (h : Ext S S') (T : Sto) : Ext S (S' ++ T) := h.trans ⟨T, rfl⟩
theorem Ext.set {S S' : Sto} (h : Ext S S') {n : Nat} (hn : S.length ≤ n) (o : O) : Ext S (S'.set n o) := by
  obtain ⟨T, rfl⟩ := h
  exact ⟨T.set (n - S.length) o, by rw [List.set_append_right _ _ hn]⟩
theorem Ext.at_ {S S' : Sto} (h : Ext S S') {n : Nat} {o : O} (e : S[n]? = some o) : S'[n]? = some o := by
  obtain ⟨T, rfl⟩ := h
  rw [List.getElem?_append_left (List.getElem?_eq_some_iff.mp e).1]
  exact e
theorem Ext.len {S S' : Sto} (h : Ext S S') : S.length ≤ S'.length := by
  obtain ⟨T, rfl⟩ := h
  rw [List.length_append]; omega
theorem Ext.thg {S S' : Sto} (h : Ext S S') {d : D} (t : thg S d = true) : DL.thg S' d = true := thg_mono (fun _ _ e => ⟨_, h.at_ e, .inl rfl⟩) d t
theorem gc_ext {S S' : Sto} {d : D} (h : Ext S S') (u : d.und S.length = true) : gcO S d S' = .ok d S := by
  obtain ⟨T, rfl⟩ := h
  exact gc_pure u
theorem gc_extN {S S' : Sto} {n : Nat} {o : O} (h : Ext S S') (hn : S.length ≤ n) (e : S'[n]? = some o) (u : o.und S.length = true) : gcO S (.ob n) S' = .ok (.ob S.length) (S ++ [o]) := by
  obtain ⟨T, rfl⟩ := h
  have := gc_new (S := S) (T := T) (j := n - S.length) (o := o) (by rw [List.getElem?_append_right hn] at e; exact e) u
  rw [show S.length + (n - S.length) = n by omega] at this
  exact this
theorem runX_of {n : Nat} {b : DenS} {ds : List D} {S S' : Sto} {e : Ex} {fr : Fr} (h : b (ds.map some ++ List.replicate (n - ds.length) none) S = .ex e fr S') (hx : Ext S S') (hu : e.und S.length = true) : runB n b ds S = .ex e S := by
  unfold runB
  rw [h]
  obtain ⟨T, rfl⟩ := hx
  show gcX S e (S ++ T) = _
  unfold gcX
  rw [if_pos ⟨und_app, hu⟩, List.take_left]
theorem forL_nil {ok : Sto → Prop} {t : DTg} {b : DenS} {fr : Fr} {S : Sto} (h : ok S) : forL ok t b [] fr S = .ok .nx fr S := by
  unfold forL
  exact if_pos h
theorem forL_nx1 {ok : Sto → Prop} {t : DTg} {b : DenS} {d : D} {l : List D} {fr fr1 fr2 : Fr} {S S2 : Sto} (h : ok S) (ht : t d fr S = some fr1) (hb : b fr1 S = .ok .nx fr2 S2) : forL ok t b (d :: l) fr S = forL ok t b l fr2 S2 := by
  rw [forL, if_pos h, ht]
  dsimp only
  rw [hb]
theorem forL_rt1 {ok : Sto → Prop} {t : DTg} {b : DenS} {d v : D} {l : List D} {fr fr1 fr2 : Fr} {S S2 : Sto} (h : ok S) (ht : t d fr S = some fr1) (hb : b fr1 S = .ok (.rt v) fr2 S2) : forL ok t b (d :: l) fr S = .ok (.rt v) fr2 S2 := by
  rw [forL, if_pos h, ht]
  dsimp only
  rw [hb]
/-- xs != [] -/
theorem ne_nilL {S : Sto} {n m : Nat} {xs : List D} (h : S[n]? = some (.lst xs)) (h' : S[m]? = some (.lst [])) : aNe (.ob n) (.ob m) S = some (.bl (!xs.isEmpty), S) := by
  have hb : dP S (.ob m) = some (.list []) := by
    show (match S[m]? with | some (.lst xs) => (toPs (obP 11 S) xs).map PyData.list | _ => none) = _
    rw [h']
    rfl
  have he : (PyData.list []).depth = 1 := by decide +kernel
  unfold aNe eqP
  rw [hb]
  cases q : dP S (.ob n) with
  | none =>
    dsimp only
    rw [h, h']
    dsimp only
    cases xs with
    | nil =>
      exfalso
      have : dP S (.ob n) = some (.list []) := by
        show (match S[n]? with | some (.lst xs) => (toPs (obP 11 S) xs).map PyData.list | _ => none) = _
        rw [h]
        rfl
      rw [this] at q
      cases q
    | cons x r => rfl
  | some p =>
    dsimp only
    rw [if_pos (by rw [he]; omega)]
    have q' : (toPs (obP 11 S) xs).map PyData.list = some p := by
      rw [← q]
      show _ = (match S[n]? with | some (.lst xs) => (toPs (obP 11 S) xs).map PyData.list | _ => none)
      rw [h]
    cases q2 : toPs (obP 11 S) xs with
    | none => rw [q2] at q'; cases q'
    | some ps =>
      rw [q2] at q'
      cases q'
      cases xs with
      | nil => cases q2; rfl
      | cons x r =>
        unfold toPs at q2
        split at q2
        · cases q2
          simp [PyData.eqv, PyData.eqvAll]
        · cases q2
theorem add_atL {S : Sto} {n m : Nat} {xs ys : List D} (h : S[n]? = some (.lst xs)) (h' : S[m]? = some (.lst ys)) (hl : xs.length + ys.length ≤ 100000) : aAdd (.ob n) (.ob m) S = some (.ob S.length, S ++ [.lst (xs ++ ys)]) := by
  show (match S[n]?, S[m]? with
    | some (.lst xs), some (.lst ys) => if xs.length + ys.length ≤ sizeLine then some (D.ob S.length, S ++ [O.lst (xs ++ ys)]) else none
    | _, _ => none) = _
  rw [h, h']
  dsimp only
  rw [if_pos (by rw [sizeLine_eq]; omega)]
end
end DL
/-! DT, part a: terms as data. -/
namespace DL
open PySem PySem.Spec PyProof.Rows L2
noncomputable section
inductive W1 where | first | second | box | opn
  deriving DecidableEq
inductive W2 where | call | pair | put
  deriving DecidableEq
inductive Sg where | add | sub | mul | lt | eq
  deriving DecidableEq
def W1.s : W1 → Str
  | .first => "first" | .second => "second" | .box => "box" | .opn => "open"
def W2.s : W2 → Str
  | .call => "call" | .pair => "pair" | .put => "put"
def Sg.s : Sg → Str
  | .add => "+" | .sub => "-" | .mul => "*" | .lt => "<" | .eq => "="
inductive Tm where
  | num (n : Int) | tru (b : Bool) | nam (x : Str)
  | fn (x : Str) (k : Kd) (b : Tm)
  | rc (f x : Str) (k r : Kd) (b : Tm)
  | lt (x : Str) (k : Kd) (t b : Tm)
  | as (t : Tm) (k : Kd)
  | op (s : Sg) (a b : Tm)
  | two (w : W2) (a b : Tm)
  | one (w : W1) (a : Tm)
  | ite (a b c : Tm)
  deriving DecidableEq
/-- a part of a term -/
inductive Pt where | tm (t : Tm) | kd (k : Kd) | nm (x : Str) | it (n : Int) | bo (b : Bool) | sg (s : Sg)
/-! ### plain data with truths -/
mutual
def D.pu : D → Bool
  | .non => true
  | .bl _ => true
  | .int _ => true
  | .str _ => true
  | .tup xs => puL xs
  | _ => false
def puL : List D → Bool
  | [] => true
  | d :: ds => d.pu && puL ds
end
mutual
theorem pt_pu : ∀ d : D, d.pt = true → d.pu = true
  | .non, _ => rfl
  | .int _, _ => rfl
  | .str _, _ => rfl
  | .tup xs, h => by
    unfold D.pt at h
    unfold D.pu
    exact ptL_puL xs h
  | .bl _, h => (by cases h)
  | .ob _, h => (by cases h)
  | .ty _, h => (by cases h)
  | .gl _, h => (by cases h)
  | .rl _, h => (by cases h)
  | .kd _ _, h => (by cases h)
  | .xo _ _ _, h => (by cases h)
theorem ptL_puL : ∀ ds : List D, ptL ds = true → puL ds = true
  | [], _ => rfl
  | d :: ds, h => by
    unfold ptL at h
    rw [Bool.and_eq_true] at h
    unfold puL
    rw [pt_pu d h.1, ptL_puL ds h.2]
    rfl
end
mutual
theorem toP_pu {f : Nat → Option PyData} : ∀ d : D, d.pu = true → toP f d = some d.pd ∧ d.pd.depth = d.dep
  | .non, _ => ⟨rfl, rfl⟩
  | .bl _, _ => ⟨rfl, rfl⟩
  | .int _, _ => ⟨rfl, rfl⟩
  | .str _, _ => ⟨rfl, rfl⟩
  | .tup xs, h => by
    unfold D.pu at h
    obtain ⟨h1, h2⟩ := toPs_pu (f := f) xs h
    unfold toP D.pd D.dep PyData.depth
    rw [h1, h2]
    exact ⟨rfl, rfl⟩
  | .ob _, h => (by cases h)
  | .ty _, h => (by cases h)
  | .gl _, h => (by cases h)
  | .rl _, h => (by cases h)
  | .kd _ _, h => (by cases h)
  | .xo _ _ _, h => (by cases h)
theorem toPs_pu {f : Nat → Option PyData} : ∀ ds : List D, puL ds = true → toPs f ds = some (pdL ds) ∧ PyData.depthAll (pdL ds) = depL ds
  | [], _ => ⟨rfl, rfl⟩
  | d :: ds, h => by
    unfold puL at h
    rw [Bool.and_eq_true] at h
    obtain ⟨h1, h2⟩ := toP_pu (f := f) d h.1
    obtain ⟨h3, h4⟩ := toPs_pu (f := f) ds h.2
    unfold toPs pdL depL PyData.depthAll
    rw [h1, h3, h2, h4]
    exact ⟨rfl, rfl⟩
end
mutual
theorem pu_und {n : Nat} : ∀ d : D, d.pu = true → d.und n = true
  | .non, _ => rfl
  | .bl _, _ => rfl
  | .int _, _ => rfl
  | .str _, _ => rfl
  | .tup xs, h => by
    unfold D.pu at h
    unfold D.und
    exact puL_und xs h
  | .ob _, h => (by cases h)
  | .ty _, h => (by cases h)
  | .gl _, h => (by cases h)
  | .rl _, h => (by cases h)
  | .kd _ _, h => (by cases h)
  | .xo _ _ _, h => (by cases h)
theorem puL_und {n : Nat} : ∀ ds : List D, puL ds = true → undL n ds = true
  | [], _ => rfl
  | d :: ds, h => by
    unfold puL at h
    rw [Bool.and_eq_true] at h
    unfold undL
    rw [pu_und d h.1, puL_und ds h.2]
    rfl
end
theorem puL_map {α : Type} {f : α → D} (h : ∀ a, (f a).pu = true) : ∀ l : List α, puL (l.map f) = true
  | [] => rfl
  | a :: l => by
    rw [List.map_cons]
    unfold puL
    rw [h, puL_map h l]
    rfl
theorem dP_pu {S : Sto} {d : D} (h : d.pu = true) : dP S d = some d.pd := (toP_pu d h).1
namespace Tm
def word : Tm → Str
  | num _ => "number" | tru _ => "truth" | nam _ => "name" | fn _ _ _ => "fun" | rc _ _ _ _ _ => "rec" | lt _ _ _ _ => "let" | as _ _ => "as" | op _ _ _ => "op" | two w _ _ => w.s | one w _ => w.s | ite _ _ _ => "if"
def form : Tm → Str
  | num _ => "i" | tru _ => "b" | nam _ => "n" | fn _ _ _ => "nkt" | rc _ _ _ _ _ => "nnkkt" | lt _ _ _ _ => "nktt" | as _ _ => "tk" | op _ _ _ => "stt" | two _ _ _ => "tt" | one _ _ => "t" | ite _ _ _ => "ttt"
def parts : Tm → List Pt
  | num n => [.it n] | tru b => [.bo b] | nam x => [.nm x]
  | fn x k b => [.nm x, .kd k, .tm b] | rc f x k r b => [.nm f, .nm x, .kd k, .kd r, .tm b] | lt x k t b => [.nm x, .kd k, .tm t, .tm b]
  | as t k => [.tm t, .kd k] | op s a b => [.sg s, .tm a, .tm b] | two _ a b => [.tm a, .tm b] | one _ a => [.tm a] | ite a b c => [.tm a, .tm b, .tm c]
def subs : Tm → List Tm
  | num _ => [] | tru _ => [] | nam _ => [] | fn _ _ b => [b] | rc _ _ _ _ b => [b] | lt _ _ t b => [t, b]
  | as t _ => [t] | op _ a b => [a, b] | two _ a b => [a, b] | one _ a => [a] | ite a b c => [a, b, c]
def d : Tm → D
  | num n => .tup [.str "number", .int n] | tru b => .tup [.str "truth", .bl b] | nam x => .tup [.str "name", .str x]
  | fn x k b => .tup [.str "fun", .str x, k.d, b.d] | rc f x k r b => .tup [.str "rec", .str f, .str x, k.d, r.d, b.d] | lt x k t b => .tup [.str "let", .str x, k.d, t.d, b.d]
  | as t k => .tup [.str "as", t.d, k.d] | op s a b => .tup [.str "op", .str s.s, a.d, b.d] | two w a b => .tup [.str w.s, a.d, b.d] | one w a => .tup [.str w.s, a.d] | ite a b c => .tup [.str "if", a.d, b.d, c.d]
def size : Tm → Nat
  | num _ => 1 | tru _ => 1 | nam _ => 1 | fn _ _ b => b.size + 1 | rc _ _ _ _ b => b.size + 1 | lt _ _ t b => t.size + b.size + 1
  | as t _ => t.size + 1 | op _ a b => a.size + b.size + 1 | two _ a b => a.size + b.size + 1 | one _ a => a.size + 1 | ite a b c => a.size + b.size + c.size + 1
def deep : Tm → Nat
  | num _ => 1 | tru _ => 1 | nam _ => 1 | fn _ _ b => b.deep + 1 | rc _ _ _ _ b => b.deep + 1 | lt _ _ t b => max t.deep b.deep + 1
  | as t _ => t.deep + 1 | op _ a b => max a.deep b.deep + 1 | two _ a b => max a.deep b.deep + 1 | one _ a => a.deep + 1 | ite a b c => max a.deep (max b.deep c.deep) + 1
end Tm
namespace Pt
def d : Pt → D
  | tm t => t.d | kd k => k.d | nm x => .str x | it n => .int n | bo b => .bl b | sg s => .str s.s
def c : Pt → Str
  | tm _ => "t" | kd _ => "k" | nm _ => "n" | it _ => "i" | bo _ => "b" | sg _ => "s"
end Pt
def nmB (x : Str) : Bool := decide (1 ≤ x.length ∧ x.length ≤ 8) && x.cps.toList.all fun c => decide (c ∈ (("abcdefghijklmnopqrstuvwxyz" : Str)).cps.toList)
def Pt.ok : Pt → Prop
  | .tm _ => True | .kd k => k.deep ≤ 8 ∧ k.many ≤ 60 | .nm x => nmB x = true | .it n => -1000000000000 ≤ n ∧ n ≤ 1000000000000 | .bo _ => True | .sg _ => True
/-- the names that are drawn -/
abbrev nmsL : List Str := ["x", "f", "zz", "a", "longname", "aa", "b", "ab"]
def Pt.dr : Pt → Prop
  | .tm _ => True | .kd k => k.deep ≤ 4 | .nm x => x ∈ nmsL | .it n => -1000000000000 ≤ n ∧ n ≤ 1000000000000 | .bo _ => True | .sg _ => True
theorem nms_nm : ∀ x ∈ nmsL, nmB x = true := by decide +kernel
theorem Pt.dr_ok : ∀ p : Pt, p.dr → p.ok
  | .tm _, _ => trivial | .kd k, h => ⟨Nat.le_trans h (by decide), by have := Kd.many_le (k := k) (Nat.le_trans h (by decide)); omega⟩ | .nm x, h => nms_nm x h | .it n, h => h | .bo _, _ => trivial | .sg _, _ => trivial
theorem pt_strs : ∀ l : List Str, ptL (l.map D.str) = true
  | [] => rfl
  | a :: l => by rw [List.map_cons]; unfold ptL; rw [pt_strs l]; rfl
namespace Tm
/-- so are its own parts, and those of all within (terms aside) -/
def allP (P : Pt → Prop) : Tm → Prop
  | num n => P (.it n) | tru b => P (.bo b) | nam x => P (.nm x)
  | fn x k b => P (.nm x) ∧ P (.kd k) ∧ b.allP P | rc f x k r b => P (.nm f) ∧ P (.nm x) ∧ P (.kd k) ∧ P (.kd r) ∧ b.allP P | lt x k t b => P (.nm x) ∧ P (.kd k) ∧ t.allP P ∧ b.allP P
  | as t k => t.allP P ∧ P (.kd k) | op s a b => P (.sg s) ∧ a.allP P ∧ b.allP P | two _ a b => a.allP P ∧ b.allP P | one _ a => a.allP P | ite a b c => a.allP P ∧ b.allP P ∧ c.allP P
abbrev ok (t : Tm) : Prop := t.allP Pt.ok
def isTm : Pt → Bool
  | .tm _ => true
  | _ => false
theorem allP_parts {P : Pt → Prop} {t : Tm} (h : t.allP P) : ∀ p ∈ t.parts, isTm p = false → P p := by
  intro p hp hq
  cases t <;> simp only [parts, List.mem_cons, List.not_mem_nil, or_false] at hp <;> simp only [allP] at h
  · subst hp; exact h
  · subst hp; exact h
  · subst hp; exact h
  · rcases hp with rfl | rfl | rfl
    · exact h.1
    · exact h.2.1
    · cases hq
  · rcases hp with rfl | rfl | rfl | rfl | rfl
    · exact h.1
    · exact h.2.1
    · exact h.2.2.1
    · exact h.2.2.2.1
    · cases hq
  · rcases hp with rfl | rfl | rfl | rfl
    · exact h.1
    · exact h.2.1
    · cases hq
    · cases hq
  · rcases hp with rfl | rfl
    · cases hq
    · exact h.2
  · rcases hp with rfl | rfl | rfl
    · exact h.1
    · cases hq
    · cases hq
  · rcases hp with rfl | rfl <;> cases hq
  · subst hp; cases hq
  · rcases hp with rfl | rfl | rfl <;> cases hq
theorem ok_parts {t : Tm} (h : t.ok) : ∀ p ∈ t.parts, p.ok := fun p hp => by
  cases e : isTm p with
  | false => exact allP_parts h p hp e
  | true => cases p <;> first | trivial | cases e
theorem allP_subs {P : Pt → Prop} {t : Tm} (h : t.allP P) : ∀ s ∈ t.subs, s.allP P := by
  intro p hp
  cases t <;> simp only [subs, List.mem_cons, List.not_mem_nil, or_false] at hp <;> simp only [allP] at h
  · subst hp; exact h.2.2
  · subst hp; exact h.2.2.2.2
  · rcases hp with rfl | rfl
    · exact h.2.2.1
    · exact h.2.2.2
  · subst hp; exact h.1
  · rcases hp with rfl | rfl
    · exact h.2.1
    · exact h.2.2
  · rcases hp with rfl | rfl
    · exact h.1
    · exact h.2
  · subst hp; exact h
  · rcases hp with rfl | rfl | rfl
    · exact h.1
    · exact h.2.1
    · exact h.2.2
theorem ok_subs {t : Tm} (h : t.ok) : ∀ s ∈ t.subs, s.ok := allP_subs h
theorem allP_mono {P Q : Pt → Prop} (k : ∀ p, P p → Q p) : ∀ t : Tm, t.allP P → t.allP Q
  | num _, h => k _ h | tru _, h => k _ h | nam _, h => k _ h
  | fn x a b, h => ⟨k _ h.1, k _ h.2.1, allP_mono k b h.2.2⟩
  | rc f x a r b, h => ⟨k _ h.1, k _ h.2.1, k _ h.2.2.1, k _ h.2.2.2.1, allP_mono k b h.2.2.2.2⟩
  | lt x a t b, h => ⟨k _ h.1, k _ h.2.1, allP_mono k t h.2.2.1, allP_mono k b h.2.2.2⟩
  | as t a, h => ⟨allP_mono k t h.1, k _ h.2⟩
  | op s a b, h => ⟨k _ h.1, allP_mono k a h.2.1, allP_mono k b h.2.2⟩
  | two _ a b, h => ⟨allP_mono k a h.1, allP_mono k b h.2⟩
  | one _ a, h => allP_mono k a h
  | ite a b c, h => ⟨allP_mono k a h.1, allP_mono k b h.2.1, allP_mono k c h.2.2⟩
theorem dr_ok {t : Tm} (h : t.allP Pt.dr) : t.ok := allP_mono Pt.dr_ok t h
theorem d_eq (t : Tm) : t.d = .tup (.str t.word :: t.parts.map Pt.d) := by cases t <;> rfl
theorem subs_parts (t : Tm) : t.subs = t.parts.filterMap fun | .tm s => some s | _ => none := by cases t <;> rfl
theorem size_pos (t : Tm) : 1 ≤ t.size := by cases t <;> simp [size]
theorem deep_pos (t : Tm) : 1 ≤ t.deep := by cases t <;> simp [deep]
theorem deep_sub {t s : Tm} (h : s ∈ t.subs) : s.deep < t.deep := by
  cases t <;> simp [subs] at h <;> first | (rcases h with rfl | rfl | rfl <;> simp [deep] <;> omega) | (rcases h with rfl | rfl <;> simp [deep] <;> omega) | (subst h; simp [deep])
theorem size_subs (t : Tm) : t.size = (t.subs.map size).sum + 1 := by cases t <;> simp [size, subs] <;> omega
theorem size_sub {t s : Tm} (h : s ∈ t.subs) : s.size < t.size := by
  cases t <;> simp [subs] at h <;> first | (rcases h with rfl | rfl | rfl <;> simp [size] <;> omega) | (rcases h with rfl | rfl <;> simp [size] <;> omega) | (subst h; simp [size])
theorem deep_le {t : Tm} {n : Nat} (h : ∀ s ∈ t.subs, s.deep ≤ n) : t.deep ≤ n + 1 := by
  cases t <;> simp [subs] at h <;> simp [deep] <;> omega
theorem W1.inj {a b : W1} (h : a.s = b.s) : a = b := by
  have key : ∀ a b : W1, a.s = b.s → a = b := by
    intro a b
    cases a <;> cases b <;> first | (intro; rfl) | (intro h; exact absurd h (by decide +kernel))
  exact key a b h
theorem W2.inj {a b : W2} (h : a.s = b.s) : a = b := by
  have key : ∀ a b : W2, a.s = b.s → a = b := by
    intro a b
    cases a <;> cases b <;> first | (intro; rfl) | (intro h; exact absurd h (by decide +kernel))
  exact key a b h
theorem Sg.inj {a b : Sg} (h : a.s = b.s) : a = b := by
  have key : ∀ a b : Sg, a.s = b.s → a = b := by
    intro a b
    cases a <;> cases b <;> first | (intro; rfl) | (intro h; exact absurd h (by decide +kernel))
  exact key a b h
/-- the words, by number -/
def wno : Tm → Nat
  | num _ => 0 | tru _ => 1 | nam _ => 2 | fn _ _ _ => 3 | rc _ _ _ _ _ => 4 | lt _ _ _ _ => 5 | as _ _ => 6 | op _ _ _ => 7
  | two .call _ _ => 8 | two .pair _ _ => 9 | two .put _ _ => 10 | one .first _ => 11 | one .second _ => 12 | one .box _ => 13 | one .opn _ => 14 | ite _ _ _ => 15
def wtab : List Str := ["number", "truth", "name", "fun", "rec", "let", "as", "op", "call", "pair", "put", "first", "second", "box", "open", "if"]
theorem word_tab (t : Tm) : wtab[t.wno]? = some t.word := by
  cases t with
  | two w a b => cases w <;> rfl
  | one w a => cases w <;> rfl
  | _ => rfl
theorem word_wno {a b : Tm} (h : a.word = b.word) : a.wno = b.wno := by
  have key : ∀ i < 16, ∀ j < 16, wtab[i]? = wtab[j]? → i = j := by decide +kernel
  have la : ∀ a : Tm, a.wno < 16 := fun a => by
    cases a with
    | two w a b => cases w <;> simp [wno]
    | one w a => cases w <;> simp [wno]
    | _ => simp [wno]
  exact key _ (la a) _ (la b) (by rw [word_tab, word_tab, h])
theorem inj : ∀ {a b : Tm}, a.d = b.d → a = b := by
  intro a
  induction a with
  | num n =>
    intro b h
    have hw := word_wno (a := num n) (b := b) (by rw [d_eq, d_eq b] at h; simpa using (List.cons.inj (D.tup.inj h)).1)
    cases b <;> first | (cases hw; done) | (rename_i w _ _; cases w <;> cases hw; done) | (rename_i w _; cases w <;> cases hw; done) | skip
    simp only [d, D.tup.injEq, List.cons.injEq, D.int.injEq, and_true, true_and] at h
    rw [h]
  | tru n =>
    intro b h
    have hw := word_wno (a := tru n) (b := b) (by rw [d_eq, d_eq b] at h; simpa using (List.cons.inj (D.tup.inj h)).1)
    cases b <;> first | (cases hw; done) | (rename_i w _ _; cases w <;> cases hw; done) | (rename_i w _; cases w <;> cases hw; done) | skip
    simp only [d, D.tup.injEq, List.cons.injEq, D.bl.injEq, and_true, true_and] at h
    rw [h]
  | nam n =>
    intro b h
    have hw := word_wno (a := nam n) (b := b) (by rw [d_eq, d_eq b] at h; simpa using (List.cons.inj (D.tup.inj h)).1)
    cases b <;> first | (cases hw; done) | (rename_i w _ _; cases w <;> cases hw; done) | (rename_i w _; cases w <;> cases hw; done) | skip
    simp only [d, D.tup.injEq, List.cons.injEq, D.str.injEq, and_true, true_and] at h
    rw [h]
  | fn x k t it =>
    intro b h
    have hw := word_wno (a := fn x k t) (b := b) (by rw [d_eq, d_eq b] at h; simpa using (List.cons.inj (D.tup.inj h)).1)
    cases b <;> first | (cases hw; done) | (rename_i w _ _; cases w <;> cases hw; done) | (rename_i w _; cases w <;> cases hw; done) | skip
    simp only [d, D.tup.injEq, List.cons.injEq, D.str.injEq, and_true, true_and] at h
    rw [h.1, Kd.inj h.2.1, it h.2.2]
  | rc f x k r t it =>
    intro b h
    have hw := word_wno (a := rc f x k r t) (b := b) (by rw [d_eq, d_eq b] at h; simpa using (List.cons.inj (D.tup.inj h)).1)
    cases b <;> first | (cases hw; done) | (rename_i w _ _; cases w <;> cases hw; done) | (rename_i w _; cases w <;> cases hw; done) | skip
    simp only [d, D.tup.injEq, List.cons.injEq, D.str.injEq, and_true, true_and] at h
    rw [h.1, h.2.1, Kd.inj h.2.2.1, Kd.inj h.2.2.2.1, it h.2.2.2.2]
  | lt x k t u it iu =>
    intro b h
    have hw := word_wno (a := lt x k t u) (b := b) (by rw [d_eq, d_eq b] at h; simpa using (List.cons.inj (D.tup.inj h)).1)
    cases b <;> first | (cases hw; done) | (rename_i w _ _; cases w <;> cases hw; done) | (rename_i w _; cases w <;> cases hw; done) | skip
    simp only [d, D.tup.injEq, List.cons.injEq, D.str.injEq, and_true, true_and] at h
    rw [h.1, Kd.inj h.2.1, it h.2.2.1, iu h.2.2.2]
  | as t k it =>
    intro b h
    have hw := word_wno (a := as t k) (b := b) (by rw [d_eq, d_eq b] at h; simpa using (List.cons.inj (D.tup.inj h)).1)
    cases b <;> first | (cases hw; done) | (rename_i w _ _; cases w <;> cases hw; done) | (rename_i w _; cases w <;> cases hw; done) | skip
    simp only [d, D.tup.injEq, List.cons.injEq, and_true, true_and] at h
    rw [it h.1, Kd.inj h.2]
  | op s t u it iu =>
    intro b h
    have hw := word_wno (a := op s t u) (b := b) (by rw [d_eq, d_eq b] at h; simpa using (List.cons.inj (D.tup.inj h)).1)
    cases b <;> first | (cases hw; done) | (rename_i w _ _; cases w <;> cases hw; done) | (rename_i w _; cases w <;> cases hw; done) | skip
    simp only [d, D.tup.injEq, List.cons.injEq, D.str.injEq, and_true, true_and] at h
    rw [Sg.inj h.1, it h.2.1, iu h.2.2]
  | two w t u it iu =>
    intro b h
    have hw := word_wno (a := two w t u) (b := b) (by rw [d_eq, d_eq b] at h; simpa using (List.cons.inj (D.tup.inj h)).1)
    cases b <;> first | (cases w <;> cases hw; done) | (rename_i v _; cases w <;> cases v <;> cases hw; done) | skip
    simp only [d, D.tup.injEq, List.cons.injEq, D.str.injEq, and_true, true_and] at h
    rw [W2.inj h.1, it h.2.1, iu h.2.2]
  | one w t it =>
    intro b h
    have hw := word_wno (a := one w t) (b := b) (by rw [d_eq, d_eq b] at h; simpa using (List.cons.inj (D.tup.inj h)).1)
    cases b <;> first | (cases w <;> cases hw; done) | (rename_i v _ _; cases w <;> cases v <;> cases hw; done) | skip
    simp only [d, D.tup.injEq, List.cons.injEq, D.str.injEq, and_true, true_and] at h
    rw [W1.inj h.1, it h.2]
  | ite t u v it iu iv =>
    intro b h
    have hw := word_wno (a := ite t u v) (b := b) (by rw [d_eq, d_eq b] at h; simpa using (List.cons.inj (D.tup.inj h)).1)
    cases b <;> first | (cases hw; done) | (rename_i w _ _; cases w <;> cases hw; done) | (rename_i w _; cases w <;> cases hw; done) | skip
    simp only [d, D.tup.injEq, List.cons.injEq, and_true, true_and] at h
    rw [it h.1, iu h.2.1, iv h.2.2]
theorem map_inj : ∀ {xs bs : List Tm}, xs.map d = bs.map d → xs = bs
  | [], [], _ => rfl
  | [], _ :: _, h => by cases h
  | _ :: _, [], h => by cases h
  | a :: xs, b :: bs, h => by
    rw [List.map_cons, List.map_cons, List.cons.injEq] at h
    rw [inj h.1, map_inj h.2]
theorem parts_len (t : Tm) : t.parts.length ≤ 5 := by cases t <;> simp [parts]
theorem subs_len (t : Tm) : t.subs.length ≤ 3 := by cases t <;> simp [subs]
theorem pu : ∀ t : Tm, t.d.pu = true
  | num _ => rfl | tru _ => rfl | nam _ => rfl
  | fn x k b => by show (true && (true && (k.d.pu && (b.d.pu && true)))) = true; rw [pt_pu _ k.pt, pu b]; rfl
  | rc f x k r b => by show (true && (true && (true && (k.d.pu && (r.d.pu && (b.d.pu && true)))))) = true; rw [pt_pu _ k.pt, pt_pu _ r.pt, pu b]; rfl
  | lt x k t b => by show (true && (true && (k.d.pu && (t.d.pu && (b.d.pu && true))))) = true; rw [pt_pu _ k.pt, pu t, pu b]; rfl
  | as t k => by show (true && (t.d.pu && (k.d.pu && true))) = true; rw [pt_pu _ k.pt, pu t]; rfl
  | op s a b => by show (true && (true && (a.d.pu && (b.d.pu && true)))) = true; rw [pu a, pu b]; rfl
  | two w a b => by show (true && (a.d.pu && (b.d.pu && true))) = true; rw [pu a, pu b]; rfl
  | one w a => by show (true && (a.d.pu && true)) = true; rw [pu a]; rfl
  | ite a b c => by show (true && (a.d.pu && (b.d.pu && (c.d.pu && true)))) = true; rw [pu a, pu b, pu c]; rfl
@[simp] theorem und {n : Nat} (t : Tm) : t.d.und n = true := pu_und _ t.pu
/-- as data: how deep -/
theorem dep : ∀ (t : Tm), t.ok → t.d.dep ≤ t.deep + 8
  | num _, _ => by show max 0 (max 0 0) + 1 ≤ _; simp [deep]
  | tru _, _ => by show max 0 (max 0 0) + 1 ≤ _; simp [deep]
  | nam _, _ => by show max 0 (max 0 0) + 1 ≤ _; simp [deep]
  | fn x k b, h => by
    have := dep b h.2.2; have := h.2.1.1; have := k.dep
    show max 0 (max 0 (max k.d.dep (max b.d.dep 0))) + 1 ≤ b.deep + 1 + 8; omega
  | rc f x k r b, h => by
    have := dep b h.2.2.2.2; have := h.2.2.1.1; have := h.2.2.2.1.1; have := k.dep; have := r.dep
    show max 0 (max 0 (max 0 (max k.d.dep (max r.d.dep (max b.d.dep 0))))) + 1 ≤ b.deep + 1 + 8; omega
  | lt x k t b, h => by
    have := dep t h.2.2.1; have := dep b h.2.2.2; have := h.2.1.1; have := k.dep
    show max 0 (max 0 (max k.d.dep (max t.d.dep (max b.d.dep 0)))) + 1 ≤ max t.deep b.deep + 1 + 8; omega
  | as t k, h => by
    have := dep t h.1; have := h.2.1; have := k.dep
    show max 0 (max t.d.dep (max k.d.dep 0)) + 1 ≤ t.deep + 1 + 8; omega
  | op s a b, h => by
    have := dep a h.2.1; have := dep b h.2.2
    show max 0 (max 0 (max a.d.dep (max b.d.dep 0))) + 1 ≤ max a.deep b.deep + 1 + 8; omega
  | two w a b, h => by
    have := dep a h.1; have := dep b h.2
    show max 0 (max a.d.dep (max b.d.dep 0)) + 1 ≤ max a.deep b.deep + 1 + 8; omega
  | one w a, h => by
    have := dep a h
    show max 0 (max a.d.dep 0) + 1 ≤ a.deep + 1 + 8; omega
  | ite a b c, h => by
    have := dep a h.1; have := dep b h.2.1; have := dep c h.2.2
    show max 0 (max a.d.dep (max b.d.dep (max c.d.dep 0))) + 1 ≤ max a.deep (max b.deep c.deep) + 1 + 8; omega
abbrev fWords : List Str := ["number", "truth", "name", "fun", "rec", "call", "let", "if", "op", "pair", "first", "second", "box", "open", "put", "as"]
abbrev fForms : List D := [(.str "i"), (.str "b"), (.str "n"), (.str "nkt"), (.str "nnkkt"), (.str "tt"), (.str "nktt"), (.str "ttt"), (.str "stt"), (.str "tt"), (.str "t"), (.str "t"), (.str "t"), (.str "t"), (.str "tt"), (.str "tk")]
theorem get (t : Tm) : kdGet fWords fForms t.word = some (.str t.form) := by
  cases t with
  | two w a b => cases w <;> kernel_rfl
  | one w a => cases w <;> kernel_rfl
  | _ => kernel_rfl
section
variable {S : Sto} {t : Tm}
@[simp] theorem ix_form : aIx (.kd fWords fForms) (.str t.word) S = some (.str t.form, S) := by
  show (kdGet fWords fForms t.word).map (fun d => (d, S)) = _
  rw [get]
  rfl
@[simp] theorem get_form : mGet (.kd fWords fForms) [.str t.word, .str ""] S = some (.str t.form, S) := by
  show some ((kdGet fWords fForms t.word).getD (.str ""), S) = _
  rw [get]
  rfl
@[simp] theorem ix0 : aIx t.d (.int 0) S = some (.str t.word, S) := by rw [d_eq]; exact ixT0
@[simp] theorem sl : aSl t.d (some 1) none S = some (.tup (t.parts.map Pt.d), S) := by rw [d_eq]; exact slT
@[simp] theorem len : fLen [t.d] S = some (.int (1 + t.parts.length), S) := by
  rw [d_eq, lenT, List.length_cons, List.length_map]
  congr 3
  omega
@[simp] theorem ty : tyD t.d S = some "tuple" := by rw [d_eq]; rfl
@[simp] theorem isi_tup : fIsi [t.d, .ty "tuple"] S = some (.bl true, S) := isi_ok (ty (S := S) (t := t)) (by decide)
@[simp] theorem isi_word : fIsi [.str t.word, .ty "str"] S = some (.bl true, S) := isi_ok (d := .str t.word) (S := S) rfl (by decide)
@[simp] theorem ne_nil : aEq t.d (.tup []) S = some (.bl false, S) := by rw [d_eq]; exact eq_nil
theorem form_signs (t : Tm) : signs t.form = t.parts.map fun p => .str p.c := by cases t <;> kernel_rfl
theorem form_len (t : Tm) : t.form.length = t.parts.length := by cases t <;> kernel_rfl
theorem form_ne (t : Tm) : t.form ≠ "" := by
  have h : ∀ f ∈ (["i", "b", "n", "nkt", "nnkkt", "nktt", "tk", "stt", "tt", "t", "ttt"] : List Str), f ≠ "" := by decide +kernel
  exact h _ (by cases t <;> simp [form])
theorem len_form : fLen [.str t.form] S = some (.int t.parts.length, S) := by
  have := t.parts_len
  rw [len_str (small_line (by rw [form_len]; omega)), form_len]
theorem form_src (t : Tm) : srcOf (.str t.form) S = some ⟨t.parts.map fun p => .str p.c, []⟩ := by
  show (if t.form.length ≤ sizeLine then some (Src.mk (signs t.form) []) else none) = _
  have := t.parts_len
  rw [if_pos (small_line (by rw [form_len]; omega)), form_signs]
end
theorem zip_map {α : Type} (f g : α → D) : ∀ l : List α, zipD (l.map f) (l.map g) = l.map fun a => .tup [f a, g a]
  | [] => rfl
  | a :: l => by
    show .tup [f a, g a] :: zipD (l.map f) (l.map g) = _
    rw [zip_map f g l]
    rfl
/-- zip(FORMS[t[0]], t[1:]) -/
theorem zip_form {h : DenA} {fr : Fr} {S S' : Sto} {t : Tm} (e : h fr S = .ok [.str t.form, .tup (t.parts.map Pt.d)] S') : dIZip h fr S = .ok ⟨t.parts.map fun p => .tup [.str p.c, p.d], []⟩ S' := by
  unfold dIZip
  rw [e]
  show (match srcOf (.str t.form) S', srcOf (.tup (t.parts.map Pt.d)) S' with
    | some p, some q => Out.ok (Src.mk (zipD p.items q.items) (p.guard ++ q.guard)) S'
    | _, _ => .no) = _
  rw [form_src]
  show Out.ok (Src.mk (zipD (t.parts.map fun p => D.str p.c) (t.parts.map Pt.d)) ([] ++ [])) S' = _
  rw [zip_map]
  rfl
end Tm
/-- a comprehension over pairs -/
theorem comp_pairs {α : Type} {i j : Nat} {fi : Fr → Sto → Out Src} {tt : DenT} {e : DenE} {fr : Fr} {S : Sto} {xs : List α} (f g : α → D) (p : α → Bool) (v : α → D) (hi : fi fr S = .ok ⟨xs.map fun a => .tup [f a, g a], []⟩ S)
    (h : ∀ a ∈ xs, tt (((wipeD fr [i, j]).set i (some (f a))).set j (some (g a))) S = .ok (p a) S ∧ (p a = true → e (((wipeD fr [i, j]).set i (some (f a))).set j (some (g a))) S = .ok (v a) S)) :
    dComp [i, j] fi (gT 2 (gsCons (gN i) (gsCons (gN j) gsNil))) tt e fr S = .ok ((xs.filter p).map v) S := by
  unfold dComp
  rw [hi]
  exact compL_ok (fun a => D.tup [f a, g a]) p v noGuard xs fun a ha => ⟨_, rfl, h a ha⟩
end
end DL
/-! the terms that this law draws -/
namespace K07
open PySem PySem.Spec PyProof.Rows L2 DL
noncomputable section
theorem pick {xs : List D} {r : Int} (h0 : 0 ≤ r) (h1 : r < xs.length) : ∃ d, d ∈ xs ∧ ∀ (S : Sto) (j : Nat), S[j]? = some (.lst xs) → aIx (.ob j) (.int r) S = some (d, S) := by
  obtain ⟨d, h2, h3⟩ := get_int xs h0 h1
  exact ⟨d, h2, fun S j hj => ix_lst hj h0 h3⟩
theorem wd_of {r : Int} (h0 : 0 ≤ r) (h1 : r < 3) : ∃ kd : Kd, kd.deep = 1 ∧ kd.d = .tup [.str kd.word] ∧ ([D.str "num", .str "truth", .str "any"] : List D)[r.toNat]? = some (.str kd.word) := by
  have : r = 0 ∨ r = 1 ∨ r = 2 := by omega
  rcases this with rfl | rfl | rfl
  · exact ⟨.num, rfl, rfl, rfl⟩
  · exact ⟨.truth, rfl, rfl, rfl⟩
  · exact ⟨.any, rfl, rfl, rfl⟩
theorem kind_dr : ∀ (n : Nat), n ≤ 3 → ∀ {b : Nat} {cs : List Int} {s : Ds} (K : Nat), Dr b cs s → b + 3 ^ (n + 1) ≤ 2 ^ 60 →
    ∃ (kd : Kd) (s' : Ds), kd.deep ≤ n + 1 ∧ Dr (b + 3 ^ (n + 1)) cs s' ∧ ∀ R, Phi T G (K + n + 3) i_law_kind [.ob 2, .int n] (dst cs s R) = .ok kd.d (dst cs s' R)
  | n, hn, b, cs, s, K, hd, hb => by
    have h1 : 3 ^ 1 ≤ 3 ^ (n + 1) := Nat.pow_le_pow_right (by decide) (by omega)
    obtain ⟨r, s1, r0, r1, d1, e1⟩ := nx (b := b) (K + n) (3 + 3 * (if (0 : Int) < (n : Int) then 1 else 0)) hd (by omega) (by split <;> decide) (by split <;> decide)
    by_cases h3 : r < 3
    · obtain ⟨kd, k1, k2, k3⟩ := wd_of r0 h3
      refine ⟨kd, s1, by omega, d1.mono (by omega), fun R => ?_⟩
      have hix := ix_lst (S := dst cs s1 (R ++ [.lst [D.str "num", .str "truth", .str "any"]])) (j := R.length + 3) (r := r) (d := .str kd.word) dst_last r0 k3
      refine run_law_kind (S' := dst cs s1 (R ++ [.lst [D.str "num", .str "truth", .str "any"]])) (r := kd.d) ?_ (gc_dst (by simp))
      have e1 := e1 R
      rw [k2]
      by_cases hz : (0 : Int) < (n : Int)
      · rw [if_pos hz] at e1
        generalize (n : Int) = v at hz
        simp at e1
        simp [b_law_kind, Out.bnd, fInt, hz, e1, h3, hix]
      · rw [if_neg hz] at e1
        generalize (n : Int) = v at hz
        simp at e1
        simp [b_law_kind, Out.bnd, fInt, hz, e1, h3, hix]
    · match n, hn with
      | 0, _ => exact absurd r1 (by simp; omega)
      | n + 1, hn =>
        have hz : (0 : Int) < ((n + 1 : Nat) : Int) := by omega
        have hcast : ((n + 1 : Nat) : Int) - 1 = (n : Int) := by omega
        have e1 : ∀ R, Phi T G (K + n + 3) i_law_next [.ob 2, .int 6] (dst cs s R) = .ok (.int r) (dst cs s1 R) := fun R => by
          have := e1 R
          rw [if_pos hz] at this
          exact this
        rw [if_pos hz] at r1
        generalize ((n + 1 : Nat) : Int) = v at hz hcast
        have hp : 3 ^ (n + 1 + 1) = 3 * 3 ^ (n + 1) := by rw [Nat.pow_succ]; omega
        have h1' : 3 ^ 1 ≤ 3 ^ (n + 1) := Nat.pow_le_pow_right (by decide) (by omega)
        obtain ⟨ka, s2, a1, d2, e2⟩ := kind_dr n (by omega) K d1 (by omega)
        by_cases h5 : r = 5
        · subst h5
          refine ⟨.bx ka, s2, by show ka.deep + 1 ≤ _; omega, d2.mono (by omega), fun R => ?_⟩
          refine run_law_kind (k := K + n + 3) (S' := dst cs s2 R) (r := (Kd.bx ka).d) ?_ (gc_dst0 (by simp))
          simp [b_law_kind, Out.bnd, fInt, hz, e1, hcast, e2]
          rfl
        · obtain ⟨kb, s3, b1, d3, e3⟩ := kind_dr n (by omega) K d2 (by omega)
          have h34 : r = 3 ∨ r = 4 := by omega
          rcases h34 with rfl | rfl
          · refine ⟨.fn ka kb, s3, by show max ka.deep kb.deep + 1 ≤ _; omega, d3.mono (by omega), fun R => ?_⟩
            have hix := ix_lst (S := dst cs s1 (R ++ [.lst [D.str "fun", .str "pair"]])) (j := R.length + 3) (r := 0) (d := .str "fun") dst_last (by decide) rfl
            refine run_law_kind (k := K + n + 3) (S' := dst cs s3 (R ++ [.lst [D.str "fun", .str "pair"]])) (r := (Kd.fn ka kb).d) ?_ (gc_dst (by simp))
            simp [b_law_kind, Out.bnd, fInt, hz, e1, hcast, e2, e3, hix]
            rfl
          · refine ⟨.pr ka kb, s3, by show max ka.deep kb.deep + 1 ≤ _; omega, d3.mono (by omega), fun R => ?_⟩
            have hix := ix_lst (S := dst cs s1 (R ++ [.lst [D.str "fun", .str "pair"]])) (j := R.length + 3) (r := 1) (d := .str "pair") dst_last (by decide) rfl
            refine run_law_kind (k := K + n + 3) (S' := dst cs s3 (R ++ [.lst [D.str "fun", .str "pair"]])) (r := (Kd.pr ka kb).d) ?_ (gc_dst (by simp))
            simp [b_law_kind, Out.bnd, fInt, hz, e1, hcast, e2, e3, hix]
            rfl
/-- a kind so deep as is drawn -/
theorem kinds_dr {b : Nat} {cs : List Int} {s : Ds} (K : Nat) (hd : Dr b cs s) (hb : b + 1000 ≤ 2 ^ 60) :
    ∃ (kd : Kd) (s' : Ds), kd.deep ≤ 4 ∧ Dr (b + 82) cs s' ∧ ∀ R, ∃ (v : Int) (s1 : Ds), Phi T G (K + 6) i_law_next [.ob 2, .int 4] (dst cs s R) = .ok (.int v) (dst cs s1 R) ∧ Phi T G (K + 6) i_law_kind [.ob 2, .int v] (dst cs s1 R) = .ok kd.d (dst cs s' R) := by
  obtain ⟨r, s1, r0, r1, d1, e1⟩ := nx (b := b) (K + 4) 4 hd (by omega) (by decide) (by decide)
  have hr : r.toNat ≤ 3 := by omega
  have hp : 3 ^ (r.toNat + 1) ≤ 3 ^ 4 := Nat.pow_le_pow_right (by decide) (by omega)
  obtain ⟨kd, s2, k1, d2, e2⟩ := kind_dr r.toNat hr (K + 3 - r.toNat) d1 (by omega)
  refine ⟨kd, s2, by omega, d2.mono (by omega), fun R => ⟨r, s1, e1 R, ?_⟩⟩
  have e2 := e2 R
  rw [show K + 3 - r.toNat + r.toNat + 3 = K + 6 by omega, Int.toNat_of_nonneg r0] at e2
  exact e2
abbrev nmsD : List D := [.str "x", .str "f", .str "zz", .str "a", .str "longname", .str "aa", .str "b", .str "ab"]
theorem nms_of {d : D} (h : d ∈ nmsD) : ∃ x ∈ nmsL, d = .str x := by
  obtain ⟨x, hx, rfl⟩ := List.mem_map.mp (show d ∈ nmsL.map D.str from h)
  exact ⟨x, hx, rfl⟩
theorem name_dr {b : Nat} {cs : List Int} {s : Ds} {ns : List Str} (K : Nat) (hns : ∀ x ∈ ns, x ∈ nmsL) (hl : ns.length ≤ 1000) (hd : Dr b cs s) (hb : b + 1000 ≤ 2 ^ 60) :
    ∃ (x : Str) (s' : Ds), x ∈ nmsL ∧ Dr (b + 2) cs s' ∧ ∀ R, Phi T G (K + 3) i_law_name [.ob 2, .tup (ns.map D.str)] (dst cs s R) = .ok (.str x) (dst cs s' R) := by
  have last : ∀ {b : Nat} {s1 : Ds}, Dr b cs s1 → b + 10 ≤ 2 ^ 60 → ∃ (x : Str) (s' : Ds), x ∈ nmsL ∧ Dr (b + 1) cs s' ∧ ∀ (R : Sto), ∃ r, Phi T G (K + 2) i_law_next [.ob 2, .int 8] (dst cs s1 (R ++ [.lst nmsD])) = .ok (.int r) (dst cs s' (R ++ [.lst nmsD])) ∧ aIx (.ob (R.length + 3)) (.int r) (dst cs s' (R ++ [.lst nmsD])) = some (.str x, dst cs s' (R ++ [.lst nmsD])) := fun hd hb => by
    obtain ⟨r, s2, r0, r1, d2, e2⟩ := nx K 8 hd (by omega) (by decide) (by decide)
    obtain ⟨d, hm, hx⟩ := pick (xs := nmsD) r0 r1
    obtain ⟨x, hx1, rfl⟩ := nms_of hm
    exact ⟨x, s2, hx1, d2, fun R => ⟨r, e2 _, hx _ _ dst_last⟩⟩
  by_cases hn : ns = []
  · subst hn
    obtain ⟨x, s2, h1, d2, e2⟩ := last hd (by omega)
    refine ⟨x, s2, h1, d2.mono (by omega), fun R => ?_⟩
    obtain ⟨r, e2, e3⟩ := e2 R
    refine run_law_name (k := K + 2) (S' := dst cs s2 (R ++ [.lst nmsD])) (r := .str x) ?_ (gc_dst rfl)
    have hne : ∀ S, aNe (.tup []) (.tup []) S = some (.bl false, S) := fun S => rfl
    simp [b_law_name, Out.bnd, hne, e2, e3]
  · have hne : ∀ S, aNe (.tup (ns.map D.str)) (.tup []) S = some (.bl true, S) := fun S => by
      have := (eq_pt (S := S) (a := .tup (ns.map D.str)) (b := .tup []) (c := false) (by unfold D.pt; exact pt_strs ns) rfl (.inr (by decide +kernel)) (by simp [hn])).2
      exact this
    obtain ⟨r, s1, r0, r1, d1, e1⟩ := nx K 3 hd (by omega) (by decide) (by decide)
    by_cases hr : 0 < r
    · have hlen : (0 : Int) < ns.length := by
        have := List.length_pos_iff.mpr hn
        omega
      obtain ⟨r2, s2, r20, r21, d2, e2⟩ := nx K (ns.length : Int) d1 (by omega) hlen (by omega)
      have hlt : r2.toNat < ns.length := by omega
      refine ⟨ns[r2.toNat], s2, hns _ (List.getElem_mem hlt), d2, fun R => ?_⟩
      have hix : ∀ S, aIx (.tup (ns.map D.str)) (.int r2) S = some (.str ns[r2.toNat], S) := fun S => ixT r2.toNat (by omega) (by rw [List.getElem?_map, List.getElem?_eq_getElem hlt]; rfl)
      refine run_law_name (k := K + 2) (S' := dst cs s2 (R ++ [.lst nmsD])) (r := .str ns[r2.toNat]) ?_ (gc_dst rfl)
      have hl2 : ∀ S, fLen [.tup (ns.map D.str)] S = some (.int ns.length, S) := fun S => by rw [lenT, List.length_map]
      generalize D.tup (ns.map D.str) = nd at *
      generalize (ns.length : Int) = nl at *
      simp [b_law_name, Out.bnd, hne, e1, hr, hl2, e2, hix]
    · obtain ⟨x, s2, h1, d2, e2⟩ := last d1 (by omega)
      refine ⟨x, s2, h1, d2, fun R => ?_⟩
      obtain ⟨r2, e2, e3⟩ := e2 R
      refine run_law_name (k := K + 2) (S' := dst cs s2 (R ++ [.lst nmsD])) (r := .str x) ?_ (gc_dst rfl)
      generalize D.tup (ns.map D.str) = nd at *
      simp [b_law_name, Out.bnd, hne, e1, hr, e2, e3]
/-- a number, a truth, a name -/
inductive Pw where | num | tru | nam
def Pw.s : Pw → Str
  | .num => "number" | .tru => "truth" | .nam => "name"
theorem pw_ne : ("number" : Str) ≠ "truth" ∧ ("truth" : Str) ≠ "number" ∧ ("name" : Str) ≠ "number" ∧ ("name" : Str) ≠ "truth" := by decide +kernel
theorem plain_dr {b : Nat} {cs : List Int} {s : Ds} {ns : List Str} (K : Nat) (w : Pw) (hns : ∀ x ∈ ns, x ∈ nmsL) (hl : ns.length ≤ 1000) (hd : Dr b cs s) (hb : b + 1000 ≤ 2 ^ 60) :
    ∃ (t : DL.Tm) (s' : Ds), t.size = 1 ∧ t.deep = 1 ∧ t.allP Pt.dr ∧ Dr (b + 3) cs s' ∧ ∀ R, Phi T G (K + 4) i_law_plain [.ob 2, .str w.s, .tup (ns.map D.str)] (dst cs s R) = .ok t.d (dst cs s' R) := by
  obtain ⟨h1, h2, h3, h4⟩ := pw_ne
  cases w with
  | num =>
    obtain ⟨r1, s1, a1, b1, d1, e1⟩ := nx (K + 1) 1000000000000 hd (by omega) (by decide) (by decide)
    obtain ⟨r2, s2, a2, b2, d2, e2⟩ := nx (K + 1) 1000 d1 (by omega) (by decide) (by decide)
    obtain ⟨r3, s3, a3, b3, d3, e3⟩ := nx (K + 1) 8 d2 (by omega) (by decide) (by decide)
    obtain ⟨d, hm, hx⟩ := pick (xs := [.int 0, .int 1, .int (-1), .int 7, .int 1000000000000, .int (-1000000000000), .int r1, .int (-r2)]) a3 b3
    have hp : ∀ S, aPow (.int 10) (.int 12) S = some (.int 1000000000000, S) := fun S => by
      rw [pow_ok (by decide)]
      have : (10 : Int) ^ (12 : Int).toNat = 1000000000000 := by decide +kernel
      rw [this]
    obtain ⟨v, hv, rfl⟩ : ∃ v : Int, (-1000000000000 ≤ v ∧ v ≤ 1000000000000) ∧ d = .int v := by
      simp only [List.mem_cons, List.not_mem_nil, or_false] at hm
      rcases hm with rfl | rfl | rfl | rfl | rfl | rfl | rfl | rfl <;> exact ⟨_, by omega, rfl⟩
    refine ⟨.num v, s3, rfl, rfl, hv, d3, fun R => ?_⟩
    have hx := hx (dst cs s3 (R ++ [.lst [.int 0, .int 1, .int (-1), .int 7, .int 1000000000000, .int (-1000000000000), .int r1, .int (-r2)]])) (R.length + 3) dst_last
    refine run_law_plain (k := K + 3) (S' := dst cs s3 (R ++ [.lst [.int 0, .int 1, .int (-1), .int 7, .int 1000000000000, .int (-1000000000000), .int r1, .int (-r2)]])) (r := .tup [.str "number", .int v]) ?_ (gc_dst rfl)
    simp [b_law_plain, Out.bnd, Pw.s, hp, e1, e2, e3, hx]
  | tru =>
    obtain ⟨r, s1, r0, r1, d1, e1⟩ := nx (K + 1) 2 hd (by omega) (by decide) (by decide)
    refine ⟨.tru (decide (r = 1)), s1, rfl, rfl, trivial, d1.mono (by omega), fun R => ?_⟩
    refine run_law_plain (k := K + 3) (S' := dst cs s1 R) (r := .tup [.str "truth", .bl (decide (r = 1))]) ?_ (gc_dst0 rfl)
    simp [b_law_plain, Out.bnd, Pw.s, h2, e1]
  | nam =>
    obtain ⟨x, s1, hx, d1, e1⟩ := name_dr K hns hl hd hb
    refine ⟨.nam x, s1, rfl, rfl, hx, d1.mono (by omega), fun R => ?_⟩
    refine run_law_plain (k := K + 3) (S' := dst cs s1 R) (r := .tup [.str "name", .str x]) ?_ (gc_dst0 rfl)
    generalize D.tup (ns.map D.str) = nd at *
    simp [b_law_plain, Out.bnd, Pw.s, h3, h4, e1]
end
end K07
/-! DT, part b: the store with the room that is left for a drawn term. -/
namespace DL
open PySem PySem.Spec PyProof.Rows L2
noncomputable section
/-- the draw, the room's list behind R, more behind it -/
abbrev dsr (cs : List Int) (s : Ds) (R : Sto) (r : Int) (T : Sto) : Sto := dst cs s (R ++ .lst [.int r] :: T)
section
variable {cs : List Int} {s s' : Ds} {R T U : Sto} {r r' : Int}
theorem room_get : (dsr cs s R r T)[R.length + 3]? = some (.lst [.int r]) := by
  rw [dst_get, List.getElem?_append_right (Nat.le_refl _), Nat.sub_self]
  rfl
theorem room_ix : aIx (.ob (R.length + 3)) (.int 0) (dsr cs s R r T) = some (.int r, dsr cs s R r T) := ix_lst room_get (by decide) rfl
theorem room_set : aSet (.ob (R.length + 3)) (.int 0) (.int r') (dsr cs s R r T) = some (dsr cs s R r' T) := by
  show (match (dsr cs s R r T)[R.length + 3]? with
    | some (.lst xs) => (ixN xs.length 0).map fun j => (dsr cs s R r T).set (R.length + 3) (.lst (xs.set j (.int r')))
    | some (.dk kvs) => match keyD (.int 0) with
      | some k => if kvs.length < sizeLine then some ((dsr cs s R r T).set (R.length + 3) (.dk (putD kvs k (.int r')))) else none
      | none => none
    | _ => none) = _
  rw [room_get]
  show some ((dsr cs s R r T).set (R.length + 3) (.lst [.int r'])) = _
  rw [dst_set, List.set_append_right _ _ (Nat.le_refl _), Nat.sub_self]
  rfl
theorem dsr_app : dsr cs s R r T ++ U = dsr cs s R r (T ++ U) := by
  unfold dsr
  rw [d_app, List.append_assoc, List.cons_append]
theorem dsr_len : List.length (dsr cs s R r T) = R.length + 4 + T.length := by
  unfold dsr
  rw [d_len, List.length_append, List.length_cons]
  omega
theorem dsr_new {o : O} : (dsr cs s R r (T ++ o :: U))[R.length + 4 + T.length]? = some o := by
  unfold dsr
  rw [show R.length + 4 + T.length = (R.length + 1 + T.length) + 3 by omega, dst_get, List.getElem?_append_right (by omega), show R.length + 1 + T.length - R.length = T.length + 1 by omega, List.getElem?_cons_succ, List.getElem?_append_right (Nat.le_refl _), Nat.sub_self]
  rfl
theorem gc_dsr {d : D} (h : d.und (R.length + 4 + T.length) = true) : gcO (dsr cs s R r T) d (dsr cs s' R r' (T ++ U)) = .ok d (dsr cs s' R r' T) := by
  have hl : (dsr cs s R r T).length = R.length + 4 + T.length := dsr_len
  have hl' : (dsr cs s' R r' (T ++ U)).length = R.length + 4 + (T ++ U).length := dsr_len
  have ho : Olds (dsr cs s R r T) (dsr cs s' R r' (T ++ U)) := by
    refine ⟨by rw [hl, hl', List.length_append]; omega, fun i hi => ?_⟩
    match i, hi with
    | 0, _ => exact .inl rfl
    | 1, _ => exact .inl rfl
    | 2, _ =>
      refine .inr ⟨drw s', rfl, ?_⟩
      rw [hl]
      show (decide (1 < R.length + 4 + T.length) && (true && (true && (true && true)))) = true
      rw [decide_eq_true (by omega)]
      rfl
    | i + 3, hi =>
      rw [dst_get, dst_get]
      by_cases h1 : i < R.length
      · rw [List.getElem?_append_left h1, List.getElem?_append_left h1]
        exact .inl rfl
      · by_cases h2 : i = R.length
        · subst h2
          rw [List.getElem?_append_right (Nat.le_refl _), Nat.sub_self]
          exact .inr ⟨_, rfl, rfl⟩
        · obtain ⟨j, hj⟩ : ∃ j, i - R.length = j + 1 := ⟨i - R.length - 1, by omega⟩
          rw [List.getElem?_append_right (by omega), List.getElem?_append_right (by omega), hj, List.getElem?_cons_succ, List.getElem?_cons_succ]
          rw [hl] at hi
          rw [List.getElem?_append_left (by omega)]
          exact .inl rfl
  unfold gcO
  rw [if_pos ⟨ho, by rw [hl]; exact h⟩, hl]
  have : (dsr cs s' R r' (T ++ U)).take (R.length + 4 + T.length) = dsr cs s' R r' T := by
    have e : dsr cs s' R r' (T ++ U) = dsr cs s' R r' T ++ U := dsr_app.symm
    rw [e, List.take_append_of_le_length (by rw [dsr_len]; omega), List.take_of_length_le (by rw [dsr_len]; omega)]
  rw [this]
theorem gc_dsr0 {d : D} (h : d.und (R.length + 4 + T.length) = true) : gcO (dsr cs s R r T) d (dsr cs s' R r' T) = .ok d (dsr cs s' R r' T) := by
  have := gc_dsr (cs := cs) (s := s) (s' := s') (R := R) (T := T) (U := []) (r := r) (r' := r') h
  rwa [List.append_nil] at this
end
/-- one more turn of a comprehension without a test -/
theorem compL_step {ok : Sto → Prop} {t : DTg} {e : DenE} {fr fr1 : Fr} {x : D} {xs : List D} {S S1 S2 : Sto} {d : D} {ds : List D} (hok : ok S) (ht : t x fr S = some fr1) (he : e fr1 S = .ok d S1) (hr : compL ok t dYes e fr xs S1 = .ok ds S2) :
    compL ok t dYes e fr (x :: xs) S = .ok (d :: ds) S2 := by
  unfold compL
  rw [if_pos hok, ht]
  dsimp only [dYes]
  rw [he]
  dsimp only
  rw [hr]
theorem compL_none {ok : Sto → Prop} {t : DTg} {tt : DenT} {e : DenE} {fr : Fr} {S : Sto} (hok : ok S) : compL ok t tt e fr [] S = .ok [] S := by
  unfold compL
  exact if_pos hok
end
end DL
/-! the terms that this law draws, whole -/
namespace K07
open PySem PySem.Spec PyProof.Rows L2 DL
noncomputable section
abbrev szs (ts : List DL.Tm) : Nat := (ts.map DL.Tm.size).sum
def TermDr (K n : Nat) : Prop := ∀ {b : Nat} {cs : List Int} {s : Ds} {r : Int} {ns : List Str}, (∀ x ∈ ns, x ∈ nmsL) → ns.length + 2 * n ≤ 900 → Dr b cs s → -20 ≤ r → (b : Int) + 300 * r ≤ 288230376151711744 →
  ∃ (t : DL.Tm) (s' : Ds), t.allP Pt.dr ∧ t.deep ≤ n + 1 ∧ ((t.size : Int) ≤ 1 ∨ (2 ≤ r ∧ (t.size : Int) ≤ r + 2 * n)) ∧ Dr (b + 300 * t.size) cs s' ∧
    ∀ R U, Phi T G (K + 2 * n + 10) i_law_term [.ob 2, .tup (ns.map D.str), .ob (R.length + 3), .int n] (dsr cs s R r U) = .ok t.d (dsr cs s' R (r - t.size) U)
theorem dsr_nx {k : Nat} {m v : Int} {cs : List Int} {s s' : Ds} {i : Nat} (h : ∀ R, Phi T G k i [.ob 2, .int m] (dst cs s R) = .ok (.int v) (dst cs s' R)) (R U : Sto) (r : Int) : Phi T G k i [.ob 2, .int m] (dsr cs s R r U) = .ok (.int v) (dsr cs s' R r U) := h _
/-- terms beside one another -/
theorem terms_dr {K n : Nat} (ih : TermDr K n) (hn : n ≤ 8) {cs : List Int} {ns : List Str} (hns : ∀ x ∈ ns, x ∈ nmsL) (hl : ns.length + 2 * n ≤ 900) (n1 : D) (hn1 : ∀ S, aSub n1 (.int 1) S = some (.int (n : Int), S)) :
    ∀ (items : List D) {b : Nat} {s : Ds} {r : Int}, Dr b cs s → items.length ≤ 3 → (items.length : Int) - 3 - 2 * n ≤ r → (b : Int) + 300 * r ≤ 288230376151711744 →
    ∃ (ts : List DL.Tm) (s' : Ds), ts.length = items.length ∧ (∀ t ∈ ts, t.allP Pt.dr ∧ t.deep ≤ n + 1) ∧ ((szs ts : Int) ≤ items.length ∨ (2 ≤ r ∧ (szs ts : Int) ≤ r + 2 * n + (items.length - 1))) ∧ Dr (b + 300 * szs ts) cs s' ∧
      ∀ R U x4 x5 x6 x7 x8, compL (Src.mk items []).ok (gN 8) dYes (dCall 4 (Phi T G (K + 2 * n + 10) i_law_term) (dACons (dVar 0) (dACons (dVar 1) (dACons (dVar 2) (dACons (dOp aSub (dVar 3) (dC (.int 1))) dANil))))) [some (.ob 2), some (.tup (ns.map D.str)), some (.ob (R.length + 3)), some n1, x4, x5, x6, x7, x8] items (dsr cs s R r U)
        = .ok (ts.map DL.Tm.d) (dsr cs s' R (r - szs ts) U) := by
  have key : ∀ (all items : List D) {b : Nat} {s : Ds} {r : Int}, Dr b cs s → items.length ≤ 3 → (items.length : Int) - 3 - 2 * n ≤ r → (b : Int) + 300 * r ≤ 288230376151711744 →
    ∃ (ts : List DL.Tm) (s' : Ds), ts.length = items.length ∧ (∀ t ∈ ts, t.allP Pt.dr ∧ t.deep ≤ n + 1) ∧ ((szs ts : Int) ≤ items.length ∨ (2 ≤ r ∧ (szs ts : Int) ≤ r + 2 * n + (items.length - 1))) ∧ Dr (b + 300 * szs ts) cs s' ∧
      ∀ R U x4 x5 x6 x7 x8, compL (Src.mk all []).ok (gN 8) dYes (dCall 4 (Phi T G (K + 2 * n + 10) i_law_term) (dACons (dVar 0) (dACons (dVar 1) (dACons (dVar 2) (dACons (dOp aSub (dVar 3) (dC (.int 1))) dANil))))) [some (.ob 2), some (.tup (ns.map D.str)), some (.ob (R.length + 3)), some n1, x4, x5, x6, x7, x8] items (dsr cs s R r U)
        = .ok (ts.map DL.Tm.d) (dsr cs s' R (r - szs ts) U) := by
    intro all items
    induction items with
    | nil =>
      intro b s r hd _ _ _
      refine ⟨[], s, rfl, (fun t ht => by cases ht), .inl (by simp [szs]), hd, fun R U x4 x5 x6 x7 x8 => ?_⟩
      rw [compL_none noGuard]
      show Out.ok [] (dsr cs s R r U) = .ok [] (dsr cs s R (r - 0) U)
      rw [Int.sub_zero]
    | cons d items hi =>
      intro b s r hd h3 hr hb
      rw [List.length_cons] at h3 hr
      obtain ⟨t, s1, t1, t2, t3, t4, t5⟩ := ih hns hl hd (by omega) hb
      have tp := t.size_pos
      obtain ⟨ts, s2, u1, u2, u3, u4, u5⟩ := hi (r := r - t.size) t4 (by omega) (by omega) (by omega)
      have es : szs (t :: ts) = t.size + szs ts := by simp [szs]
      refine ⟨t :: ts, s2, by rw [List.length_cons, List.length_cons, u1], fun q hq => ?_, ?_, ?_, fun R U x4 x5 x6 x7 x8 => ?_⟩
      · rcases List.mem_cons.mp hq with rfl | hq
        · exact ⟨t1, t2⟩
        · exact u2 q hq
      · rw [es, List.length_cons]
        omega
      · rw [es]
        exact u4.mono (by omega)
      · have e5 := t5 R U
        have e6 := u5 R U x4 x5 x6 x7 x8
        rw [es, show r - ((t.size + szs ts : Nat) : Int) = r - t.size - (szs ts : Int) by omega, List.map_cons]
        refine compL_step noGuard rfl ?_ e6
        generalize D.tup (ns.map D.str) = nd at *
        simp [Out.bnd, hn1, e5]
  exact fun items => key items items
/-- fun, let, rec -/
inductive Hw where | fn | lt | rc
def Hw.s : Hw → Str
  | .fn => "fun" | .lt => "let" | .rc => "rec"
theorem hw_ne : ("let" : Str) ≠ "fun" ∧ ("rec" : Str) ≠ "fun" ∧ ("rec" : Str) ≠ "let" := by decide +kernel
theorem add_strs (ns ms : List Str) (h : ns.length + ms.length ≤ 1000) (S : Sto) : aAdd (.tup (ns.map D.str)) (.tup (ms.map D.str)) S = some (.tup ((ns ++ ms).map D.str), S) := by
  rw [addT (by rw [List.length_map, List.length_map]; exact h), List.map_append]
theorem holder_dr {K n : Nat} (ih : TermDr K n) (hn : n ≤ 8) (w : Hw) {b : Nat} {cs : List Int} {s : Ds} {r : Int} {ns : List Str} (hns : ∀ x ∈ ns, x ∈ nmsL) (hl : ns.length + 2 * n + 2 ≤ 900) (hd : Dr b cs s) (hr : 1 ≤ r) (hb : (b : Int) + 200 + 300 * r ≤ 288230376151711744) :
    ∃ (t : DL.Tm) (s' : Ds), t.allP Pt.dr ∧ t.deep ≤ n + 2 ∧ ((t.size : Int) ≤ 3 ∨ (2 ≤ r ∧ (t.size : Int) ≤ r + 2 * n + 2)) ∧ 1 ≤ t.size ∧ Dr (b + 200 + 300 * (t.size - 1)) cs s' ∧
    ∀ R U, Phi T G (K + 2 * n + 11) i_law_holder [.ob 2, .str w.s, .tup (ns.map D.str), .ob (R.length + 3), .int n] (dsr cs s R r U) = .ok t.d (dsr cs s' R (r - (t.size - 1)) U) := by
  obtain ⟨hw1, hw2, hw3⟩ := hw_ne
  obtain ⟨x, s1, x1, d1, e1⟩ := name_dr (K + 2 * n + 7) (ns := []) (fun x hx => by cases hx) (by decide) hd (by omega)
  obtain ⟨k, s2, k1, d2, e2⟩ := kinds_dr (K + 2 * n + 4) d1 (by omega)
  have e1 : ∀ R U, Phi T G (K + 2 * n + 10) i_law_name [.ob 2, .tup []] (dsr cs s R r U) = .ok (.str x) (dsr cs s1 R r U) := fun R U => e1 _
  have e2 : ∀ R U, ∃ (v : Int) (s3 : Ds), Phi T G (K + 2 * n + 10) i_law_next [.ob 2, .int 4] (dsr cs s1 R r U) = .ok (.int v) (dsr cs s3 R r U) ∧ Phi T G (K + 2 * n + 10) i_law_kind [.ob 2, .int v] (dsr cs s3 R r U) = .ok k.d (dsr cs s2 R r U) := fun R U => by
    obtain ⟨v, s3, q1, q2⟩ := e2 (R ++ .lst [.int r] :: U)
    exact ⟨v, s3, q1, q2⟩
  cases w with
  | fn =>
    obtain ⟨t, s3, t1, t2, t3, t4, t5⟩ := ih (ns := ns ++ [x]) (fun y hy => by rcases List.mem_append.mp hy with h | h; exact hns y h; rw [List.mem_singleton.mp h]; exact x1) (by rw [List.length_append]; show ns.length + 1 + _ ≤ _; omega) d2 (r := r) (by omega) (by omega)
    have es : (DL.Tm.fn x k t).size = t.size + 1 := rfl
    refine ⟨.fn x k t, s3, ⟨x1, k1, t1⟩, by show t.deep + 1 ≤ _; omega, by rw [es]; omega, by rw [es]; omega, t4.mono (by rw [es]; omega), fun R U => ?_⟩
    obtain ⟨v, s4, q1, q2⟩ := e2 R U
    have hadd := add_strs ns [x] (by show ns.length + 1 ≤ 1000; omega)
    have e3 := t5 R U
    have e1 := e1 R U
    rw [es, show r - (((t.size + 1 : Nat) : Int) - 1) = r - t.size by omega]
    refine run_law_holder (k := K + 2 * n + 10) (S' := dsr cs s3 R (r - t.size) U) (r := (DL.Tm.fn x k t).d) ?_ (gc_dsr0 (by simp))
    rw [show ([x] : List Str).map D.str = [D.str x] from rfl] at hadd
    generalize D.tup ((ns ++ [x]).map D.str) = nx at *
    generalize D.tup (ns.map D.str) = nd at *
    generalize dsr cs s R r U = S0 at *
    generalize dsr cs s1 R r U = S1 at *
    generalize dsr cs s2 R r U = S2 at *
    generalize dsr cs s4 R r U = S4 at *
    generalize dsr cs s3 R (r - t.size) U = S3 at *
    simp [b_law_holder, Out.bnd, Hw.s, e1, q1, q2, hadd, e3]
    rfl
  | lt =>
    obtain ⟨t, s3, t1, t2, t3, t4, t5⟩ := ih (ns := ns) hns (by omega) d2 (r := r) (by omega) (by omega)
    have tp := t.size_pos
    obtain ⟨u, s5, u1, u2, u3, u4, u5⟩ := ih (ns := ns ++ [x]) (fun y hy => by rcases List.mem_append.mp hy with h | h; exact hns y h; rw [List.mem_singleton.mp h]; exact x1) (by rw [List.length_append]; show ns.length + 1 + _ ≤ _; omega) t4 (r := r - t.size) (by omega) (by omega)
    have up := u.size_pos
    have es : (DL.Tm.lt x k t u).size = t.size + u.size + 1 := rfl
    refine ⟨.lt x k t u, s5, ⟨x1, k1, t1, u1⟩, by show max t.deep u.deep + 1 ≤ _; omega, by rw [es]; omega, by rw [es]; omega, u4.mono (by rw [es]; omega), fun R U => ?_⟩
    obtain ⟨v, s4, q1, q2⟩ := e2 R U
    have hadd := add_strs ns [x] (by show ns.length + 1 ≤ 1000; omega)
    have e3 := t5 R U
    have e4 := u5 R U
    have e1 := e1 R U
    rw [es, show r - (((t.size + u.size + 1 : Nat) : Int) - 1) = r - t.size - u.size by omega]
    refine run_law_holder (k := K + 2 * n + 10) (S' := dsr cs s5 R (r - t.size - u.size) U) (r := (DL.Tm.lt x k t u).d) ?_ (gc_dsr0 (by simp))
    rw [show ([x] : List Str).map D.str = [D.str x] from rfl] at hadd
    generalize D.tup ((ns ++ [x]).map D.str) = nx at *
    generalize D.tup (ns.map D.str) = nd at *
    generalize dsr cs s R r U = S0 at *
    generalize dsr cs s1 R r U = S1 at *
    generalize dsr cs s2 R r U = S2 at *
    generalize dsr cs s4 R r U = S4 at *
    generalize dsr cs s3 R (r - t.size) U = S3 at *
    generalize dsr cs s5 R (r - t.size - u.size) U = S5 at *
    simp [b_law_holder, Out.bnd, Hw.s, hw1, e1, q1, q2, hadd, e3, e4]
    rfl
  | rc =>
    obtain ⟨f, s3, f1, d3, e3⟩ := name_dr (K + 2 * n + 7) (ns := []) (fun x hx => by cases hx) (by decide) d2 (by omega)
    obtain ⟨k2, s5, k21, d5, e5⟩ := kinds_dr (K + 2 * n + 4) d3 (by omega)
    have e3 : ∀ R U, Phi T G (K + 2 * n + 10) i_law_name [.ob 2, .tup []] (dsr cs s2 R r U) = .ok (.str f) (dsr cs s3 R r U) := fun R U => e3 _
    obtain ⟨t, s6, t1, t2, t3, t4, t5⟩ := ih (ns := ns ++ [f, x]) (fun y hy => by
      rcases List.mem_append.mp hy with h | h
      · exact hns y h
      · rcases List.mem_cons.mp h with rfl | h
        · exact f1
        · rw [List.mem_singleton.mp h]; exact x1) (by rw [List.length_append]; show ns.length + 2 + _ ≤ _; omega) d5 (r := r) (by omega) (by omega)
    have es : (DL.Tm.rc f x k k2 t).size = t.size + 1 := rfl
    refine ⟨.rc f x k k2 t, s6, ⟨f1, x1, k1, k21, t1⟩, by show t.deep + 1 ≤ _; omega, by rw [es]; omega, by rw [es]; omega, t4.mono (by rw [es]; omega), fun R U => ?_⟩
    obtain ⟨v, s4, q1, q2⟩ := e2 R U
    obtain ⟨v2, s7, q3, q4⟩ := e5 (R ++ .lst [.int r] :: U)
    have q3 : Phi T G (K + 2 * n + 10) i_law_next [.ob 2, .int 4] (dsr cs s3 R r U) = .ok (.int v2) (dsr cs s7 R r U) := q3
    have q4 : Phi T G (K + 2 * n + 10) i_law_kind [.ob 2, .int v2] (dsr cs s7 R r U) = .ok k2.d (dsr cs s5 R r U) := q4
    have hadd := add_strs ns [f, x] (by show ns.length + 2 ≤ 1000; omega)
    have e6 := t5 R U
    have e1 := e1 R U
    have e3 := e3 R U
    rw [es, show r - (((t.size + 1 : Nat) : Int) - 1) = r - t.size by omega]
    refine run_law_holder (k := K + 2 * n + 10) (S' := dsr cs s6 R (r - t.size) U) (r := (DL.Tm.rc f x k k2 t).d) ?_ (gc_dsr0 (by simp))
    rw [show ([f, x] : List Str).map D.str = [D.str f, D.str x] from rfl] at hadd
    generalize D.tup ((ns ++ [f, x]).map D.str) = nx at *
    generalize D.tup (ns.map D.str) = nd at *
    generalize dsr cs s R r U = S0 at *
    generalize dsr cs s1 R r U = S1 at *
    generalize dsr cs s2 R r U = S2 at *
    generalize dsr cs s4 R r U = S4 at *
    generalize dsr cs s3 R r U = S3 at *
    generalize dsr cs s5 R r U = S5 at *
    generalize dsr cs s7 R r U = S7 at *
    generalize dsr cs s6 R (r - t.size) U = S6 at *
    simp [b_law_holder, Out.bnd, Hw.s, hw2, hw3, e1, q1, q2, e3, q3, q4, hadd, e6]
    rfl
end
end K07
/-! a term that this law draws -/
namespace K07
open PySem PySem.Spec PyProof.Rows L2 DL
noncomputable section
abbrev w13 : List D := [.str "number", .str "truth", .str "name", .str "fun", .str "rec", .str "let", .str "as", .str "op", .str "call", .str "pair", .str "put", .str "first", .str "second"]
abbrev w16 : List D := w13 ++ [.str "box", .str "open", .str "if"]
def tA : DenS := (dSetIx (dVar 2) (dC (.int 0)) (dOp aSub (dOp aIx (dVar 2) (dC (.int 0))) (dC (.int 1))))
def tB : DenS := (dSet 4 (dLst (dACons (dC (.str "number")) (dACons (dC (.str "truth")) (dACons (dC (.str "name")) (dACons (dC (.str "fun")) (dACons (dC (.str "rec")) (dACons (dC (.str "let")) (dACons (dC (.str "as")) (dACons (dC (.str "op")) (dACons (dC (.str "call")) (dACons (dC (.str "pair")) (dACons (dC (.str "put")) (dACons (dC (.str "first")) (dACons (dC (.str "second")) dANil)))))))))))))))
def tC (Φ : PhT) : DenS := (dSet 5 (dOp aIx (dOp aAdd (dVar 4) (dLst (dACons (dC (.str "box")) (dACons (dC (.str "open")) (dACons (dC (.str "if")) dANil))))) (dCall 2 (Φ i_law_next) (dACons (dVar 0) (dACons (dIf (dTAnd (dCmpT aGt (dVar 3) (dC (.int 0))) (dCmpT aGt (dOp aIx (dVar 2) (dC (.int 0))) (dC (.int 0)))) (dC (.int 16)) (dC (.int 3))) dANil)))))
def dcM : DenE := (dM "dict" mGet (dDict [((dC (.str "first")), (dC (.int 1))), ((dC (.str "second")), (dC (.int 1))), ((dC (.str "box")), (dC (.int 1))), ((dC (.str "open")), (dC (.int 1))), ((dC (.str "if")), (dC (.int 3)))]) (dACons (dVar 5) (dACons (dC (.int 2)) dANil)))
def cmM (Φ : PhT) : DenA := (dComp [8] (dIRange1 (dACons (dVar 7) dANil)) (gN 8) dYes (dCall 4 (Φ i_law_term) (dACons (dVar 0) (dACons (dVar 1) (dACons (dVar 2) (dACons (dOp aSub (dVar 3) (dC (.int 1))) dANil))))))
def tail (Φ : PhT) : DenS := (dSeq (dSet 7 dcM) (dSeq (dRet (dOp aAdd (dVar 6) (dB fTup (cmM Φ)))) dNil))
def tR (Φ : PhT) : DenS := (dSeq (dIfS (dCmpT aIn (dVar 5) (dTup (dACons (dC (.str "number")) (dACons (dC (.str "truth")) (dACons (dC (.str "name")) dANil))))) (dSeq (dRet (dCall 3 (Φ i_law_plain) (dACons (dVar 0) (dACons (dVar 5) (dACons (dVar 1) dANil)))))
  dNil) dNil)
 (dSeq (dIfS (dCmpT aIn (dVar 5) (dTup (dACons (dC (.str "fun")) (dACons (dC (.str "rec")) (dACons (dC (.str "let")) dANil))))) (dSeq (dRet (dCall 5 (Φ i_law_holder) (dACons (dVar 0) (dACons (dVar 5) (dACons (dVar 1) (dACons (dVar 2) (dACons (dOp aSub (dVar 3) (dC (.int 1))) dANil)))))))
  dNil) dNil)
 (dSeq (dIfS (dCmpT aEq (dVar 5) (dC (.str "as"))) (dSeq (dRet (dTup (dACons (dVar 5) (dACons (dCall 4 (Φ i_law_term) (dACons (dVar 0) (dACons (dVar 1) (dACons (dVar 2) (dACons (dOp aSub (dVar 3) (dC (.int 1))) dANil))))) (dACons (dCall 2 (Φ i_law_kind) (dACons (dVar 0) (dACons (dCall 2 (Φ i_law_next) (dACons (dVar 0) (dACons (dC (.int 4)) dANil))) dANil))) dANil)))))
  dNil) dNil)
 (dSeq (dSet 6 (dTup (dACons (dVar 5) dANil)))
 (dSeq (dIfS (dCmpT aEq (dVar 5) (dC (.str "op"))) (dSeq (dSet 6 (dTup (dACons (dVar 5) (dACons (dOp aIx (dLst (dACons (dC (.str "+")) (dACons (dC (.str "-")) (dACons (dC (.str "*")) (dACons (dC (.str "<")) (dACons (dC (.str "=")) dANil)))))) (dCall 2 (Φ i_law_next) (dACons (dVar 0) (dACons (dC (.int 5)) dANil)))) dANil))))
  dNil) dNil)
 (tail Φ))))))
theorem b_term_eq (Φ : PhT) : b_law_term Φ = dSeq tA (dSeq tB (dSeq (tC Φ) (tR Φ))) := rfl
theorem in_strs (w : Str) (l : List Str) (S : Sto) : aIn (.str w) (.tup (l.map D.str)) S = some (.bl (decide (w ∈ l)), S) := by
  have hd : ∀ l : List Str, depL (l.map D.str) = 0 := fun l => by
    induction l with
    | nil => rfl
    | cons a l ih => show max 0 (depL (l.map D.str)) = 0; omega
  exact (in_pt (a := .str w) (xs := l.map D.str) (c := decide (w ∈ l)) rfl (pt_strs l) (by rw [hd]; omega) (by simp)).1
/-- the room's turn, the word -/
theorem word_dr {k n : Nat} {b : Nat} {cs : List Int} {s : Ds} {r : Int} (nd : D) (hd : Dr b cs s) (hb : b < 2 ^ 60) :
    ∃ (q : Int) (s1 : Ds) (w : D), 0 ≤ q ∧ (q < 3 ∨ (0 < n ∧ 1 < r ∧ q < 16)) ∧ w16[q.toNat]? = some w ∧ Dr (b + 1) cs s1 ∧ ∀ R U (rest : DenS), ∃ x4 V, dSeq tA (dSeq tB (dSeq (tC (Phi T G (k + 2))) rest)) [some (.ob 2), some nd, some (.ob (R.length + 3)), some (.int n), none, none, none, none, none] (dsr cs s R r U)
      = rest [some (.ob 2), some nd, some (.ob (R.length + 3)), some (.int n), some x4, some w, none, none, none] (dsr cs s1 R (r - 1) (U ++ V)) := by
  obtain ⟨m, hm, hm2, hm3⟩ : ∃ m : Int, (m = 3 ∨ (0 < n ∧ 1 < r ∧ m = 16)) ∧ (if (0 : Int) < (n : Int) then (if (0 : Int) < r - 1 then (16 : Int) else 3) else 3) = m ∧ m ≤ 16 := by
    by_cases h1 : (0 : Int) < (n : Int)
    · by_cases h2 : (0 : Int) < r - 1
      · exact ⟨16, .inr ⟨by omega, by omega, rfl⟩, by rw [if_pos h1, if_pos h2], by omega⟩
      · exact ⟨3, .inl rfl, by rw [if_pos h1, if_neg h2], by omega⟩
    · exact ⟨3, .inl rfl, by rw [if_neg h1], by omega⟩
  obtain ⟨q, s1, q0, q1, d1, e1⟩ := nx k m hd (by omega) (by omega) (by omega)
  have hlt : q.toNat < w16.length := by show q.toNat < 16; omega
  have hw := List.getElem?_eq_getElem hlt
  generalize w16[q.toNat] = w at hw
  refine ⟨q, s1, w, q0, by omega, hw, d1, fun R U rest => ⟨.ob (R.length + 4 + U.length), [.lst w13, .lst [.str "box", .str "open", .str "if"], .lst w16], ?_⟩⟩
  have eA : tA [some (.ob 2), some nd, some (.ob (R.length + 3)), some (.int n), none, none, none, none, none] (dsr cs s R r U) = .ok .nx [some (.ob 2), some nd, some (.ob (R.length + 3)), some (.int n), none, none, none, none, none] (dsr cs s R (r - 1) U) := by
    have e1 := room_ix (cs := cs) (s := s) (R := R) (T := U) (r := r)
    have e2 := room_set (cs := cs) (s := s) (R := R) (T := U) (r := r) (r' := r - 1)
    have hs : ∀ S, aSub (.int r) (.int 1) S = some (.int (r - 1), S) := fun _ => rfl
    generalize dsr cs s R r U = S0 at *
    generalize dsr cs s R (r - 1) U = S1 at *
    generalize r - 1 = r1 at *
    unfold tA dSetIx
    simp [Out.bnd, e1, e2, hs]
  have eB : tB [some (.ob 2), some nd, some (.ob (R.length + 3)), some (.int n), none, none, none, none, none] (dsr cs s R (r - 1) U) = .ok .nx [some (.ob 2), some nd, some (.ob (R.length + 3)), some (.int n), some (.ob (R.length + 4 + U.length)), none, none, none, none] (dsr cs s R (r - 1) (U ++ [.lst w13])) := by
    rw [← dsr_app, ← dsr_len (cs := cs) (s := s) (r := r - 1)]
    generalize dsr cs s R (r - 1) U = S1
    simp [tB, Out.bnd]
  have eC : tC (Phi T G (k + 2)) [some (.ob 2), some nd, some (.ob (R.length + 3)), some (.int n), some (.ob (R.length + 4 + U.length)), none, none, none, none] (dsr cs s R (r - 1) (U ++ [.lst w13])) = .ok .nx [some (.ob 2), some nd, some (.ob (R.length + 3)), some (.int n), some (.ob (R.length + 4 + U.length)), some w, none, none, none] (dsr cs s1 R (r - 1) (U ++ [.lst w13, .lst [.str "box", .str "open", .str "if"], .lst w16])) := by
    have a1 : dsr cs s R (r - 1) (U ++ [.lst w13]) ++ [.lst [D.str "box", .str "open", .str "if"]] = dsr cs s R (r - 1) (U ++ [.lst w13, .lst [D.str "box", .str "open", .str "if"]]) := by rw [dsr_app, List.append_assoc]; rfl
    have a2 : aAdd (.ob (R.length + 4 + U.length)) (.ob (dsr cs s R (r - 1) (U ++ [.lst w13])).length) (dsr cs s R (r - 1) (U ++ [.lst w13, .lst [D.str "box", .str "open", .str "if"]]))
        = some (.ob (R.length + 4 + U.length + 2), dsr cs s R (r - 1) (U ++ [.lst w13, .lst [.str "box", .str "open", .str "if"], .lst w16])) := by
      have h1 : (dsr cs s R (r - 1) (U ++ [.lst w13])).length = R.length + 4 + (U ++ [O.lst w13]).length := dsr_len
      have g1 : (dsr cs s R (r - 1) (U ++ [.lst w13, .lst [D.str "box", .str "open", .str "if"]]))[R.length + 4 + U.length]? = some (.lst w13) := dsr_new
      have g2 : (dsr cs s R (r - 1) (U ++ [.lst w13, .lst [D.str "box", .str "open", .str "if"]]))[R.length + 4 + (U ++ [O.lst w13]).length]? = some (.lst [.str "box", .str "open", .str "if"]) := by
        have := dsr_new (cs := cs) (s := s) (R := R) (r := r - 1) (T := U ++ [O.lst w13]) (U := []) (o := .lst [.str "box", .str "open", .str "if"])
        rw [List.append_assoc] at this
        exact this
      rw [h1, add_at g1 g2 (by decide)]
      rw [dsr_app, dsr_len, List.append_assoc, List.length_append]
      rfl
    have e2 := e1 (R ++ .lst [.int (r - 1)] :: (U ++ [.lst w13, .lst [.str "box", .str "open", .str "if"], .lst w16]))
    have e3 : Phi T G (k + 2) i_law_next [.ob 2, .int m] (dsr cs s R (r - 1) (U ++ [.lst w13, .lst [.str "box", .str "open", .str "if"], .lst w16])) = .ok (.int q) (dsr cs s1 R (r - 1) (U ++ [.lst w13, .lst [.str "box", .str "open", .str "if"], .lst w16])) := e2
    clear e1 e2
    have a3 := room_ix (cs := cs) (s := s) (R := R) (T := U ++ [.lst w13, .lst [.str "box", .str "open", .str "if"], .lst w16]) (r := r - 1)
    have a4 : aIx (.ob (R.length + 4 + U.length + 2)) (.int q) (dsr cs s1 R (r - 1) (U ++ [.lst w13, .lst [.str "box", .str "open", .str "if"], .lst w16])) = some (w, dsr cs s1 R (r - 1) (U ++ [.lst w13, .lst [.str "box", .str "open", .str "if"], .lst w16])) := by
      refine ix_lst ?_ q0 hw
      have := dsr_new (cs := cs) (s := s1) (R := R) (r := r - 1) (T := U ++ [O.lst w13, .lst [.str "box", .str "open", .str "if"]]) (U := []) (o := .lst w16)
      rw [List.append_assoc, List.length_append] at this
      exact this
    rw [show U ++ [O.lst w13] = U ++ [O.lst w13] from rfl] at *
    generalize dsr cs s R (r - 1) (U ++ [.lst w13]) = S1 at *
    generalize dsr cs s R (r - 1) (U ++ [.lst w13, .lst [D.str "box", .str "open", .str "if"]]) = S2 at *
    generalize dsr cs s R (r - 1) (U ++ [.lst w13, .lst [.str "box", .str "open", .str "if"], .lst w16]) = S3 at *
    generalize dsr cs s1 R (r - 1) (U ++ [.lst w13, .lst [.str "box", .str "open", .str "if"], .lst w16]) = S4 at *
    generalize Phi T G (k + 2) = Φ at *
    generalize (n : Int) = n' at *
    generalize r - 1 = r1 at *
    unfold tC
    by_cases h1 : 0 < n'
    · by_cases h2 : 0 < r1
      · rw [if_pos h1, if_pos h2] at hm2
        subst hm2
        simp [Out.bnd, a1, a2, h1, a3, h2, e3, a4]
      · rw [if_pos h1, if_neg h2] at hm2
        subst hm2
        simp [Out.bnd, a1, a2, h1, a3, h2, e3, a4]
    · rw [if_neg h1] at hm2
      subst hm2
      simp [Out.bnd, a1, a2, h1, a3, e3, a4]
  rw [ev_seq, eA]; dsimp only
  rw [ev_seq, eB]; dsimp only
  rw [ev_seq, eC]
end
end K07
/-! a term that this law draws: the whole -/
namespace K07
open PySem PySem.Spec PyProof.Rows L2 DL
noncomputable section
/-- a word's sort -/
inductive Wc where | pw (w : Pw) | hw (w : Hw) | as | op | two (w : W2) | one (w : W1) | ite
def Wc.s : Wc → Str
  | .pw w => w.s | .hw w => w.s | .as => "as" | .op => "op" | .two w => w.s | .one w => w.s | .ite => "if"
def Wc.isPw : Wc → Bool
  | .pw _ => true | _ => false
def Wc.isHw : Wc → Bool
  | .hw _ => true | _ => false
theorem wc_of {q : Int} {w : D} (h0 : 0 ≤ q) (h1 : q < 16) (h : w16[q.toNat]? = some w) : ∃ c : Wc, w = .str c.s ∧ (q < 3 → c.isPw = true) := by
  have : q = 0 ∨ q = 1 ∨ q = 2 ∨ q = 3 ∨ q = 4 ∨ q = 5 ∨ q = 6 ∨ q = 7 ∨ q = 8 ∨ q = 9 ∨ q = 10 ∨ q = 11 ∨ q = 12 ∨ q = 13 ∨ q = 14 ∨ q = 15 := by omega
  rcases this with rfl | rfl | rfl | rfl | rfl | rfl | rfl | rfl | rfl | rfl | rfl | rfl | rfl | rfl | rfl | rfl <;> cases h
  · exact ⟨.pw .num, rfl, fun _ => rfl⟩
  · exact ⟨.pw .tru, rfl, fun _ => rfl⟩
  · exact ⟨.pw .nam, rfl, fun _ => rfl⟩
  · exact ⟨.hw .fn, rfl, fun h => absurd h (by decide)⟩
  · exact ⟨.hw .rc, rfl, fun h => absurd h (by decide)⟩
  · exact ⟨.hw .lt, rfl, fun h => absurd h (by decide)⟩
  · exact ⟨.as, rfl, fun h => absurd h (by decide)⟩
  · exact ⟨.op, rfl, fun h => absurd h (by decide)⟩
  · exact ⟨.two .call, rfl, fun h => absurd h (by decide)⟩
  · exact ⟨.two .pair, rfl, fun h => absurd h (by decide)⟩
  · exact ⟨.two .put, rfl, fun h => absurd h (by decide)⟩
  · exact ⟨.one .first, rfl, fun h => absurd h (by decide)⟩
  · exact ⟨.one .second, rfl, fun h => absurd h (by decide)⟩
  · exact ⟨.one .box, rfl, fun h => absurd h (by decide)⟩
  · exact ⟨.one .opn, rfl, fun h => absurd h (by decide)⟩
  · exact ⟨.ite, rfl, fun h => absurd h (by decide)⟩
theorem wc_in1 (c : Wc) : decide (c.s ∈ (["number", "truth", "name"] : List Str)) = c.isPw := by
  rcases c with w | w | _ | _ | w | w | _
  · cases w <;> decide +kernel
  · cases w <;> decide +kernel
  · decide +kernel
  · decide +kernel
  · cases w <;> decide +kernel
  · cases w <;> decide +kernel
  · decide +kernel
theorem wc_in2 (c : Wc) (h : c.isPw = false) : decide (c.s ∈ (["fun", "rec", "let"] : List Str)) = c.isHw := by
  rcases c with w | w | _ | _ | w | w | _
  · cases h
  · cases w <;> decide +kernel
  · decide +kernel
  · decide +kernel
  · cases w <;> decide +kernel
  · cases w <;> decide +kernel
  · decide +kernel
def Wc.isAs : Wc → Bool
  | .as => true | _ => false
def Wc.isOp : Wc → Bool
  | .op => true | _ => false
theorem wc_as (c : Wc) : decide (c.s = "as") = c.isAs := by
  rcases c with w | w | _ | _ | w | w | _
  · cases w <;> decide +kernel
  · cases w <;> decide +kernel
  · decide +kernel
  · decide +kernel
  · cases w <;> decide +kernel
  · cases w <;> decide +kernel
  · decide +kernel
theorem wc_op (c : Wc) : decide (c.s = "op") = c.isOp := by
  rcases c with w | w | _ | _ | w | w | _
  · cases w <;> decide +kernel
  · cases w <;> decide +kernel
  · decide +kernel
  · decide +kernel
  · cases w <;> decide +kernel
  · cases w <;> decide +kernel
  · decide +kernel
abbrev dcK : List (Key × D) := [(.inr "first", .int 1), (.inr "second", .int 1), (.inr "box", .int 1), (.inr "open", .int 1), (.inr "if", .int 3)]
def Wc.many : Wc → Nat
  | .one _ => 1 | .ite => 3 | _ => 2
theorem wc_many (c : Wc) : (valD dcK (.inr c.s)).getD (.int 2) = .int (c.many : Int) := by
  rcases c with w | w | _ | _ | w | w | _
  · cases w <;> kernel_rfl
  · cases w <;> kernel_rfl
  · kernel_rfl
  · kernel_rfl
  · cases w <;> kernel_rfl
  · cases w <;> kernel_rfl
  · kernel_rfl
theorem dc_run {fr : Fr} {S : Sto} (c : Wc) (hw : fr[5]? = some (some (.str c.s))) : dcM fr S = .ok (.int (c.many : Int)) (S ++ [.dk dcK]) := by
  have hd : ∀ (fr : Fr) (S : Sto), dDict [((dC (.str "first")), (dC (.int 1))), ((dC (.str "second")), (dC (.int 1))), ((dC (.str "box")), (dC (.int 1))), ((dC (.str "open")), (dC (.int 1))), ((dC (.str "if")), (dC (.int 3)))] fr S = .ok (.ob S.length) (S ++ [.dk dcK]) := fun fr S => by kernel_rfl
  have hl : (S ++ [O.dk dcK])[S.length]? = some (.dk dcK) := by simp
  have hmt : mtyD (.ob S.length) (S ++ [.dk dcK]) = some "dict" := by
    unfold mtyD
    dsimp only
    rw [hl]
  have hg : mGet (.ob S.length) [.str c.s, .int 2] (S ++ [.dk dcK]) = some (.int (c.many : Int), S ++ [.dk dcK]) := by
    unfold mGet
    dsimp only
    rw [hl]
    show some ((valD dcK (.inr c.s)).getD (.int 2), S ++ [O.dk dcK]) = _
    rw [wc_many]
  unfold dcM
  generalize dDict [((dC (.str "first")), (dC (.int 1))), ((dC (.str "second")), (dC (.int 1))), ((dC (.str "box")), (dC (.int 1))), ((dC (.str "open")), (dC (.int 1))), ((dC (.str "if")), (dC (.int 3)))] = Q at *
  generalize dcK = kk at *
  simp [Out.bnd, hd, hmt, hg, hw]
theorem tail_run {K n : Nat} (ih : TermDr K n) (hn : n ≤ 8) (c : Wc) {b : Nat} {cs : List Int} {s : Ds} {r : Int} {ns : List Str} (hd : List D) (hh : hd.length ≤ 2) (hns : ∀ x ∈ ns, x ∈ nmsL) (hl : ns.length + 2 * n ≤ 900) (d0 : Dr b cs s) (hr : 1 ≤ r) (hb : (b : Int) + 300 * r ≤ 288230376151711744)
    (n1 : D) (hn1 : ∀ S, aSub n1 (.int 1) S = some (.int (n : Int), S)) :
    ∃ (ts : List DL.Tm) (s' : Ds), ts.length = c.many ∧ (∀ t ∈ ts, t.allP Pt.dr ∧ t.deep ≤ n + 1) ∧ ((szs ts : Int) ≤ c.many ∨ (2 ≤ r ∧ (szs ts : Int) ≤ r + 2 * n + (c.many - 1))) ∧ Dr (b + 300 * szs ts) cs s' ∧
      ∀ R U x4, ∃ fr', tail (Phi T G (K + 2 * n + 10)) [some (.ob 2), some (.tup (ns.map D.str)), some (.ob (R.length + 3)), some n1, some x4, some (.str c.s), some (.tup hd), none, none] (dsr cs s R r U)
        = .ok (.rt (.tup (hd ++ ts.map DL.Tm.d))) fr' (dsr cs s' R (r - szs ts) (U ++ [.dk dcK])) := by
  have hm : c.many ≤ 3 := by cases c <;> simp [Wc.many]
  obtain ⟨ts, s1, t1, t2, t3, t4, t5⟩ := terms_dr ih hn hns hl n1 hn1 (upTo 0 c.many) (r := r) d0 (by rw [upTo_len]; exact hm) (by rw [upTo_len]; omega) hb
  rw [upTo_len] at t1 t3
  refine ⟨ts, s1, t1, t2, t3, t4, fun R U x4 => ⟨[some (.ob 2), some (.tup (ns.map D.str)), some (.ob (R.length + 3)), some n1, some x4, some (.str c.s), some (.tup hd), some (.int (c.many : Int)), none], ?_⟩⟩
  have t5 := t5 R (U ++ [.dk dcK]) (some x4) (some (.str c.s)) (some (.tup hd)) (some (.int (c.many : Int))) none
  have hc : cmM (Phi T G (K + 2 * n + 10)) [some (.ob 2), some (.tup (ns.map D.str)), some (.ob (R.length + 3)), some n1, some x4, some (.str c.s), some (.tup hd), some (.int (c.many : Int)), none] (dsr cs s R r (U ++ [.dk dcK])) = .ok (ts.map DL.Tm.d) (dsr cs s1 R (r - szs ts) (U ++ [.dk dcK])) := by
    unfold cmM dComp
    rw [range1 (n := (c.many : Int)) (S' := dsr cs s R r (U ++ [.dk dcK])) (by simp [Out.bnd]) (by omega) (by omega), Int.toNat_natCast]
    exact t5
  have hdc := dc_run (S := dsr cs s R r U) (fr := [some (.ob 2), some (.tup (ns.map D.str)), some (.ob (R.length + 3)), some n1, some x4, some (.str c.s), some (.tup hd), none, none]) c rfl
  rw [dsr_app] at hdc
  have hadd : ∀ S, aAdd (.tup hd) (.tup (ts.map DL.Tm.d)) S = some (.tup (hd ++ ts.map DL.Tm.d), S) := fun S => addT (by rw [List.length_map]; omega)
  have hf : ∀ S, fTup (ts.map DL.Tm.d) S = some (.tup (ts.map DL.Tm.d), S) := fun S => rfl
  unfold tail
  generalize cmM (Phi T G (K + 2 * n + 10)) = Q at *
  generalize dcM = Q2 at *
  generalize ts.map DL.Tm.d = td at *
  generalize dsr cs s R r U = S0 at *
  generalize dsr cs s R r (U ++ [.dk dcK]) = S1 at *
  generalize dsr cs s1 R (r - szs ts) (U ++ [.dk dcK]) = S2 at *
  generalize D.tup (ns.map D.str) = nd at *
  simp [Out.bnd, hdc, hc, hadd, hf]
theorem sg_of {q : Int} (h0 : 0 ≤ q) (h1 : q < 5) : ∃ g : Sg, ([D.str "+", .str "-", .str "*", .str "<", .str "="] : List D)[q.toNat]? = some (.str g.s) := by
  have : q = 0 ∨ q = 1 ∨ q = 2 ∨ q = 3 ∨ q = 4 := by omega
  rcases this with rfl | rfl | rfl | rfl | rfl
  · exact ⟨.add, rfl⟩
  · exact ⟨.sub, rfl⟩
  · exact ⟨.mul, rfl⟩
  · exact ⟨.lt, rfl⟩
  · exact ⟨.eq, rfl⟩
theorem two_ts {ts : List DL.Tm} (h : ts.length = 2) : ∃ a b, ts = [a, b] := by
  match ts, h with
  | [a, b], _ => exact ⟨a, b, rfl⟩
theorem one_ts {ts : List DL.Tm} (h : ts.length = 1) : ∃ a, ts = [a] := by
  match ts, h with
  | [a], _ => exact ⟨a, rfl⟩
theorem three_ts {ts : List DL.Tm} (h : ts.length = 3) : ∃ a b c, ts = [a, b, c] := by
  match ts, h with
  | [a, b, c], _ => exact ⟨a, b, c, rfl⟩
theorem term_dr : ∀ n, n ≤ 9 → ∀ K, TermDr K n := by
  intro n
  induction n with
  | zero =>
    intro _ K b cs s r ns hns hl hd hr hb
    obtain ⟨q, s1, w, q0, q1, hw, d1, e1⟩ := word_dr (k := K + 7) (n := 0) (r := r) (.tup (ns.map D.str)) hd (by omega)
    have hq : q < 3 := by omega
    obtain ⟨c, rfl, hc⟩ := wc_of q0 (by omega) hw
    obtain ⟨p, rfl⟩ : ∃ p, c = .pw p := by
      have := hc hq
      rcases c with w | w | _ | _ | w | w | _
      · exact ⟨w, rfl⟩
      all_goals cases this
    obtain ⟨t, s2, t1, t2, t3, t4, t5⟩ := plain_dr (K + 5) p hns (by omega) d1 (by omega)
    refine ⟨t, s2, t3, by omega, .inl (by omega), t4.mono (by omega), fun R U => ?_⟩
    rw [t1]
    obtain ⟨x4, V, e⟩ := e1 R U (tR (Phi T G (K + 9)))
    refine run_law_term (k := K + 9) (S' := dsr cs s2 R (r - 1) (U ++ V)) (r := t.d) ?_ (gc_dsr (by simp))
    rw [b_term_eq]
    have e : _ = _ := e
    rw [e]
    have t5 : Phi T G (K + 9) i_law_plain [.ob 2, .str p.s, .tup (ns.map D.str)] (dsr cs s1 R (r - 1) (U ++ V)) = .ok t.d (dsr cs s2 R (r - 1) (U ++ V)) := t5 _
    have i1 := in_strs (Wc.pw p).s ["number", "truth", "name"] (dsr cs s1 R (r - 1) (U ++ V))
    rw [wc_in1] at i1
    have i1 : aIn (.str p.s) (.tup [.str "number", .str "truth", .str "name"]) (dsr cs s1 R (r - 1) (U ++ V)) = some (.bl true, dsr cs s1 R (r - 1) (U ++ V)) := i1
    show rtOf (tR (Phi T G (K + 9)) [some (.ob 2), some (.tup (ns.map D.str)), some (.ob (R.length + 3)), some (.int ((0 : Nat) : Int)), some x4, some (.str p.s), none, none, none] (dsr cs s1 R (r - 1) (U ++ V))) = _
    generalize dsr cs s1 R (r - 1) (U ++ V) = S1 at *
    generalize dsr cs s2 R (r - 1) (U ++ V) = S2 at *
    generalize D.tup (ns.map D.str) = nd at *
    generalize Phi T G (K + 9) = Φ at *
    simp [tR, Out.bnd, i1, t5]
  | succ n ihn =>
    intro hn9 K b cs s r ns hns hl hd hr hb
    obtain ⟨q, s1, w, q0, q1, hw, d1, e1⟩ := word_dr (k := K + 2 * n + 9) (n := n + 1) (r := r) (.tup (ns.map D.str)) hd (by omega)
    obtain ⟨c, rfl, hc⟩ := wc_of q0 (by omega) hw
    have hn1 : ∀ S, aSub (.int ((n + 1 : Nat) : Int)) (.int 1) S = some (.int (n : Int), S) := fun S => by
      have : ((n + 1 : Nat) : Int) - 1 = (n : Int) := by omega
      show some (D.int (((n + 1 : Nat) : Int) - 1), S) = _
      rw [this]
    have ih : TermDr (K + 1) n := ihn (by omega) (K + 1)
    have ih0 : TermDr K n := ihn (by omega) K
    have i1 := fun S => in_strs c.s ["number", "truth", "name"] S
    have i2 := fun S => in_strs c.s ["fun", "rec", "let"] S
    rw [wc_in1] at i1
    have fin : ∀ {t : DL.Tm} {s2 : Ds} {R U V W : Sto} {x4 : D} (hd' : t.d.und (R.length + 4 + U.length) = true),
        (dSeq tA (dSeq tB (dSeq (tC (Phi T G (K + 2 * n + 9 + 2))) (tR (Phi T G (K + 2 * n + 9 + 2)))))) [some (.ob 2), some (.tup (ns.map D.str)), some (.ob (R.length + 3)), some (.int ((n + 1 : Nat) : Int)), none, none, none, none, none] (dsr cs s R r U) = (tR (Phi T G (K + 2 * n + 9 + 2))) [some (.ob 2), some (.tup (ns.map D.str)), some (.ob (R.length + 3)), some (.int ((n + 1 : Nat) : Int)), some x4, some (.str c.s), none, none, none] (dsr cs s1 R (r - 1) (U ++ V)) →
        rtOf ((tR (Phi T G (K + 2 * n + 11))) [some (.ob 2), some (.tup (ns.map D.str)), some (.ob (R.length + 3)), some (.int ((n + 1 : Nat) : Int)), some x4, some (.str c.s), none, none, none] (dsr cs s1 R (r - 1) (U ++ V))) = some (t.d, dsr cs s2 R (r - t.size) (U ++ W)) →
        Phi T G (K + 2 * (n + 1) + 10) i_law_term [.ob 2, .tup (ns.map D.str), .ob (R.length + 3), .int ((n + 1 : Nat) : Int)] (dsr cs s R r U) = .ok t.d (dsr cs s2 R (r - t.size) U) := by
      intro t s2 R U V W x4 hd' h1 h2
      refine run_law_term (k := K + 2 * n + 11) (S' := dsr cs s2 R (r - t.size) (U ++ W)) (r := t.d) ?_ (gc_dsr hd')
      rw [b_term_eq]
      have h1 : _ = _ := h1
      exact (congrArg rtOf h1).trans h2
    by_cases hp : c.isPw = true
    · obtain ⟨p, rfl⟩ : ∃ p, c = .pw p := by
        rcases c with w | w | _ | _ | w | w | _
        · exact ⟨w, rfl⟩
        all_goals cases hp
      obtain ⟨t, s2, t1, t2, t3, t4, t5⟩ := plain_dr (K + 2 * n + 7) p hns (by omega) d1 (by omega)
      refine ⟨t, s2, t3, by omega, .inl (by omega), t4.mono (by omega), fun R U => ?_⟩
      obtain ⟨x4, V, e⟩ := e1 R U (tR (Phi T G (K + 2 * n + 9 + 2)))
      refine fin (W := V) (by simp) e ?_
      rw [t1]
      have t5 : Phi T G (K + 2 * n + 11) i_law_plain [.ob 2, .str p.s, .tup (ns.map D.str)] (dsr cs s1 R (r - 1) (U ++ V)) = .ok t.d (dsr cs s2 R (r - 1) (U ++ V)) := t5 _
      have i1 : aIn (.str p.s) (.tup [.str "number", .str "truth", .str "name"]) (dsr cs s1 R (r - 1) (U ++ V)) = some (.bl true, dsr cs s1 R (r - 1) (U ++ V)) := i1 _
      show rtOf (tR (Phi T G (K + 2 * n + 11)) [some (.ob 2), some (.tup (ns.map D.str)), some (.ob (R.length + 3)), some (.int ((n + 1 : Nat) : Int)), some x4, some (.str p.s), none, none, none] (dsr cs s1 R (r - 1) (U ++ V))) = some (t.d, dsr cs s2 R (r - 1) (U ++ V))
      generalize dsr cs s1 R (r - 1) (U ++ V) = S1 at *
      generalize dsr cs s2 R (r - 1) (U ++ V) = S2 at *
      generalize D.tup (ns.map D.str) = nd at *
      generalize Phi T G (K + 2 * n + 11) = Φ at *
      simp [tR, Out.bnd, i1, t5]
    · rw [Bool.not_eq_true] at hp
      have hq3 : ¬ q < 3 := fun h => by rw [hc h] at hp; cases hp
      have hr2 : 1 < r := by omega
      rw [wc_in2 c hp] at i2
      rw [hp] at i1
      by_cases hh : c.isHw = true
      · obtain ⟨p, rfl⟩ : ∃ p, c = .hw p := by
          rcases c with w | w | _ | _ | w | w | _
          · cases hp
          · exact ⟨w, rfl⟩
          all_goals cases hh
        obtain ⟨t, s2, t1, t2, t3, t6, t4, t5⟩ := holder_dr ih0 (by omega) p (r := r - 1) hns (by omega) d1 (by omega) (by omega)
        refine ⟨t, s2, t1, by omega, by omega, t4.mono (by omega), fun R U => ?_⟩
        obtain ⟨x4, V, e⟩ := e1 R U (tR (Phi T G (K + 2 * n + 9 + 2)))
        refine fin (W := V) (by simp) e ?_
        have t5 := t5 R (U ++ V)
        rw [show r - 1 - ((t.size : Int) - 1) = r - t.size by omega] at t5
        have i1 : ∀ S, aIn (.str p.s) (.tup [.str "number", .str "truth", .str "name"]) S = some (.bl false, S) := i1
        have i2 : ∀ S, aIn (.str p.s) (.tup [.str "fun", .str "rec", .str "let"]) S = some (.bl true, S) := i2
        show rtOf (tR (Phi T G (K + 2 * n + 11)) [some (.ob 2), some (.tup (ns.map D.str)), some (.ob (R.length + 3)), some (.int ((n + 1 : Nat) : Int)), some x4, some (.str p.s), none, none, none] (dsr cs s1 R (r - 1) (U ++ V))) = some (t.d, dsr cs s2 R (r - t.size) (U ++ V))
        generalize dsr cs s1 R (r - 1) (U ++ V) = S1 at *
        generalize dsr cs s2 R (r - t.size) (U ++ V) = S2 at *
        generalize D.tup (ns.map D.str) = nd at *
        generalize Phi T G (K + 2 * n + 11) = Φ at *
        generalize ((n + 1 : Nat) : Int) = n1 at *
        simp [tR, Out.bnd, i1, i2, hn1, t5]
      · rw [Bool.not_eq_true] at hh
        rw [hh] at i2
        have i1 : ∀ S, aIn (.str c.s) (.tup [.str "number", .str "truth", .str "name"]) S = some (.bl false, S) := i1
        have i2 : ∀ S, aIn (.str c.s) (.tup [.str "fun", .str "rec", .str "let"]) S = some (.bl false, S) := i2
        have i3 : ∀ S, aEq (.str c.s) (.str "as") S = some (.bl c.isAs, S) := fun S => by rw [s_eqs, wc_as]
        have i4 : ∀ S, aEq (.str c.s) (.str "op") S = some (.bl c.isOp, S) := fun S => by rw [s_eqs, wc_op]
        by_cases ha : c.isAs = true
        · obtain rfl : c = .as := by
            rcases c with w | w | _ | _ | w | w | _ <;> first | rfl | cases ha
          obtain ⟨t, s2, t1, t2, t3, t4, t5⟩ := ih hns (by omega) d1 (r := r - 1) (by omega) (by omega)
          have tp := t.size_pos
          obtain ⟨k, s3, k1, d3, e3⟩ := kinds_dr (K + 2 * n + 5) t4 (by omega)
          have es : (DL.Tm.as t k).size = t.size + 1 := rfl
          refine ⟨.as t k, s3, ⟨t1, k1⟩, by show t.deep + 1 ≤ _; omega, by rw [es]; omega, d3.mono (by rw [es]; omega), fun R U => ?_⟩
          obtain ⟨x4, V, e⟩ := e1 R U (tR (Phi T G (K + 2 * n + 9 + 2)))
          refine fin (W := V) (by simp) e ?_
          rw [es, show r - ((t.size + 1 : Nat) : Int) = r - 1 - t.size by omega]
          have t5 : Phi T G (K + 2 * n + 11) i_law_term [.ob 2, .tup (ns.map D.str), .ob (R.length + 3), .int n] (dsr cs s1 R (r - 1) (U ++ V)) = .ok t.d (dsr cs s2 R (r - 1 - t.size) (U ++ V)) := by
            have := t5 R (U ++ V)
            rw [show K + 1 + 2 * n + 10 = K + 2 * n + 11 by omega] at this
            exact this
          obtain ⟨v, s4, q3, q4⟩ := e3 (R ++ .lst [.int (r - 1 - t.size)] :: (U ++ V))
          have q3 : Phi T G (K + 2 * n + 11) i_law_next [.ob 2, .int 4] (dsr cs s2 R (r - 1 - t.size) (U ++ V)) = .ok (.int v) (dsr cs s4 R (r - 1 - t.size) (U ++ V)) := q3
          have q4 : Phi T G (K + 2 * n + 11) i_law_kind [.ob 2, .int v] (dsr cs s4 R (r - 1 - t.size) (U ++ V)) = .ok k.d (dsr cs s3 R (r - 1 - t.size) (U ++ V)) := q4
          generalize dsr cs s1 R (r - 1) (U ++ V) = S1 at *
          generalize dsr cs s2 R (r - 1 - t.size) (U ++ V) = S2 at *
          generalize dsr cs s4 R (r - 1 - t.size) (U ++ V) = S4 at *
          generalize dsr cs s3 R (r - 1 - t.size) (U ++ V) = S3 at *
          generalize D.tup (ns.map D.str) = nd at *
          generalize Phi T G (K + 2 * n + 11) = Φ at *
          generalize ((n + 1 : Nat) : Int) = n1 at *
          simp [tR, Out.bnd, i1, i2, i3, hn1, t5, q3, q4, Wc.isAs, show (DL.Tm.as t k).d = .tup [.str Wc.as.s, t.d, k.d] from rfl]
        · rw [Bool.not_eq_true] at ha
          rw [ha] at i3
          by_cases ho : c.isOp = true
          · obtain rfl : c = .op := by
              rcases c with w | w | _ | _ | w | w | _ <;> first | rfl | cases ho
            obtain ⟨g, s2, g0, g1, d2, e2⟩ := nx (K + 2 * n + 9) 5 d1 (by omega) (by decide) (by decide)
            obtain ⟨sg, hsg⟩ := sg_of g0 g1
            obtain ⟨ts, s3, t1, t2, t3, t4, t5⟩ := tail_run ih (by omega) .op (r := r - 1) [.str "op", .str sg.s] (Nat.le_refl 2) hns (by omega) d2 (by omega) (by omega) (.int ((n + 1 : Nat) : Int)) hn1
            obtain ⟨u, v, rfl⟩ := two_ts t1
            have u1 := t2 u (by simp)
            have v1 := t2 v (by simp)
            have es : (DL.Tm.op sg u v).size = szs [u, v] + 1 := by simp [szs, DL.Tm.size]
            have hm2 : (Wc.op.many : Int) = 2 := rfl
            refine ⟨.op sg u v, s3, ⟨trivial, u1.1, v1.1⟩, by show max u.deep v.deep + 1 ≤ _; omega, by rw [es]; omega, t4.mono (by rw [es]; omega), fun R U => ?_⟩
            obtain ⟨x4, V, e⟩ := e1 R U (tR (Phi T G (K + 2 * n + 9 + 2)))
            obtain ⟨fr', t5⟩ := t5 R (U ++ V ++ [.lst [.str "+", .str "-", .str "*", .str "<", .str "="]]) x4
            refine fin (W := V ++ [.lst [.str "+", .str "-", .str "*", .str "<", .str "="], .dk dcK]) (by simp) e ?_
            rw [es, show r - ((szs [u, v] + 1 : Nat) : Int) = r - 1 - szs [u, v] by omega]
            have e2 : Phi T G (K + 2 * n + 11) i_law_next [.ob 2, .int 5] (dsr cs s1 R (r - 1) (U ++ V ++ [.lst [.str "+", .str "-", .str "*", .str "<", .str "="]])) = .ok (.int g) (dsr cs s2 R (r - 1) (U ++ V ++ [.lst [.str "+", .str "-", .str "*", .str "<", .str "="]])) := e2 _
            have hix : aIx (.ob (R.length + 4 + (U ++ V).length)) (.int g) (dsr cs s2 R (r - 1) (U ++ V ++ [.lst [.str "+", .str "-", .str "*", .str "<", .str "="]])) = some (.str sg.s, dsr cs s2 R (r - 1) (U ++ V ++ [.lst [.str "+", .str "-", .str "*", .str "<", .str "="]])) := ix_lst (dsr_new (U := [])) g0 hsg
            have hlen := dsr_len (cs := cs) (s := s1) (R := R) (T := U ++ V) (r := r - 1)
            have happ : dsr cs s1 R (r - 1) (U ++ V) ++ [.lst [D.str "+", .str "-", .str "*", .str "<", .str "="]] = dsr cs s1 R (r - 1) (U ++ V ++ [.lst [.str "+", .str "-", .str "*", .str "<", .str "="]]) := dsr_app
            rw [show U ++ (V ++ [O.lst [D.str "+", .str "-", .str "*", .str "<", .str "="], .dk dcK]) = U ++ V ++ [.lst [D.str "+", .str "-", .str "*", .str "<", .str "="]] ++ [.dk dcK] by simp]
            rw [show K + 1 + 2 * n + 10 = K + 2 * n + 11 by omega] at t5
            rw [← hlen] at hix
            rw [show (DL.Tm.op sg u v).d = .tup ([.str "op", .str sg.s] ++ [u, v].map DL.Tm.d) from rfl]
            have eR : tR (Phi T G (K + 2 * n + 11)) = _ := rfl
            generalize dsr cs s1 R (r - 1) (U ++ V ++ [.lst [.str "+", .str "-", .str "*", .str "<", .str "="]]) = S2 at *
            generalize dsr cs s2 R (r - 1) (U ++ V ++ [.lst [.str "+", .str "-", .str "*", .str "<", .str "="]]) = S3 at *
            generalize dsr cs s1 R (r - 1) (U ++ V) = S1 at *
            generalize dsr cs s3 R (r - 1 - szs [u, v]) (U ++ V ++ [.lst [D.str "+", .str "-", .str "*", .str "<", .str "="]] ++ [.dk dcK]) = S5 at *
            generalize D.tup (ns.map D.str) = nd at *
            generalize D.tup ([.str "op", .str sg.s] ++ [u, v].map DL.Tm.d) = td at *
            generalize ((n + 1 : Nat) : Int) = n1 at *
            unfold tR
            generalize tail (Phi T G (K + 2 * n + 11)) = TL at *
            generalize Phi T G (K + 2 * n + 11) = Φ at *
            have t5 : TL [some (.ob 2), some nd, some (.ob (R.length + 3)), some (.int n1), some x4, some (.str Wc.op.s), some (.tup [.str Wc.op.s, .str sg.s]), none, none] S3 = .ok (.rt td) fr' S5 := t5
            rw [show Wc.op.isOp = true from rfl] at i4
            simp [Out.bnd, i1, i2, i3, i4, e2, happ, hix, t5]
          · rw [Bool.not_eq_true] at ho
            rw [ho] at i4
            obtain ⟨ts, s3, t1, t2, t3, t4, t5⟩ := tail_run ih (by omega) c (r := r - 1) [.str c.s] (by show 1 ≤ 2; omega) hns (by omega) d1 (by omega) (by omega) (.int ((n + 1 : Nat) : Int)) hn1
            obtain ⟨t, h1, h2, h3, h4, h5⟩ : ∃ t : DL.Tm, t.allP Pt.dr ∧ t.deep ≤ n + 2 ∧ t.size = szs ts + 1 ∧ t.d = .tup ([.str c.s] ++ ts.map DL.Tm.d) ∧ c.many ≤ 3 := by
              rcases c with w | w | _ | _ | w | w | _
              · cases hp
              · cases hh
              · cases ha
              · cases ho
              · obtain ⟨u, v, rfl⟩ := two_ts t1
                have u1 := t2 u (by simp)
                have v1 := t2 v (by simp)
                exact ⟨.two w u v, ⟨u1.1, v1.1⟩, by show max u.deep v.deep + 1 ≤ _; omega, by simp [szs, DL.Tm.size], rfl, Nat.le_succ 2⟩
              · obtain ⟨u, rfl⟩ := one_ts t1
                have u1 := t2 u (by simp)
                exact ⟨.one w u, u1.1, by show u.deep + 1 ≤ _; omega, by simp [szs, DL.Tm.size], rfl, by show 1 ≤ 3; omega⟩
              · obtain ⟨u, v, x, rfl⟩ := three_ts t1
                have u1 := t2 u (by simp)
                have v1 := t2 v (by simp)
                have x1 := t2 x (by simp)
                exact ⟨.ite u v x, ⟨u1.1, v1.1, x1.1⟩, by show max u.deep (max v.deep x.deep) + 1 ≤ _; omega, by simp [szs, DL.Tm.size]; omega, rfl, by decide⟩
            refine ⟨t, s3, h1, by omega, by rw [h3]; omega, t4.mono (by rw [h3]; omega), fun R U => ?_⟩
            obtain ⟨x4, V, e⟩ := e1 R U (tR (Phi T G (K + 2 * n + 9 + 2)))
            obtain ⟨fr', t5⟩ := t5 R (U ++ V) x4
            refine fin (W := V ++ [.dk dcK]) (by simp) e ?_
            rw [h3, h4, show r - ((szs ts + 1 : Nat) : Int) = r - 1 - szs ts by omega, ← List.append_assoc]
            rw [show K + 1 + 2 * n + 10 = K + 2 * n + 11 by omega] at t5
            generalize dsr cs s1 R (r - 1) (U ++ V) = S1 at *
            generalize dsr cs s3 R (r - 1 - szs ts) (U ++ V ++ [.dk dcK]) = S5 at *
            generalize D.tup (ns.map D.str) = nd at *
            generalize D.tup ([.str c.s] ++ ts.map DL.Tm.d) = td at *
            generalize ((n + 1 : Nat) : Int) = n1 at *
            unfold tR
            generalize tail (Phi T G (K + 2 * n + 11)) = TL at *
            generalize Phi T G (K + 2 * n + 11) = Φ at *
            simp [Out.bnd, i1, i2, i3, i4, t5]
end
end K07
/-! DT, part c: things of any sort, looked at as terms. -/
namespace DL
open PySem PySem.Spec PyProof.Rows L2
noncomputable section
/-- the sorts of parts -/
inductive Sn where | i | b | n | k | t | s
  deriving DecidableEq
def Sn.code : Sn → Nat
  | .i => 105 | .b => 98 | .n => 110 | .k => 107 | .t => 116 | .s => 115
def Sn.s' (x : Sn) : Str := ⟨#[x.code]⟩
def sgn (l : List Sn) : Str := ⟨(l.map Sn.code).toArray⟩
theorem sgn_signs (l : List Sn) : signs (sgn l) = l.map fun x => .str x.s' := by
  unfold signs sgn
  rw [List.toList_toArray, List.map_map]
  rfl
theorem sgn_len (l : List Sn) : (sgn l).length = l.length := by
  show (l.map Sn.code).toArray.size = _
  rw [List.size_toArray, List.length_map]
def fTab : List (Str × List Sn) := [("number", [.i]), ("truth", [.b]), ("name", [.n]), ("fun", [.n, .k, .t]), ("rec", [.n, .n, .k, .k, .t]), ("call", [.t, .t]), ("let", [.n, .k, .t, .t]), ("if", [.t, .t, .t]), ("op", [.s, .t, .t]), ("pair", [.t, .t]), ("first", [.t]), ("second", [.t]), ("box", [.t]), ("open", [.t]), ("put", [.t, .t]), ("as", [.t, .k])]
def formOf (z : Str) : Option (List Sn) := fTab.lookup z
theorem look_map {α β : Type} (f : α → β) (z : Str) : ∀ l : List (Str × α), (l.map fun p => (p.1, f p.2)).lookup z = (l.lookup z).map f
  | [] => rfl
  | p :: l => by
    rw [List.map_cons, List.lookup_cons, List.lookup_cons]
    cases z == p.1
    · exact look_map f z l
    · rfl
theorem kd_form (z : Str) : kdGet Tm.fWords Tm.fForms z = (formOf z).map fun l => .str (sgn l) := by
  have e : Tm.fWords.zip Tm.fForms = fTab.map fun p => (p.1, D.str (sgn p.2)) := by kernel_rfl
  unfold kdGet formOf
  rw [e]
  exact look_map (fun l => D.str (sgn l)) z fTab
theorem form_len5 {z : Str} {l : List Sn} (h : formOf z = some l) : 1 ≤ l.length ∧ l.length ≤ 5 := by
  have hm : (z, l) ∈ fTab := PySem.mem_of_lookup h
  have key : ∀ p ∈ fTab, 1 ≤ p.2.length ∧ p.2.length ≤ 5 := by decide +kernel
  exact key _ hm
/-- whether a thing is a kind -/
def kB (d : D) : Prop := ∃ k : Kd, d = k.d ∧ k.deep ≤ 8 ∧ k.many ≤ 60
instance (d : D) : Decidable (kB d) := Classical.propDecidable _
def numB : D → Bool
  | .int n => decide (-1000000000000 ≤ n ∧ n ≤ 1000000000000)
  | _ => false
def isBl : D → Bool
  | .bl _ => true
  | _ => false
def isInt : D → Bool
  | .int _ => true
  | .bl _ => true
  | _ => false
def nameB : D → Bool
  | .str x => nmB x
  | _ => false
abbrev sgL : List Str := ["+", "-", "*", "<", "="]
def sgB : D → Bool
  | .str x => decide (x ∈ sgL)
  | _ => false
def partB : Sn → D → Bool
  | .i, d => numB d
  | .b, d => isBl d
  | .n, d => nameB d
  | .k, d => decide (kB d)
  | .t, _ => true
  | .s, d => sgB d
/-- whether a thing is a term, but for the terms within -/
def shB : D → Bool
  | .tup (.str z :: r) => match formOf z with
    | some l => decide (l.length = r.length) && (l.zip r).all fun p => partB p.1 p.2
    | none => false
  | _ => false
/-- what stands in the terms' places -/
def ksD : D → List D
  | .tup (.str z :: r) => match formOf z with
    | some l => ((l.zip r).filter fun p => decide (p.1 = .t)).map (·.2)
    | none => []
  | _ => []
/-- the strings are short -/
def sml : D → Bool
  | .str x => decide (x.length ≤ 1000)
  | _ => true
mutual
def smA : D → Bool
  | .str x => decide (x.length ≤ 1000)
  | .tup xs => smL xs
  | _ => true
def smL : List D → Bool
  | [] => true
  | d :: ds => smA d && smL ds
end
theorem smL_mem : ∀ {ds : List D}, smL ds = true ↔ ∀ d ∈ ds, smA d = true
  | [] => by simp [smL]
  | d :: ds => by
    unfold smL
    rw [Bool.and_eq_true, smL_mem, List.forall_mem_cons]
theorem ksD_mem {d e : D} (h : e ∈ ksD d) : ∃ x r, d = .tup (x :: r) ∧ e ∈ r := by
  unfold ksD at h
  split at h
  · rename_i z r
    split at h
    · rename_i l q
      obtain ⟨p, hp, rfl⟩ := List.mem_map.mp h
      have := (List.mem_filter.mp hp).1
      exact ⟨_, r, rfl, (List.of_mem_zip (a := p.1) (b := p.2) (by exact this)).2⟩
    · cases h
  · cases h
theorem ks_thg {S : Sto} {d e : D} (h : e ∈ ksD d) (t : thg S d = true) : thg S e = true := by
  obtain ⟨x, r, rfl, he⟩ := ksD_mem h
  unfold thg at t
  exact thgL_mem.mp t e (List.mem_cons_of_mem _ he)
theorem ks_sm {d e : D} (h : e ∈ ksD d) (t : smA d = true) : smA e = true := by
  obtain ⟨x, r, rfl, he⟩ := ksD_mem h
  unfold smA at t
  exact smL_mem.mp t e (List.mem_cons_of_mem _ he)
theorem sg_of_str {x : Str} (h : x ∈ sgL) : ∃ g : Sg, x = g.s := by
  simp only [List.mem_cons, List.not_mem_nil, or_false] at h
  rcases h with rfl | rfl | rfl | rfl | rfl
  · exact ⟨.add, rfl⟩
  · exact ⟨.sub, rfl⟩
  · exact ⟨.mul, rfl⟩
  · exact ⟨.lt, rfl⟩
  · exact ⟨.eq, rfl⟩
theorem nameB_of {d : D} (h : nameB d = true) : ∃ x, d = .str x ∧ nmB x = true := by
  cases d <;> first | exact ⟨_, rfl, h⟩ | cases h
theorem numB_of {d : D} (h : numB d = true) : ∃ n : Int, d = .int n ∧ -1000000000000 ≤ n ∧ n ≤ 1000000000000 := by
  cases d <;> first | exact ⟨_, rfl, of_decide_eq_true h⟩ | cases h
theorem blB_of {d : D} (h : isBl d = true) : ∃ b, d = .bl b := by
  cases d <;> first | exact ⟨_, rfl⟩ | cases h
theorem sgB_of {d : D} (h : sgB d = true) : ∃ g : Sg, d = .str g.s := by
  cases d <;> first | (obtain ⟨g, rfl⟩ := sg_of_str (of_decide_eq_true h); exact ⟨g, rfl⟩) | cases h
theorem kB_of {d : D} (h : decide (kB d) = true) : ∃ k : Kd, d = k.d ∧ Pt.ok (.kd k) := by
  obtain ⟨k, e, h1, h2⟩ := of_decide_eq_true h
  exact ⟨k, e, h1, h2⟩
/-- a shape whose parts are terms is a term -/
theorem sh_mk {d : D} (h : shB d = true) (hk : ∀ e ∈ ksD d, ∃ t : DL.Tm, e = t.d ∧ t.ok) : ∃ t : DL.Tm, d = t.d ∧ t.ok ∧ ksD d = t.subs.map DL.Tm.d := by
  unfold shB at h
  split at h
  · rename_i z r
    cases q : formOf z with
    | none => rw [q] at h; cases h
    | some l =>
      rw [q] at h
      dsimp only at h
      rw [Bool.and_eq_true, decide_eq_true_eq] at h
      obtain ⟨h1, h2⟩ := h
      have ek : ksD (.tup (.str z :: r)) = ((l.zip r).filter fun p => decide (p.1 = .t)).map (·.2) := by
        unfold ksD
        dsimp only
        rw [q]
      rw [ek] at hk ⊢
      have hm : (z, l) ∈ fTab := PySem.mem_of_lookup q
      clear q ek
      unfold fTab at hm
      simp only [List.mem_cons, List.not_mem_nil, or_false, Prod.mk.injEq] at hm
      rcases hm with ⟨rfl, rfl⟩ | ⟨rfl, rfl⟩ | ⟨rfl, rfl⟩ | ⟨rfl, rfl⟩ | ⟨rfl, rfl⟩ | ⟨rfl, rfl⟩ | ⟨rfl, rfl⟩ | ⟨rfl, rfl⟩ | ⟨rfl, rfl⟩ | ⟨rfl, rfl⟩ | ⟨rfl, rfl⟩ | ⟨rfl, rfl⟩ | ⟨rfl, rfl⟩ | ⟨rfl, rfl⟩ | ⟨rfl, rfl⟩ | ⟨rfl, rfl⟩
      · match r, h1, h2, hk with
        | [a], _, h2, hk =>
          simp [partB] at h2
          obtain ⟨n, rfl, hn⟩ := numB_of h2
          exact ⟨.num n, rfl, hn, rfl⟩
      · match r, h1, h2, hk with
        | [a], _, h2, hk =>
          simp [partB] at h2
          obtain ⟨n, rfl⟩ := blB_of h2
          exact ⟨.tru n, rfl, trivial, rfl⟩
      · match r, h1, h2, hk with
        | [a], _, h2, hk =>
          simp [partB] at h2
          obtain ⟨n, rfl, hn⟩ := nameB_of h2
          exact ⟨.nam n, rfl, hn, rfl⟩
      · match r, h1, h2, hk with
        | [a, b, c], _, h2, hk =>
          simp only [List.zip_cons_cons, List.zip_nil_left, List.all_cons, List.all_nil, partB, Bool.and_true, Bool.and_eq_true] at h2
          obtain ⟨x, rfl, hx⟩ := nameB_of h2.1
          obtain ⟨k, rfl, hk1⟩ := kB_of h2.2
          obtain ⟨t, rfl, ht⟩ := hk c (by simp)
          exact ⟨.fn x k t, rfl, ⟨hx, hk1, ht⟩, by simp [DL.Tm.subs]⟩
      · match r, h1, h2, hk with
        | [a, b, c, e, f], _, h2, hk =>
          simp only [List.zip_cons_cons, List.zip_nil_left, List.all_cons, List.all_nil, partB, Bool.and_true, Bool.and_eq_true] at h2
          obtain ⟨h2, h3, h4, h5⟩ := h2
          obtain ⟨x, rfl, hx⟩ := nameB_of h2
          obtain ⟨y, rfl, hy⟩ := nameB_of h3
          obtain ⟨k, rfl, hk1⟩ := kB_of h4
          obtain ⟨k2, rfl, hk2⟩ := kB_of h5
          obtain ⟨t, rfl, ht⟩ := hk f (by simp)
          exact ⟨.rc x y k k2 t, rfl, ⟨hx, hy, hk1, hk2, ht⟩, by simp [DL.Tm.subs]⟩
      · match r, h1, h2, hk with
        | [a, b], _, h2, hk =>
          obtain ⟨t, rfl, ht⟩ := hk a (by simp)
          obtain ⟨u, rfl, hu⟩ := hk b (by simp)
          exact ⟨.two .call t u, rfl, ⟨ht, hu⟩, by simp [DL.Tm.subs]⟩
      · match r, h1, h2, hk with
        | [a, b, c, e], _, h2, hk =>
          simp only [List.zip_cons_cons, List.zip_nil_left, List.all_cons, List.all_nil, partB, Bool.and_true, Bool.and_eq_true] at h2
          obtain ⟨x, rfl, hx⟩ := nameB_of h2.1
          obtain ⟨k, rfl, hk1⟩ := kB_of h2.2
          obtain ⟨t, rfl, ht⟩ := hk c (by simp)
          obtain ⟨u, rfl, hu⟩ := hk e (by simp)
          exact ⟨.lt x k t u, rfl, ⟨hx, hk1, ht, hu⟩, by simp [DL.Tm.subs]⟩
      · match r, h1, h2, hk with
        | [a, b, c], _, h2, hk =>
          obtain ⟨t, rfl, ht⟩ := hk a (by simp)
          obtain ⟨u, rfl, hu⟩ := hk b (by simp)
          obtain ⟨v, rfl, hv⟩ := hk c (by simp)
          exact ⟨.ite t u v, rfl, ⟨ht, hu, hv⟩, by simp [DL.Tm.subs]⟩
      · match r, h1, h2, hk with
        | [a, b, c], _, h2, hk =>
          simp only [List.zip_cons_cons, List.zip_nil_left, List.all_cons, List.all_nil, partB, Bool.and_true] at h2
          obtain ⟨g, rfl⟩ := sgB_of h2
          obtain ⟨t, rfl, ht⟩ := hk b (by simp)
          obtain ⟨u, rfl, hu⟩ := hk c (by simp)
          exact ⟨.op g t u, rfl, ⟨trivial, ht, hu⟩, by simp [DL.Tm.subs]⟩
      · match r, h1, h2, hk with
        | [a, b], _, h2, hk =>
          obtain ⟨t, rfl, ht⟩ := hk a (by simp)
          obtain ⟨u, rfl, hu⟩ := hk b (by simp)
          exact ⟨.two .pair t u, rfl, ⟨ht, hu⟩, by simp [DL.Tm.subs]⟩
      · match r, h1, h2, hk with
        | [a], _, h2, hk =>
          obtain ⟨t, rfl, ht⟩ := hk a (by simp)
          exact ⟨.one .first t, rfl, ht, by simp [DL.Tm.subs]⟩
      · match r, h1, h2, hk with
        | [a], _, h2, hk =>
          obtain ⟨t, rfl, ht⟩ := hk a (by simp)
          exact ⟨.one .second t, rfl, ht, by simp [DL.Tm.subs]⟩
      · match r, h1, h2, hk with
        | [a], _, h2, hk =>
          obtain ⟨t, rfl, ht⟩ := hk a (by simp)
          exact ⟨.one .box t, rfl, ht, by simp [DL.Tm.subs]⟩
      · match r, h1, h2, hk with
        | [a], _, h2, hk =>
          obtain ⟨t, rfl, ht⟩ := hk a (by simp)
          exact ⟨.one .opn t, rfl, ht, by simp [DL.Tm.subs]⟩
      · match r, h1, h2, hk with
        | [a, b], _, h2, hk =>
          obtain ⟨t, rfl, ht⟩ := hk a (by simp)
          obtain ⟨u, rfl, hu⟩ := hk b (by simp)
          exact ⟨.two .put t u, rfl, ⟨ht, hu⟩, by simp [DL.Tm.subs]⟩
      · match r, h1, h2, hk with
        | [a, b], _, h2, hk =>
          simp only [List.zip_cons_cons, List.zip_nil_left, List.all_cons, List.all_nil, partB, Bool.and_true, Bool.true_and] at h2
          obtain ⟨k, rfl, hk1⟩ := kB_of h2
          obtain ⟨t, rfl, ht⟩ := hk a (by simp)
          exact ⟨.as t k, rfl, ⟨ht, hk1⟩, by simp [DL.Tm.subs]⟩
  · cases h
/-- a part's sort -/
def Pt.sn : Pt → Sn
  | .tm _ => .t | .kd _ => .k | .nm _ => .n | .it _ => .i | .bo _ => .b | .sg _ => .s
theorem tm_form (t : DL.Tm) : formOf t.word = some (t.parts.map Pt.sn) := by
  cases t with
  | two w a b => cases w <;> kernel_rfl
  | one w a => cases w <;> kernel_rfl
  | _ => kernel_rfl
theorem sg_mem : ∀ s : Sg, s.s ∈ sgL := by
  intro s
  cases s <;> decide +kernel
theorem pt_partB {p : Pt} (h : p.ok) : partB p.sn p.d = true := by
  cases p with
  | tm t => rfl
  | kd k => exact decide_eq_true ⟨k, rfl, h.1, h.2⟩
  | nm x => exact h
  | it n => exact decide_eq_true h
  | bo b => rfl
  | sg s => exact decide_eq_true (sg_mem s)
theorem zip_maps {α β γ : Type} (f : α → β) (g : α → γ) : ∀ l : List α, (l.map f).zip (l.map g) = l.map fun a => (f a, g a)
  | [] => rfl
  | a :: l => by rw [List.map_cons, List.map_cons, List.zip_cons_cons, zip_maps f g l]; rfl
theorem tm_sh {t : DL.Tm} (h : t.ok) : shB t.d = true := by
  rw [t.d_eq]
  unfold shB
  dsimp only
  rw [tm_form]
  dsimp only
  rw [List.length_map, List.length_map, decide_eq_true rfl, Bool.true_and, zip_maps, List.all_map, List.all_eq_true]
  exact fun p hp => pt_partB (DL.Tm.ok_parts h p hp)
theorem tm_ks (t : DL.Tm) : ksD t.d = t.subs.map DL.Tm.d := by
  rw [t.d_eq]
  unfold ksD
  dsimp only
  rw [tm_form]
  dsimp only
  rw [zip_maps]
  cases t <;> simp [DL.Tm.parts, DL.Tm.subs, Pt.sn, Pt.d]

theorem thg_ty2 {S : Sto} {d : D} (h : thg S d = true) : ∃ t, tyD d S = some t ∧ isTy t "int" = isInt d ∧ isTy t "bool" = isBl d := by
  cases d with
  | non => exact ⟨"NoneType", rfl, by kernel_rfl, by kernel_rfl⟩
  | bl b => exact ⟨"bool", rfl, by kernel_rfl, by kernel_rfl⟩
  | int i => exact ⟨"int", rfl, by kernel_rfl, by kernel_rfl⟩
  | str x => exact ⟨"str", rfl, by kernel_rfl, by kernel_rfl⟩
  | tup xs => exact ⟨"tuple", rfl, by kernel_rfl, by kernel_rfl⟩
  | ob n =>
    unfold thg at h
    unfold tyD
    dsimp only
    cases e : S[n]? with
    | none => rw [e] at h; cases h
    | some o =>
      rw [e] at h
      cases o with
      | lst xs => exact ⟨"list", rfl, by kernel_rfl, by kernel_rfl⟩
      | dk xs => exact ⟨"dict", rfl, by kernel_rfl, by kernel_rfl⟩
      | ins c fs => cases h
  | rl xs => cases h
  | kd a b => cases h
  | ty a => cases h
  | gl a => cases h
  | xo a b c => cases h
theorem thg_int {S : Sto} {d : D} (h : thg S d = true) : fIsi [d, .ty "int"] S = some (.bl (isInt d), S) := by
  obtain ⟨t, h1, h2, h3⟩ := thg_ty2 h
  rw [isi_ok h1 (by decide), h2]
theorem thg_bool {S : Sto} {d : D} (h : thg S d = true) : fIsi [d, .ty "bool"] S = some (.bl (isBl d), S) := by
  obtain ⟨t, h1, h2, h3⟩ := thg_ty2 h
  rw [isi_ok h1 (by decide), h3]
theorem in_sgs {x : Str} {S : Sto} : aIn (.str x) (.tup [.str "+", .str "-", .str "*", .str "<", .str "="]) S = some (.bl (decide (x ∈ sgL)), S) :=
  (in_pt (a := .str x) (xs := sgL.map D.str) (c := decide (x ∈ sgL)) rfl (pt_strs sgL) (by decide +kernel) (by simp)).1
theorem sn_ne (a b : Sn) : decide (a.s' = b.s') = decide (a = b) := by
  cases a <;> cases b <;> decide +kernel
theorem sn_lit : Sn.i.s' = "i" ∧ Sn.b.s' = "b" ∧ Sn.n.s' = "n" ∧ Sn.k.s' = "k" ∧ Sn.t.s' = "t" ∧ Sn.s.s' = "s" := by decide +kernel
theorem eq_sn {a : Sn} {S : Sto} : aEq (.str a.s') (.str "i") S = some (.bl (decide (a = .i)), S) ∧ aEq (.str a.s') (.str "b") S = some (.bl (decide (a = .b)), S) ∧ aEq (.str a.s') (.str "n") S = some (.bl (decide (a = .n)), S) ∧ aEq (.str a.s') (.str "k") S = some (.bl (decide (a = .k)), S) ∧ aEq (.str a.s') (.str "t") S = some (.bl (decide (a = .t)), S) := by
  obtain ⟨h1, h2, h3, h4, h5, h6⟩ := sn_lit
  rw [← h1, ← h2, ← h3, ← h4, ← h5]
  simp only [s_eqs, sn_ne, and_self]
theorem zipD_zip (f : Sn → D) : ∀ (l : List Sn) (r : List D), zipD (l.map f) r = (l.zip r).map fun p => .tup [f p.1, p.2]
  | [], _ => rfl
  | _ :: _, [] => rfl
  | a :: l, b :: r => by
    rw [List.map_cons, List.zip_cons_cons, List.map_cons, ← zipD_zip f l r]
    rfl
theorem form_src {z : Str} {l : List Sn} {S : Sto} (h : formOf z = some l) : srcOf (.str (sgn l)) S = some ⟨l.map fun x => .str x.s', []⟩ := by
  have := (form_len5 h).2
  show (if (sgn l).length ≤ sizeLine then some (Src.mk (signs (sgn l)) []) else none) = _
  rw [if_pos (small_line (by rw [sgn_len]; omega)), sgn_signs]
theorem zip_sgn {h : DenA} {fr : Fr} {S S' : Sto} {z : Str} {l : List Sn} {r : List D} (q : formOf z = some l) (e : h fr S = .ok [.str (sgn l), .tup r] S') : dIZip h fr S = .ok ⟨(l.zip r).map fun p => .tup [.str p.1.s', p.2], []⟩ S' := by
  unfold dIZip
  rw [e]
  show (match srcOf (.str (sgn l)) S', srcOf (.tup r) S' with
    | some p, some q => Out.ok (Src.mk (zipD p.items q.items) (p.guard ++ q.guard)) S'
    | _, _ => .no) = _
  rw [form_src q]
  show Out.ok (Src.mk (zipD (l.map fun x => D.str x.s') r) ([] ++ [])) S' = _
  rw [zipD_zip]
  rfl

/-! ### level by level -/
/-- the levels gone through, as is_term does: so many turns, so many terms ahead, the level -/
def lvB : Nat → Nat → List D → Bool
  | 0, _, row => row.isEmpty
  | i + 1, m, row => if m + row.length > 120 ∨ row.all shB = false then false else lvB i (m + row.length) (row.flatMap ksD)
def tmB (d : D) : Prop := ∃ t : DL.Tm, d = t.d ∧ t.ok ∧ t.size ≤ 120 ∧ t.deep ≤ 20
instance (d : D) : Decidable (tmB d) := Classical.propDecidable _
theorem sum_flat {ts : List DL.Tm} : (ts.map DL.Tm.size).sum = ts.length + ((ts.flatMap DL.Tm.subs).map DL.Tm.size).sum := by
  induction ts with
  | nil => rfl
  | cons t ts ih =>
    rw [List.map_cons, List.sum_cons, List.length_cons, List.flatMap_cons, List.map_append, List.sum_append, ih, t.size_subs]
    omega
theorem lvB_tm : ∀ (i m : Nat) (row : List D), lvB i m row = true → m ≤ 120 → ∃ ts : List DL.Tm, row = ts.map DL.Tm.d ∧ (∀ t ∈ ts, t.ok ∧ t.deep ≤ i) ∧ m + (ts.map DL.Tm.size).sum ≤ 120
  | 0, m, row, h, hm => by
    have : row = [] := List.isEmpty_iff.mp h
    exact ⟨[], this, (fun t ht => by cases ht), hm⟩
  | i + 1, m, row, h, hm => by
    unfold lvB at h
    split at h
    · cases h
    · rename_i q
      have q1 : ¬ (m + row.length > 120) := fun z => q (.inl z)
      have q2 : row.all shB = true := by
        cases e : row.all shB
        · exact absurd (.inr e) q
        · rfl
      obtain ⟨ts, e, h1, h2⟩ := lvB_tm i (m + row.length) (row.flatMap ksD) h (by omega)
      have mk : ∀ (row : List D) (us : List DL.Tm), row.all shB = true → row.flatMap ksD = us.map DL.Tm.d → (∀ t ∈ us, t.ok ∧ t.deep ≤ i) →
          ∃ ts : List DL.Tm, row = ts.map DL.Tm.d ∧ (∀ t ∈ ts, t.ok ∧ t.deep ≤ i + 1) ∧ ts.flatMap DL.Tm.subs = us := by
        intro row
        induction row with
        | nil =>
          intro us _ e _
          have : us = [] := by
            cases us with
            | nil => rfl
            | cons u us => cases e
          exact ⟨[], rfl, (fun t ht => by cases ht), by rw [this]; rfl⟩
        | cons d row ih =>
          intro us ha e hu
          rw [List.all_cons, Bool.and_eq_true] at ha
          rw [List.flatMap_cons] at e
          obtain ⟨u1, u2, rfl, e1, e2⟩ := List.append_eq_map_iff.mp e
          obtain ⟨t, rfl, ht, hk⟩ := sh_mk ha.1 (fun x hx => by
            rw [← e1] at hx
            obtain ⟨t, ht, rfl⟩ := List.mem_map.mp hx
            exact ⟨t, rfl, (hu t (List.mem_append_left _ ht)).1⟩)
          obtain ⟨ts, rfl, h3, h4⟩ := ih u2 ha.2 e2.symm (fun t ht => hu t (List.mem_append_right _ ht))
          have e3 : t.subs = u1 := by
            rw [hk] at e1
            exact (DL.Tm.map_inj e1).symm
          refine ⟨t :: ts, rfl, fun x hx => ?_, by rw [List.flatMap_cons, h4, e3]⟩
          rcases List.mem_cons.mp hx with rfl | hx
          · refine ⟨ht, DL.Tm.deep_le fun s hs => ?_⟩
            rw [e3] at hs
            exact (hu s (List.mem_append_left _ hs)).2
          · exact h3 x hx
      obtain ⟨us, e1, h3, h4⟩ := mk row ts q2 e h1
      refine ⟨us, e1, h3, ?_⟩
      rw [sum_flat, h4]
      have : row.length = us.length := by rw [e1, List.length_map]
      omega
theorem tm_lvB : ∀ (i m : Nat) (ts : List DL.Tm), (∀ t ∈ ts, t.ok ∧ t.deep ≤ i) → m + (ts.map DL.Tm.size).sum ≤ 120 → lvB i m (ts.map DL.Tm.d) = true
  | 0, m, ts, h, _ => by
    cases ts with
    | nil => rfl
    | cons t ts => have := (h t List.mem_cons_self).2; have := t.deep_pos; omega
  | i + 1, m, ts, h, hm => by
    unfold lvB
    rw [sum_flat] at hm
    rw [List.length_map, if_neg]
    · have e : (ts.map DL.Tm.d).flatMap ksD = (ts.flatMap DL.Tm.subs).map DL.Tm.d := by
        rw [List.flatMap_map, List.map_flatMap]
        clear h hm
        induction ts with
        | nil => rfl
        | cons t ts ih => rw [List.flatMap_cons, List.flatMap_cons, tm_ks, ih]
      rw [e]
      refine tm_lvB i _ _ (fun s hs => ?_) (by omega)
      obtain ⟨t, ht, hs⟩ := List.mem_flatMap.mp hs
      have := DL.Tm.deep_sub hs
      have := (h t ht).2
      exact ⟨DL.Tm.ok_subs (h t ht).1 s hs, by omega⟩
    · rintro (q | q)
      · omega
      · rw [List.all_map, List.all_eq_false] at q
        obtain ⟨t, ht, q⟩ := q
        exact q (tm_sh (h t ht).1)
theorem lvB_iff (d : D) : lvB 20 0 [d] = decide (tmB d) := by
  by_cases h : tmB d
  · rw [decide_eq_true h]
    obtain ⟨t, rfl, h1, h2, h3⟩ := h
    exact tm_lvB 20 0 [t] (fun s hs => by rw [List.mem_singleton.mp hs]; exact ⟨h1, h3⟩) (by simpa using h2)
  · rw [decide_eq_false h]
    cases e : lvB 20 0 [d] with
    | false => rfl
    | true =>
      obtain ⟨ts, e1, h1, h2⟩ := lvB_tm 20 0 [d] e (by omega)
      match ts, e1, h1, h2 with
      | [t], e1, h1, h2 =>
        refine absurd ⟨t, ?_, (h1 t List.mem_cons_self).1, by simpa using h2, (h1 t List.mem_cons_self).2⟩ h
        simpa using e1
      | [], e1, _, _ => cases e1
      | _ :: _ :: _, e1, _, _ => simp at e1
end
end DL
/-! DT, part d: what a def that draws hands back, of any sort; what is no term. -/
namespace DL
open PySem PySem.Spec PyProof.Rows L2
noncomputable section
mutual
theorem thg_cut {N : Nat} {S S' : Sto} (h : ∀ n < N, S[n]? = S'[n]?) : ∀ d : D, d.und N = true → thg S' d = true → thg S d = true
  | .non, _, _ => rfl
  | .bl _, _, _ => rfl
  | .int _, _, _ => rfl
  | .str _, _, _ => rfl
  | .tup xs, u, t => by
    unfold D.und at u
    unfold thg at t ⊢
    exact thgL_cut h xs u t
  | .ob n, u, t => by
    unfold D.und at u
    unfold thg at t ⊢
    rw [h n (of_decide_eq_true u)]
    exact t
  | .rl _, _, t => by cases t
  | .kd _ _, _, t => by cases t
  | .ty _, _, t => by cases t
  | .gl _, _, t => by cases t
  | .xo _ _ _, _, t => by cases t
theorem thgL_cut {N : Nat} {S S' : Sto} (h : ∀ n < N, S[n]? = S'[n]?) : ∀ ds : List D, undL N ds = true → thgL S' ds = true → thgL S ds = true
  | [], _, _ => rfl
  | d :: ds, u, t => by
    unfold undL at u
    unfold thgL at t ⊢
    rw [Bool.and_eq_true] at u t
    rw [thg_cut h d u.1 t.1, thgL_cut h ds u.2 t.2]
    rfl
end
/-- a thing handed back by a def that draws -/
theorem gc_dstA {cs : List Int} {s s' : Ds} {R U : Sto} {d : D} (h : thg (dst cs s' (R ++ U)) d = true) :
    ∃ d' V, gcO (dst cs s R) d (dst cs s' (R ++ U)) = .ok d' (dst cs s' (R ++ V)) ∧ thg (dst cs s' (R ++ V)) d' = true ∧ (d' = d ∨ ∃ i j, d = .ob i ∧ d' = .ob j) := by
  by_cases hu : d.und (R.length + 3) = true
  · refine ⟨d, [], ?_, ?_, .inl rfl⟩
    · rw [List.append_nil]
      exact gc_dst hu
    · rw [List.append_nil]
      refine thg_cut (N := R.length + 3) (fun n hn => ?_) d hu h
      match n, hn with
      | 0, _ => rfl
      | 1, _ => rfl
      | 2, _ => rfl
      | n + 3, hn =>
        show R[n]? = (R ++ U)[n]?
        rw [List.getElem?_append_left (by omega)]
  · cases d with
    | ob i =>
      have hi : ¬ i < R.length + 3 := fun z => hu (by unfold D.und; exact decide_eq_true z)
      obtain ⟨j, rfl⟩ : ∃ j, i = R.length + 3 + j := ⟨i - (R.length + 3), by omega⟩
      have h0 := h
      unfold thg at h
      rw [dst_new] at h
      cases e : U[j]? with
      | none => rw [e] at h; cases h
      | some o =>
        rw [e] at h
        by_cases ho : o.und (R.length + 3) = true
        · refine ⟨_, [o], gc_dstN e ho, ?_, .inr ⟨_, _, rfl, rfl⟩⟩
          unfold thg
          have : (dst cs s' (R ++ [o]))[R.length + 3]? = some o := dst_last
          rw [this]
          exact h
        · refine ⟨_, U, ?_, h0, .inl rfl⟩
          unfold gcO
          have hl : (dst cs s R).length = R.length + 3 := rfl
          rw [if_neg (fun z => hu (by rw [← hl]; exact z.2))]
          dsimp only
          rw [dst_new, e]
          dsimp only
          rw [if_neg (fun z => ho (by rw [← hl]; exact z.2.2))]
    | _ =>
      refine ⟨_, U, ?_, h, .inl rfl⟩
      unfold gcO
      have hl : (dst cs s R).length = R.length + 3 := rfl
      rw [if_neg (fun z => hu (by rw [← hl]; exact z.2))]
/-- what is no term's -/
def noTm (d : D) : Prop := ∀ t : DL.Tm, t.ok → d ≠ t.d
theorem noTm_sh {d : D} (h : shB d = false) : noTm d := fun t ht e => by
  rw [e, tm_sh ht] at h
  cases h
theorem noTm_ob (i : Nat) : noTm (.ob i) := noTm_sh rfl
theorem noTm_B {d : D} (h : noTm d) : decide (tmB d) = false := decide_eq_false fun ⟨t, e, h1, _⟩ => h t h1 e
/-- what is none of a sort -/
def oddP (x : Sn) (d : D) : Prop := smA d = true ∧ (if x = .t then noTm d else partB x d = false)
theorem fm_no {d : D} (h : fm 8 d = false) : decide (kB d) = false := decide_eq_false fun ⟨k, e, h1, _⟩ => by
  rw [e, kd_fm h1] at h
  cases h
theorem oddP_ob (x : Sn) (i : Nat) : oddP x (.ob i) := by
  refine ⟨rfl, ?_⟩
  cases x with
  | t => exact noTm_ob i
  | k => exact fm_no rfl
  | _ => rfl
/-- a term with a part that is none -/
theorem noTm_part {t : DL.Tm} {p1 p2 : List Pt} {p : Pt} {e : D} (hp : t.parts = p1 ++ p :: p2) (h : oddP p.sn e) : noTm (.tup (.str t.word :: (p1.map Pt.d ++ e :: p2.map Pt.d))) := by
  intro u hu he
  have hs := tm_sh hu
  have hk := tm_ks u
  rw [← he] at hs hk
  unfold shB at hs
  unfold ksD at hk
  dsimp only at hs hk
  rw [tm_form, hp] at hs hk
  dsimp only at hs hk
  rw [Bool.and_eq_true] at hs
  have hz : ((p1 ++ p :: p2).map Pt.sn).zip (p1.map Pt.d ++ e :: p2.map Pt.d) = (p1.map Pt.sn).zip (p1.map Pt.d) ++ (p.sn, e) :: (p2.map Pt.sn).zip (p2.map Pt.d) := by
    rw [List.map_append, List.zip_append (by rw [List.length_map, List.length_map]), List.map_cons, List.zip_cons_cons]
  rw [hz] at hs hk
  have h2 := List.all_eq_true.mp hs.2 (p.sn, e) (by simp)
  by_cases q : p.sn = .t
  · have hm : e ∈ u.subs.map DL.Tm.d := by
      rw [← hk]
      exact List.mem_map.mpr ⟨(p.sn, e), List.mem_filter.mpr ⟨by simp, by simp [q]⟩, rfl⟩
    obtain ⟨s, hs1, rfl⟩ := List.mem_map.mp hm
    have := h.2
    rw [if_pos q] at this
    exact this s (DL.Tm.ok_subs hu s hs1) rfl
  · have := h.2
    rw [if_neg q] at this
    rw [this] at h2
    cases h2
theorem smA_tup {xs : List D} (h : ∀ d ∈ xs, smA d = true) : smA (.tup xs) = true := by
  unfold smA
  exact smL_mem.mpr h
theorem smA_pt {p : Pt} (h : p.ok) (ht : ∀ t, p = .tm t → smA t.d = true) : smA p.d = true := by
  have hk : ∀ k : Kd, smA k.d = true := fun k => by
    induction k with
    | num => decide +kernel
    | truth => decide +kernel
    | any => decide +kernel
    | fn a b iha ihb =>
      refine smA_tup fun d hd => ?_
      simp only [List.mem_cons, List.not_mem_nil, or_false] at hd
      rcases hd with rfl | rfl | rfl
      · decide +kernel
      · exact iha
      · exact ihb
    | pr a b iha ihb =>
      refine smA_tup fun d hd => ?_
      simp only [List.mem_cons, List.not_mem_nil, or_false] at hd
      rcases hd with rfl | rfl | rfl
      · decide +kernel
      · exact iha
      · exact ihb
    | bx a iha =>
      refine smA_tup fun d hd => ?_
      simp only [List.mem_cons, List.not_mem_nil, or_false] at hd
      rcases hd with rfl | rfl
      · decide +kernel
      · exact iha
  cases p with
  | tm t => exact ht t rfl
  | kd k => exact hk k
  | nm x =>
    have h : nmB x = true := h
    unfold nmB at h
    rw [Bool.and_eq_true, decide_eq_true_eq] at h
    exact decide_eq_true (by omega)
  | it n => rfl
  | bo b => rfl
  | sg s => cases s <;> decide +kernel
theorem smA_word (t : DL.Tm) : smA (.str t.word) = true := by
  have h : ∀ w ∈ DL.Tm.wtab, smA (.str w) = true := by decide +kernel
  exact h _ (List.mem_of_getElem? t.word_tab)
theorem smA_tm : ∀ (n : Nat) (t : DL.Tm), t.size ≤ n → t.ok → smA t.d = true
  | 0, t, h, _ => by have := t.size_pos; omega
  | n + 1, t, h, ho => by
    rw [t.d_eq]
    refine smA_tup fun d hd => ?_
    rcases List.mem_cons.mp hd with rfl | hd
    · exact smA_word t
    · obtain ⟨p, hp, rfl⟩ := List.mem_map.mp hd
      refine smA_pt (DL.Tm.ok_parts ho p hp) fun s e => ?_
      have hs : s ∈ t.subs := by
        rw [t.subs_parts]
        exact List.mem_filterMap.mpr ⟨p, hp, by rw [e]⟩
      have := DL.Tm.size_sub hs
      exact smA_tm n s (by omega) (DL.Tm.ok_subs ho s hs)
theorem tm_sm {t : DL.Tm} (h : t.ok) : smA t.d = true := smA_tm t.size t (Nat.le_refl _) h
mutual
theorem pu_thg {S : Sto} : ∀ d : D, d.pu = true → thg S d = true
  | .non, _ => rfl
  | .bl _, _ => rfl
  | .int _, _ => rfl
  | .str _, _ => rfl
  | .tup xs, h => by
    unfold D.pu at h
    unfold thg
    exact puL_thg xs h
  | .ob _, h => (by cases h)
  | .ty _, h => (by cases h)
  | .gl _, h => (by cases h)
  | .rl _, h => (by cases h)
  | .kd _ _, h => (by cases h)
  | .xo _ _ _, h => (by cases h)
theorem puL_thg {S : Sto} : ∀ ds : List D, puL ds = true → thgL S ds = true
  | [], _ => rfl
  | d :: ds, h => by
    unfold puL at h
    rw [Bool.and_eq_true] at h
    unfold thgL
    rw [pu_thg d h.1, puL_thg ds h.2]
    rfl
end
theorem tm_thg {S : Sto} (t : DL.Tm) : thg S t.d = true := pu_thg _ t.pu
/-! ### slices -/
theorem cut_pre {α : Type} {xs : List α} {i : Int} (k : Nat) (e : i = k) (h : k ≤ xs.length) : cutD xs none (some i) = xs.take k := by
  subst e
  unfold cutD
  rw [HT.sIx_none, HT.sIx_nat, Nat.min_eq_left h, List.drop_zero, Nat.sub_zero]
theorem cut_suf {α : Type} {xs : List α} {i : Int} (k : Nat) (e : i = k) (h : k ≤ xs.length) : cutD xs (some i) none = xs.drop k := by
  subst e
  unfold cutD
  rw [HT.sIx_none, HT.sIx_nat, Nat.min_eq_left h]
  exact List.take_of_length_le (by rw [List.length_drop]; omega)
/-- a form's sign -/
theorem sgn_ix {l : List Sn} {i : Int} {x : Sn} (k : Nat) (e : i = k) (h : l[k]? = some x) (hl : l.length ≤ 1000) (S : Sto) : aIx (.str (sgn l)) (.int i) S = some (.str x.s', S) := by
  show (if (sgn l).length ≤ sizeLine then (L2.atI (sgn l).cps.toList i).map (fun c => (D.str ⟨#[c]⟩, S)) else none) = _
  have e1 : (sgn l).cps.toList = l.map Sn.code := by unfold sgn; rw [List.toList_toArray]
  rw [if_pos (small_line (by rw [sgn_len]; exact hl)), e1, atI_ok (j := k) (x := x.code) e (by rw [List.getElem?_map, h]; rfl)]
  rfl
end
end DL
/-! what is none of a sort -/
namespace K07
open PySem PySem.Spec PyProof.Rows L2 DL
noncomputable section
theorem pw12 (S : Sto) : aPow (.int 10) (.int 12) S = some (.int 1000000000000, S) := by
  rw [pow_ok (by decide)]
  have : (10 : Int) ^ (12 : Int).toNat = 1000000000000 := by decide +kernel
  rw [this]
theorem pw30 (S : Sto) : aPow (.int 10) (.int 30) S = some (.int 1000000000000000000000000000000, S) := by
  rw [pow_ok (by decide)]
  have : (10 : Int) ^ (30 : Int).toNat = 1000000000000000000000000000000 := by decide +kernel
  rw [this]
def xN (j : Nat) : List D := [.str "", .str "A", .str "abcdefghi", .str "a1", .non, .int 5, .tup [.str "x"], .ob j, .str "x ", .bl true]
def xK (j : Nat) : List D := [.non, .str "num", .tup [.str "num", .int 1], .tup [.str "box"], .tup [.str "fun", .tup [.str "num"]], .tup [.str "Num"], .ob j, .tup [], .tup [.str "pair", .tup [.str "num"], .int 5]]
def xI : List D := [.int 1000000000001, .int (-1000000000001), .bl true, .non, .str "1", .tup [.int 1], .int 1000000000000000000000000000000]
def xB : List D := [.int 0, .int 1, .non, .str "True", .tup [.bl true]]
def xS : List D := [.str "", .str "/", .str "++", .non, .str "plus", .tup [.str "+"], .int 5]
def xT1 (j : Nat) : List D := [.non, .int 5, .str "x", .tup [], .tup [.str "name"], .tup [.str "number", .bl true], .ob j, .tup [.str "truth", .int 1], .tup [.str "Name", .str "x"], .ob (j + 1), .tup [.str "op", .str "+"]]
def xT2 : List D := [.tup [.str "fun", .str "x", .tup [.str "num"]], .tup [.str "number", .int 1, .int 2], .tup [.str "kind", .tup [.str "num"]], .tup [.tup [.str "number", .int 1]]]
def xT3 : List D := [.tup [.str "call", .tup [.str "number", .int 1]]]
theorem oddN {S : Sto} {j : Nat} (hj : thg S (.ob j) = true) : ∀ d ∈ xN j, thg S d = true ∧ oddP .n d := by
  intro d hd
  simp only [xN, List.mem_cons, List.not_mem_nil, or_false] at hd
  rcases hd with rfl | rfl | rfl | rfl | rfl | rfl | rfl | rfl | rfl | rfl
  all_goals first | exact ⟨hj, oddP_ob _ _⟩ | (refine ⟨rfl, ?_⟩; unfold oddP; rw [if_neg (by decide)]; decide +kernel)
theorem oddK {S : Sto} {j : Nat} (hj : thg S (.ob j) = true) : ∀ d ∈ xK j, thg S d = true ∧ oddP .k d := by
  intro d hd
  simp only [xK, List.mem_cons, List.not_mem_nil, or_false] at hd
  rcases hd with rfl | rfl | rfl | rfl | rfl | rfl | rfl | rfl | rfl
  all_goals first | exact ⟨hj, oddP_ob _ _⟩ | (refine ⟨rfl, ?_⟩; unfold oddP; rw [if_neg (by decide)]; exact ⟨by decide +kernel, fm_no (by decide +kernel)⟩)
theorem oddI {S : Sto} : ∀ d ∈ xI, thg S d = true ∧ oddP .i d := by
  intro d hd
  simp only [xI, List.mem_cons, List.not_mem_nil, or_false] at hd
  rcases hd with rfl | rfl | rfl | rfl | rfl | rfl | rfl
  all_goals (refine ⟨rfl, ?_⟩; unfold oddP; rw [if_neg (by decide)]; decide +kernel)
theorem oddB {S : Sto} : ∀ d ∈ xB, thg S d = true ∧ oddP .b d := by
  intro d hd
  simp only [xB, List.mem_cons, List.not_mem_nil, or_false] at hd
  rcases hd with rfl | rfl | rfl | rfl | rfl
  all_goals (refine ⟨rfl, ?_⟩; unfold oddP; rw [if_neg (by decide)]; decide +kernel)
theorem oddS {S : Sto} : ∀ d ∈ xS, thg S d = true ∧ oddP .s d := by
  intro d hd
  simp only [xS, List.mem_cons, List.not_mem_nil, or_false] at hd
  rcases hd with rfl | rfl | rfl | rfl | rfl | rfl | rfl
  all_goals (refine ⟨rfl, ?_⟩; unfold oddP; rw [if_neg (by decide)]; decide +kernel)
theorem oddT {S : Sto} {j : Nat} (hj : thg S (.ob j) = true) (hj2 : thg S (.ob (j + 1)) = true) : ∀ d ∈ xT1 j ++ xT2 ++ xT3, thg S d = true ∧ oddP .t d := by
  have sh : ∀ d : D, shB d = false → smA d = true → oddP .t d := fun d h1 h2 => ⟨h2, by rw [if_pos rfl]; exact noTm_sh h1⟩
  intro d hd
  simp only [xT1, xT2, xT3, List.cons_append, List.nil_append, List.mem_cons, List.not_mem_nil, or_false] at hd
  rcases hd with rfl | rfl | rfl | rfl | rfl | rfl | rfl | rfl | rfl | rfl | rfl | rfl | rfl | rfl | rfl | rfl
  all_goals first | exact ⟨hj, oddP_ob _ _⟩ | exact ⟨hj2, oddP_ob _ _⟩ | exact ⟨rfl, sh _ (by decide +kernel) (by decide +kernel)⟩
theorem dst_at {cs : List Int} {s : Ds} {R U : Sto} {o : O} {j : Nat} (h : U[j]? = some o) : (dst cs s (R ++ U))[R.length + 3 + j]? = some o := by rw [dst_new, h]
/-- a row of odd things, one drawn -/
theorem odd_end {K : Nat} {m : Int} {b : Nat} {cs : List Int} {s : Ds} {x : Sn} (xs : Nat → List D) (U : Nat → Sto) (j : Nat) (hU : ∀ r, (U r)[j]? = some (.lst (xs r))) (hm : ∀ r, ((xs r).length : Int) = m) (m0 : 0 < m) (m1 : m < 1000)
    (ho : ∀ (s' : Ds) (R : Sto), ∀ d ∈ xs (R.length + 3), thg (dst cs s' (R ++ U (R.length + 3))) d = true ∧ oddP x d)
    (hd : Dr b cs s) (hb : b < 2 ^ 60)
    (hrun : ∀ (q : Int) (s' : Ds) (R : Sto) (d : D), Phi T G (K + 2) i_law_next [.ob 2, .int m] (dst cs s (R ++ U (R.length + 3))) = .ok (.int q) (dst cs s' (R ++ U (R.length + 3))) → aIx (.ob (R.length + 3 + j)) (.int q) (dst cs s' (R ++ U (R.length + 3))) = some (d, dst cs s' (R ++ U (R.length + 3))) →
      rtOf (b_law_odd (Phi T G (K + 2)) [some (.ob 2), some (.str x.s'), none] (dst cs s R)) = some (d, dst cs s' (R ++ U (R.length + 3)))) :
    ∃ s', Dr (b + 1) cs s' ∧ ∀ R, ∃ d V, Phi T G (K + 3) i_law_odd [.ob 2, .str x.s'] (dst cs s R) = .ok d (dst cs s' (R ++ V)) ∧ thg (dst cs s' (R ++ V)) d = true ∧ oddP x d := by
  obtain ⟨q, s', q0, q1, d1, e1⟩ := nx K m hd (by omega) m0 (by omega)
  refine ⟨s', d1, fun R => ?_⟩
  have hq : q < ((xs (R.length + 3)).length : Int) := by rw [hm]; exact q1
  obtain ⟨d, hdm, hix⟩ := pick q0 hq
  obtain ⟨h1, h2⟩ := ho s' R d hdm
  have hr := hrun q s' R d (e1 _) (hix _ _ (dst_at (hU _)))
  obtain ⟨d', V, g1, g2, g3⟩ := gc_dstA (cs := cs) (s := s) h1
  refine ⟨d', V, run_law_odd (k := K + 2) hr g1, g2, ?_⟩
  rcases g3 with rfl | ⟨i, j', rfl, rfl⟩
  · exact h2
  · exact oddP_ob _ _
theorem thg_lst {cs : List Int} {s : Ds} {R U : Sto} {j : Nat} {xs : List D} (h : U[j]? = some (.lst xs)) : thg (dst cs s (R ++ U)) (.ob (R.length + 3 + j)) = true := by
  unfold thg
  rw [dst_at h]
theorem thg_dk {cs : List Int} {s : Ds} {R U : Sto} {j : Nat} {xs : List (Key × D)} (h : U[j]? = some (.dk xs)) : thg (dst cs s (R ++ U)) (.ob (R.length + 3 + j)) = true := by
  unfold thg
  rw [dst_at h]
theorem odd_dr {b : Nat} {cs : List Int} {s : Ds} (K : Nat) (x : Sn) (hd : Dr b cs s) (hb : b < 2 ^ 60) :
    ∃ s', Dr (b + 1) cs s' ∧ ∀ R, ∃ d V, Phi T G (K + 3) i_law_odd [.ob 2, .str x.s'] (dst cs s R) = .ok d (dst cs s' (R ++ V)) ∧ thg (dst cs s' (R ++ V)) d = true ∧ oddP x d := by
  have hsn := fun (S : Sto) => eq_sn (a := x) (S := S)
  have hss : ∀ S, aEq (.str x.s') (.str "s") S = some (.bl (decide (x = .s)), S) := fun S => by
    rw [← sn_lit.2.2.2.2.2, s_eqs, sn_ne]
  cases x with
  | n =>
    refine odd_end (m := 10) (fun r => xN r) (fun r => [.lst [.str "x"], .lst (xN r)]) 1 (fun r => rfl) (fun r => rfl) (by decide) (by decide) (fun s' R d hd => oddN (thg_lst (j := 0) rfl) d hd) hd hb (fun q s' R d h1 h2 => ?_)
    have e1 := fun S => (hsn S).2.2.1
    simp only [xN] at h1 h2 ⊢
    rw [show R.length + 3 + 1 = R.length + 1 + 3 by omega] at h2
    simp [b_law_odd, Out.bnd, e1, h1, h2]
  | k =>
    refine odd_end (m := 9) (fun r => xK r) (fun r => [.lst [.str "num"], .lst (xK r)]) 1 (fun r => rfl) (fun r => rfl) (by decide) (by decide) (fun s' R d hd => oddK (thg_lst (j := 0) rfl) d hd) hd hb (fun q s' R d h1 h2 => ?_)
    have e1 := fun S => (hsn S).2.2.1
    have e2 := fun S => (hsn S).2.2.2.1
    simp only [xK] at h1 h2 ⊢
    rw [show R.length + 3 + 1 = R.length + 1 + 3 by omega] at h2
    simp [b_law_odd, Out.bnd, e1, e2, h1, h2]
  | i =>
    refine odd_end (m := 7) (fun r => xI) (fun r => [.lst xI]) 0 (fun r => rfl) (fun r => rfl) (by decide) (by decide) (fun s' R d hd => oddI d hd) hd hb (fun q s' R d h1 h2 => ?_)
    have e1 := fun S => (hsn S).2.2.1
    have e2 := fun S => (hsn S).2.2.2.1
    have e3 := fun S => (hsn S).1
    simp only [xI] at h1 h2 ⊢
    rw [show R.length + 3 + 0 = R.length + 3 by omega] at h2
    simp [b_law_odd, Out.bnd, e1, e2, e3, pw12, pw30, h1, h2]
  | b =>
    refine odd_end (m := 5) (fun r => xB) (fun r => [.lst xB]) 0 (fun r => rfl) (fun r => rfl) (by decide) (by decide) (fun s' R d hd => oddB d hd) hd hb (fun q s' R d h1 h2 => ?_)
    have e1 := fun S => (hsn S).2.2.1
    have e2 := fun S => (hsn S).2.2.2.1
    have e3 := fun S => (hsn S).1
    have e4 := fun S => (hsn S).2.1
    simp only [xB] at h1 h2 ⊢
    rw [show R.length + 3 + 0 = R.length + 3 by omega] at h2
    simp [b_law_odd, Out.bnd, e1, e2, e3, e4, h1, h2]
  | s =>
    refine odd_end (m := 7) (fun r => xS) (fun r => [.lst xS]) 0 (fun r => rfl) (fun r => rfl) (by decide) (by decide) (fun s' R d hd => oddS d hd) hd hb (fun q s' R d h1 h2 => ?_)
    have e1 := fun S => (hsn S).2.2.1
    have e2 := fun S => (hsn S).2.2.2.1
    have e3 := fun S => (hsn S).1
    have e4 := fun S => (hsn S).2.1
    simp only [xS] at h1 h2 ⊢
    rw [show R.length + 3 + 0 = R.length + 3 by omega] at h2
    simp [b_law_odd, Out.bnd, e1, e2, e3, e4, hss, h1, h2]
  | t =>
    refine odd_end (m := 16) (fun r => xT1 r ++ xT2 ++ xT3) (fun r => [.lst [.str "name", .str "x"], .dk [], .lst (xT1 r), .lst xT2, .lst (xT1 r ++ xT2), .lst xT3, .lst (xT1 r ++ xT2 ++ xT3)]) 6 (fun r => rfl) (fun r => rfl) (by decide) (by decide)
      (fun s' R d hd => oddT (thg_lst (j := 0) rfl) (thg_dk (j := 1) rfl) d hd) hd hb (fun q s' R d h1 h2 => ?_)
    have e1 := fun S => (hsn S).2.2.1
    have e2 := fun S => (hsn S).2.2.2.1
    have e3 := fun S => (hsn S).1
    have e4 := fun S => (hsn S).2.1
    have a1 : aAdd (.ob (R.length + 3 + 2)) (.ob (R.length + 3 + 3)) (dst cs s (R ++ [.lst [.str "name", .str "x"], .dk [], .lst (xT1 (R.length + 3)), .lst xT2])) = some (.ob (R.length + 3 + 4), dst cs s (R ++ [.lst [.str "name", .str "x"], .dk [], .lst (xT1 (R.length + 3)), .lst xT2, .lst (xT1 (R.length + 3) ++ xT2)])) := by
      rw [add_at (dst_at (j := 2) rfl) (dst_at (j := 3) rfl) (by show 11 + 4 ≤ 1000; omega)]
      simp
    have a2 : aAdd (.ob (R.length + 3 + 4)) (.ob (R.length + 3 + 5)) (dst cs s (R ++ [.lst [.str "name", .str "x"], .dk [], .lst (xT1 (R.length + 3)), .lst xT2, .lst (xT1 (R.length + 3) ++ xT2), .lst xT3])) = some (.ob (R.length + 3 + 6), dst cs s (R ++ [.lst [.str "name", .str "x"], .dk [], .lst (xT1 (R.length + 3)), .lst xT2, .lst (xT1 (R.length + 3) ++ xT2), .lst xT3, .lst (xT1 (R.length + 3) ++ xT2 ++ xT3)])) := by
      rw [add_at (dst_at (j := 4) rfl) (dst_at (j := 5) rfl) (by show 15 + 1 ≤ 1000; omega)]
      simp
    generalize hz1 : xT1 (R.length + 3) ++ xT2 ++ xT3 = z1 at *
    generalize hz2 : xT1 (R.length + 3) ++ xT2 = z2 at *
    simp only [xT1, xT2, xT3] at a1 a2 h1 h2 ⊢
    simp only [show R.length + 3 + 1 = R.length + 1 + 3 by omega, show R.length + 3 + 2 = R.length + 2 + 3 by omega, show R.length + 3 + 3 = R.length + 3 + 3 by omega, show R.length + 3 + 4 = R.length + 4 + 3 by omega, show R.length + 3 + 5 = R.length + 5 + 3 by omega, show R.length + 3 + 6 = R.length + 6 + 3 by omega] at a1 a2 h1 h2 ⊢
    simp [b_law_odd, Out.bnd, e1, e2, e3, e4, hss, a1, a2, h1, h2]
end
end K07
/-! the law's own forms -/
namespace K07
open PySem PySem.Spec PyProof.Rows L2 DL
noncomputable section
abbrev lfK : List (Key × D) := [(.inr "number", .str "i"), (.inr "truth", .str "b"), (.inr "name", .str "n"), (.inr "fun", .str "nkt"), (.inr "rec", .str "nnkkt"), (.inr "let", .str "nktt"), (.inr "as", .str "tk")]
abbrev lfM : List (Key × D) := [(.inr "op", .str "stt"), (.inr "if", .str "ttt"), (.inr "first", .str "t"), (.inr "second", .str "t"), (.inr "box", .str "t"), (.inr "open", .str "t")]
abbrev lfA : List (Key × D) := [(.inr "number", .str "i"), (.inr "truth", .str "b"), (.inr "name", .str "n"), (.inr "fun", .str "nkt"), (.inr "rec", .str "nnkkt"), (.inr "let", .str "nktt"), (.inr "as", .str "tk"), (.inr "op", .str "stt"), (.inr "if", .str "ttt"), (.inr "first", .str "t"), (.inr "second", .str "t"), (.inr "box", .str "t"), (.inr "open", .str "t")]
def lf1 : DenE := (dDict [((dC (.str "number")), (dC (.str "i"))), ((dC (.str "truth")), (dC (.str "b"))), ((dC (.str "name")), (dC (.str "n"))), ((dC (.str "fun")), (dC (.str "nkt"))), ((dC (.str "rec")), (dC (.str "nnkkt"))), ((dC (.str "let")), (dC (.str "nktt"))), ((dC (.str "as")), (dC (.str "tk")))])
def lf2 : DenE := (dDict [((dC (.str "op")), (dC (.str "stt"))), ((dC (.str "if")), (dC (.str "ttt"))), ((dC (.str "first")), (dC (.str "t"))), ((dC (.str "second")), (dC (.str "t"))), ((dC (.str "box")), (dC (.str "t"))), ((dC (.str "open")), (dC (.str "t")))])
theorem lf_val (t : DL.Tm) : (valD lfA (.inr t.word)).getD (.str "tt") = .str (sgn (t.parts.map Pt.sn)) := by
  cases t with
  | two w a b => cases w <;> kernel_rfl
  | one w a => cases w <;> kernel_rfl
  | _ => kernel_rfl
theorem form_i {S : Sto} (K : Nat) (t : DL.Tm) : Phi T G (K + 1) i_law_form [.str t.word] S = .ok (.str (sgn (t.parts.map Pt.sn))) S := by
  have h1 : ∀ (fr : Fr) (S : Sto), lf1 fr S = .ok (.ob S.length) (S ++ [.dk lfK]) := fun fr S => by kernel_rfl
  have h2 : ∀ (fr : Fr) (S : Sto), lf2 fr S = .ok (.ob S.length) (S ++ [.dk lfM]) := fun fr S => by kernel_rfl
  have hu : mUpdate (.ob S.length) [.ob (S.length + 1)] (S ++ [.dk lfK, .dk lfM]) = some (.non, S ++ [.dk lfA, .dk lfM]) := by
    unfold mUpdate
    dsimp only
    have g1 : (S ++ [O.dk lfK, .dk lfM])[S.length]? = some (.dk lfK) := by simp
    have g2 : (S ++ [O.dk lfK, .dk lfM])[S.length + 1]? = some (.dk lfM) := by simp
    rw [g1, g2]
    dsimp only
    have g3 : mergeD lfK lfM = lfA := by kernel_rfl
    rw [g3, if_pos ⟨by omega, by decide⟩, List.set_append_right _ _ (Nat.le_refl _), Nat.sub_self]
    rfl
  have g4 : (S ++ [O.dk lfA, .dk lfM])[S.length]? = some (.dk lfA) := by simp
  have g5 : (S ++ [O.dk lfK])[S.length]? = some (.dk lfK) := by simp
  have hm1 : mtyD (.ob S.length) (S ++ [.dk lfK]) = some "dict" := by unfold mtyD; dsimp only; rw [g5]
  have hm2 : mtyD (.ob S.length) (S ++ [.dk lfA, .dk lfM]) = some "dict" := by unfold mtyD; dsimp only; rw [g4]
  have hg : mGet (.ob S.length) [.str t.word, .str "tt"] (S ++ [.dk lfA, .dk lfM]) = some (.str (sgn (t.parts.map Pt.sn)), S ++ [.dk lfA, .dk lfM]) := by
    unfold mGet
    dsimp only
    rw [g4]
    show some ((valD lfA (.inr t.word)).getD (.str "tt"), S ++ [O.dk lfA, .dk lfM]) = _
    rw [lf_val]
  refine run_law_form (k := K) (S' := S ++ [.dk lfA, .dk lfM]) (r := .str (sgn (t.parts.map Pt.sn))) ?_ (gc_pure (T := [.dk lfA, .dk lfM]) rfl)
  have eb : ∀ Φ, b_law_form Φ = (dSeq (dSet 1 lf1) (dSeq (dExpr (dM "dict" mUpdate (dVar 1) (dACons lf2 dANil))) (dSeq (dRet (dM "dict" mGet (dVar 1) (dACons (dVar 0) (dACons (dC (.str "tt")) dANil)))) dNil))) := fun _ => rfl
  rw [eb]
  generalize lf1 = L1 at *
  generalize lf2 = L2 at *
  generalize lfK = kK at *
  generalize lfM = kM at *
  generalize lfA = kA at *
  simp [Out.bnd, h1, h2, hm1, hm2, hu, hg]
end
end K07
/-! a term with one part otherwise -/
namespace K07
open PySem PySem.Spec PyProof.Rows L2 DL
noncomputable section
theorem sh_len {z : Str} {r : List D} {t : DL.Tm} (hz : z = t.word) (h : r.length ≠ t.parts.length) : shB (.tup (.str z :: r)) = false := by
  subst hz
  unfold shB
  dsimp only
  rw [tm_form]
  dsimp only
  rw [List.length_map, decide_eq_false (fun e => h e.symm), Bool.false_and]
/-- ways to be none: by the whole -/
def xW (t : DL.Tm) (j : Nat) : List D := [.ob j, .tup (.str t.word :: (t.parts.map Pt.d ++ [.non])), .tup (.str t.word :: (t.parts.map Pt.d).dropLast), .tup [t.d], .tup (.str "x" :: t.parts.map Pt.d), .tup (.non :: t.parts.map Pt.d)]
theorem parts_sm {t : DL.Tm} (h : t.ok) : ∀ d ∈ t.parts.map Pt.d, smA d = true := fun d hd => by
  have := tm_sm h
  rw [t.d_eq] at this
  unfold smA at this
  exact smL_mem.mp this d (List.mem_cons_of_mem _ hd)
theorem parts_thg {S : Sto} {t : DL.Tm} : ∀ d ∈ t.parts.map Pt.d, thg S d = true := fun d hd => by
  have := tm_thg (S := S) t
  rw [t.d_eq] at this
  unfold thg at this
  exact thgL_mem.mp this d (List.mem_cons_of_mem _ hd)
theorem thg_tupI {S : Sto} {xs : List D} (h : ∀ d ∈ xs, thg S d = true) : thg S (.tup xs) = true := by
  unfold thg
  exact thgL_mem.mpr h
theorem parts_pos (t : DL.Tm) : 1 ≤ t.parts.length := by cases t <;> simp [DL.Tm.parts]
theorem oddW {S : Sto} {j : Nat} {t : DL.Tm} (ht : t.ok) (hj : thg S (.ob j) = true) : ∀ d ∈ xW t j, thg S d = true ∧ smA d = true ∧ noTm d := by
  have w1 : thg S (.str t.word) = true := rfl
  have w2 := smA_word t
  have pp := parts_pos t
  intro d hd
  simp only [xW, List.mem_cons, List.not_mem_nil, or_false] at hd
  rcases hd with rfl | rfl | rfl | rfl | rfl | rfl
  · exact ⟨hj, rfl, noTm_ob _⟩
  · refine ⟨thg_tupI fun d hd => ?_, smA_tup fun d hd => ?_, noTm_sh (sh_len rfl (by rw [List.length_append, List.length_map]; show _ + 1 ≠ _; omega))⟩
    · rcases List.mem_cons.mp hd with rfl | hd
      · exact w1
      · rcases List.mem_append.mp hd with hd | hd
        · exact parts_thg d hd
        · rw [List.mem_singleton.mp hd]; rfl
    · rcases List.mem_cons.mp hd with rfl | hd
      · exact w2
      · rcases List.mem_append.mp hd with hd | hd
        · exact parts_sm ht d hd
        · rw [List.mem_singleton.mp hd]; rfl
  · refine ⟨thg_tupI fun d hd => ?_, smA_tup fun d hd => ?_, noTm_sh (sh_len rfl (by rw [List.length_dropLast, List.length_map]; omega))⟩
    · rcases List.mem_cons.mp hd with rfl | hd
      · exact w1
      · exact parts_thg d ((List.dropLast_sublist _).subset hd)
    · rcases List.mem_cons.mp hd with rfl | hd
      · exact w2
      · exact parts_sm ht d ((List.dropLast_sublist _).subset hd)
  · refine ⟨thg_tupI fun d hd => ?_, smA_tup fun d hd => ?_, noTm_sh (by rw [t.d_eq]; rfl)⟩
    · rw [List.mem_singleton.mp hd]; exact tm_thg t
    · rw [List.mem_singleton.mp hd]; exact tm_sm ht
  · refine ⟨thg_tupI fun d hd => ?_, smA_tup fun d hd => ?_, noTm_sh ?_⟩
    · rcases List.mem_cons.mp hd with rfl | hd
      · rfl
      · exact parts_thg d hd
    · rcases List.mem_cons.mp hd with rfl | hd
      · decide +kernel
      · exact parts_sm ht d hd
    · have : formOf "x" = none := by kernel_rfl
      unfold shB
      dsimp only
      rw [this]
  · refine ⟨thg_tupI fun d hd => ?_, smA_tup fun d hd => ?_, noTm_sh rfl⟩
    · rcases List.mem_cons.mp hd with rfl | hd
      · rfl
      · exact parts_thg d hd
    · rcases List.mem_cons.mp hd with rfl | hd
      · rfl
      · exact parts_sm ht d hd
theorem parts_at (t : DL.Tm) (k : Nat) (h : k < t.parts.length) : ∃ p1 p p2, t.parts = p1 ++ p :: p2 ∧ p1.length = k := by
  refine ⟨t.parts.take k, t.parts[k], t.parts.drop (k + 1), ?_, by rw [List.length_take]; omega⟩
  rw [← List.drop_eq_getElem_cons h, List.take_append_drop]
theorem bent_dr : ∀ (m : Nat) (t : DL.Tm), t.deep ≤ m → t.ok → ∀ {b : Nat} {cs : List Int} {s : Ds} (K : Nat), Dr b cs s → b + 10 * m < 2 ^ 60 →
    ∃ s', Dr (b + 10 * m) cs s' ∧ ∀ R, ∃ d V, Phi T G (K + m + 4) i_law_bent [.ob 2, t.d] (dst cs s R) = .ok d (dst cs s' (R ++ V)) ∧ thg (dst cs s' (R ++ V)) d = true ∧ smA d = true ∧ noTm d
  | 0, t, h, _, _, _, _, _, _, _ => by have := t.deep_pos; omega
  | m + 1, t, h, ht, b, cs, s, K, hd, hb => by
    obtain ⟨w, s1, w0, w1, d1, e1⟩ := nx (K + m + 2) 6 hd (by omega) (by decide) (by decide)
    have pl := t.parts_len
    have pp := parts_pos t
    by_cases hw : w = 0
    · subst hw
      obtain ⟨q, s2, q0, q1, d2, e2⟩ := nx (K + m + 2) 6 d1 (by omega) (by decide) (by decide)
      refine ⟨s2, d2.mono (by omega), fun R => ?_⟩
      obtain ⟨d, hdm, hix⟩ := pick (xs := xW t (R.length + 3)) q0 q1
      have ht1 : thg (dst cs s2 (R ++ [.lst (.str t.word :: t.parts.map Pt.d), .lst (xW t (R.length + 3))])) (.ob (R.length + 3)) = true := thg_lst (j := 0) rfl
      obtain ⟨g1, g2, g3⟩ := oddW ht ht1 d hdm
      obtain ⟨d', V, c1, c2, c3⟩ := gc_dstA (cs := cs) (s := s) g1
      refine ⟨d', V, run_law_bent (k := K + m + 4) ?_ c1, c2, ?_⟩
      · have hix := hix (dst cs s2 (R ++ [.lst (.str t.word :: t.parts.map Pt.d), .lst (xW t (R.length + 3))])) (R.length + 3 + 1) (dst_at (j := 1) rfl)
        have e1 := e1 R
        have e2 := e2 (R ++ [.lst (.str t.word :: t.parts.map Pt.d), .lst (xW t (R.length + 3))])
        have hl : ∀ S, onSeq fList [t.d] S = some (.ob S.length, S ++ [.lst (.str t.word :: t.parts.map Pt.d)]) := fun S => by rw [t.d_eq]; rfl
        have ha1 : ∀ S, aAdd t.d (.tup [.non]) S = some (.tup (.str t.word :: (t.parts.map Pt.d ++ [.non])), S) := fun S => by
          rw [t.d_eq, addT (by rw [List.length_cons, List.length_map]; show _ + 1 ≤ 1000; omega)]
          rfl
        have hs1 : ∀ S, aSl t.d none (some (-1)) S = some (.tup (.str t.word :: (t.parts.map Pt.d).dropLast), S) := fun S => by
          rw [t.d_eq]
          show some (D.tup (cutD (.str t.word :: t.parts.map Pt.d) none (some (-1))), S) = _
          have hne : t.parts.map Pt.d ≠ [] := fun z => by rw [List.map_eq_nil_iff] at z; rw [z] at pp; simp at pp
          have : (.str t.word :: t.parts.map Pt.d : List D) = (.str t.word :: (t.parts.map Pt.d).dropLast) ++ [(t.parts.map Pt.d).getLast hne] := by rw [List.cons_append, List.dropLast_concat_getLast]
          rw [this, cut_last]
        have ha2 : ∀ S, aAdd (.tup [.str "x"]) (.tup (t.parts.map Pt.d)) S = some (.tup (.str "x" :: t.parts.map Pt.d), S) := fun S => addT (by rw [List.length_map]; show 1 + _ ≤ 1000; omega)
        have ha3 : ∀ S, aAdd (.tup [.non]) (.tup (t.parts.map Pt.d)) S = some (.tup (.non :: t.parts.map Pt.d), S) := fun S => addT (by rw [List.length_map]; show 1 + _ ≤ 1000; omega)
        simp only [xW] at hix e2 ⊢
        rw [show K + m + 2 + 2 = K + m + 4 by omega] at e1 e2
        rw [show R.length + 3 + 1 = R.length + 1 + 3 by omega] at hix
        have hsl := fun S => DL.Tm.sl (S := S) (t := t)
        generalize t.parts.map Pt.d = pd at *
        generalize t.d = td at *
        generalize Phi T G (K + m + 4) = Φ at *
        simp [b_law_bent, Out.bnd, e1, hl, ha1, hs1, ha2, ha3, hsl, e2, hix]
      · rcases c3 with rfl | ⟨i, j', rfl, rfl⟩
        · exact ⟨g2, g3⟩
        · exact ⟨rfl, noTm_ob _⟩
    · obtain ⟨q, s2, q0, q1, d2, e2⟩ := nx (K + m + 2) (t.parts.length : Int) d1 (by omega) (by omega) (by omega)
      have hq : q.toNat < t.parts.length := by omega
      obtain ⟨p1, p, p2, hp, hk⟩ := parts_at t q.toNat hq
      have hsn : (t.parts.map Pt.sn)[q.toNat]? = some p.sn := by
        rw [hp, List.map_append, List.getElem?_append_right (by rw [List.length_map, hk]; exact Nat.le_refl _), List.length_map, hk, Nat.sub_self]
        rfl
      have hix : ∀ S, aIx (.str (sgn (t.parts.map Pt.sn))) (.int q) S = some (.str p.sn.s', S) := fun S => sgn_ix q.toNat (by omega) hsn (by rw [List.length_map]; omega) S
      have hlen : ∀ S, fLen [.str (sgn (t.parts.map Pt.sn))] S = some (.int (t.parts.length : Int), S) := fun S => by
        rw [DL.len_str (small_line (by rw [sgn_len, List.length_map]; omega)), sgn_len, List.length_map]
      have hform := fun S => form_i (S := S) (K + m + 3) t
      have hdt : t.d = .tup (.str t.word :: (p1.map Pt.d ++ p.d :: p2.map Pt.d)) := by rw [t.d_eq, hp, List.map_append, List.map_cons]
      have hat : ∀ S, aIx t.d (.int (q + 1)) S = some (p.d, S) := fun S => by
        rw [hdt]
        refine ixT (q.toNat + 1) (by omega) ?_
        rw [List.getElem?_cons_succ, List.getElem?_append_right (by rw [List.length_map, hk]; exact Nat.le_refl _), List.length_map, hk, Nat.sub_self]
        rfl
      have hpre : ∀ S, aSl t.d none (some (q + 1)) S = some (.tup (.str t.word :: p1.map Pt.d), S) := fun S => by
        rw [hdt]
        show some (D.tup (cutD (.str t.word :: (p1.map Pt.d ++ p.d :: p2.map Pt.d)) none (some (q + 1))), S) = _
        rw [cut_pre (q.toNat + 1) (by omega) (by rw [List.length_cons, List.length_append, List.length_map, hk]; omega), List.take_succ_cons, List.take_append_of_le_length (by rw [List.length_map, hk]; exact Nat.le_refl _), List.take_of_length_le (by rw [List.length_map, hk]; exact Nat.le_refl _)]
      have hsuf : ∀ S, aSl t.d (some (q + 2)) none S = some (.tup (p2.map Pt.d), S) := fun S => by
        rw [hdt]
        show some (D.tup (cutD (.str t.word :: (p1.map Pt.d ++ p.d :: p2.map Pt.d)) (some (q + 2)) none), S) = _
        have e : (.str t.word :: (p1.map Pt.d ++ p.d :: p2.map Pt.d) : List D) = (.str t.word :: (p1.map Pt.d ++ [p.d])) ++ p2.map Pt.d := by simp
        rw [cut_suf (q.toNat + 2) (by omega) (by rw [List.length_cons, List.length_append, List.length_map, hk, List.length_cons]; omega), e, List.drop_append_of_le_length (by rw [List.length_cons, List.length_append, List.length_map, hk]; exact Nat.le_refl _), List.drop_of_length_le (by rw [List.length_cons, List.length_append, List.length_map, hk]; exact Nat.le_refl _), List.nil_append]
      have hpl : p1.length + p2.length + 1 ≤ 5 := by
        have := congrArg List.length hp
        rw [List.length_append, List.length_cons] at this
        omega
      -- the part
      have part : ∃ s3, Dr (b + 10 * m + 9) cs s3 ∧ ∀ R, ∃ e V, ((if p.sn = .t then (if 1 < w then true else false) else false) = true → Phi T G (K + m + 4) i_law_bent [.ob 2, p.d] (dst cs s2 R) = .ok e (dst cs s3 (R ++ V))) ∧ ((if p.sn = .t then (if 1 < w then true else false) else false) = false → Phi T G (K + m + 4) i_law_odd [.ob 2, .str p.sn.s'] (dst cs s2 R) = .ok e (dst cs s3 (R ++ V))) ∧ thg (dst cs s3 (R ++ V)) e = true ∧ oddP p.sn e := by
        by_cases hc : (if p.sn = .t then (if 1 < w then true else false) else false) = true
        · have hpt : p.sn = .t := by
            by_cases z : p.sn = .t
            · exact z
            · rw [if_neg z] at hc; cases hc
          obtain ⟨u, rfl⟩ : ∃ u, p = .tm u := by cases p <;> first | exact ⟨_, rfl⟩ | cases hpt
          have hu : u ∈ t.subs := by
            rw [t.subs_parts, hp]
            exact List.mem_filterMap.mpr ⟨.tm u, by simp, rfl⟩
          have := DL.Tm.deep_sub hu
          obtain ⟨s3, d3, e3⟩ := bent_dr m u (by omega) (DL.Tm.ok_subs ht u hu) K d2 (by omega)
          refine ⟨s3, d3.mono (by omega), fun R => ?_⟩
          obtain ⟨e, V, a1, a2, a3, a4⟩ := e3 R
          exact ⟨e, V, fun _ => a1, (fun z => by rw [hc] at z; cases z), a2, a3, by rw [if_pos hpt]; exact a4⟩
        · rw [Bool.not_eq_true] at hc
          obtain ⟨s3, d3, e3⟩ := odd_dr (K + m + 1) p.sn d2 (by omega)
          refine ⟨s3, d3.mono (by omega), fun R => ?_⟩
          obtain ⟨e, V, a1, a2, a3⟩ := e3 R
          exact ⟨e, V, (fun z => by rw [hc] at z; cases z), fun _ => a1, a2, a3⟩
      obtain ⟨s3, d3, e3⟩ := part
      refine ⟨s3, d3.mono (by omega), fun R => ?_⟩
      obtain ⟨e, V, a1, a2, a3, a4⟩ := e3 R
      have hno := noTm_part hp a4
      have hth : thg (dst cs s3 (R ++ V)) (.tup (.str t.word :: (p1.map Pt.d ++ e :: p2.map Pt.d))) = true := thg_tupI fun d hd => by
        have hpt := parts_thg (S := dst cs s3 (R ++ V)) (t := t)
        rw [hp, List.map_append, List.map_cons] at hpt
        rcases List.mem_cons.mp hd with rfl | hd
        · rfl
        · rcases List.mem_append.mp hd with hd | hd
          · exact hpt d (List.mem_append_left _ hd)
          · rcases List.mem_cons.mp hd with rfl | hd
            · exact a3
            · exact hpt d (List.mem_append_right _ (List.mem_cons_of_mem _ hd))
      have hsm : smA (.tup (.str t.word :: (p1.map Pt.d ++ e :: p2.map Pt.d))) = true := smA_tup fun d hd => by
        have hpt := parts_sm ht
        rw [hp, List.map_append, List.map_cons] at hpt
        rcases List.mem_cons.mp hd with rfl | hd
        · exact smA_word t
        · rcases List.mem_append.mp hd with hd | hd
          · exact hpt d (List.mem_append_left _ hd)
          · rcases List.mem_cons.mp hd with rfl | hd
            · exact a4.1
            · exact hpt d (List.mem_append_right _ (List.mem_cons_of_mem _ hd))
      obtain ⟨d', W, c1, c2, c3⟩ := gc_dstA (cs := cs) (s := s) hth
      have hd' : d' = .tup (.str t.word :: (p1.map Pt.d ++ e :: p2.map Pt.d)) := by
        rcases c3 with h | ⟨i, j, h, _⟩
        · exact h
        · cases h
      subst hd'
      refine ⟨_, W, run_law_bent (k := K + m + 4) ?_ c1, c2, hsm, hno⟩
      have hadd1 : ∀ S, aAdd (.tup (.str t.word :: p1.map Pt.d)) (.tup [e]) S = some (.tup (.str t.word :: (p1.map Pt.d ++ [e])), S) := fun S => by
        rw [addT (by rw [List.length_cons, List.length_map]; show _ + 1 ≤ 1000; omega)]
        rfl
      have hadd2 : ∀ S, aAdd (.tup (.str t.word :: (p1.map Pt.d ++ [e]))) (.tup (p2.map Pt.d)) S = some (.tup (.str t.word :: (p1.map Pt.d ++ e :: p2.map Pt.d)), S) := fun S => by
        rw [addT (by rw [List.length_cons, List.length_append, List.length_map, List.length_map]; show _ + 1 + 1 + _ ≤ 1000; omega)]
        simp
      have e1 := e1 R
      have e2 := e2 R
      have hix0 := fun S => DL.Tm.ix0 (S := S) (t := t)
      have heq := fun S => (eq_sn (a := p.sn) (S := S)).2.2.2.2
      rw [show K + m + 2 + 2 = K + m + 4 by omega] at e1 e2
      rw [show K + m + 3 + 1 = K + m + 4 by omega] at hform
      generalize Phi T G (K + m + 4) = Φ at *
      generalize sgn (t.parts.map Pt.sn) = fo at *
      generalize (.str t.word :: (p1.map Pt.d ++ e :: p2.map Pt.d) : List D) = res at *
      generalize (.str t.word :: (p1.map Pt.d ++ [e]) : List D) = mid at *
      generalize (.str t.word :: p1.map Pt.d : List D) = pre at *
      generalize p2.map Pt.d = suf at *
      generalize t.d = td at *
      generalize p.d = pd at *
      generalize (t.parts.length : Int) = tl at *
      by_cases hpt : p.sn = .t
      · by_cases hw1 : 1 < w
        · have a1 := a1 (by rw [if_pos hpt, if_pos hw1])
          generalize p.sn.s' = ps at *
          simp [b_law_bent, Out.bnd, e1, hw, hix0, hform, hlen, e2, hat, hix, heq, hpt, hw1, a1, hpre, hsuf, hadd1, hadd2]
        · have a2 := a2 (by rw [if_pos hpt, if_neg hw1])
          generalize p.sn.s' = ps at *
          simp [b_law_bent, Out.bnd, e1, hw, hix0, hform, hlen, e2, hat, hix, heq, hpt, hw1, a2, hpre, hsuf, hadd1, hadd2]
      · have a2 := a2 (by rw [if_neg hpt])
        generalize p.sn.s' = ps at *
        simp [b_law_bent, Out.bnd, e1, hw, hix0, hform, hlen, e2, hat, hix, heq, hpt, a2, hpre, hsuf, hadd1, hadd2]
end
end K07
/-! a drawn term -/
namespace K07
open PySem PySem.Spec PyProof.Rows L2 DL
noncomputable section
theorem tmB_iff {t : DL.Tm} (h : t.ok) : decide (tmB t.d) = decide (t.size ≤ 120 ∧ t.deep ≤ 20) := by
  by_cases q : t.size ≤ 120 ∧ t.deep ≤ 20
  · rw [decide_eq_true q, decide_eq_true ⟨t, rfl, h, q.1, q.2⟩]
  · rw [decide_eq_false q, decide_eq_false]
    rintro ⟨u, e, h1, h2, h3⟩
    rw [DL.Tm.inj e] at q
    exact q ⟨h2, h3⟩
theorem drawn_dr {b : Nat} {cs : List Int} {s : Ds} (K : Nat) (hd : Dr b cs s) (hb : b + 100000 ≤ 2 ^ 58) :
    ∃ (t : DL.Tm) (s' : Ds), t.allP Pt.dr ∧ t.deep ≤ 10 ∧ t.size ≤ 63 ∧ Dr (b + 20000) cs s' ∧ ∀ R, Phi T G (K + 29) i_law_drawn [.ob 2] (dst cs s R) = .ok t.d (dst cs s' R) := by
  obtain ⟨q, s1, q0, q1, d1, e1⟩ := nx (K + 26) 4 hd (by omega) (by decide) (by decide)
  obtain ⟨v, hv, hix⟩ : ∃ v : Int, (1 ≤ v ∧ v ≤ 45) ∧ ([D.int 1, .int 6, .int 20, .int 45] : List D)[q.toNat]? = some (.int v) := by
    have : q = 0 ∨ q = 1 ∨ q = 2 ∨ q = 3 := by omega
    rcases this with rfl | rfl | rfl | rfl
    · exact ⟨1, by omega, rfl⟩
    · exact ⟨6, by omega, rfl⟩
    · exact ⟨20, by omega, rfl⟩
    · exact ⟨45, by omega, rfl⟩
  obtain ⟨t, s2, t1, t2, t3, t4, t5⟩ := term_dr 9 (by omega) K (ns := []) (r := v) (fun x hx => by cases hx) (by decide) d1 (by omega) (by omega)
  refine ⟨t, s2, t1, t2, by omega, t4.mono (by omega), fun R => ?_⟩
  refine run_law_drawn (k := K + 28) (S' := dst cs s2 (R ++ [.lst [D.int 1, .int 6, .int 20, .int 45], .lst [.int (v - t.size)]])) (r := t.d) ?_ (gc_dst (by simp))
  have t5 := t5 (R ++ [.lst [D.int 1, .int 6, .int 20, .int 45]]) []
  have e1 := e1 (R ++ [.lst [D.int 1, .int 6, .int 20, .int 45]])
  have hix := ix_lst (S := dst cs s1 (R ++ [.lst [D.int 1, .int 6, .int 20, .int 45]])) (j := R.length + 3) (r := q) (d := .int v) dst_last q0 hix
  unfold dsr at t5
  rw [List.length_append, List.append_assoc, List.append_assoc] at t5
  have t5 : Phi T G (K + 28) i_law_term [.ob 2, .tup [], .ob (R.length + 1 + 3), .int 9] (dst cs s1 (R ++ [.lst [D.int 1, .int 6, .int 20, .int 45], .lst [.int v]])) = .ok t.d (dst cs s2 (R ++ [.lst [D.int 1, .int 6, .int 20, .int 45], .lst [.int (v - t.size)]])) := t5
  generalize (v - (t.size : Int)) = v2 at *
  generalize Phi T G (K + 28) = Φ at *
  simp [b_law_drawn, Out.bnd, e1, hix, t5]
end
end K07
/-! is_term of anything -/
namespace K07
open PySem PySem.Spec PyProof.Rows L2 DL
noncomputable section
theorem notin_ar {w : Str} {S : Sto} : aNotIn (.str w) (.kd kWords kArs) S = some (.bl (!(arOf w).isSome), S) := by
  show some (D.bl (!(kdGet kWords kArs w).isSome), S) = _
  rw [kd_ar]
  cases arOf w <;> rfl
theorem ix_ar {w : Str} {n : Nat} {S : Sto} (h : arOf w = some n) : aIx (.kd kWords kArs) (.str w) S = some (.int n, S) := by
  show (kdGet kWords kArs w).map (fun d => (d, S)) = _
  rw [kd_ar, h]
  rfl
theorem formed_i : ∀ (n : Nat) (d : D) (S : Sto) (K : Nat), thg S d = true → Phi T G (K + n + 1) i_is_formed [d, .int n] S = .ok (.bl (fm n d)) S
  | 0, d, S, K, h => by
    refine run_is_formed (S' := S) (r := .bl (fm 0 d)) ?_ (gc_pure0 rfl)
    simp [b_is_formed, Out.bnd, fm_zero]
  | n + 1, d, S, K, h => by
    have hn : ((n + 1 : Nat) : Int) ≠ 0 := by omega
    have hp : ((n + 1 : Nat) : Int) - 1 = (n : Int) := by omega
    have ih : ∀ d, thg S d = true → Phi T G (K + (n + 1)) i_is_formed [d, .int n] S = .ok (.bl (fm n d)) S := fun d h => formed_i n d S K h
    have h1 := thg_tup h
    refine run_is_formed (k := K + (n + 1)) (S' := S) (r := .bl (fm (n + 1) d)) ?_ (gc_pure0 rfl)
    generalize Phi T G (K + (n + 1)) = Φ at *
    generalize ((n + 1 : Nat) : Int) = v at *
    cases d with
    | tup xs =>
      cases xs with
      | nil =>
        rw [show isTpl (.tup []) = true from rfl] at h1
        simp [b_is_formed, Out.bnd, hn, h1, eq_nil, fm]
      | cons x ps =>
        have h2 := thgL_mem.mp (show thgL S (x :: ps) = true by unfold thg at h; exact h)
        have h3 := thg_str (h2 x List.mem_cons_self)
        rw [show isTpl (.tup (x :: ps)) = true from rfl] at h1
        cases x with
        | str w =>
          rw [show isStr (.str w) = true from rfl] at h3
          cases q : arOf w with
          | none =>
            have e : fm (n + 1) (.tup (.str w :: ps)) = false := by unfold fm; rw [q]; rfl
            simp [b_is_formed, Out.bnd, hn, h1, h3, eq_nil, notin_ar, q, e]
          | some a =>
            have hl : ((ps.length : Int) + 1 = 1 + (a : Int)) ↔ a = ps.length := by omega
            by_cases qa : a = ps.length
            · subst qa
              have e : fm (n + 1) (.tup (.str w :: ps)) = ps.all (fm n) := by unfold fm; rw [q]; simp
              have hc : dComp [2] (dISeq (dSl (dVar 0) (some (dC (.int 1))) none)) (gN 2) dYes (dCall 2 (Φ i_is_formed) (dACons (dVar 2) (dACons (dOp aSub (dVar 1) (dC (.int 1))) dANil))) [some (.tup (.str w :: ps)), some (.int v), none] S = .ok (ps.map fun p => D.bl (fm n p)) S :=
                comp_tup _ (seq_tup (by simp [Out.bnd])) fun a ha => by
                  simp [Out.bnd, wipeD, hp, ih a (h2 a (List.mem_cons_of_mem _ ha))]
              have hl : ((ps.length : Int) + 1 = 1 + (ps.length : Int)) := by omega
              simp [b_is_formed, Out.bnd, hn, h1, h3, eq_nil, notin_ar, ix_ar q, q, e, hc, fAll_bl, hl]
            · have e : fm (n + 1) (.tup (.str w :: ps)) = false := by unfold fm; rw [q]; simp [qa]
              have hl : ¬ ((ps.length : Int) + 1 = 1 + (a : Int)) := by omega
              simp [b_is_formed, Out.bnd, hn, h1, h3, eq_nil, notin_ar, ix_ar q, q, e, hl]
        | _ =>
          simp only [isStr] at h3
          simp [b_is_formed, Out.bnd, hn, h1, h3, eq_nil, fm]
    | _ =>
      simp only [isTpl] at h1
      simp [b_is_formed, Out.bnd, hn, h1, fm]
theorem many_i : ∀ (m : Nat) (k : Kd), k.deep ≤ m → ∀ (K : Nat) (S : Sto), Phi T G (K + m) i_many_in [k.d] S = .ok (.int k.many) S
  | 0, k, h, _, _ => by have := k.deep_pos; omega
  | m + 1, k, h, K, S => by
    have hc : dComp [1] (dISeq (dSl (dVar 0) (some (dC (.int 1))) none)) (gN 1) dYes (dCall 1 (Phi T G (K + m) i_many_in) (dACons (dVar 1) dANil)) [some k.d, none] S = .ok ((k.parts.map fun p => (p.many : Int)).map D.int) S := by
      have e : (k.parts.map fun p => (p.many : Int)).map D.int = (k.parts.map Kd.d).map fun a => match Phi T G (K + m) i_many_in [a] S with | .ok d _ => d | _ => .non := by
        rw [List.map_map, List.map_map]
        refine List.map_congr_left fun p hp => ?_
        have := Kd.deep_part hp
        simp [many_i m p (by omega) K S]
      rw [e]
      exact comp_tup _ (seq_tup (by simp [Out.bnd])) fun a ha => by
        obtain ⟨p, hp, rfl⟩ := List.mem_map.mp ha
        have := Kd.deep_part hp
        simp [Out.bnd, wipeD, many_i m p (by omega) K S]
    have hs : (1 : Int) + (k.parts.map fun p => (p.many : Int)).sum = k.many := by
      cases k <;> simp [Kd.parts, Kd.many] <;> omega
    refine run_many_in (S' := S) (r := .int k.many) ?_ (gc_pure0 rfl)
    simp [b_many_in, Out.bnd, hc, fSum_list, hs, -List.map_map]
theorem kind_i {d : D} {S : Sto} (K : Nat) (h : thg S d = true) : Phi T G (K + 10) i_is_kind [d] S = .ok (.bl (decide (kB d))) S := by
  have hf := formed_i 8 d S K h
  refine run_is_kind (k := K + 9) (S' := S) (r := .bl (decide (kB d))) ?_ (gc_pure0 rfl)
  rw [show ((8 : Nat) : Int) = 8 from rfl, show K + 8 + 1 = K + 9 from rfl] at hf
  cases e : fm 8 d with
  | false =>
    have hk : ¬ kB d := fun ⟨k, e1, h1, h2⟩ => by
      rw [e1, kd_fm h1] at e
      cases e
    simp [b_is_kind, Out.bnd, hf, e, hk]
  | true =>
    obtain ⟨k, rfl, hk⟩ := fm_kd e
    have hm := many_i 8 k hk (K + 1) S
    have hz : ((k.many : Int) ≤ 60) ↔ kB k.d := ⟨fun h => ⟨k, rfl, hk, by omega⟩, fun ⟨k', e1, h1, h2⟩ => by rw [Kd.inj e1]; omega⟩
    rw [show K + 1 + 8 = K + 9 from rfl] at hm
    simp [b_is_kind, Out.bnd, hf, e, hm, hz]
theorem number_i {d : D} {S : Sto} (K : Nat) (h : thg S d = true) : Phi T G (K + 2) i_is_number [d] S = .ok (.bl (numB d)) S := by
  have hw : Phi T G (K + 1) i_is_whole [d, .int (-1000000000000), .int 1000000000000] S = .ok (.bl (numB d)) S := by
    have h1 := thg_int h
    have h2 := thg_bool h
    refine run_is_whole (k := K) (S' := S) (r := .bl (numB d)) ?_ (gc_pure0 rfl)
    cases d with
    | int n =>
      simp only [DL.isInt, isBl] at h1 h2
      by_cases q1 : -1000000000000 ≤ n
      · simp [b_is_whole, Out.bnd, h1, h2, numB, q1]
      · simp [b_is_whole, Out.bnd, h1, h2, numB, q1]
    | bl b =>
      simp only [DL.isInt, isBl] at h1 h2
      simp [b_is_whole, Out.bnd, h1, h2, numB]
    | _ =>
      simp only [DL.isInt, isBl] at h1 h2
      simp [b_is_whole, Out.bnd, h1, h2, numB]
  refine run_is_number (k := K + 1) (S' := S) (r := .bl (numB d)) ?_ (gc_pure0 rfl)
  simp [b_is_number, Out.bnd, hw]
theorem name_i {d : D} {S : Sto} (K : Nat) (h : thg S d = true) (hs : smA d = true) : Phi T G (K + 1) i_is_name [d] S = .ok (.bl (nameB d)) S := by
  have h1 := thg_str h
  refine run_is_name (k := K) (S' := S) (r := .bl (nameB d)) ?_ (gc_pure0 rfl)
  cases d with
  | str x =>
    simp only [isStr] at h1
    unfold smA at hs
    have hl := of_decide_eq_true hs
    have hc : dComp [1] (dISeq (dVar 0)) (gN 1) dYes (dOp aIn (dVar 1) (dC (.str "abcdefghijklmnopqrstuvwxyz"))) [some (.str x), none] S = .ok (x.cps.toList.map fun c => D.bl (decide (c ∈ (("abcdefghijklmnopqrstuvwxyz" : Str)).cps.toList))) S := by
      have := comp_signs (i := 1) (j := 0) (tt := dYes) (e := (dOp aIn (dVar 1) (dC (.str "abcdefghijklmnopqrstuvwxyz")))) (fr := [some (.str x), none]) (S := S) (z := x) (fun _ => true) (fun c => D.bl (decide (c ∈ (("abcdefghijklmnopqrstuvwxyz" : Str)).cps.toList))) rfl (small_line hl) (fun c => ⟨rfl, fun _ => by
        have q := in_one (c := c) (y := "abcdefghijklmnopqrstuvwxyz") (S := S)
        generalize ("abcdefghijklmnopqrstuvwxyz" : Str) = z at *
        simp [Out.bnd, wipeD, q]⟩)
      rw [List.filter_eq_self.mpr fun _ _ => rfl] at this
      exact this
    have ht : ∀ (b : Bool), (x.cps.toList.all fun c => decide (c ∈ (("abcdefghijklmnopqrstuvwxyz" : Str)).cps.toList)) = b → fAll (x.cps.toList.map fun c => D.bl (decide (c ∈ (("abcdefghijklmnopqrstuvwxyz" : Str)).cps.toList))) S = some (.bl b, S) := fun b hb => by rw [fAll_bl, hb]
    have e : nameB (.str x) = (decide (1 ≤ x.length ∧ x.length ≤ 8) && x.cps.toList.all fun c => decide (c ∈ (("abcdefghijklmnopqrstuvwxyz" : Str)).cps.toList)) := rfl
    rw [e]
    have ht := ht _ rfl
    unfold b_is_name
    generalize dComp [1] (dISeq (dVar 0)) (gN 1) dYes (dOp aIn (dVar 1) (dC (.str "abcdefghijklmnopqrstuvwxyz"))) = Q at *
    generalize (x.cps.toList.all fun c => decide (c ∈ (("abcdefghijklmnopqrstuvwxyz" : Str)).cps.toList)) = b at *
    generalize (x.cps.toList.map fun c => D.bl (decide (c ∈ (("abcdefghijklmnopqrstuvwxyz" : Str)).cps.toList))) = L at *
    by_cases q1 : (1 : Int) ≤ (x.length : Int)
    · by_cases q2 : (x.length : Int) ≤ 8
      · have q3 : 1 ≤ x.length ∧ x.length ≤ 8 := by omega
        simp [Out.bnd, h1, hl, q1, q2, hc, ht, q3]
      · have q3 : ¬ (1 ≤ x.length ∧ x.length ≤ 8) := by omega
        simp [Out.bnd, h1, hl, q1, q2, q3]
    · have q3 : ¬ (1 ≤ x.length ∧ x.length ≤ 8) := by omega
      simp [Out.bnd, h1, hl, q1, q3]
  | _ =>
    simp only [isStr] at h1
    simp [b_is_name, Out.bnd, h1, nameB]
theorem part_i {x : Sn} {d : D} {S : Sto} (K : Nat) (h : thg S d = true) (hs : smA d = true) : Phi T G (K + 11) i_is_part_shaped [.str x.s', d] S = .ok (.bl (partB x d)) S := by
  obtain ⟨e1, e2, e3, e4, e5⟩ := eq_sn (a := x) (S := S)
  have n1 := number_i (K + 8) h
  have n2 := name_i (K + 9) h hs
  have n3 := kind_i K h
  have n4 := thg_bool h
  have n5 := thg_str h
  rw [show K + 8 + 2 = K + 10 from rfl] at n1
  rw [show K + 9 + 1 = K + 10 from rfl] at n2
  refine run_is_part_shaped (k := K + 10) (S' := S) (r := .bl (partB x d)) ?_ (gc_pure0 rfl)
  generalize Phi T G (K + 10) = Φ at *
  cases x with
  | s =>
    cases d with
    | str z =>
      simp only [isStr] at n5
      have n6 := in_sgs (x := z) (S := S)
      simp [b_is_part_shaped, Out.bnd, e1, e2, e3, e4, e5, n5, n6, partB, sgB]
    | _ =>
      simp only [isStr] at n5
      simp [b_is_part_shaped, Out.bnd, e1, e2, e3, e4, e5, n5, partB, sgB]
  | _ => simp [b_is_part_shaped, Out.bnd, e1, e2, e3, e4, e5, n1, n2, n3, n4, partB]
theorem fget {z : Str} {S : Sto} : mGet (.kd DL.Tm.fWords DL.Tm.fForms) [.str z, .str ""] S = some (match formOf z with | some l => .str (sgn l) | none => .str "", S) := by
  show some ((kdGet DL.Tm.fWords DL.Tm.fForms z).getD (.str ""), S) = _
  rw [kd_form]
  cases formOf z <;> rfl
theorem fix {z : Str} {l : List Sn} {S : Sto} (h : formOf z = some l) : aIx (.kd DL.Tm.fWords DL.Tm.fForms) (.str z) S = some (.str (sgn l), S) := by
  show (kdGet DL.Tm.fWords DL.Tm.fForms z).map (fun d => (d, S)) = _
  rw [kd_form, h]
  rfl
theorem sgn_ne {z : Str} {l : List Sn} {S : Sto} (h : formOf z = some l) : aEq (.str (sgn l)) (.str "") S = some (.bl false, S) := by
  have h1 := (form_len5 h).1
  rw [s_eqs, decide_eq_false (fun e => by
    have := congrArg Str.length e
    rw [sgn_len, show (("" : Str)).length = 0 by decide +kernel] at this
    omega)]
theorem sgn_flen {z : Str} {l : List Sn} {S : Sto} (h : formOf z = some l) : fLen [.str (sgn l)] S = some (.int l.length, S) := by
  have := (form_len5 h).2
  rw [DL.len_str (small_line (by rw [sgn_len]; omega)), sgn_len]
theorem shaped_i {d : D} {S : Sto} (K : Nat) (h : thg S d = true) (hs : smA d = true) : Phi T G (K + 12) i_is_shaped [d] S = .ok (.bl (shB d)) S := by
  have h1 := thg_tup h
  refine run_is_shaped (k := K + 11) (S' := S) (r := .bl (shB d)) ?_ (gc_pure0 rfl)
  have hp : ∀ (x : Sn) (e : D), thg S e = true → smA e = true → Phi T G (K + 11) i_is_part_shaped [.str x.s', e] S = .ok (.bl (partB x e)) S := fun x e => part_i K
  generalize Phi T G (K + 11) = Φ at *
  cases d with
  | tup xs =>
    cases xs with
    | nil =>
      rw [show isTpl (.tup []) = true from rfl] at h1
      simp [b_is_shaped, Out.bnd, h1, eq_nil, shB]
    | cons x r =>
      have h2 := thgL_mem.mp (show thgL S (x :: r) = true by unfold thg at h; exact h)
      have hs2 := smL_mem.mp (show smL (x :: r) = true by unfold smA at hs; exact hs)
      have h3 := thg_str (h2 x List.mem_cons_self)
      rw [show isTpl (.tup (x :: r)) = true from rfl] at h1
      cases x with
      | str z =>
        rw [show isStr (.str z) = true from rfl] at h3
        have g1 := fget (z := z) (S := S)
        have g2 : mtyD (.kd DL.Tm.fWords DL.Tm.fForms) S = some "dict" := rfl
        cases q : formOf z with
        | none =>
          have e : shB (.tup (.str z :: r)) = false := by unfold shB; dsimp only; rw [q]
          rw [q] at g1
          unfold b_is_shaped
          rw [e]
          generalize D.kd DL.Tm.fWords DL.Tm.fForms = F at *
          simp [Out.bnd, h1, h3, eq_nil, g1, g2]
        | some l =>
          have e : shB (.tup (.str z :: r)) = (decide (l.length = r.length) && (l.zip r).all fun p => partB p.1 p.2) := by unfold shB; dsimp only; rw [q]
          rw [q] at g1
          have g3 := sgn_ne (S := S) q
          have g4 := sgn_flen (S := S) q
          rw [e]
          by_cases ql : l.length = r.length
          · have hl : ((r.length : Int) + 1 = (l.length : Int) + 1) := by omega
            have hc : dComp [2, 3] (dIZip (dACons (dVar 1) (dACons (dSl (dVar 0) (some (dC (.int 1))) none) dANil))) (gT 2 (gsCons (gN 2) (gsCons (gN 3) gsNil))) dYes (dCall 2 (Φ i_is_part_shaped) (dACons (dVar 2) (dACons (dVar 3) dANil))) [some (.tup (.str z :: r)), some (.str (sgn l)), none, none] S = .ok ((l.zip r).map fun p => D.bl (partB p.1 p.2)) S := by
              have := comp_pairs (i := 2) (j := 3) (tt := dYes) (e := (dCall 2 (Φ i_is_part_shaped) (dACons (dVar 2) (dACons (dVar 3) dANil)))) (fr := [some (.tup (.str z :: r)), some (.str (sgn l)), none, none]) (S := S) (xs := l.zip r) (fi := (dIZip (dACons (dVar 1) (dACons (dSl (dVar 0) (some (dC (.int 1))) none) dANil)))) (fun p => D.str p.1.s') (fun p => p.2) (fun _ => true) (fun p => D.bl (partB p.1 p.2)) (zip_sgn q (by simp [Out.bnd])) (fun p hm => ⟨rfl, fun _ => by
                have hm2 := (List.of_mem_zip (a := p.1) (b := p.2) (by exact hm)).2
                simp [Out.bnd, wipeD, hp p.1 p.2 (h2 _ (List.mem_cons_of_mem _ hm2)) (hs2 _ (List.mem_cons_of_mem _ hm2))]⟩)
              rw [List.filter_eq_self.mpr fun _ _ => rfl] at this
              exact this
            have ha : fAll ((l.zip r).map fun p => D.bl (partB p.1 p.2)) S = some (.bl ((l.zip r).all fun p => partB p.1 p.2), S) := fAll_bl _ _ _
            unfold b_is_shaped
            generalize D.kd DL.Tm.fWords DL.Tm.fForms = F at *
            generalize dComp [2, 3] (dIZip (dACons (dVar 1) (dACons (dSl (dVar 0) (some (dC (.int 1))) none) dANil))) (gT 2 (gsCons (gN 2) (gsCons (gN 3) gsNil))) dYes (dCall 2 (Φ i_is_part_shaped) (dACons (dVar 2) (dACons (dVar 3) dANil))) = Q at *
            generalize ((l.zip r).map fun p => D.bl (partB p.1 p.2)) = L at *
            generalize ((l.zip r).all fun p => partB p.1 p.2) = B at *
            simp [Out.bnd, h1, h3, eq_nil, g1, g2, g3, g4, hl, hc, ha, ql]
          · have hl : ¬ ((r.length : Int) + 1 = (l.length : Int) + 1) := by omega
            unfold b_is_shaped
            generalize D.kd DL.Tm.fWords DL.Tm.fForms = F at *
            simp [Out.bnd, h1, h3, eq_nil, g1, g2, g3, g4, hl, ql]
      | _ =>
        simp only [isStr] at h3
        simp [b_is_shaped, Out.bnd, h1, h3, eq_nil, shB]
  | _ =>
    simp only [isTpl] at h1
    simp [b_is_shaped, Out.bnd, h1, shB]
theorem parts_i {d : D} {S : Sto} (K : Nat) (h : thg S d = true) (hs : shB d = true) : Phi T G (K + 1) i_parts_of [d] S = .ok (.tup (ksD d)) S := by
  refine run_parts_of (k := K) (S' := S) (r := .tup (ksD d)) ?_ (gc_pure0 ?_)
  · unfold shB at hs
    split at hs
    · rename_i z r
      cases q : formOf z with
      | none => rw [q] at hs; cases hs
      | some l =>
        have e : ksD (.tup (.str z :: r)) = ((l.zip r).filter fun p => decide (p.1 = .t)).map (·.2) := by unfold ksD; dsimp only; rw [q]
        have g1 := fix (S := S) q
        have hc : dComp [1, 2] (dIZip (dACons (dOp aIx (dC (.kd DL.Tm.fWords DL.Tm.fForms)) (dOp aIx (dVar 0) (dC (.int 0)))) (dACons (dSl (dVar 0) (some (dC (.int 1))) none) dANil))) (gT 2 (gsCons (gN 1) (gsCons (gN 2) gsNil))) (dCmpT aEq (dVar 1) (dC (.str "t"))) (dVar 2) [some (.tup (.str z :: r)), none, none] S = .ok (((l.zip r).filter fun p => decide (p.1 = .t)).map (·.2)) S := by
          refine comp_pairs (α := Sn × D) (i := 1) (j := 2) (fun p => D.str p.1.s') (fun p => p.2) (fun p => decide (p.1 = Sn.t)) (fun p => p.2) (zip_sgn q ?_) (fun p hm => ⟨?_, fun _ => by simp [wipeD]⟩)
          · generalize D.kd DL.Tm.fWords DL.Tm.fForms = F at *
            simp [Out.bnd, g1]
          · have := (eq_sn (a := p.1) (S := S)).2.2.2.2
            simp [wipeD, Out.bnd, this]
        have hf : ∀ xs, fTup xs S = some (.tup xs, S) := fun _ => rfl
        rw [e]
        unfold b_parts_of
        generalize dComp [1, 2] (dIZip (dACons (dOp aIx (dC (.kd DL.Tm.fWords DL.Tm.fForms)) (dOp aIx (dVar 0) (dC (.int 0)))) (dACons (dSl (dVar 0) (some (dC (.int 1))) none) dANil))) (gT 2 (gsCons (gN 1) (gsCons (gN 2) gsNil))) (dCmpT aEq (dVar 1) (dC (.str "t"))) (dVar 2) = Q at *
        simp [Out.bnd, hc, hf]
    · cases hs
  · unfold D.und
    have : ∀ l : List D, (∀ e ∈ l, thg S e = true) → undL S.length l = true := fun l hl => thgL_und l (thgL_mem.mpr hl)
    exact this _ fun e he => ks_thg he h
end
end K07
/-! is_term of anything: level by level -/
namespace K07
open PySem PySem.Spec PyProof.Rows L2 DL
noncomputable section
def tmI (Φ : PhT) : DenS := (dSeq (dExpr (dM "list" mExtend (dVar 4) (dACons (dCall 1 (Φ i_parts_of) (dACons (dVar 5) dANil)) dANil))) dNil)
def tmC (Φ : PhT) : DenA := (dComp [5] (dISeq (dVar 1)) (gN 5) dYes (dCall 1 (Φ i_is_shaped) (dACons (dVar 5) dANil)))
def tmL (Φ : PhT) : DenS := (dSeq (dAug 2 aIAdd (dB fLen (dACons (dVar 1) dANil)))
  (dSeq (dIfS (dTOr (dCmpT aGt (dVar 2) (dC (.int 120))) (dTNot (dTr (dB fAll (tmC Φ))))) (dSeq (dRet (dC (.bl false)))
   dNil) dNil)
  (dSeq (dSet 4 (dLst dANil))
  (dSeq (dFor (gN 5) (dISeq (dVar 1)) (tmI Φ))
  (dSeq (dSet 1 (dVar 4))
  dNil)))))
theorem b_is_term_eq (Φ : PhT) : b_is_term Φ = (dSeq (dSet 1 (dLst (dACons (dVar 0) dANil)))
 (dSeq (dSet 2 (dC (.int 0)))
 (dSeq (dFor (gN 3) (dIRange1 (dACons (dC (.int 20)) dANil)) (tmL Φ))
 (dSeq (dRet (dOp aEq (dVar 1) (dLst dANil)))
 dNil)))) := rfl
theorem ksD_len (d : D) : (ksD d).length ≤ 5 := by
  unfold ksD
  split
  · rename_i z r
    split
    · rename_i l q
      have := (form_len5 q).2
      rw [List.length_map]
      have h1 := List.length_filter_le (fun p : Sn × D => decide (p.1 = Sn.t)) (l.zip r)
      have h2 : (l.zip r).length ≤ l.length := by rw [List.length_zip]; omega
      omega
    · exact Nat.zero_le _
  · exact Nat.zero_le _
theorem inner_run {K r : Nat} {row : List D} {S : Sto} (hr : S[r]? = some (.lst row)) (t m dp : Option D) : ∀ (items acc : List D) (x5 : Option D), (∀ d ∈ items, thg S d = true ∧ shB d = true) → acc.length + 5 * items.length ≤ 1000 →
    ∃ x5', forL (Src.mk row [(r, row)]).ok (gN 5) (tmI (Phi T G (K + 1))) items [t, some (.ob r), m, dp, some (.ob S.length), x5] (S ++ [.lst acc]) = .ok .nx [t, some (.ob r), m, dp, some (.ob S.length), x5'] (S ++ [.lst (acc ++ items.flatMap ksD)])
  | [], acc, x5, _, _ => ⟨x5, by
      unfold forL
      have hok : (Src.mk row [(r, row)]).ok (S ++ [.lst acc]) := fun p hp => by rw [List.mem_singleton.mp hp]; exact (Ext.app (Ext.refl S) [.lst acc]).at_ hr
      rw [if_pos hok, List.flatMap_nil, List.append_nil]⟩
  | d :: items, acc, x5, h, hl => by
    have hd := h d List.mem_cons_self
    have hk := ksD_len d
    rw [List.length_cons] at hl
    have hx : Ext S (S ++ [.lst acc]) := Ext.app (Ext.refl S) [.lst acc]
    have hok : (Src.mk row [(r, row)]).ok (S ++ [.lst acc]) := fun p hp => by rw [List.mem_singleton.mp hp]; exact hx.at_ hr
    obtain ⟨x5', e⟩ := inner_run (K := K) hr t m dp items (acc ++ ksD d) (some d) (fun e he => h e (List.mem_cons_of_mem _ he)) (by rw [List.length_append]; omega)
    refine ⟨x5', ?_⟩
    have hp := parts_i (S := S ++ [.lst acc]) K (hx.thg hd.1) hd.2
    have hnew : (S ++ [O.lst acc])[S.length]? = some (.lst acc) := by simp
    have hmt : mtyD (.ob S.length) (S ++ [.lst acc]) = some "list" := mty_at hnew
    have hext : mExtend (.ob S.length) [.tup (ksD d)] (S ++ [.lst acc]) = some (.non, S ++ [.lst (acc ++ ksD d)]) := by
      show mExtendT (.ob S.length) (ksD d) (S ++ [.lst acc]) = _
      unfold mExtendT
      dsimp only
      rw [hnew]
      dsimp only
      rw [if_pos (small_line (by omega)), List.set_append_right _ _ (Nat.le_refl _), Nat.sub_self]
      rfl
    have hb : tmI (Phi T G (K + 1)) [t, some (.ob r), m, dp, some (.ob S.length), some d] (S ++ [.lst acc]) = .ok .nx [t, some (.ob r), m, dp, some (.ob S.length), some d] (S ++ [.lst (acc ++ ksD d)]) := by
      generalize ksD d = kd at *
      unfold tmI
      simp [Out.bnd, hmt, hp, hext]
    rw [forL_nx1 (fr1 := [t, some (.ob r), m, dp, some (.ob S.length), some d]) hok rfl hb, e, List.flatMap_cons, List.append_assoc]
/-- one level -/
theorem level_run {K r : Nat} {row : List D} {S : Sto} {m : Nat} (hr : S[r]? = some (.lst row)) (hd : ∀ d ∈ row, thg S d = true ∧ smA d = true) (t dp x4 x5 : Option D) :
    (m + row.length > 120 ∨ row.all shB = false → ∃ fr', tmL (Phi T G (K + 12)) [t, some (.ob r), some (.int m), dp, x4, x5] S = .ok (.rt (.bl false)) fr' S) ∧
    (¬ (m + row.length > 120 ∨ row.all shB = false) → ∃ x5', tmL (Phi T G (K + 12)) [t, some (.ob r), some (.int m), dp, x4, x5] S = .ok .nx [t, some (.ob S.length), some (.int ((m + row.length : Nat) : Int)), dp, some (.ob S.length), x5'] (S ++ [.lst (row.flatMap ksD)])) := by
  have hc : ∀ (m : Option D) , tmC (Phi T G (K + 12)) [t, some (.ob r), m, dp, x4, x5] S = .ok (row.map fun d => D.bl (shB d)) S := fun m => by
    unfold tmC
    refine comp_lst (v := fun d => D.bl (shB d)) hr (iseq_at (by simp [Out.bnd]) hr) fun a ha => ?_
    have := shaped_i K (hd a ha).1 (hd a ha).2
    simp [Out.bnd, wipeD, this]
  have hl : fLen [.ob r] S = some (.int (row.length : Int), S) := by
    show (match seqD (.ob r) S with
      | some xs => some (D.int xs.length, S)
      | none => match S[r]? with
        | some (.dk kvs) => some (.int kvs.length, S)
        | _ => none) = _
    rw [seq_at hr]
  have ha : fAll (row.map fun d => D.bl (shB d)) S = some (.bl (row.all shB), S) := fAll_bl _ _ _
  have hadd : ∀ S, aIAdd (.int m) (.int (row.length : Int)) S = some (.int ((m + row.length : Nat) : Int), S) := fun S => by
    rw [show ((m + row.length : Nat) : Int) = (m : Int) + (row.length : Int) by omega]
    rfl
  have h0 : dAug 2 aIAdd (dB fLen (dACons (dVar 1) dANil)) [t, some (.ob r), some (.int m), dp, x4, x5] S = .ok .nx [t, some (.ob r), some (.int ((m + row.length : Nat) : Int)), dp, x4, x5] S := by
    generalize (m : Int) = mi at *
    generalize ((m + row.length : Nat) : Int) = mj at *
    generalize (row.length : Int) = rl at *
    unfold dAug
    simp [Out.bnd, hl, hadd]
  have hgt : (120 < ((m + row.length : Nat) : Int)) ↔ m + row.length > 120 := by omega
  refine ⟨fun hq => ⟨[t, some (.ob r), some (.int ((m + row.length : Nat) : Int)), dp, x4, x5], ?_⟩, fun hq => ?_⟩
  · unfold tmL
    rw [ev_seq, h0]
    dsimp only
    have hc := hc (some (.int ((m + row.length : Nat) : Int)))
    generalize tmC (Phi T G (K + 12)) = C at *
    generalize (row.map fun d => D.bl (shB d)) = L at *
    by_cases q : m + row.length > 120
    · rw [← hgt] at q
      generalize ((m + row.length : Nat) : Int) = mj at *
      simp [Out.bnd, q]
    · have q2 : row.all shB = false := by
        rcases hq with h | h
        · exact absurd h q
        · exact h
      rw [← hgt] at q
      rw [q2] at ha
      generalize ((m + row.length : Nat) : Int) = mj at *
      simp [Out.bnd, q, hc, ha]
  · have q : ¬ m + row.length > 120 := fun z => hq (.inl z)
    have q2 : row.all shB = true := by
      cases e : row.all shB
      · exact absurd (.inr e) hq
      · rfl
    obtain ⟨x5', e⟩ := inner_run (K := K + 11) hr t (some (.int ((m + row.length : Nat) : Int))) dp row [] x5 (fun d hd' => ⟨(hd d hd').1, List.all_eq_true.mp q2 d hd'⟩) (by show 0 + 5 * row.length ≤ 1000; omega)
    refine ⟨x5', ?_⟩
    have hf : dFor (gN 5) (dISeq (dVar 1)) (tmI (Phi T G (K + 12))) [t, some (.ob r), some (.int ((m + row.length : Nat) : Int)), dp, some (.ob S.length), x5] (S ++ [.lst []]) = .ok .nx [t, some (.ob r), some (.int ((m + row.length : Nat) : Int)), dp, some (.ob S.length), x5'] (S ++ [.lst (row.flatMap ksD)]) := by
      rw [ev_for, iseq_at (n := r) (xs := row) (S := S ++ [.lst []]) (by simp [Out.bnd]) ((Ext.app (Ext.refl S) [.lst []]).at_ hr), ev_tok]
      exact e
    unfold tmL
    rw [ev_seq, h0]
    dsimp only
    have hc := hc (some (.int ((m + row.length : Nat) : Int)))
    rw [← hgt] at q
    rw [q2] at ha
    generalize tmC (Phi T G (K + 12)) = C at *
    generalize dFor (gN 5) (dISeq (dVar 1)) (tmI (Phi T G (K + 12))) = Fo at *
    generalize (row.map fun d => D.bl (shB d)) = L at *
    generalize row.flatMap ksD = fk at *
    generalize ((m + row.length : Nat) : Int) = mj at *
    simp [Out.bnd, q, hc, ha, hf]
theorem outer_run {K : Nat} (t : Option D) : ∀ (items : List D) (m : Nat) (row : List D) (S : Sto) (r : Nat) (dp x4 x5 : Option D), S[r]? = some (.lst row) → (∀ d ∈ row, thg S d = true ∧ smA d = true) →
    ∃ fr' S', Ext S S' ∧ ((forL (Src.mk (DL.upTo 0 20) []).ok (gN 3) (tmL (Phi T G (K + 12))) items [t, some (.ob r), some (.int m), dp, x4, x5] S = .ok (.rt (.bl false)) fr' S' ∧ lvB items.length m row = false) ∨
      (∃ (r' : Nat) (row' : List D) (y2 y3 y4 y5 : Option D), forL (Src.mk (DL.upTo 0 20) []).ok (gN 3) (tmL (Phi T G (K + 12))) items [t, some (.ob r), some (.int m), dp, x4, x5] S = .ok .nx [t, some (.ob r'), y2, y3, y4, y5] S' ∧ S'[r']? = some (.lst row') ∧ lvB items.length m row = row'.isEmpty))
  | [], m, row, S, r, dp, x4, x5, hr, hd => by
    refine ⟨[], S, Ext.refl S, .inr ⟨r, row, some (.int m), dp, x4, x5, ?_, hr, rfl⟩⟩
    unfold forL
    exact if_pos noGuard
  | i :: items, m, row, S, r, dp, x4, x5, hr, hd => by
    obtain ⟨h1, h2⟩ := level_run (K := K) (m := m) hr hd t (some i) x4 x5
    by_cases q : m + row.length > 120 ∨ row.all shB = false
    · obtain ⟨fr', e⟩ := h1 q
      refine ⟨fr', S, Ext.refl S, .inl ⟨forL_rt1 (fr1 := [t, some (.ob r), some (.int m), some i, x4, x5]) noGuard rfl e, ?_⟩⟩
      rw [List.length_cons]
      unfold lvB
      rw [if_pos q]
    · obtain ⟨x5', e⟩ := h2 q
      have hx : Ext S (S ++ [.lst (row.flatMap ksD)]) := Ext.app (Ext.refl S) _
      have el : lvB (i :: items).length m row = lvB items.length (m + row.length) (row.flatMap ksD) := by
        rw [List.length_cons]
        conv => lhs; unfold lvB
        rw [if_neg q]
      obtain ⟨fr', S', hS, hh⟩ := outer_run (K := K) t items (m + row.length) (row.flatMap ksD) (S ++ [.lst (row.flatMap ksD)]) S.length (some i) (some (.ob S.length)) x5' (by simp) (fun e he => by
        obtain ⟨d, hm, he⟩ := List.mem_flatMap.mp he
        exact ⟨hx.thg (ks_thg he (hd d hm).1), ks_sm he (hd d hm).2⟩)
      refine ⟨fr', S', hx.trans hS, ?_⟩
      rw [el, forL_nx1 (fr1 := [t, some (.ob r), some (.int m), some i, x4, x5]) noGuard rfl e]
      exact hh
theorem eq_lnil {S : Sto} {i j : Nat} {xs : List D} (hi : S[i]? = some (.lst xs)) (hj : S[j]? = some (.lst [])) : aEq (.ob i) (.ob j) S = some (.bl xs.isEmpty, S) := by
  have hb : dP S (.ob j) = some (.list []) := by
    show (match S[j]? with | some (.lst xs) => (toPs (obP 11 S) xs).map PyData.list | _ => none) = _
    rw [hj]
    rfl
  have ha : dP S (.ob i) = (toPs (obP 11 S) xs).map PyData.list := by
    show (match S[i]? with | some (.lst xs) => (toPs (obP 11 S) xs).map PyData.list | _ => none) = _
    rw [hi]
  show eqP false (.ob i) (.ob j) S = _
  unfold eqP
  rw [hb, ha]
  cases q : toPs (obP 11 S) xs with
  | none =>
    have hne : xs ≠ [] := fun e => by rw [e] at q; cases q
    show (match S[i]?, S[j]? with
      | some (.lst xs), some (.lst ys) => if xs.length ≠ ys.length then some (D.bl false, S) else none
      | _, _ => none) = _
    rw [hi, hj]
    show (if xs.length ≠ ([] : List D).length then some (D.bl false, S) else none) = _
    cases xs with
    | nil => exact absurd rfl hne
    | cons x xs => rw [if_pos (by simp)]; rfl
  | some ps =>
    dsimp only [Option.map_some]
    have h5 : min (PyData.depth (.list ps)) (PyData.depth (.list [])) ≤ 100 := Nat.le_trans (Nat.min_le_right _ _) (by decide +kernel)
    rw [if_pos h5]
    cases xs with
    | nil => cases q; rfl
    | cons x xs =>
      cases ps with
      | nil => unfold toPs at q; split at q <;> cases q
      | cons p ps => rfl
theorem term_i {d : D} {S : Sto} (K : Nat) (h : thg S d = true) (hs : smA d = true) : Phi T G (K + 13) i_is_term [d] S = .ok (.bl (decide (tmB d))) S := by
  have hx : Ext S (S ++ [.lst [d]]) := Ext.app (Ext.refl S) _
  obtain ⟨fr', S', hS, hh⟩ := outer_run (K := K) (some d) (DL.upTo 0 20) 0 [d] (S ++ [.lst [d]]) S.length none none none (by simp) (fun e he => by
    rw [List.mem_singleton.mp he]
    exact ⟨hx.thg h, hs⟩)
  rw [upTo_len, lvB_iff] at hh
  have hrg : dIRange1 (dACons (dC (.int 20)) dANil) [some d, some (.ob S.length), some (.int 0), none, none, none] (S ++ [.lst [d]]) = .ok ⟨DL.upTo 0 20, []⟩ (S ++ [.lst [d]]) := range1 (n := 20) (by simp [Out.bnd]) (by decide) (by decide)
  rcases hh with ⟨e, eb⟩ | ⟨r', row', y2, y3, y4, y5, e, hr', eb⟩
  · rw [eb]
    refine run_is_term (k := K + 12) (S' := S') (r := .bl false) ?_ (gc_ext (hx.trans hS) rfl)
    rw [b_is_term_eq]
    have e : forL (Src.mk (DL.upTo 0 20) []).ok (gN 3) (tmL (Phi T G (K + 12))) (DL.upTo 0 20) [some d, some (.ob S.length), some (.int 0), none, none, none] (S ++ [.lst [d]]) = .ok (.rt (.bl false)) fr' S' := e
    generalize tmL (Phi T G (K + 12)) = B at *
    simp [Out.bnd, ev_for, hrg, e]
  · rw [eb]
    have hx2 : Ext S (S' ++ [.lst []]) := Ext.app (hx.trans hS) _
    refine run_is_term (k := K + 12) (S' := S' ++ [.lst []]) (r := .bl row'.isEmpty) ?_ (gc_ext hx2 rfl)
    rw [b_is_term_eq]
    have e : forL (Src.mk (DL.upTo 0 20) []).ok (gN 3) (tmL (Phi T G (K + 12))) (DL.upTo 0 20) [some d, some (.ob S.length), some (.int 0), none, none, none] (S ++ [.lst [d]]) = .ok .nx [some d, some (.ob r'), y2, y3, y4, y5] S' := e
    have he := eq_lnil (S := S' ++ [.lst []]) (i := r') (j := S'.length) (xs := row') ((Ext.app (Ext.refl S') [.lst []]).at_ hr') (by simp)
    generalize tmL (Phi T G (K + 12)) = B at *
    generalize row'.isEmpty = bb at *
    simp [Out.bnd, ev_for, hrg, e, he]
end
end K07
/-! the law whole -/
namespace K07
open PySem PySem.Spec PyProof.Rows L2 DL
noncomputable section
theorem rangeB {h : DenA} {fr : Fr} {S S' : Sto} {n : Int} (e : h fr S = .ok [.int n] S') (h0 : 0 ≤ n) (hn : n ≤ 100000) : dIRange1 h fr S = .ok ⟨DL.upTo 0 n.toNat, []⟩ S' := by
  unfold dIRange1
  rw [e]
  show (if -(2 ^ 62) ≤ n ∧ n ≤ 16777216 then Out.ok (Src.mk (DL.upTo 0 n.toNat) []) S' else .no) = _
  rw [if_pos ⟨by omega, by omega⟩]
/-- a term so many deep -/
def chT : Nat → DL.Tm
  | 0 => .num 1
  | n + 1 => .one .first (chT n)
theorem chT_ok : ∀ n, (chT n).ok ∧ (chT n).deep = n + 1 ∧ (chT n).size = n + 1
  | 0 => ⟨⟨by omega, by omega⟩, rfl, rfl⟩
  | n + 1 => by
    obtain ⟨h1, h2, h3⟩ := chT_ok n
    exact ⟨h1, by show (chT n).deep + 1 = _; rw [h2], by show (chT n).size + 1 = _; rw [h3]⟩
theorem chain_i {S : Sto} (K : Nat) (n : Nat) (hn : n ≤ 5000) : Phi T G (K + 1) i_law_chain [.int ((n + 1 : Nat) : Int)] S = .ok (chT n).d S := by
  have loop : ∀ (items : List D) (j : Nat) (x2 : Option D), ∃ y2, forL (Src.mk (DL.upTo 0 n) []).ok (gN 2) (dSeq (dSet 1 (dTup (dACons (dC (.str "first")) (dACons (dVar 1) dANil)))) dNil) items [some (.int ((n + 1 : Nat) : Int)), some (chT j).d, x2] S = .ok .nx [some (.int ((n + 1 : Nat) : Int)), some (chT (j + items.length)).d, y2] S := by
    intro items
    induction items with
    | nil =>
      intro j x2
      refine ⟨x2, ?_⟩
      unfold forL
      exact if_pos noGuard
    | cons d items ih =>
      intro j x2
      obtain ⟨y2, e⟩ := ih (j + 1) (some d)
      refine ⟨y2, ?_⟩
      have hb : (dSeq (dSet 1 (dTup (dACons (dC (.str "first")) (dACons (dVar 1) dANil)))) dNil) [some (.int ((n + 1 : Nat) : Int)), some (chT j).d, some d] S = .ok .nx [some (.int ((n + 1 : Nat) : Int)), some (chT (j + 1)).d, some d] S := by
        have e : (chT (j + 1)).d = .tup [.str "first", (chT j).d] := rfl
        rw [e]
        generalize ((n + 1 : Nat) : Int) = n1
        simp [Out.bnd]
      rw [forL_nx1 (fr1 := [some (.int ((n + 1 : Nat) : Int)), some (chT j).d, some d]) noGuard rfl hb, e, List.length_cons, show j + 1 + items.length = j + (items.length + 1) by omega]
  obtain ⟨y2, e⟩ := loop (DL.upTo 0 n) 0 none
  rw [upTo_len, Nat.zero_add] at e
  have hr : dIRange1 (dACons (dOp aSub (dVar 0) (dC (.int 1))) dANil) [some (.int ((n + 1 : Nat) : Int)), some (chT 0).d, none] S = .ok ⟨DL.upTo 0 n, []⟩ S := by
    have := rangeB (h := (dACons (dOp aSub (dVar 0) (dC (.int 1))) dANil)) (fr := [some (.int ((n + 1 : Nat) : Int)), some (chT 0).d, none]) (S := S) (S' := S) (n := (n : Int)) (by
      have : ((n + 1 : Nat) : Int) - 1 = (n : Int) := by omega
      generalize ((n + 1 : Nat) : Int) = n1 at *
      simp [Out.bnd, this]) (by omega) (by omega)
    rw [Int.toNat_natCast] at this
    exact this
  refine run_law_chain (k := K) (S' := S) (r := (chT n).d) ?_ (gc_pure0 (by simp))
  have e0 : (chT 0).d = .tup [.str "number", .int 1] := rfl
  rw [e0] at e hr
  generalize (chT n).d = cn at *
  generalize ((n + 1 : Nat) : Int) = n1 at *
  generalize hB : (dSeq (dSet 1 (dTup (dACons (dC (.str "first")) (dACons (dVar 1) dANil)))) dNil) = B at *
  unfold b_law_chain
  rw [hB]
  simp [Out.bnd, ev_for, hr, e]
def wpT : DL.Tm := .two .pair (.num 0) (.nam "x")
def wiT (l : DL.Tm) : Nat → DL.Tm
  | 0 => l
  | n + 1 => .ite wpT wpT (wiT l n)
theorem wp_ok : wpT.ok := ⟨⟨by omega, by omega⟩, by show nmB "x" = true; decide +kernel⟩
theorem wiT_ok {l : DL.Tm} (h : l.ok) (hl : l.deep ≤ 2) : ∀ n, (wiT l n).ok ∧ (wiT l n).deep ≤ n + 2 ∧ (wiT l n).size = 7 * n + l.size
  | 0 => ⟨h, by show l.deep ≤ 2; exact hl, by show l.size = _; omega⟩
  | n + 1 => by
    obtain ⟨h1, h2, h3⟩ := wiT_ok h hl n
    have e1 : wpT.deep = 2 := rfl
    have e2 : wpT.size = 3 := rfl
    exact ⟨⟨wp_ok, wp_ok, h1⟩, by show max wpT.deep (max wpT.deep (wiT l n).deep) + 1 ≤ _; omega, by show wpT.size + wpT.size + (wiT l n).size + 1 = _; omega⟩
theorem wide_i {S : Sto} (K : Nat) (l : DL.Tm) : Phi T G (K + 1) i_law_wide [l.d] S = .ok (wiT l 17).d S := by
  have loop : ∀ (items : List D) (j : Nat) (x3 : Option D), ∃ y3, forL (Src.mk (DL.upTo 0 17) []).ok (gN 3) (dSeq (dSet 2 (dTup (dACons (dC (.str "if")) (dACons (dVar 1) (dACons (dVar 1) (dACons (dVar 2) dANil)))))) dNil) items [some l.d, some wpT.d, some (wiT l j).d, x3] S = .ok .nx [some l.d, some wpT.d, some (wiT l (j + items.length)).d, y3] S := by
    intro items
    induction items with
    | nil =>
      intro j x3
      refine ⟨x3, ?_⟩
      unfold forL
      exact if_pos noGuard
    | cons d items ih =>
      intro j x3
      obtain ⟨y3, e⟩ := ih (j + 1) (some d)
      refine ⟨y3, ?_⟩
      have hb : (dSeq (dSet 2 (dTup (dACons (dC (.str "if")) (dACons (dVar 1) (dACons (dVar 1) (dACons (dVar 2) dANil)))))) dNil) [some l.d, some wpT.d, some (wiT l j).d, some d] S = .ok .nx [some l.d, some wpT.d, some (wiT l (j + 1)).d, some d] S := by
        have e : (wiT l (j + 1)).d = .tup [.str "if", wpT.d, wpT.d, (wiT l j).d] := rfl
        rw [e]
        generalize wpT.d = w
        simp [Out.bnd]
      rw [forL_nx1 (fr1 := [some l.d, some wpT.d, some (wiT l j).d, some d]) noGuard rfl hb, e, List.length_cons, show j + 1 + items.length = j + (items.length + 1) by omega]
  obtain ⟨y3, e⟩ := loop (DL.upTo 0 17) 0 none
  rw [upTo_len, Nat.zero_add] at e
  have hr : dIRange1 (dACons (dC (.int 17)) dANil) [some l.d, some wpT.d, some l.d, none] S = .ok ⟨DL.upTo 0 17, []⟩ S := range1 (n := 17) (by simp [Out.bnd]) (by decide) (by decide)
  refine run_law_wide (k := K) (S' := S) (r := (wiT l 17).d) ?_ (gc_pure0 (by simp))
  have e : forL (Src.mk (DL.upTo 0 17) []).ok (gN 3) (dSeq (dSet 2 (dTup (dACons (dC (.str "if")) (dACons (dVar 1) (dACons (dVar 1) (dACons (dVar 2) dANil)))))) dNil) (DL.upTo 0 17) [some l.d, some wpT.d, some l.d, none] S = .ok .nx [some l.d, some wpT.d, some (wiT l 17).d, y3] S := e
  have e0 : wpT.d = .tup [.str "pair", .tup [.str "number", .int 0], .tup [.str "name", .str "x"]] := rfl
  rw [e0] at e hr
  generalize (wiT l 17).d = cn at *
  generalize hB : (dSeq (dSet 2 (dTup (dACons (dC (.str "if")) (dACons (dVar 1) (dACons (dVar 1) (dACons (dVar 2) dANil)))))) dNil) = B at *
  unfold b_law_wide
  rw [hB]
  generalize l.d = ld at *
  simp [Out.bnd, ev_for, hr, e]
/-! ### one turn -/
def u2 (Φ : PhT) : DenS := (dSeq (dIfS (dTOr (dCmpT aIsNot (dCall 1 (Φ i_is_term) (dACons (dVar 3) dANil)) (dC (.bl true))) (dCmpT aIsNot (dCall 1 (Φ i_is_term) (dACons (dVar 4) dANil)) (dC (.bl false)))) (dSeq (dRet (dC (.bl false)))
    dNil) dNil)
   dNil)
def uB (Φ : PhT) : DenS := (dSeq (dSet 3 (dCall 1 (Φ i_law_drawn) (dACons (dVar 1) dANil)))
  (dSeq (dSet 4 (dCall 2 (Φ i_law_bent) (dACons (dVar 1) (dACons (dVar 3) dANil))))
  (dSeq (dFor (gN 5) (dIRange1 (dACons (dC (.int 2)) dANil)) (u2 Φ))
  (dSeq (dSet 6 (dCall 2 (Φ i_law_odd) (dACons (dVar 1) (dACons (dC (.str "t")) dANil))))
  (dSeq (dIfS (dTOr (dCmpT aIsNot (dCall 1 (Φ i_is_term) (dACons (dVar 6) dANil)) (dC (.bl false))) (dCmpT aIsNot (dCall 1 (Φ i_is_term) (dACons (dTup (dACons (dC (.str "pair")) (dACons (dVar 3) (dACons (dVar 6) dANil)))) dANil)) (dC (.bl false)))) (dSeq (dRet (dC (.bl false)))
   dNil) dNil)
  dNil)))))
theorem turn_run {b : Nat} {cs : List Int} {s : Ds} (hd : Dr b cs s) (hb : b + 200000 ≤ 2 ^ 58) (R : Sto) (x x2 x3 x4 x5 x6 x7 x8 : Option D) :
    ∃ (s' : Ds) (R' : Sto) (y3 y4 y5 y6 : Option D), Dr (b + 30000) cs s' ∧ uB (Phi T G 114) [x, some (.ob 2), x2, x3, x4, x5, x6, x7, x8] (dst cs s R) = .ok .nx [x, some (.ob 2), x2, y3, y4, y5, y6, x7, x8] (dst cs s' R') := by
  obtain ⟨t, s1, t1, t2, t3, d1, e1⟩ := drawn_dr 85 hd (by omega)
  have tok := DL.Tm.dr_ok t1
  obtain ⟨s2, d2, e2⟩ := bent_dr 10 t t2 tok 100 d1 (by omega)
  obtain ⟨e, V, a1, a2, a3, a4⟩ := e2 R
  obtain ⟨s3, d3, e3⟩ := odd_dr 111 .t d2 (by omega)
  obtain ⟨f, W, c1, c2, c3⟩ := e3 (R ++ V)
  have c4 : noTm f := by have := c3.2; rw [if_pos rfl] at this; exact this
  have e1 := e1 R
  have i1 : ∀ S, Phi T G 114 i_is_term [t.d] S = .ok (.bl true) S := fun S => by
    rw [term_i 101 (tm_thg t) (tm_sm tok), tmB_iff tok, decide_eq_true ⟨by omega, by omega⟩]
  have i2 : Phi T G 114 i_is_term [e] (dst cs s2 (R ++ V)) = .ok (.bl false) (dst cs s2 (R ++ V)) := by
    rw [term_i 101 a2 a3, noTm_B a4]
  have i3 : Phi T G 114 i_is_term [f] (dst cs s3 (R ++ V ++ W)) = .ok (.bl false) (dst cs s3 (R ++ V ++ W)) := by
    rw [term_i 101 c2 c3.1, noTm_B c4]
  have i4 : Phi T G 114 i_is_term [.tup [.str "pair", t.d, f]] (dst cs s3 (R ++ V ++ W)) = .ok (.bl false) (dst cs s3 (R ++ V ++ W)) := by
    have h1 : thg (dst cs s3 (R ++ V ++ W)) (.tup [.str "pair", t.d, f]) = true := thg_tupI fun d hd => by
      simp only [List.mem_cons, List.not_mem_nil, or_false] at hd
      rcases hd with rfl | rfl | rfl
      · rfl
      · exact tm_thg t
      · exact c2
    have h2 : smA (.tup [.str "pair", t.d, f]) = true := smA_tup fun d hd => by
      simp only [List.mem_cons, List.not_mem_nil, or_false] at hd
      rcases hd with rfl | rfl | rfl
      · decide +kernel
      · exact tm_sm tok
      · exact c3.1
    have h3 : noTm (.tup [.str "pair", t.d, f]) := noTm_part (t := .two .pair t t) (p1 := [.tm t]) (p := .tm t) (p2 := []) rfl c3
    rw [term_i 101 h1 h2, noTm_B h3]
  have hl2 : ∀ (items : List D) (y5 : Option D), ∃ z5, forL (Src.mk (DL.upTo 0 2) []).ok (gN 5) (u2 (Phi T G 114)) items [x, some (.ob 2), x2, some t.d, some e, y5, x6, x7, x8] (dst cs s2 (R ++ V)) = .ok .nx [x, some (.ob 2), x2, some t.d, some e, z5, x6, x7, x8] (dst cs s2 (R ++ V)) := by
    intro items
    induction items with
    | nil =>
      intro y5
      refine ⟨y5, ?_⟩
      unfold forL
      exact if_pos noGuard
    | cons d items ih =>
      intro y5
      obtain ⟨z5, q⟩ := ih (some d)
      refine ⟨z5, ?_⟩
      have i1 := i1 (dst cs s2 (R ++ V))
      have hb : u2 (Phi T G 114) [x, some (.ob 2), x2, some t.d, some e, some d, x6, x7, x8] (dst cs s2 (R ++ V)) = .ok .nx [x, some (.ob 2), x2, some t.d, some e, some d, x6, x7, x8] (dst cs s2 (R ++ V)) := by
        generalize dst cs s2 (R ++ V) = S2 at *
        generalize Phi T G 114 = Φ at *
        generalize t.d = td at *
        unfold u2
        simp [Out.bnd, i1, i2]
      rw [forL_nx1 (fr1 := [x, some (.ob 2), x2, some t.d, some e, some d, x6, x7, x8]) noGuard rfl hb, q]
  obtain ⟨z5, hl2⟩ := hl2 (DL.upTo 0 2) x5
  have hr : dIRange1 (dACons (dC (.int 2)) dANil) [x, some (.ob 2), x2, some t.d, some e, x5, x6, x7, x8] (dst cs s2 (R ++ V)) = .ok ⟨DL.upTo 0 2, []⟩ (dst cs s2 (R ++ V)) := range1 (n := 2) (by simp [Out.bnd]) (by decide) (by decide)
  refine ⟨s3, R ++ V ++ W, some t.d, some e, z5, some f, d3.mono (by omega), ?_⟩
  have c1 : Phi T G 114 i_law_odd [.ob 2, .str "t"] (dst cs s2 (R ++ V)) = .ok f (dst cs s3 (R ++ V ++ W)) := by
    rw [← sn_lit.2.2.2.2.1]
    exact c1
  generalize dst cs s2 (R ++ V) = S2 at *
  generalize dst cs s3 (R ++ V ++ W) = S3 at *
  generalize dst cs s1 R = S1 at *
  generalize dst cs s R = S0 at *
  generalize hU : u2 (Phi T G 114) = U at *
  unfold uB
  rw [hU]
  generalize Phi T G 114 = Φ at *
  generalize t.d = td at *
  simp [Out.bnd, ev_for, e1, a1, hr, hl2, c1, i3, i4]
theorem toPs_bl2 (f : Nat → Option PyData) : ∀ l : List Bool, toPs f (l.map D.bl) = some (l.map PyData.bool)
  | [] => rfl
  | b :: l => by
    rw [List.map_cons, toPs, toPs_bl2 f l]
    rfl
theorem eq_bls {S : Sto} {i j : Nat} {l : List Bool} (hl : l = [true, false, false, true, false]) (hi : S[i]? = some (.lst (l.map D.bl))) (hj : S[j]? = some (.lst (l.map D.bl))) : aEq (.ob i) (.ob j) S = some (.bl true, S) := by
  have h1 : ∀ i, S[i]? = some (.lst (l.map D.bl)) → dP S (.ob i) = some (.list (l.map PyData.bool)) := fun i hi => by
    show (match S[i]? with | some (.lst xs) => (toPs (obP 11 S) xs).map PyData.list | _ => none) = _
    rw [hi]
    dsimp only
    rw [toPs_bl2]
    rfl
  show eqP false (.ob i) (.ob j) S = _
  unfold eqP
  rw [h1 i hi, h1 j hj]
  dsimp only
  subst hl
  rw [if_pos (by decide +kernel)]
  have : PyData.eqv (.list ([true, false, false, true, false].map PyData.bool)) (.list ([true, false, false, true, false].map PyData.bool)) = true := by decide +kernel
  rw [this]
  rfl
def vA (Φ : PhT) : DenS := (dSet 7 (dLst (dACons (dCall 1 (Φ i_is_term) (dACons (dCall 1 (Φ i_law_chain) (dACons (dC (.int 20)) dANil)) dANil)) (dACons (dCall 1 (Φ i_is_term) (dACons (dCall 1 (Φ i_law_chain) (dACons (dC (.int 21)) dANil)) dANil)) (dACons (dCall 1 (Φ i_is_term) (dACons (dCall 1 (Φ i_law_chain) (dACons (dC (.int 2000)) dANil)) dANil)) dANil)))))
def vB (Φ : PhT) : DenS := (dSet 7 (dOp aAdd (dVar 7) (dLst (dACons (dCall 1 (Φ i_is_term) (dACons (dCall 1 (Φ i_law_wide) (dACons (dTup (dACons (dC (.str "number")) (dACons (dC (.int 1)) dANil))) dANil)) dANil)) (dACons (dCall 1 (Φ i_is_term) (dACons (dCall 1 (Φ i_law_wide) (dACons (dTup (dACons (dC (.str "box")) (dACons (dTup (dACons (dC (.str "number")) (dACons (dC (.int 1)) dANil))) dANil))) dANil)) dANil)) dANil)))))
def vC : DenA := (dComp [8] (dISeq (dVar 7)) (gN 8) (dTNot (dTr (dB fIsi (dACons (dVar 8) (dACons (dC (.ty "bool")) dANil))))) (dVar 8))
def vD : DenS := (dSeq (dRet (dAndV (dOp aEq (dVar 7) (dLst (dACons (dC (.bl true)) (dACons (dC (.bl false)) (dACons (dC (.bl false)) (dACons (dC (.bl true)) (dACons (dC (.bl false)) dANil))))))) (dOp aEq (dKeep vC) (dLst dANil)))) dNil)
theorem b_law_eq (Φ : PhT) : b_law Φ = (dSeq (dSet 1 (dCall 1 (Φ i_law_begin) (dACons (dVar 0) dANil)))
 (dSeq (dFor (gN 2) (dIRange1 (dACons (dC (.int 7)) dANil)) (uB Φ)) (dSeq (vA Φ) (dSeq (vB Φ) vD)))) := rfl
theorem end_run (x x1 x2 x3 x4 x5 x6 : Option D) (S : Sto) : ∃ fr' V, dSeq (vA (Phi T G 114)) (dSeq (vB (Phi T G 114)) vD) [x, x1, x2, x3, x4, x5, x6, none, none] S = .ok (.rt (.bl true)) fr' (S ++ V) := by
  have ch : ∀ (n : Nat) (S : Sto), n ≤ 5000 → Phi T G 114 i_is_term [(chT n).d] S = .ok (.bl (decide (n + 1 ≤ 20))) S := fun n S hn => by
    obtain ⟨h1, h2, h3⟩ := chT_ok n
    rw [term_i 101 (tm_thg _) (tm_sm h1), tmB_iff h1, h2, h3]
    congr 3
    exact propext ⟨fun h => h.2, fun h => ⟨by omega, h⟩⟩
  have wi : ∀ (l : DL.Tm) (S : Sto), l.ok → l.deep ≤ 2 → Phi T G 114 i_is_term [(wiT l 17).d] S = .ok (.bl (decide (l.size ≤ 1))) S := fun l S hl hd => by
    obtain ⟨h1, h2, h3⟩ := wiT_ok hl hd 17
    rw [term_i 101 (tm_thg _) (tm_sm h1), tmB_iff h1, h3]
    congr 3
    exact propext ⟨fun h => by have := h.1; omega, fun h => ⟨by omega, by omega⟩⟩
  have a1 := fun S => chain_i (S := S) 113 19 (by omega)
  have a2 := fun S => chain_i (S := S) 113 20 (by omega)
  have a3 := fun S => chain_i (S := S) 113 1999 (by omega)
  have b1 := fun S => ch 19 S (by omega)
  have b2 := fun S => ch 20 S (by omega)
  have b3 := fun S => ch 1999 S (by omega)
  have a4 := fun S => wide_i (S := S) 113 (.num 1)
  have a5 := fun S => wide_i (S := S) 113 (.one .box (.num 1))
  have nok : (DL.Tm.num 1).ok := ⟨by omega, by omega⟩
  have b4 := fun S => wi (.num 1) S nok (by show 1 ≤ 2; omega)
  have b5 := fun S => wi (.one .box (.num 1)) S nok (by show 2 ≤ 2; omega)
  rw [show decide (19 + 1 ≤ 20) = true by decide] at b1
  rw [show decide (20 + 1 ≤ 20) = false by decide] at b2
  rw [show decide (1999 + 1 ≤ 20) = false by decide] at b3
  rw [show decide ((DL.Tm.num 1).size ≤ 1) = true from rfl] at b4
  rw [show decide ((DL.Tm.one .box (.num 1)).size ≤ 1) = false from rfl] at b5
  rw [show (((19 + 1 : Nat) : Int)) = 20 from rfl] at a1
  rw [show (((20 + 1 : Nat) : Int)) = 21 from rfl] at a2
  rw [show (((1999 + 1 : Nat) : Int)) = 2000 from rfl] at a3
  rw [show (DL.Tm.num 1).d = .tup [.str "number", .int 1] from rfl] at a4
  rw [show (DL.Tm.one .box (.num 1)).d = .tup [.str "box", .tup [.str "number", .int 1]] from rfl] at a5
  generalize (chT 19).d = c1 at *
  generalize (chT 20).d = c2 at *
  generalize (chT 1999).d = c3 at *
  generalize (wiT (.num 1) 17).d = c4 at *
  generalize (wiT (.one .box (.num 1)) 17).d = c5 at *
  rw [show 113 + 1 = 114 from rfl] at a1 a2 a3 a4 a5
  generalize Phi T G 114 = Φ at *
  let l5 : List D := [.bl true, .bl false, .bl false, .bl true, .bl false]
  have eA : vA Φ [x, x1, x2, x3, x4, x5, x6, none, none] S = .ok .nx [x, x1, x2, x3, x4, x5, x6, some (.ob S.length), none] (S ++ [.lst [.bl true, .bl false, .bl false]]) := by
    simp [vA, Out.bnd, a1, a2, a3, b1, b2, b3]
  have hadd : aAdd (.ob S.length) (.ob (S.length + 1)) (S ++ [.lst [.bl true, .bl false, .bl false], .lst [.bl true, .bl false]]) = some (.ob (S.length + 2), S ++ [.lst [.bl true, .bl false, .bl false], .lst [.bl true, .bl false], .lst l5]) := add_two (by decide)
  have eB : vB Φ [x, x1, x2, x3, x4, x5, x6, some (.ob S.length), none] (S ++ [.lst [.bl true, .bl false, .bl false]]) = .ok .nx [x, x1, x2, x3, x4, x5, x6, some (.ob (S.length + 2)), none] (S ++ [.lst [.bl true, .bl false, .bl false], .lst [.bl true, .bl false], .lst l5]) := by
    simp [vB, Out.bnd, a4, a5, b4, b5, hadd]
  let S3 : Sto := S ++ [.lst [.bl true, .bl false, .bl false], .lst [.bl true, .bl false], .lst l5]
  have h3 : S3[S.length + 2]? = some (.lst l5) := by simp [S3]
  have h3l : S3.length = S.length + 3 := by simp [S3]
  have heq : aEq (.ob (S.length + 2)) (.ob (S.length + 3)) (S3 ++ [.lst l5]) = some (.bl true, S3 ++ [.lst l5]) := eq_bls (l := [true, false, false, true, false]) rfl ((Ext.app (Ext.refl S3) [.lst l5]).at_ h3) (by rw [← h3l]; simp; rfl)
  have hc : vC [x, x1, x2, x3, x4, x5, x6, some (.ob (S.length + 2)), none] (S3 ++ [.lst l5]) = .ok [] (S3 ++ [.lst l5]) := by
    unfold vC dComp
    rw [iseq_at (n := S.length + 2) (xs := l5) (S := S3 ++ [.lst l5]) (by simp [Out.bnd]) ((Ext.app (Ext.refl S3) [.lst l5]).at_ h3)]
    have hok : (Src.mk l5 [(S.length + 2, l5)]).ok (S3 ++ [.lst l5]) := fun p hp => by rw [List.mem_singleton.mp hp]; exact (Ext.app (Ext.refl S3) [.lst l5]).at_ h3
    have := compL_ok (fun b : Bool => D.bl b) (fun _ => false) (fun b => D.bl b) (t := gN 8) (tt := (dTNot (dTr (dB fIsi (dACons (dVar 8) (dACons (dC (.ty "bool")) dANil)))))) (e := dVar 8) (fr := [x, x1, x2, x3, x4, x5, x6, some (.ob (S.length + 2)), none]) hok [true, false, false, true, false] (fun b _ => ⟨_, rfl, by
      have hi : ∀ S, fIsi [.bl b, .ty "bool"] S = some (.bl true, S) := fun S => isi_ok (d := .bl b) (S := S) rfl (by decide)
      simp [Out.bnd, hi], fun h => by cases h⟩)
    rw [List.filter_eq_nil_iff.mpr (fun _ _ => Bool.false_ne_true)] at this
    exact this
  have hnil : aEq (.ob (S.length + 4)) (.ob (S.length + 5)) (S3 ++ [.lst l5, .lst [], .lst []]) = some (.bl true, S3 ++ [.lst l5, .lst [], .lst []]) :=
    eq_lnil (xs := []) (by rw [show S.length + 4 = S3.length + 1 by omega]; simp) (by rw [show S.length + 5 = S3.length + 2 by omega]; simp)
  refine ⟨[x, x1, x2, x3, x4, x5, x6, some (.ob (S.length + 2)), none], [.lst [.bl true, .bl false, .bl false], .lst [.bl true, .bl false], .lst l5, .lst l5, .lst [], .lst []], ?_⟩
  have eS : S ++ [.lst [.bl true, .bl false, .bl false], .lst [.bl true, .bl false], .lst l5, .lst l5, .lst [], .lst []] = S3 ++ [.lst l5, .lst [], .lst []] := by simp [S3]
  rw [eS, ev_seq, eA]
  dsimp only
  rw [ev_seq, eB]
  dsimp only
  show vD [x, x1, x2, x3, x4, x5, x6, some (.ob (S.length + 2)), none] S3 = _
  clear_value S3
  have hl5 : l5 = [.bl true, .bl false, .bl false, .bl true, .bl false] := rfl
  have hl5n : l5.length ≤ sizeLine := small_line (by show 5 ≤ 1000; omega)
  clear_value l5
  unfold vD
  generalize vC = C at *
  rw [← h3l] at heq
  rw [show S.length + 4 = S3.length + 1 by omega, show S.length + 5 = S3.length + 2 by omega] at hnil
  rw [show S.length + 2 = S.length + 2 from rfl] at *
  generalize S.length + 2 = n2 at *
  simp [Out.bnd, ← hl5, hl5n, heq, hc, hnil]
theorem law_run {ns : List Int} (h : ns.length ≤ 63) : ∃ S', Phi T G 115 i_law [.rl (ns.map D.int)] [] = .ok (.bl true) S' := by
  obtain ⟨e0, d0⟩ := begin_i (k := 113) h
  obtain ⟨fr', S', e, s, R, y2, y3, y4, y5, y6, h1, h2, h3⟩ := forL_nx (ok := (Src.mk (DL.upTo 0 7) []).ok) (t := gN 2) (b := uB (Phi T G 114)) (fun _ => noGuard) 64
    (fun n fr S => ∃ s R y2 y3 y4 y5 y6, fr = [some (.rl (ns.map D.int)), some (.ob 2), y2, y3, y4, y5, y6, none, none] ∧ S = dst (ns ++ [0]) s R ∧ Dr (n * 30000) (ns ++ [0]) s) (DL.upTo 0 7) (fun d _ n fr S hn hI => by
      obtain ⟨s, R, y2, y3, y4, y5, y6, rfl, rfl, hd⟩ := hI
      obtain ⟨s', R', z3, z4, z5, z6, d', e⟩ := turn_run hd (by omega) R (some (.rl (ns.map D.int))) (some d) y3 y4 y5 y6 none none
      exact ⟨_, _, _, rfl, .inl e, s', R', some d, z3, z4, z5, z6, rfl, rfl, by rw [Nat.succ_mul]; exact d'⟩)
    0 [some (.rl (ns.map D.int)), some (.ob 2), none, none, none, none, none, none, none] (dst (ns ++ [0]) ⟨0, 0, 0⟩ []) (by rw [upTo_len]; omega) ⟨_, _, _, _, _, _, _, rfl, rfl, by rw [Nat.zero_mul]; exact d0⟩
  subst h1 h2
  obtain ⟨fr2, V, e2⟩ := end_run (some (.rl (ns.map D.int))) (some (.ob 2)) y2 y3 y4 y5 y6 (dst (ns ++ [0]) s R)
  refine ⟨_, run_law (k := 114) (d0 := .rl (ns.map D.int)) (S' := dst (ns ++ [0]) s R ++ V) (r := .bl true) ?_ (gc_pure (S := []) (T := dst (ns ++ [0]) s R ++ V) rfl)⟩
  rw [b_law_eq]
  rw [show 113 + 1 = 114 from rfl] at e0
  have a1 : dSet 1 (dCall 1 (Phi T G 114 i_law_begin) (dACons (dVar 0) dANil)) [some (.rl (ns.map D.int)), none, none, none, none, none, none, none, none] [] = .ok .nx [some (.rl (ns.map D.int)), some (.ob 2), none, none, none, none, none, none, none] (dst (ns ++ [0]) ⟨0, 0, 0⟩ []) := by
    generalize Phi T G 114 = Φ at *
    simp [Out.bnd, e0, -List.map_append]
  have hr : dIRange1 (dACons (dC (.int 7)) dANil) [some (.rl (ns.map D.int)), some (.ob 2), none, none, none, none, none, none, none] (dst (ns ++ [0]) ⟨0, 0, 0⟩ []) = .ok ⟨DL.upTo 0 7, []⟩ (dst (ns ++ [0]) ⟨0, 0, 0⟩ []) := range1 (n := 7) (by simp [Out.bnd]) (by decide) (by decide)
  rw [ev_seq, a1]; dsimp only
  rw [ev_seq, ev_for, hr, ev_tok]
  dsimp only
  rw [e]
  dsimp only
  rw [e2]
  rfl
end
end K07

theorem PySem.Challenge.cw_borderkin_k07_terms_told_holds : PySem.Challenge.rw_borderkin_k07_terms_told.Holds := by
  exact K07.head fun _ h => K07.law_run h
