import PyProof.Rows.All
import Wide.All
import OpenK.AllK
import Wide.FinOn
import HandS.ForMost
import HandS.Exc
import HandS.ExcOwn
import HandS.WordsExc
import HandS.CallSlots
import HandS.ExcInit
import HandS.ExcValue
import HandS.Records
import HandS.Wide
import HandS.TupAny
import HandS.TupMul
import HandS.IsInst
import HandS.StrMore
import HandS.Style
import HandS.Iter
import HandS.Zip
import HandS.Text
import HandS.More
import PyProof.ListStr
import PyProof.DictTruth
import HandS.Small
import KE.KExcInit
import HandS.ExcIs
import PyProof.ExcClass
import KE.KExcIs
import HandS.ExcField
import HandS.TryOnly
import HandS.TryMany
import KE.KOpsOwn
import HandS.Property
import HandS.MakeKwOnly
import KE.GoesMore
import KE.GoesEnum
import PyProof.InstNe
import KE.KCallOwn
import HandS.FStr
import PyProof.CallStr
import HandS.SetTxt0
import HandS.SetFor
import HandS.Strs
import KE.KxText
import HandS.Codes
import HandS.HeadHook2
import PySem.Challenge.RW_pushalike_k01_words
set_option Elab.async false
set_option linter.all false
set_option maxRecDepth 100000
set_option maxHeartbeats 4000000
/-! Mi0: deep data, the store, what stands for what. -/
namespace Mi
open PySem PySem.Spec PyProof.Rows L2

/-- deep data; ref n: the n-th cell of the store -/
inductive D where
  | non | bl (b : Bool) | int (i : Int) | str (s : Str)
  | tup (l : List D) | lst (l : List D)
  | dct (ks : List Key) (l : List D)
  | ins (c : Str) (ks : List Str) (l : List D)
  | ref (n : Nat)
  | scr (ns : List Int)
  | exc (c : Str) (ks : List Str) (l : List D)
/-- a cell -/
inductive Ob where
  | lst (l : List D) | dct (ks : List Key) (l : List D) | ins (c : Str) (ks : List Str) (l : List D)
abbrev So := List (Option Ob)
structure Cm where
  cls : Str → Option Addr
  exc : Str → Option Addr
structure Ct where
  K : PySem.W.Frag
  cls : Str → Option Addr
  exc : Str → Option Addr
/-- where the cells stand; what is being made and shown to nobody yet -/
structure Am where
  p : Nat → Addr
  hid : Addr → Prop

/-- no live cell stands at a -/
def Off (m : Am) (S : So) (a : Addr) : Prop := ∀ (n : Nat) (o : Ob), S[n]? = some (some o) → m.p n ≠ a
def Free (m : Am) (S : So) (a : Addr) : Prop := Off m S a ∧ ¬ m.hid a

/-- a list that never changes: the script -/
def SqS (K : PySem.W.Frag) (H : Hp) (a : Addr) (xs : List V) : Prop :=
  (∃ o, H a = some (.frz o (.lst xs))) ∨
    ∃ (o : Obj) (its : Array Value) (n : Nat), K.lookup a = some o ∧ o.cls = .type "list" ∧ o.dict = none ∧ o.data = .seq its n ∧ its.size ≤ sizeLine ∧ Vals xs its.toList
theorem SqS.l {K : PySem.W.Frag} {H : Hp} {a : Addr} {xs : List V} (h : SqS K H a xs) : SqL K H a xs := by
  rcases h with ⟨o, h⟩ | h
  · exact .inl (.inr ⟨o, h⟩)
  · exact .inr h
mutual
def Rep (cm : Ct) (m : Am) (S : So) (H : Hp) : D → V → Prop
  | .non, v => v = .non
  | .bl b, v => v = .bl b
  | .int i, v => v = .int i
  | .str s, v => v = .str s
  | .tup l, v => ∃ a vs, v = .ref a ∧ SqT cm.K H a vs ∧ Reps cm m S H l vs
  | .lst l, v => ∃ a vs, v = .ref a ∧ H a = some (.lst vs) ∧ Free m S a ∧ Reps cm m S H l vs
  | .dct ks l, v => ∃ a kvs, v = .ref a ∧ Rd H a (.dK kvs) ∧ Free m S a ∧ kvs.map (·.1) = ks ∧ Reps cm m S H l (kvs.map (·.2))
  | .ins c ks l, v => ∃ a C dx fs, v = .ref a ∧ cm.cls c = some C ∧ H a = some (.ins C dx fs) ∧ Free m S a ∧ fs.map (·.1) = ks ∧ Reps cm m S H l (fs.map (·.2))
  | .ref n, v => n < S.length ∧ v = .ref (m.p n)
  | .scr ns, v => ∃ a, v = .ref a ∧ SqS cm.K H a (ns.map V.int)
  | .exc c ks l, v => ∃ a C, v = .ref a ∧ cm.exc c = some C ∧ Free m S a ∧ ((ks = [] ∧ l = [] ∧ H a = some (ExO (.ref C) a)) ∨
      ∃ d fs, H a = some (exo a C (some d)) ∧ H d = some (exd d fs) ∧ Free m S d ∧ fs.map (·.1) = ks ∧ Reps cm m S H l (fs.map (·.2)))
def Reps (cm : Ct) (m : Am) (S : So) (H : Hp) : List D → List V → Prop
  | [], vs => vs = []
  | d :: l, vs => ∃ v r, vs = v :: r ∧ Rep cm m S H d v ∧ Reps cm m S H l r
end

/-- what stands at a live cell's address -/
def ObAt (cm : Ct) (m : Am) (S : So) (H : Hp) (a : Addr) : Ob → Prop
  | .lst l => ∃ vs, H a = some (.lst vs) ∧ Reps cm m S H l vs
  | .dct ks l => ∃ kvs, H a = some (.dK kvs) ∧ kvs.map (·.1) = ks ∧ Reps cm m S H l (kvs.map (·.2))
  | .ins c ks l => ∃ C dx fs, cm.cls c = some C ∧ H a = some (.ins C dx fs) ∧ fs.map (·.1) = ks ∧ Reps cm m S H l (fs.map (·.2))

structure RelS (cm : Ct) (m : Am) (S : So) (H : Hp) : Prop where
  at_ : ∀ (n : Nat) (o : Ob), S[n]? = some (some o) → ObAt cm m S H (m.p n) o
  inj : ∀ (n k : Nat) (o u : Ob), S[n]? = some (some o) → S[k]? = some (some u) → m.p n = m.p k → n = k
  hid : ∀ a, m.hid a → H a ≠ none
  hoff : ∀ a, m.hid a → Off m S a

/-- at a there is o still; a dict may have been locked -/
def Sm (H' : Hp) (a : Addr) (o : HO) : Prop := H' a = some o ∨ ∃ kvs od, o = .dK kvs ∧ H' a = some (.frz od o)
theorem Sm.lst {H' : Hp} {a : Addr} {l : List V} (h : Sm H' a (.lst l)) : H' a = some (.lst l) := by
  rcases h with h | ⟨_, _, e, _⟩
  · exact h
  · cases e
theorem Sm.ins {H' : Hp} {a C d : Addr} {l : List (Str × V)} (h : Sm H' a (.ins C d l)) : H' a = some (.ins C d l) := by
  rcases h with h | ⟨_, _, e, _⟩
  · exact h
  · cases e
theorem Sm.ext {H' : Hp} {a : Addr} {φ : Heap → Prop} (h : Sm H' a (.ext φ)) : H' a = some (.ext φ) := by
  rcases h with h | ⟨_, _, e, _⟩
  · exact h
  · cases e
theorem Sm.rd {H' : Hp} {a : Addr} {l : List (Key × V)} (h : Sm H' a (.dK l)) : Rd H' a (.dK l) := by
  rcases h with h | ⟨_, od, e, h⟩
  · exact .inl h
  · exact .inr ⟨od, h⟩
/-- what a run may change -/
structure Adv (m : Am) (S : So) (H : Hp) (m' : Am) (S' : So) (H' : Hp) : Prop where
  len : S.length ≤ S'.length
  mm : ∀ n, n < S.length → m'.p n = m.p n
  al : ∀ (n : Nat) (o : Ob), S'[n]? = some (some o) → (n < S.length ∧ ∃ o0, S[n]? = some (some o0)) ∨ (S.length ≤ n ∧ H (m'.p n) = none)
  fr : ∀ a o, H a = some o → Off m S a → Sm H' a o
  tr : ∀ a, H a ≠ none → H' a ≠ none
  tp : ∀ a xs, H a = some (.tup xs) → H' a = some (.tup xs)
  fz : ∀ a o u, H a = some (.frz o u) → H' a = some (.frz o u)
  hd1 : ∀ a, m.hid a → m'.hid a
  hd2 : ∀ a, m'.hid a → m.hid a ∨ H a = none
  hd3 : ∀ a o, m.hid a → H a = some o → H' a = some o

section
variable {cm : Ct} {m m' m'' : Am} {S S' S'' : So} {H H' H'' : Hp}
theorem Adv.off (A : Adv m S H m' S' H') {a : Addr} {o : HO} (h : H a = some o) (f : Off m S a) : Off m' S' a := fun n u e z => by
  rcases A.al n u e with ⟨h1, o0, h2⟩ | ⟨_, h2⟩
  · exact f n o0 h2 (by rw [← A.mm n h1]; exact z)
  · rw [z, h] at h2
    cases h2
theorem Adv.free (A : Adv m S H m' S' H') {a : Addr} {o : HO} (h : H a = some o) (f : Free m S a) : Free m' S' a := ⟨A.off h f.1, fun z => (A.hd2 a z).elim f.2 fun q => by rw [q] at h; cases h⟩
theorem Adv.refl : Adv m S H m S H := ⟨Nat.le_refl _, fun _ _ => rfl, fun n o e => .inl ⟨(List.getElem?_eq_some_iff.mp e).1, o, e⟩, fun _ _ h _ => .inl h, fun _ h => h, fun _ _ h => h, fun _ _ _ h => h, fun _ h => h, fun _ h => .inl h, fun _ _ _ h => h⟩
theorem Adv.trans (A : Adv m S H m' S' H') (B : Adv m' S' H' m'' S'' H'') : Adv m S H m'' S'' H'' where
  len := Nat.le_trans A.len B.len
  mm := fun n h => (B.mm n (Nat.lt_of_lt_of_le h A.len)).trans (A.mm n h)
  al := fun n o e => by
    rcases B.al n o e with ⟨h1, o0, h2⟩ | ⟨h1, h2⟩
    · rcases A.al n o0 h2 with z | ⟨h3, h4⟩
      · exact .inl z
      · exact .inr ⟨h3, by rw [B.mm n h1]; exact h4⟩
    · refine .inr ⟨Nat.le_trans A.len h1, ?_⟩
      cases q : H (m''.p n) with
      | none => rfl
      | some o => exact absurd h2 (A.tr _ (by rw [q]; exact fun z => by cases z))
  fr := fun a o h f => by
    rcases A.fr a o h f with h' | ⟨kvs, od, e, h'⟩
    · exact B.fr a o h' (A.off h f)
    · exact .inr ⟨kvs, od, e, B.fz _ _ _ h'⟩
  tr := fun a h => B.tr a (A.tr a h)
  tp := fun a xs h => B.tp a xs (A.tp a xs h)
  fz := fun a o u h => B.fz a o u (A.fz a o u h)
  hd1 := fun a h => B.hd1 a (A.hd1 a h)
  hd2 := fun a h => by
    rcases B.hd2 a h with z | z
    · exact A.hd2 a z
    · refine .inr ?_
      cases q : H a with
      | none => rfl
      | some o => exact absurd z (A.tr a (by rw [q]; exact fun z => by cases z))
  hd3 := fun a o h e => B.hd3 a o (A.hd1 a h) (A.hd3 a o h e)
/-- the heap grows, the store stays -/
theorem Adv.grow (k : ∀ a o, H a = some o → H' a = some o) : Adv m S H m S H' where
  len := Nat.le_refl _
  mm := fun _ _ => rfl
  al := fun n o e => .inl ⟨(List.getElem?_eq_some_iff.mp e).1, o, e⟩
  fr := fun a o h _ => .inl (k a o h)
  tr := fun a h z => by
    cases q : H a with
    | none => exact h q
    | some o => rw [k a o q] at z; cases z
  tp := fun a xs h => k a _ h
  fz := fun a o u h => k a _ h
  hd1 := fun _ h => h
  hd2 := fun _ h => .inl h
  hd3 := fun a o _ e => k a o e
theorem grow_upd {p : Addr} {o : HO} (h : H p = none) : ∀ a u, H a = some u → (upd H p o) a = some u := fun a u e => by
  rw [upd_ne (ne_of_none e h)]
  exact e
theorem Adv.new {p : Addr} {o : HO} (h : H p = none) : Adv m S H m S (upd H p o) := Adv.grow (grow_upd h)
theorem SqT.adv {K : PySem.W.Frag} (A : Adv m S H m' S' H') {a : Addr} {xs : List V} (h : SqT K H a xs) : SqT K H' a xs := by
  rcases h with (h | ⟨o, h⟩) | h
  · exact .inl (.inl (A.tp _ _ h))
  · exact .inl (.inr ⟨o, A.fz _ _ _ h⟩)
  · exact .inr h
theorem SqS.adv {K : PySem.W.Frag} (A : Adv m S H m' S' H') {a : Addr} {xs : List V} (h : SqS K H a xs) : SqS K H' a xs := by
  rcases h with ⟨o, h⟩ | h
  · exact .inl ⟨o, A.fz _ _ _ h⟩
  · exact .inr h
/-- what keeps every representation -/
structure Kp (m : Am) (S : So) (H : Hp) (m' : Am) (S' : So) (H' : Hp) : Prop where
  ob : ∀ a o, H a = some o → Free m S a → Sm H' a o ∧ Free m' S' a
  tp : ∀ a xs, H a = some (.tup xs) → H' a = some (.tup xs)
  fz : ∀ a o u, H a = some (.frz o u) → H' a = some (.frz o u)
  len : S.length ≤ S'.length
  mm : ∀ n, n < S.length → m'.p n = m.p n
theorem Adv.kp (A : Adv m S H m' S' H') : Kp m S H m' S' H' := ⟨fun a o h f => ⟨A.fr a o h f.1, A.free h f⟩, A.tp, A.fz, A.len, A.mm⟩
theorem Kp.sqT {K : PySem.W.Frag} (A : Kp m S H m' S' H') {a : Addr} {xs : List V} (h : SqT K H a xs) : SqT K H' a xs := by
  rcases h with (h | ⟨o, h⟩) | h
  · exact .inl (.inl (A.tp _ _ h))
  · exact .inl (.inr ⟨o, A.fz _ _ _ h⟩)
  · exact .inr h
theorem Kp.sqS {K : PySem.W.Frag} (A : Kp m S H m' S' H') {a : Addr} {xs : List V} (h : SqS K H a xs) : SqS K H' a xs := by
  rcases h with ⟨o, h⟩ | h
  · exact .inl ⟨o, A.fz _ _ _ h⟩
  · exact .inr h
mutual
theorem Rep.kp (A : Kp m S H m' S' H') : ∀ (d : D) (v : V), Rep cm m S H d v → Rep cm m' S' H' d v
  | .non, _, h => h
  | .bl _, _, h => h
  | .int _, _, h => h
  | .str _, _, h => h
  | .tup l, v, h => by
    simp only [Rep] at h ⊢
    obtain ⟨a, vs, e, h1, h3⟩ := h
    exact ⟨a, vs, e, A.sqT h1, Reps.kp A l vs h3⟩
  | .lst l, v, h => by
    simp only [Rep] at h ⊢
    obtain ⟨a, vs, e, h1, h2, h3⟩ := h
    exact ⟨a, vs, e, (A.ob _ _ h1 h2).1.lst, (A.ob _ _ h1 h2).2, Reps.kp A l vs h3⟩
  | .dct ks l, v, h => by
    simp only [Rep] at h ⊢
    obtain ⟨a, kvs, e, h1, h2, h3, h4⟩ := h
    rcases h1 with h1 | ⟨o, h1⟩
    · exact ⟨a, kvs, e, (A.ob _ _ h1 h2).1.rd, (A.ob _ _ h1 h2).2, h3, Reps.kp A l _ h4⟩
    · exact ⟨a, kvs, e, .inr ⟨o, A.fz _ _ _ h1⟩, (A.ob _ _ h1 h2).2, h3, Reps.kp A l _ h4⟩
  | .ins c ks l, v, h => by
    simp only [Rep] at h ⊢
    obtain ⟨a, C, dx, fs, e, hc, h1, h2, h3, h4⟩ := h
    exact ⟨a, C, dx, fs, e, hc, (A.ob _ _ h1 h2).1.ins, (A.ob _ _ h1 h2).2, h3, Reps.kp A l _ h4⟩
  | .ref n, v, h => by
    simp only [Rep] at h ⊢
    exact ⟨Nat.lt_of_lt_of_le h.1 A.len, by rw [A.mm n h.1]; exact h.2⟩
  | .scr ns, v, h => by
    simp only [Rep] at h ⊢
    obtain ⟨a, e, h1⟩ := h
    exact ⟨a, e, A.sqS h1⟩
  | .exc c ks l, v, h => by
    simp only [Rep] at h ⊢
    obtain ⟨a, C, e, hc, f, h | ⟨d, fs, h1, h2, f2, h3, h4⟩⟩ := h
    · exact ⟨a, C, e, hc, (A.ob _ _ h.2.2 f).2, .inl ⟨h.1, h.2.1, (A.ob _ _ h.2.2 f).1.ext⟩⟩
    · exact ⟨a, C, e, hc, (A.ob _ _ h1 f).2, .inr ⟨d, fs, (A.ob _ _ h1 f).1.ext, (A.ob _ _ h2 f2).1.ext, (A.ob _ _ h2 f2).2, h3, Reps.kp A l _ h4⟩⟩
theorem Reps.kp (A : Kp m S H m' S' H') : ∀ (l : List D) (vs : List V), Reps cm m S H l vs → Reps cm m' S' H' l vs
  | [], _, h => h
  | d :: l, vs, h => by
    simp only [Reps] at h ⊢
    obtain ⟨v, r, e, h1, h2⟩ := h
    exact ⟨v, r, e, Rep.kp A d v h1, Reps.kp A l r h2⟩
end
theorem Rep.adv (A : Adv m S H m' S' H') (d : D) (v : V) (h : Rep cm m S H d v) : Rep cm m' S' H' d v := Rep.kp A.kp d v h
theorem Reps.adv (A : Adv m S H m' S' H') (l : List D) (v : List V) (h : Reps cm m S H l v) : Reps cm m' S' H' l v := Reps.kp A.kp l v h
theorem Reps.length : ∀ {l : List D} {vs : List V}, Reps cm m S H l vs → l.length = vs.length
  | [], vs, h => by simp only [Reps] at h; subst h; rfl
  | d :: l, vs, h => by
    simp only [Reps] at h
    obtain ⟨v, r, rfl, _, h2⟩ := h
    simp only [List.length_cons]
    rw [Reps.length h2]
theorem Reps.get : ∀ {l : List D} {vs : List V} {i : Nat} {d : D}, Reps cm m S H l vs → l[i]? = some d → ∃ v, vs[i]? = some v ∧ Rep cm m S H d v
  | [], _, _, _, _, e => by simp at e
  | d :: l, vs, 0, x, h, e => by
    simp only [Reps] at h
    obtain ⟨v, r, rfl, h1, _⟩ := h
    simp at e
    subst e
    exact ⟨v, rfl, h1⟩
  | d :: l, vs, i + 1, x, h, e => by
    simp only [Reps] at h
    obtain ⟨v, r, rfl, _, h2⟩ := h
    obtain ⟨w, e1, e2⟩ := Reps.get (i := i) h2 (by simpa using e)
    exact ⟨w, by simpa using e1, e2⟩
theorem Reps.get' : ∀ {l : List D} {vs : List V} {i : Nat} {v : V}, Reps cm m S H l vs → vs[i]? = some v → ∃ d, l[i]? = some d ∧ Rep cm m S H d v := fun {l vs i v} h e => by
  have hl := h.length
  have hi : i < l.length := by rw [hl]; exact (List.getElem?_eq_some_iff.mp e).1
  obtain ⟨w, e1, r⟩ := h.get (List.getElem?_eq_getElem hi)
  rw [e] at e1
  cases e1
  exact ⟨_, List.getElem?_eq_getElem hi, r⟩
theorem Reps.nil : Reps cm m S H [] [] := by simp only [Reps]
theorem Reps.cons {d : D} {v : V} {l : List D} {vs : List V} (h : Rep cm m S H d v) (t : Reps cm m S H l vs) : Reps cm m S H (d :: l) (v :: vs) := by
  simp only [Reps]
  exact ⟨v, vs, rfl, h, t⟩
theorem Reps.append : ∀ {l k : List D} {vs ws : List V}, Reps cm m S H l vs → Reps cm m S H k ws → Reps cm m S H (l ++ k) (vs ++ ws)
  | [], k, vs, ws, h, t => by simp only [Reps] at h; subst h; exact t
  | d :: l, k, vs, ws, h, t => by
    simp only [Reps] at h
    obtain ⟨v, r, rfl, h1, h2⟩ := h
    exact Reps.cons h1 (Reps.append h2 t)
theorem Reps.take : ∀ {l : List D} {vs : List V} (n : Nat), Reps cm m S H l vs → Reps cm m S H (l.take n) (vs.take n)
  | _, _, 0, _ => by simp [Reps]
  | [], vs, n + 1, h => by simp only [Reps] at h; subst h; simp [Reps]
  | d :: l, vs, n + 1, h => by
    simp only [Reps] at h
    obtain ⟨v, r, rfl, h1, h2⟩ := h
    exact Reps.cons h1 (Reps.take n h2)
theorem Reps.drop : ∀ {l : List D} {vs : List V} (n : Nat), Reps cm m S H l vs → Reps cm m S H (l.drop n) (vs.drop n)
  | _, _, 0, h => h
  | [], vs, n + 1, h => by simp only [Reps] at h; subst h; simp [Reps]
  | d :: l, vs, n + 1, h => by
    simp only [Reps] at h
    obtain ⟨v, r, rfl, h1, h2⟩ := h
    exact Reps.drop n h2
theorem Reps.set : ∀ {l : List D} {vs : List V} {d : D} {v : V} (n : Nat), Reps cm m S H l vs → Rep cm m S H d v → Reps cm m S H (l.set n d) (vs.set n v)
  | [], vs, _, _, n, h, _ => by simp only [Reps] at h; subst h; simp [Reps]
  | d :: l, vs, _, _, 0, h, t => by
    simp only [Reps] at h
    obtain ⟨v, r, rfl, h1, h2⟩ := h
    exact Reps.cons t h2
  | d :: l, vs, _, _, n + 1, h, t => by
    simp only [Reps] at h
    obtain ⟨v, r, rfl, h1, h2⟩ := h
    exact Reps.cons h1 (Reps.set n h2 t)
theorem Reps.eraseIdx : ∀ {l : List D} {vs : List V} (n : Nat), Reps cm m S H l vs → Reps cm m S H (l.eraseIdx n) (vs.eraseIdx n)
  | [], vs, n, h => by simp only [Reps] at h; subst h; simp [Reps]
  | d :: l, vs, 0, h => by
    simp only [Reps] at h
    obtain ⟨v, r, rfl, h1, h2⟩ := h
    exact h2
  | d :: l, vs, n + 1, h => by
    simp only [Reps] at h
    obtain ⟨v, r, rfl, h1, h2⟩ := h
    exact Reps.cons h1 (Reps.eraseIdx n h2)
theorem Reps.reverse : ∀ {l : List D} {vs : List V}, Reps cm m S H l vs → Reps cm m S H l.reverse vs.reverse
  | [], vs, h => by simp only [Reps] at h; subst h; simp [Reps]
  | d :: l, vs, h => by
    simp only [Reps] at h
    obtain ⟨v, r, rfl, h1, h2⟩ := h
    rw [List.reverse_cons, List.reverse_cons]
    exact (Reps.reverse h2).append (Reps.cons h1 Reps.nil)

/-- the store stands where its own objects do -/
theorem ObAt.kp (A : Kp m S H m' S' H') {a : Addr} {o : Ob} (h : ObAt cm m S H a o) (e : H' a = H a) : ObAt cm m' S' H' a o := by
  cases o with
  | lst l =>
    obtain ⟨vs, h1, h2⟩ := h
    exact ⟨vs, by rw [e]; exact h1, Reps.kp A l vs h2⟩
  | dct ks l =>
    obtain ⟨kvs, h1, h2, h3⟩ := h
    exact ⟨kvs, by rw [e]; exact h1, h2, Reps.kp A l _ h3⟩
  | ins c ks l =>
    obtain ⟨C, dx, fs, hc, h1, h2, h3⟩ := h
    exact ⟨C, dx, fs, hc, by rw [e]; exact h1, h2, Reps.kp A l _ h3⟩
/-- the store stands over a grown heap -/
theorem RelS.adv (R : RelS cm m S H) (A : Adv m S H m S H') (k : ∀ (n : Nat) (o : Ob), S[n]? = some (some o) → H' (m.p n) = H (m.p n)) : RelS cm m S H' := by
  refine ⟨fun n o e => ?_, R.inj, fun a h => A.tr a (R.hid a h), R.hoff⟩
  have h := R.at_ n o e
  cases o with
  | lst l =>
    obtain ⟨vs, h1, h2⟩ := h
    exact ⟨vs, by rw [k n _ e]; exact h1, Reps.adv A l vs h2⟩
  | dct ks l =>
    obtain ⟨kvs, h1, h2, h3⟩ := h
    exact ⟨kvs, by rw [k n _ e]; exact h1, h2, Reps.adv A l _ h3⟩
  | ins c ks l =>
    obtain ⟨C, dx, fs, hc, h1, h2, h3⟩ := h
    exact ⟨C, dx, fs, hc, by rw [k n _ e]; exact h1, h2, Reps.adv A l _ h3⟩
theorem RelS.there (R : RelS cm m S H) {n : Nat} {o : Ob} (e : S[n]? = some (some o)) : ∃ u, H (m.p n) = some u := by
  have h := R.at_ n o e
  cases o with
  | lst l => obtain ⟨vs, h1, _⟩ := h; exact ⟨_, h1⟩
  | dct ks l => obtain ⟨vs, h1, _⟩ := h; exact ⟨_, h1⟩
  | ins c ks l => obtain ⟨C, dx, fs, hc, h1, _⟩ := h; exact ⟨_, h1⟩
theorem RelS.grow (R : RelS cm m S H) (k : ∀ a o, H a = some o → H' a = some o) : RelS cm m S H' :=
  R.adv (Adv.grow k) fun n o e => by
    obtain ⟨u, h⟩ := R.there e
    rw [h, k _ _ h]
theorem RelS.off_new (R : RelS cm m S H) {p : Addr} (h : H p = none) : Off m S p := fun n o e z => by
  obtain ⟨u, q⟩ := R.there e
  rw [z, h] at q
  cases q
theorem RelS.free_new (R : RelS cm m S H) {p : Addr} (h : H p = none) : Free m S p := ⟨R.off_new h, fun z => R.hid p z h⟩
end
end Mi

/-! Mi1: runs, judgements, the small rules. -/
namespace Mi
open PySem PySem.Spec PyProof.Rows L2

abbrev St := L2.St
structure Ex where
  c : Str
  ks : List Str
  l : List D
abbrev En := List (Option D)
/-- what a run gives -/
inductive R (α : Type) where
  | ok (a : α) (s : So) | err (x : Ex) (en : En) (s : So) | bad
def R.bind {α β : Type} (r : R α) (k : α → So → R β) : R β := match r with
  | .ok a s => k a s
  | .err x en s => .err x en s
  | .bad => .bad
@[simp] theorem R.bind_ok {α β : Type} (a : α) (s : So) (k : α → So → R β) : (R.ok a s).bind k = k a s := rfl
@[simp] theorem R.bind_err {α β : Type} (x : Ex) (en : En) (s : So) (k : α → So → R β) : (R.err x en s : R α).bind k = .err x en s := rfl
@[simp] theorem R.bind_bad {α β : Type} (k : α → So → R β) : (R.bad : R α).bind k = .bad := rfl
/-- of a partial operation -/
def R.of {α : Type} (o : Option (α × So)) : R α := match o with
  | some (a, s) => .ok a s
  | none => .bad
@[simp] theorem R.of_some {α : Type} (a : α) (s : So) : R.of (some (a, s)) = .ok a s := rfl
@[simp] theorem R.of_none {α : Type} : (R.of none : R α) = .bad := rfl
/-- an expression -/
abbrev E (α : Type) := En → So → R α

structure Cond (cm : Ct) (m : Am) (S : So) (H : Hp) (σ : St) (en : En) : Prop where
  rel : RelS cm m S H
  len : en.length = σ.length
  env : ∀ (i : Nat) (d : D), en[i]? = some (some d) → ∃ v, σ[i]? = some (some v) ∧ Rep cm m S H d v

def RepX (cm : Ct) (m : Am) (S : So) (H : Hp) (x : Ex) (cls : Value) (dd : Option Addr) : Prop :=
  ∃ C, cm.exc x.c = some C ∧ cls = .ref C ∧ ((dd = none ∧ x.ks = [] ∧ x.l = []) ∨
    ∃ d fs, dd = some d ∧ H d = some (.xd fs) ∧ Free m S d ∧ fs.map (·.1) = x.ks ∧ Reps cm m S H x.l (fs.map (·.2)))

abbrev Rp (α β : Type) := Am → So → Hp → α → β → Prop
def rB : Rp Bool Bool := fun _ _ _ a b => a = b
def rO : Rp (Option Int) (Option Int) := fun _ _ _ a b => a = b

def PQ {α β : Type} (rp : Rp α β) (cm : Ct) (m : Am) (S : So) (H : Hp) (σ : St) (W : WX) (r : R α) (Q : β → Hp → Prop) : Prop := match r with
  | .ok a S' => ∀ v m' H', Adv m S H m' S' H' → RelS cm m' S' H' → rp m' S' H' a v → Q v H'
  | .err x en' S' => ∀ cls dd m' H', Adv m S H m' S' H' → Cond cm m' S' H' σ en' → RepX cm m' S' H' x cls dd → W cls dd σ H'
  | .bad => False

section
variable {α β γ δ : Type} {cm : Ct} {m m1 : Am} {S S1 : So} {H H1 : Hp} {σ : St} {en : En} {W : WX}
theorem Cond.adv (C : Cond cm m S H σ en) (A : Adv m S H m1 S1 H1) (R : RelS cm m1 S1 H1) : Cond cm m1 S1 H1 σ en :=
  ⟨R, C.len, fun i d e => let ⟨v, h1, h2⟩ := C.env i d e; ⟨v, h1, Rep.adv A d v h2⟩⟩
theorem PQ.after {rp : Rp α β} {r : R α} {Q : β → Hp → Prop} (A : Adv m S H m1 S1 H1) (h : PQ rp cm m S H σ W r Q) : PQ rp cm m1 S1 H1 σ W r Q := by
  cases r with
  | ok a S' => exact fun v m' H' A' => h v m' H' (A.trans A')
  | err x en' S' => exact fun c d m' H' A' => h c d m' H' (A.trans A')
  | bad => exact h
theorem PQ.bind {rp1 : Rp α γ} {rp2 : Rp β δ} {r : R α} {k : α → So → R β} {Q : δ → Hp → Prop} {Q1 : γ → Hp → Prop} (h : PQ rp2 cm m S H σ W (r.bind k) Q)
    (hk : ∀ a S1 x m1 H1, r = .ok a S1 → Adv m S H m1 S1 H1 → RelS cm m1 S1 H1 → rp1 m1 S1 H1 a x → PQ rp2 cm m1 S1 H1 σ W (k a S1) Q → Q1 x H1) : PQ rp1 cm m S H σ W r Q1 := by
  cases r with
  | ok a S' => exact fun v m' H' A Rl rp => hk a S' v m' H' rfl A Rl rp (PQ.after A h)
  | err x en' S' => exact h
  | bad => exact h
theorem PQ.now {rp : Rp α β} {a : α} {v : β} {Q : β → Hp → Prop} (h : PQ rp cm m S H σ W (.ok a S) Q) (R : RelS cm m S H) (q : rp m S H a v) : Q v H := h v m H Adv.refl R q
theorem PQ.grown {rp : Rp α β} {a : α} {v : β} {Q : β → Hp → Prop} (h : PQ rp cm m S H σ W (.ok a S) Q) (R : RelS cm m S H) (k : ∀ a o, H a = some o → H1 a = some o) (q : RelS cm m S H1 → rp m S H1 a v) : Q v H1 :=
  h v m H1 (Adv.grow k) (R.grow k) (q (R.grow k))
end

/-! ### the weakest readings -/
def wE (X : Cx) (e : Expr) : TE := fun σ H Q => ∀ pins s, Inv X pins σ H s → wpAny (model X.prog X.w) X.A (eval e X.env) (EP X pins σ Q) X.xe s
def wT (X : Cx) (e : Expr) : TT := fun σ H Q => ∀ pins s, Inv X pins σ H s → wpAny (model X.prog X.w) X.A (isTrue e X.env (eval e X.env)) (TP X pins σ Q) X.xe s
def wW (X : Cx) (e : Expr) : TT := fun σ H Q => ∀ whole pins s, Inv X pins σ H s → wpAny (model X.prog X.w) X.A (isTrue e X.env whole) (TP X pins σ Q) X.xe s
def wA (X : Cx) (es : List Expr) : TA := fun σ H Q => ∀ pos pins s, Inv X pins σ H s → wpAny (model X.prog X.w) X.A (spliced (backTo pos (starEach es X.env))) (AP X pins σ Q) X.xe s
theorem pe_w {X : Cx} {e : Expr} : PE X e (wE X e) := ⟨fun pins s _ _ _ I h => h pins s I⟩
theorem pt_w {X : Cx} {e : Expr} : PT X e (wT X e) := ⟨fun pins s _ _ _ I h => h pins s I⟩
theorem pw_w {X : Cx} {e : Expr} : PW X e (wW X e) := ⟨fun wh pins s _ _ _ I h => h wh pins s I⟩
theorem pa_w {X : Cx} {es : List Expr} : PA X es (wA X es) := ⟨fun pos pins s _ _ _ I h => h pos pins s I⟩
section
variable {X : Cx} {σ : St} {H : Hp}
theorem wE_of {e : Expr} {t : TE} {Q : VK} (h : PE X e t) (q : t σ H Q) : wE X e σ H Q := fun pins s I => h.run pins s σ H Q I q
theorem wT_of {e : Expr} {t : TT} {Q : Bool → Hp → Prop} (h : PT X e t) (q : t σ H Q) : wT X e σ H Q := fun pins s I => h.run pins s σ H Q I q
theorem wW_of {e : Expr} {t : TT} {Q : Bool → Hp → Prop} (h : PW X e t) (q : t σ H Q) : wW X e σ H Q := fun wh pins s I => h.run wh pins s σ H Q I q
theorem wA_of {es : List Expr} {t : TA} {Q : List V → Hp → Prop} (h : PA X es t) (q : t σ H Q) : wA X es σ H Q := fun pos pins s I => h.run pos pins s σ H Q I q
end

/-! ### judgements -/
abbrev ct (X : Cx) (cm : Cm) : Ct := ⟨X.K, cm.cls, cm.exc⟩
def RE (cm : Cm) (X : Cx) (e : Expr) (f : E D) : Prop := ∀ W, Takes X W → ∀ m S H σ en Q, Cond (ct X cm) m S H σ en → PQ (Rep (ct X cm)) (ct X cm) m S H σ W (f en S) Q → wE X e σ H Q
def RT (cm : Cm) (X : Cx) (e : Expr) (f : E Bool) : Prop := ∀ W, Takes X W → ∀ m S H σ en Q, Cond (ct X cm) m S H σ en → PQ rB (ct X cm) m S H σ W (f en S) Q → wT X e σ H Q
def RW (cm : Cm) (X : Cx) (e : Expr) (f : E Bool) : Prop := ∀ W, Takes X W → ∀ m S H σ en Q, Cond (ct X cm) m S H σ en → PQ rB (ct X cm) m S H σ W (f en S) Q → wW X e σ H Q
def RA (cm : Cm) (X : Cx) (es : List Expr) (f : E (List D)) : Prop := ∀ W, Takes X W → ∀ m S H σ en Q, Cond (ct X cm) m S H σ en → PQ (Reps (ct X cm)) (ct X cm) m S H σ W (f en S) Q → wA X es σ H Q

/-! ### names and constants -/
def mV (i : Nat) : E D := fun en S => match en[i]? with
  | some (some d) => .ok d S
  | _ => .bad
def mC (d : D) : E D := fun _ S => .ok d S
section
variable {cm : Cm} {X : Cx} {pos : Pos}
theorem re_v (i : Nat) {x : Str} (hN : X.N[i]? = some x := by rfl) (hv : Vis X.env.scope x := by first | exact Or.inl rfl | exact Or.inr (Or.inl rfl) | exact Or.inr (Or.inr rfl)) (hd : (x == ("__debug__" : Str)) = false := by decide)
    (hcd : (x == ("__classdict__" : Str)) = false := by decide) : RE cm X (.Name x pos) (mV i) := fun W tk m S H σ en Q C h => by
  refine wE_of (pe_var hN hv hd hcd) ?_
  unfold mV at h
  split at h
  · rename_i d e
    obtain ⟨v, h1, h2⟩ := C.env i d e
    exact ⟨v, h1, h.now C.rel h2⟩
  · exact h.elim
theorem re_int {i j} : RE cm X (.Constant (.int i) j pos) (mC (.int i)) := fun W tk m S H σ en Q C h => wE_of pe_int (h.now C.rel (by simp only [Rep]))
theorem re_bl {b j} : RE cm X (.Constant (.bool b) j pos) (mC (.bl b)) := fun W tk m S H σ en Q C h => wE_of pe_bl (h.now C.rel (by simp only [Rep]))
theorem re_non {j} : RE cm X (.Constant .none j pos) (mC .non) := fun W tk m S H σ en Q C h => wE_of pe_non (h.now C.rel (by simp only [Rep]))
theorem re_str {x j} : RE cm X (.Constant (.str x) j pos) (mC (.str x)) := fun W tk m S H σ en Q C h => wE_of pe_str (h.now C.rel (by simp only [Rep]))
/-- a constant of the module: an int, a text -/
theorem re_gint {x : Str} {i : Int} {t : Tok} (hg : Gl X x) (hm : X.mg x = some (.int i t)) (hd : (x == ("__debug__" : Str)) = false := by decide) : RE cm X (.Name x pos) (mC (.int i)) := fun W tk m S H σ en Q C h =>
  wE_of (pe_glob (v := .int i) hg hm ⟨_, rfl⟩ hd) (h.now C.rel (by simp only [Rep]))
theorem re_gstr {x y : Str} {t : Tok} (hg : Gl X x) (hm : X.mg x = some (.str y t)) (hd : (x == ("__debug__" : Str)) = false := by decide) : RE cm X (.Name x pos) (mC (.str y)) := fun W tk m S H σ en Q C h =>
  wE_of (pe_glob (v := .str y) hg hm ⟨_, rfl⟩ hd) (h.now C.rel (by simp only [Rep]))
end

/-! ### operators -/
/-- what a pure operation gives -/
abbrev Op1 := D → So → Option (D × So)
abbrev Op2 := D → D → So → Option (D × So)
def POk {α β : Type} (rp : Rp α β) (cm : Ct) (m : Am) (S : So) (H : Hp) (o : Option (α × So)) (Q : β → Hp → Prop) : Prop := ∀ σ W, PQ rp cm m S H σ W (R.of o) Q
def wO2 (X : Cx) (f : Value → Value → Sem Value) : R2 := fun x y H Q => ∀ pins s σ v u, Inv X pins σ H s → RelV x v → RelV y u → wpAny (model X.prog X.w) X.A (f v u) (EP X pins σ Q) X.xe s
def wO1 (X : Cx) (f : Value → Sem Value) : V → Hp → VK → Prop := fun x H Q => ∀ pins s σ v, Inv X pins σ H s → RelV x v → wpAny (model X.prog X.w) X.A (f v) (EP X pins σ Q) X.xe s
theorem op_w {X : Cx} {f : Value → Value → Sem Value} : OpR X f (wO2 X f) := fun pins s σ H x y v u Q I rx ry h => h pins s σ v u I rx ry
theorem un_w {X : Cx} {f : Value → Sem Value} : UnR X f (wO1 X f) := fun pins s σ H x v Q I rx h => h pins s σ v I rx
theorem wO2_of {X : Cx} {f : Value → Value → Sem Value} {r : R2} {x y : V} {H : Hp} {Q : VK} (h : OpR X f r) (q : r x y H Q) : wO2 X f x y H Q := fun pins s σ v u I rx ry => h pins s σ H x y v u Q I rx ry q
theorem wO1_of {X : Cx} {f : Value → Sem Value} {r : V → Hp → VK → Prop} {x : V} {H : Hp} {Q : VK} (h : UnR X f r) (q : r x H Q) : wO1 X f x H Q := fun pins s σ v I rx => h pins s σ H x v Q I rx q
def OpD (cm : Cm) (X : Cx) (f : Value → Value → Sem Value) (g : Op2) : Prop := ∀ m S H a b x y Q, RelS (ct X cm) m S H → Rep (ct X cm) m S H a x → Rep (ct X cm) m S H b y → POk (Rep (ct X cm)) (ct X cm) m S H (g a b S) Q → wO2 X f x y H Q
def UnD (cm : Cm) (X : Cx) (f : Value → Sem Value) (g : Op1) : Prop := ∀ m S H a x Q, RelS (ct X cm) m S H → Rep (ct X cm) m S H a x → POk (Rep (ct X cm)) (ct X cm) m S H (g a S) Q → wO1 X f x H Q
def m2 (g : Op2) (fa fb : E D) : E D := fun en S => (fa en S).bind fun a S1 => (fb en S1).bind fun b S2 => R.of (g a b S2)
def m1 (g : Op1) (fa : E D) : E D := fun en S => (fa en S).bind fun a S1 => R.of (g a S1)
section
variable {α β : Type} {cm : Ct} {m : Am} {S : So} {H : Hp} {rp : Rp α β} {Q : β → Hp → Prop}
theorem PQ.pok {σ : St} {W : WX} {o : Option (α × So)} (h : PQ rp cm m S H σ W (R.of o) Q) : POk rp cm m S H o Q := fun σ' W' => by
  cases o with
  | none => exact h
  | some p => exact h
theorem POk.no (h : POk rp cm m S H none Q) : False := h [] (fun _ _ _ _ => False)
theorem POk.at {a : α} {S' : So} {v : β} {m' : Am} {H' : Hp} (h : POk rp cm m S H (some (a, S')) Q) (A : Adv m S H m' S' H') (R : RelS cm m' S' H') (q : rp m' S' H' a v) : Q v H' := h [] (fun _ _ _ _ => False) v m' H' A R q
theorem POk.now {a : α} {v : β} (h : POk rp cm m S H (some (a, S)) Q) (R : RelS cm m S H) (q : rp m S H a v) : Q v H := h.at Adv.refl R q
end
section
variable {cm : Cm} {X : Cx} {pos : Pos} {a b : Expr} {fa fb : E D}
theorem re_op {op : Operator} {g : Op2} (ho : OpD cm X (binaryOp op) g) (ha : RE cm X a fa) (hb : RE cm X b fb) : RE cm X (.BinOp a op b pos) (m2 g fa fb) := fun W tk m S H σ en Q C h => by
  refine wE_of (pe_op op_w pe_w pe_w) ?_
  refine ha W tk m S H σ en _ C (PQ.bind h fun da S1 x m1 H1 e1 A1 R1 r1 h1 => ?_)
  refine hb W tk m1 S1 H1 σ en _ (C.adv A1 R1) (PQ.bind h1 fun db S2 y m2 H2 e2 A2 R2 r2 h2 => ?_)
  exact ho m2 S2 H2 da db x y Q R2 (Rep.adv A2 _ _ r1) r2 h2.pok
theorem re_un {op : UnaryOp} {g : Op1} (ho : UnD cm X (unaryOp op) g) (ha : RE cm X a fa) : RE cm X (.UnaryOp op a pos) (m1 g fa) := fun W tk m S H σ en Q C h => by
  refine wE_of (pe_un un_w pe_w) ?_
  refine ha W tk m S H σ en _ C (PQ.bind h fun da S1 x m1 H1 e1 A1 R1 r1 h1 => ?_)
  exact ho m1 S1 H1 da x Q R1 r1 h1.pok
/-- a comparison -/
theorem re_cmp {op : CmpOp} {g : Op2} (ho : OpD cm X (compareOp op) g) (ha : RE cm X a fa) (hb : RE cm X b fb) (hm : behindInMarks op b = false) : RE cm X (.Compare a [op] [b] pos) (m2 g fa fb) := fun W tk m S H σ en Q C h => by
  refine wE_of (pe_cmpR op_w pe_w pe_w hm) ?_
  refine ha W tk m S H σ en _ C (PQ.bind h fun da S1 x m1 H1 e1 A1 R1 r1 h1 => ?_)
  refine hb W tk m1 S1 H1 σ en _ (C.adv A1 R1) (PQ.bind h1 fun db S2 y m2 H2 e2 A2 R2 r2 h2 => ?_)
  exact ho m2 S2 H2 da db x y Q R2 (Rep.adv A2 _ _ r1) r2 h2.pok
end

/-! ### tests -/
/-- a bool's own -/
def asB (d : D) (S : So) : Option (Bool × So) := match d with
  | .bl b => some (b, S)
  | _ => none
def tB' (fa : E D) : E Bool := fun en S => (fa en S).bind fun a S1 => R.of (asB a S1)
/-- truth -/
def truD (d : D) (S : So) : Option Bool := match d with
  | .non => some false
  | .bl b => some b
  | .int i => some (i != 0)
  | .str y => if y.length ≤ sizeLine then some ((y.length : Int) != 0) else none
  | .tup l => some (!l.isEmpty)
  | .lst l => some (!l.isEmpty)
  | .dct ks _ => some (!ks.isEmpty)
  | .ref n => match S[n]? with
    | some (some (.lst l)) => some (!l.isEmpty)
    | some (some (.dct ks _)) => some (!ks.isEmpty)
    | _ => none
  | _ => none
def tTru (fa : E D) : E Bool := fun en S => (fa en S).bind fun a S1 => match truD a S1 with
  | some b => .ok b S1
  | none => .bad
theorem empty_of {cm : Ct} {m : Am} {S : So} {H : Hp} {l : List D} {vs : List V} (h : Reps cm m S H l vs) : l.isEmpty = vs.isEmpty := by
  have e := h.length
  cases l <;> cases vs <;> simp_all
/-- .. a locked dict too -/
def TruV2 (K : PySem.W.Frag) (x : V) (H : Hp) (k : Bool) : Prop := TruV K x H k ∨ ∃ p kvs, x = .ref p ∧ Rd H p (.dK kvs) ∧ k = !kvs.isEmpty
theorem tru_ok2 {X : Cx} : TruR X (fun x H Q => ∃ k, TruV2 X.K x H k ∧ Q k H) := by
  intro pins s σ H x v Q I rx h
  obtain ⟨k, e | ⟨p, kvs, ex, hd, ek⟩, q⟩ := h
  · exact tru_ok pins s σ H x v Q I rx ⟨k, e, q⟩
  · subst ex
    cases rx
    subst ek
    have hl := line63
    have hs : sizeLine = 16777216 := sizeLine_eq
    obtain ⟨hz, hS, vs, r, m⟩ := dk_rd I.hok hd
    have hlen : kvs.length = vs.length := Paired.length r
    exact wpAny_truthy_dict hS m (by omega) ⟨H, I.tok _, by rw [isEmpty_kv r]; exact q⟩
theorem tru_v {cm : Ct} {m : Am} {S : So} {H : Hp} {d : D} {x : V} {b : Bool} (R : RelS cm m S H) (r : Rep cm m S H d x) (h : truD d S = some b) : TruV2 cm.K x H b := by
  cases d with
  | non => simp only [Rep] at r; subst r; simp only [truD, Option.some.injEq] at h; exact .inl h.symm
  | bl c => simp only [Rep] at r; subst r; simp only [truD, Option.some.injEq] at h; exact .inl h.symm
  | int i => simp only [Rep] at r; subst r; simp only [truD, Option.some.injEq] at h; exact .inl h.symm
  | str y =>
    simp only [Rep] at r; subst r
    simp only [truD] at h
    split at h
    · rename_i hl
      exact .inl ⟨hl, (Option.some.inj h).symm⟩
    · cases h
  | tup l =>
    simp only [Rep] at r
    obtain ⟨a, vs, rfl, h1, h3⟩ := r
    simp only [truD, Option.some.injEq] at h
    exact .inl (.inr (.inl ⟨vs, h1, by rw [← empty_of h3]; exact h.symm⟩))
  | lst l =>
    simp only [Rep] at r
    obtain ⟨a, vs, rfl, h1, _, h3⟩ := r
    simp only [truD, Option.some.injEq] at h
    exact .inl (.inl ⟨vs, .inl (.inl h1), by rw [← empty_of h3]; exact h.symm⟩)
  | dct ks l =>
    simp only [Rep] at r
    obtain ⟨a, kvs, rfl, h1, _, h3, _⟩ := r
    simp only [truD, Option.some.injEq] at h
    exact .inr ⟨a, kvs, rfl, h1, by rw [← h, ← h3]; cases kvs <;> rfl⟩
  | ins c ks l => simp [truD] at h
  | scr ns => simp [truD] at h
  | exc c ks l => simp [truD] at h
  | ref n =>
    simp only [Rep] at r
    obtain ⟨_, rfl⟩ := r
    simp only [truD] at h
    split at h
    · rename_i l e
      obtain ⟨vs, h1, h2⟩ := R.at_ n _ e
      exact .inl (.inl ⟨vs, .inl (.inl h1), by rw [← empty_of h2]; exact (Option.some.inj h).symm⟩)
    · rename_i ks l e
      obtain ⟨kvs, h1, h2, h3⟩ := R.at_ n _ e
      exact .inr ⟨_, kvs, rfl, .inl h1, by rw [← Option.some.inj h, ← h2]; cases kvs <;> rfl⟩
    · cases h
def tAnd' (f g : E Bool) : E Bool := fun en S => (f en S).bind fun b S1 => match b with
  | true => g en S1
  | false => .ok false S1
def tOr' (f g : E Bool) : E Bool := fun en S => (f en S).bind fun b S1 => match b with
  | true => .ok true S1
  | false => g en S1
def tNot' (f : E Bool) : E Bool := fun en S => (f en S).bind fun b S1 => .ok (!b) S1
section
variable {cm : Cm} {X : Cx} {pos : Pos} {a b : Expr} {rest : List Expr} {fa fb : E D} {ta tb : E Bool}
/-- an expression that gives a bool -/
theorem rt_val (ha : RE cm X a fa) (he : ∀ whole, isTrue a X.env whole = (do let v ← whole; standAt a.pos; holding [v] (truthy v)) := by intro _; rfl) : RT cm X a (tB' fa) := fun W tk m S H σ en Q C h => by
  refine wT_of (pt_val pe_w he) ?_
  refine ha W tk m S H σ en _ C (PQ.bind h fun da S1 x m1 H1 e1 A1 R1 r1 h1 => ?_)
  unfold asB at h1
  split at h1
  · simp only [Rep] at r1
    exact ⟨_, r1, PQ.now h1 R1 rfl⟩
  · exact h1.elim
theorem rt_tru (ha : RE cm X a fa) (he : ∀ whole, isTrue a X.env whole = (do let v ← whole; standAt a.pos; holding [v] (truthy v)) := by intro _; rfl) : RT cm X a (tTru fa) := fun W tk m S H σ en Q C h => by
  refine wT_of (pt_truthR pe_w tru_ok2 he) ?_
  refine ha W tk m S H σ en _ C (PQ.bind h fun da S1 x m1 H1 e1 A1 R1 r1 h1 => ?_)
  cases e : truD da S1 with
  | none => rw [e] at h1; exact h1.elim
  | some k =>
    rw [e] at h1
    exact ⟨k, tru_v R1 r1 e, PQ.now h1 R1 rfl⟩
theorem rt_cmp {op : CmpOp} {g : Op2} (ho : OpD cm X (compareOp op) g) (ha : RE cm X a fa) (hb : RE cm X b fb) (hm : behindInMarks op b = false) : RT cm X (.Compare a [op] [b] pos) (tB' (m2 g fa fb)) := fun W tk m S H σ en Q C h => by
  refine wT_of (pt_cmpR op_w pe_w pe_w hm) ?_
  have h' : PQ rB (ct X cm) m S H σ W ((fa en S).bind fun a S1 => ((fb en S1).bind fun b S2 => (R.of (g a b S2)).bind fun a S1 => R.of (asB a S1))) Q := by
    have e : tB' (m2 g fa fb) en S = (fa en S).bind fun a S1 => ((fb en S1).bind fun b S2 => (R.of (g a b S2)).bind fun a S1 => R.of (asB a S1)) := by
      unfold tB' m2
      cases fa en S with
      | ok a S1 => simp only [R.bind_ok]; cases fb en S1 <;> simp
      | err _ _ _ => rfl
      | bad => rfl
    rw [← e]; exact h
  refine ha W tk m S H σ en _ C (PQ.bind h' fun da S1 x m1 H1 e1 A1 R1 r1 h1 => ?_)
  refine hb W tk m1 S1 H1 σ en _ (C.adv A1 R1) (PQ.bind h1 fun db S2 y m2 H2 e2 A2 R2 r2 h2 => ?_)
  refine ho m2 S2 H2 da db x y _ R2 (Rep.adv A2 _ _ r1) r2 (PQ.pok (σ := σ) (W := W) ?_)
  refine PQ.bind h2 fun dc S3 z m3 H3 e3 A3 R3 r3 h3 => ?_
  unfold asB at h3
  split at h3
  · simp only [Rep] at r3
    exact ⟨_, r3, PQ.now h3 R3 rfl⟩
  · exact h3.elim
theorem rt_w (h : RW cm X a ta) : RT cm X a ta := fun W tk m S H σ en Q C q pins s I => h W tk m S H σ en Q C q _ pins s I
theorem rw_and1 (ha : RT cm X a ta) : RW cm X (.BoolOp .And [a] pos) ta := fun W tk m S H σ en Q C h => wW_of (pw_and1 pt_w) (ha W tk m S H σ en Q C h)
theorem rw_or1 (ha : RT cm X a ta) : RW cm X (.BoolOp .Or [a] pos) ta := fun W tk m S H σ en Q C h => wW_of (pw_or1 pt_w) (ha W tk m S H σ en Q C h)
theorem rw_and (ha : RT cm X a ta) (hb : RW cm X (.BoolOp .And (b :: rest) pos) tb) : RW cm X (.BoolOp .And (a :: b :: rest) pos) (tAnd' ta tb) := fun W tk m S H σ en Q C h => by
  refine wW_of (pw_and pt_w pw_w) ?_
  refine ha W tk m S H σ en _ C (PQ.bind h fun k S1 x m1 H1 e1 A1 R1 r1 h1 => ?_)
  obtain rfl : k = x := r1
  cases k with
  | true => rw [if_pos rfl]; exact hb W tk m1 S1 H1 σ en Q (C.adv A1 R1) h1
  | false => rw [if_neg Bool.false_ne_true]; exact PQ.now h1 R1 rfl
theorem rw_or (ha : RT cm X a ta) (hb : RW cm X (.BoolOp .Or (b :: rest) pos) tb) : RW cm X (.BoolOp .Or (a :: b :: rest) pos) (tOr' ta tb) := fun W tk m S H σ en Q C h => by
  refine wW_of (pw_or pt_w pw_w) ?_
  refine ha W tk m S H σ en _ C (PQ.bind h fun k S1 x m1 H1 e1 A1 R1 r1 h1 => ?_)
  obtain rfl : k = x := r1
  cases k with
  | false => rw [if_neg Bool.false_ne_true]; exact hb W tk m1 S1 H1 σ en Q (C.adv A1 R1) h1
  | true => rw [if_pos rfl]; exact PQ.now h1 R1 rfl
theorem rt_not (ha : RT cm X a ta) : RT cm X (.UnaryOp .Not a pos) (tNot' ta) := fun W tk m S H σ en Q C h => by
  refine wT_of (pt_not pt_w) ?_
  refine ha W tk m S H σ en _ C (PQ.bind h fun k S1 x m1 H1 e1 A1 R1 r1 h1 => ?_)
  obtain rfl : k = x := r1
  exact PQ.now h1 R1 rfl
/-- and, or, not as values of bools -/
def mAnd (f g : E D) : E D := fun en S => (f en S).bind fun d S1 => match d with
  | .bl true => g en S1
  | .bl false => .ok (.bl false) S1
  | _ => .bad
def mOr (f g : E D) : E D := fun en S => (f en S).bind fun d S1 => match d with
  | .bl true => .ok (.bl true) S1
  | .bl false => g en S1
  | _ => .bad
def mNot (f : E D) : E D := fun en S => (f en S).bind fun d S1 => match d with
  | .bl b => .ok (.bl (!b)) S1
  | _ => .bad
theorem re_one {op} (ha : RE cm X a fa) : RE cm X (.BoolOp op [a] pos) fa := fun W tk m S H σ en Q C h => wE_of (pe_one pe_w) (ha W tk m S H σ en Q C h)
theorem re_and (ha : RE cm X a fa) (hb : RE cm X (.BoolOp .And (b :: rest) pos) fb) : RE cm X (.BoolOp .And (a :: b :: rest) pos) (mAnd fa fb) := fun W tk m S H σ en Q C h => by
  refine wE_of (pe_and pe_w pe_w) ?_
  refine ha W tk m S H σ en _ C (PQ.bind h fun d S1 x m1 H1 e1 A1 R1 r1 h1 => ?_)
  split at h1
  · simp only [Rep] at r1
    refine ⟨true, r1, ?_⟩
    rw [if_pos rfl]; exact hb W tk m1 S1 H1 σ en Q (C.adv A1 R1) h1
  · simp only [Rep] at r1
    refine ⟨false, r1, ?_⟩
    rw [if_neg Bool.false_ne_true]; exact PQ.now h1 R1 (by simp only [Rep])
  · exact h1.elim
theorem re_or (ha : RE cm X a fa) (hb : RE cm X (.BoolOp .Or (b :: rest) pos) fb) : RE cm X (.BoolOp .Or (a :: b :: rest) pos) (mOr fa fb) := fun W tk m S H σ en Q C h => by
  refine wE_of (pe_or pe_w pe_w) ?_
  refine ha W tk m S H σ en _ C (PQ.bind h fun d S1 x m1 H1 e1 A1 R1 r1 h1 => ?_)
  split at h1
  · simp only [Rep] at r1
    refine ⟨true, r1, ?_⟩
    rw [if_pos rfl]; exact PQ.now h1 R1 (by simp only [Rep])
  · simp only [Rep] at r1
    refine ⟨false, r1, ?_⟩
    rw [if_neg Bool.false_ne_true]; exact hb W tk m1 S1 H1 σ en Q (C.adv A1 R1) h1
  · exact h1.elim
theorem re_not (ha : RE cm X a fa) : RE cm X (.UnaryOp .Not a pos) (mNot fa) := fun W tk m S H σ en Q C h => by
  refine wE_of (pe_not pe_w) ?_
  refine ha W tk m S H σ en _ C (PQ.bind h fun d S1 x m1 H1 e1 A1 R1 r1 h1 => ?_)
  split at h1
  · simp only [Rep] at r1
    exact ⟨_, r1, PQ.now h1 R1 (by simp only [Rep])⟩
  · exact h1.elim
/-- a if t else b -/
def mIf (t : E Bool) (f g : E D) : E D := fun en S => (t en S).bind fun b S1 => match b with
  | true => f en S1
  | false => g en S1
theorem re_if {c : Expr} {t : E Bool} (hc : RT cm X c t) (ha : RE cm X a fa) (hb : RE cm X b fb) : RE cm X (.IfExp c a b pos) (mIf t fa fb) := fun W tk m S H σ en Q C h => by
  refine wE_of (pe_ifExp pt_w pe_w pe_w) ?_
  refine hc W tk m S H σ en _ C (PQ.bind h fun k S1 x m1 H1 e1 A1 R1 r1 h1 => ?_)
  obtain rfl : k = x := r1
  cases k with
  | true => rw [if_pos rfl]; exact ha W tk m1 S1 H1 σ en Q (C.adv A1 R1) h1
  | false => rw [if_neg Bool.false_ne_true]; exact hb W tk m1 S1 H1 σ en Q (C.adv A1 R1) h1
end

/-! ### argument lists, displays -/
def aNil : E (List D) := fun _ S => .ok [] S
def aCons (f : E D) (g : E (List D)) : E (List D) := fun en S => (f en S).bind fun d S1 => (g en S1).bind fun l S2 => .ok (d :: l) S2
section
variable {cm : Cm} {X : Cx} {pos : Pos} {e : Expr} {es : List Expr} {f : E D} {g : E (List D)}
theorem ra_nil : RA cm X [] aNil := fun W tk m S H σ en Q C h => wA_of pa_nil (h.now C.rel Reps.nil)
theorem ra_cons (h1 : RE cm X e f) (h2 : RA cm X es g) (hs : starEach (e :: es) X.env = (false, eval e X.env) :: starEach es X.env := by rfl) : RA cm X (e :: es) (aCons f g) := fun W tk m S H σ en Q C h => by
  refine wA_of (pa_cons pe_w pa_w hs) ?_
  refine h1 W tk m S H σ en _ C (PQ.bind h fun d S1 x m1 H1 e1 A1 R1 r1 k1 => ?_)
  refine h2 W tk m1 S1 H1 σ en _ (C.adv A1 R1) (PQ.bind k1 fun l S2 xs m2 H2 e2 A2 R2 r2 k2 => ?_)
  exact PQ.now k2 R2 (Reps.cons (Rep.adv A2 _ _ r1) r2)
/-- (a, b, ..); [a, b, ..] as a value; as a cell -/
def mTup (g : E (List D)) : E D := fun en S => (g en S).bind fun l S1 => if l.length ≤ sizeLine then .ok (.tup l) S1 else .bad
def mLst (g : E (List D)) : E D := fun en S => (g en S).bind fun l S1 => if l.length ≤ sizeLine then .ok (.lst l) S1 else .bad
def mLstN (g : E (List D)) : E D := fun en S => (g en S).bind fun l S1 => if l.length ≤ sizeLine then .ok (.ref S1.length) (S1 ++ [some (.lst l)]) else .bad
def Am.put (m : Am) (k : Nat) (a : Addr) : Am := { m with p := fun n => if n = k then a else m.p n }
theorem new_adv {m : Am} {S : So} {H : Hp} {p : Addr} {u : HO} {o : Ob} (hp : H p = none) : Adv m S H (m.put S.length p) (S ++ [some o]) (upd H p u) := by
  refine ⟨by simp, fun n hn => by simp [Am.put, Nat.ne_of_lt hn], fun n v e => ?_, fun a v h f => .inl (grow_upd hp a v h), fun a h z => ?_, fun a xs h => grow_upd hp a _ h, fun a o u h => grow_upd hp a _ h, fun _ h => h, fun _ h => .inl h, fun a o _ h => grow_upd hp a _ h⟩
  · by_cases hn : n < S.length
    · rw [List.getElem?_append_left hn] at e
      exact .inl ⟨hn, v, e⟩
    · have hl : n < (S ++ [some o]).length := (List.getElem?_eq_some_iff.mp e).1
      have e' : n = S.length := by simp at hl; omega
      exact .inr ⟨by omega, by simp [Am.put, e', hp]⟩
  · by_cases e : a = p
    · subst e; exact h hp
    · rw [upd_ne e] at z; exact h z
/-- a new cell -/
theorem new_cell {cm : Ct} {m : Am} {S : So} {H : Hp} {p : Addr} {u : HO} {o : Ob} (R : RelS cm m S H) (hp : H p = none)
    (ho : ∀ m' S' H', Adv m S H m' S' H' → H' p = some u → ObAt cm m' S' H' p o) : RelS cm (m.put S.length p) (S ++ [some o]) (upd H p u) := by
  have A : Adv m S H (m.put S.length p) (S ++ [some o]) (upd H p u) := new_adv hp
  have cases_ : ∀ (n : Nat) (v : Ob), (S ++ [some o])[n]? = some (some v) → (n < S.length ∧ S[n]? = some (some v)) ∨ (n = S.length ∧ v = o) := fun n v e => by
    by_cases hn : n < S.length
    · rw [List.getElem?_append_left hn] at e
      exact .inl ⟨hn, e⟩
    · have hl : n < (S ++ [some o]).length := (List.getElem?_eq_some_iff.mp e).1
      have e' : n = S.length := by simp at hl; omega
      subst e'
      simp at e
      exact .inr ⟨rfl, e.symm⟩
  refine ⟨fun n v e => ?_, fun n k v w e1 e2 q => ?_, fun a h => A.tr a (R.hid a h), fun a h k v e z => by
    rcases cases_ k v e with ⟨hk, e⟩ | ⟨hk, rfl⟩
    · simp only [Am.put, Nat.ne_of_lt hk, if_false] at z
      exact R.hoff a h k v e z
    · simp only [Am.put, hk, if_true] at z
      exact R.hid a h (by rw [← z]; exact hp)⟩
  · rcases cases_ n v e with ⟨hn, e⟩ | ⟨hn, rfl⟩
    · have h := R.at_ n v e
      have nm : (m.put S.length p).p n = m.p n := by simp [Am.put, Nat.ne_of_lt hn]
      rw [nm]
      cases v with
      | lst l =>
        obtain ⟨vs, h1, h2⟩ := h
        exact ⟨vs, grow_upd hp _ _ h1, Reps.adv A l vs h2⟩
      | dct ks l =>
        obtain ⟨kvs, h1, h2, h3⟩ := h
        exact ⟨kvs, grow_upd hp _ _ h1, h2, Reps.adv A l _ h3⟩
      | ins c ks l =>
        obtain ⟨C, dx, fs, hc, h1, h2, h3⟩ := h
        exact ⟨C, dx, fs, hc, grow_upd hp _ _ h1, h2, Reps.adv A l _ h3⟩
    · have nm : (m.put S.length p).p n = p := by simp [Am.put, hn]
      rw [nm]
      exact ho _ _ _ A upd_same
  · rcases cases_ n v e1 with ⟨hn, e1⟩ | ⟨hn, rfl⟩ <;> rcases cases_ k w e2 with ⟨hk, e2⟩ | ⟨hk, rfl⟩
    · simp only [Am.put, Nat.ne_of_lt hn, Nat.ne_of_lt hk, if_false] at q
      exact R.inj n k v w e1 e2 q
    · skip
      simp only [Am.put, Nat.ne_of_lt hn, hk, if_false, if_true] at q
      exact absurd q (R.off_new hp n v (by assumption))
    · simp only [Am.put, Nat.ne_of_lt hk, hn, if_false, if_true] at q
      exact absurd q.symm (R.off_new hp k w (by assumption))
    · omega
theorem re_tup {k} (h : RA cm X es g) : RE cm X (.Tuple es k pos) (mTup g) := fun W tk m S H σ en Q C hq => by
  refine wE_of (pe_tup pa_w) ?_
  refine h W tk m S H σ en _ C (PQ.bind hq fun l S1 xs m1 H1 e1 A1 R1 r1 k1 => ?_)
  split at k1
  · rename_i hl
    refine ⟨by rw [← Reps.length r1]; exact hl, fun p hp => ?_⟩
    refine PQ.grown k1 R1 (grow_upd hp) fun R2 => ?_
    simp only [Rep]
    exact ⟨p, xs, rfl, .inl (.inl upd_same), Reps.adv (Adv.new hp) _ _ r1⟩
  · exact k1.elim
theorem re_lst (h : RA cm X es g) : RE cm X (.List es pos) (mLst g) := fun W tk m S H σ en Q C hq => by
  refine wE_of (pe_lst pa_w) ?_
  refine h W tk m S H σ en _ C (PQ.bind hq fun l S1 xs m1 H1 e1 A1 R1 r1 k1 => ?_)
  split at k1
  · rename_i hl
    refine ⟨by rw [← Reps.length r1]; exact hl, fun p hp => ?_⟩
    refine PQ.grown k1 R1 (grow_upd hp) fun R2 => ?_
    simp only [Rep]
    exact ⟨p, xs, rfl, upd_same, R1.free_new hp, Reps.adv (Adv.new hp) _ _ r1⟩
  · exact k1.elim
theorem PQ.cell {cm : Ct} {σ : St} {W : WX} {m : Am} {S : So} {H : Hp} {p : Addr} {u : HO} {o : Ob} {Q : VK} (k : PQ (Rep cm) cm m S H σ W (.ok (.ref S.length) (S ++ [some o])) Q) (R : RelS cm m S H) (hp : H p = none)
    (ho : ∀ m' S' H', Adv m S H m' S' H' → H' p = some u → ObAt cm m' S' H' p o) : Q (.ref p) (upd H p u) :=
  k (.ref p) _ _ (new_adv hp) (new_cell R hp ho) (by simp [Rep, Am.put])
theorem re_lstN (h : RA cm X es g) : RE cm X (.List es pos) (mLstN g) := fun W tk m S H σ en Q C hq => by
  refine wE_of (pe_lst pa_w) ?_
  refine h W tk m S H σ en _ C (PQ.bind hq fun l S1 xs m1 H1 e1 A1 R1 r1 k1 => ?_)
  split at k1
  · rename_i hl
    refine ⟨by rw [← Reps.length r1]; exact hl, fun p hp => ?_⟩
    exact PQ.cell k1 R1 hp fun m' S' H' A e => ⟨xs, e, Reps.adv A _ _ r1⟩
  · exact k1.elim
end
end Mi

/-! Mi2: operators on deep data. -/
namespace Mi
open PySem PySem.Spec PyProof.Rows L2

/-! ### what may be read as a list, a sequence -/
def lstOf (d : D) (S : So) : Option (List D) := match d with
  | .lst l => some l
  | .ref n => match S[n]? with
    | some (some (.lst l)) => some l
    | _ => none
  | _ => none
def seqOf (d : D) (S : So) : Option (List D) := match d with
  | .lst l => some l
  | .tup l => some l
  | .scr ns => some (ns.map D.int)
  | .ref n => match S[n]? with
    | some (some (.lst l)) => some l
    | _ => none
  | _ => none
section
variable {cm : Ct} {m : Am} {S : So} {H : Hp} {d : D} {x : V} {l : List D}
theorem lst_at (R : RelS cm m S H) (r : Rep cm m S H d x) (h : lstOf d S = some l) : ∃ a vs, x = .ref a ∧ H a = some (.lst vs) ∧ Reps cm m S H l vs := by
  cases d with
  | lst k =>
    simp only [lstOf, Option.some.injEq] at h
    subst h
    simp only [Rep] at r
    obtain ⟨a, vs, e, h1, _, h3⟩ := r
    exact ⟨a, vs, e, h1, h3⟩
  | ref n =>
    simp only [lstOf] at h
    split at h
    · rename_i k e
      simp only [Option.some.injEq] at h
      subst h
      simp only [Rep] at r
      obtain ⟨vs, h1, h2⟩ := R.at_ n _ e
      exact ⟨m.p n, vs, r.2, h1, h2⟩
    · cases h
  | _ => simp [lstOf] at h
theorem reps_ints : ∀ (ns : List Int), Reps cm m S H (ns.map D.int) (ns.map V.int)
  | [] => Reps.nil
  | n :: ns => Reps.cons (by simp only [Rep]) (reps_ints ns)
theorem seq_at (R : RelS cm m S H) (r : Rep cm m S H d x) (h : seqOf d S = some l) : ∃ a vs, x = .ref a ∧ (SqL cm.K H a vs ∨ SqT cm.K H a vs) ∧ Reps cm m S H l vs := by
  cases d with
  | lst k =>
    simp only [seqOf, Option.some.injEq] at h
    subst h
    simp only [Rep] at r
    obtain ⟨a, vs, e, h1, _, h3⟩ := r
    exact ⟨a, vs, e, .inl (.inl (.inl h1)), h3⟩
  | tup k =>
    simp only [seqOf, Option.some.injEq] at h
    subst h
    simp only [Rep] at r
    obtain ⟨a, vs, e, h1, h3⟩ := r
    exact ⟨a, vs, e, .inr h1, h3⟩
  | scr ns =>
    simp only [seqOf, Option.some.injEq] at h
    subst h
    simp only [Rep] at r
    obtain ⟨a, e, h1⟩ := r
    exact ⟨a, _, e, .inl h1.l, reps_ints ns⟩
  | ref n =>
    simp only [seqOf] at h
    split at h
    · rename_i k e
      simp only [Option.some.injEq] at h
      subst h
      simp only [Rep] at r
      obtain ⟨vs, h1, h2⟩ := R.at_ n _ e
      exact ⟨m.p n, vs, r.2, .inl (.inl (.inl h1)), h2⟩
    · cases h
  | _ => simp [seqOf] at h
/-- a new list as a value, a new tuple -/
theorem POk.lst {p : Addr} {vs : List V} {Q : VK} (h : POk (Rep cm) cm m S H (some (.lst l, S)) Q) (R : RelS cm m S H) (hp : H p = none) (r : Reps cm m S H l vs) : Q (.ref p) (upd H p (.lst vs)) :=
  h.at (Adv.new hp) (R.grow (grow_upd hp)) (by
    simp only [Rep]
    exact ⟨p, vs, rfl, upd_same, R.free_new hp, Reps.adv (Adv.new hp) _ _ r⟩)
theorem POk.tup {p : Addr} {vs : List V} {Q : VK} (h : POk (Rep cm) cm m S H (some (.tup l, S)) Q) (R : RelS cm m S H) (hp : H p = none) (r : Reps cm m S H l vs) : Q (.ref p) (upd H p (.tup vs)) :=
  h.at (Adv.new hp) (R.grow (grow_upd hp)) (by
    simp only [Rep]
    exact ⟨p, vs, rfl, .inl (.inl upd_same), Reps.adv (Adv.new hp) _ _ r⟩)
theorem POk.int {i : Int} {Q : VK} (h : POk (Rep cm) cm m S H (some (.int i, S)) Q) (R : RelS cm m S H) : Q (.int i) H := h.now R (by simp only [Rep])
theorem POk.bl {i : Bool} {Q : VK} (h : POk (Rep cm) cm m S H (some (.bl i, S)) Q) (R : RelS cm m S H) : Q (.bl i) H := h.now R (by simp only [Rep])
theorem POk.str {i : Str} {Q : VK} (h : POk (Rep cm) cm m S H (some (.str i, S)) Q) (R : RelS cm m S H) : Q (.str i) H := h.now R (by simp only [Rep])
end

/-! ### arithmetic -/
def dAdd : Op2 := fun a b S => match a, b with
  | .int i, .int j => some (.int (i + j), S)
  | .str i, .str j => if i.length + j.length ≤ sizeLine then some (.str (i ++ j), S) else none
  | .tup l, .tup k => if l.length + k.length ≤ sizeLine then some (.tup (l ++ k), S) else none
  | a, b => match lstOf a S, lstOf b S with
    | some l, some k => if l.length + k.length ≤ sizeLine then some (.lst (l ++ k), S) else none
    | _, _ => none
def dSub : Op2 := fun a b S => match a, b with
  | .int i, .int j => some (.int (i - j), S)
  | _, _ => none
def small64i (i : Int) : Bool := decide (-(2 ^ 64) < i) && decide (i < 2 ^ 64)
def dMul : Op2 := fun a b S => match a, b with
  | .int i, .int j => if small64i i || small64i j then some (.int (i * j), S) else if i.natAbs.log2 + j.natAbs.log2 < 1000000 then some (.int (i * j), S) else none
  | .tup l, .int k => if l ≠ [] ∧ 2 ≤ k ∧ k ≤ 1000 ∧ l.length ≤ 1000 then some (.tup (List.replicate k.toNat l).flatten, S) else none
  | a, .int k => match lstOf a S with
    | some l => if 0 ≤ k ∧ k < 2 ^ 63 ∧ l.length * k.toNat ≤ sizeLine then some (.lst (List.replicate k.toNat l).flatten, S) else none
    | none => none
  | _, _ => none
def dDiv : Op2 := fun a b S => match a, b with
  | .int i, .int j => if 0 < j ∧ j.natAbs.log2 < 9000 then some (.int (i / j), S) else none
  | _, _ => none
def dMod : Op2 := fun a b S => match a, b with
  | .int i, .int j => if 0 < j then some (.int (i % j), S) else none
  | _, _ => none
def dPow : Op2 := fun a b S => match a, b with
  | .int i, .int j => if 0 ≤ j ∧ (Builtin.Int.intBits i : Int) * j ≤ 2 ^ 27 then some (.int (i ^ j.toNat), S) else none
  | _, _ => none
def dNeg : Op1 := fun a S => match a with
  | .int i => some (.int (-i), S)
  | _ => none
theorem Reps.rep {cm : Ct} {m : Am} {S : So} {H : Hp} {l : List D} {vs : List V} (h : Reps cm m S H l vs) : ∀ k : Nat, Reps cm m S H (List.replicate k l).flatten (List.replicate k vs).flatten
  | 0 => by simp [Reps]
  | k + 1 => by
    rw [List.replicate_succ, List.replicate_succ, List.flatten_cons, List.flatten_cons]
    exact h.append (Reps.rep h k)
section
variable {cm : Cm} {X : Cx}
theorem od_add : OpD cm X (binaryOp .Add) dAdd := fun m S H a b x y Q R ra rb h => by
  unfold dAdd at h
  split at h
  · simp only [Rep] at ra rb
    exact wO2_of op_add ⟨_, _, ra, rb, h.int R⟩
  · simp only [Rep] at ra rb
    split at h
    · rename_i hl
      exact wO2_of op_add_str ⟨_, _, ra, rb, hl, h.str R⟩
    · exact h.no.elim
  · rename_i l k
    simp only [Rep] at ra rb
    split at h
    · rename_i hl
      obtain ⟨p, xs, rfl, hx, rx⟩ := ra
      obtain ⟨q, ys, rfl, hy, ry⟩ := rb
      refine wO2_of op_catA ⟨p, q, xs, ys, rfl, rfl, hx, hy, by rw [← rx.length, ← ry.length]; exact hl, fun e => ?_, fun _ e => ?_, fun _ _ z hz => ?_⟩
      · subst e
        have e : l = [] := List.eq_nil_of_length_eq_zero rx.length
        subst e
        exact h.now R (by simp only [Rep]; exact ⟨q, ys, rfl, hy, ry⟩)
      · subst e
        have e : k = [] := List.eq_nil_of_length_eq_zero ry.length
        subst e
        exact h.now R (by simp only [Rep, List.append_nil]; exact ⟨p, xs, rfl, hx, rx⟩)
      · exact h.tup R hz (rx.append ry)
    · exact h.no.elim
  · split at h
    · rename_i l k e1 e2
      split at h
      · rename_i hl
        obtain ⟨p, xs, rfl, hx, rx⟩ := lst_at R ra e1
        obtain ⟨q, ys, rfl, hy, ry⟩ := lst_at R rb e2
        exact wO2_of op_cat ⟨p, q, xs, ys, rfl, rfl, hx, hy, by rw [← rx.length, ← ry.length]; exact hl, fun z hz => h.lst R hz (rx.append ry)⟩
      · exact h.no.elim
    · exact h.no.elim
theorem od_sub : OpD cm X (binaryOp .Sub) dSub := fun m S H a b x y Q R ra rb h => by
  unfold dSub at h
  split at h
  · simp only [Rep] at ra rb
    exact wO2_of op_sub ⟨_, _, ra, rb, h.int R⟩
  · exact h.no.elim
theorem od_mul : OpD cm X (binaryOp .Mult) dMul := fun m S H a b x y Q R ra rb h => by
  unfold dMul at h
  split at h
  · simp only [Rep] at ra rb
    split at h
    · rename_i hc
      refine wO2_of op_mul ⟨_, _, ra, rb, ?_, h.int R⟩
      unfold small64i at hc
      simp only [Bool.or_eq_true, Bool.and_eq_true, decide_eq_true_eq] at hc
      exact hc
    · split at h
      · rename_i hc
        exact wO2_of op_mulW ⟨_, _, ra, rb, hc, h.int R⟩
      · exact h.no.elim
  · rename_i l k
    split at h
    · rename_i hc
      simp only [Rep] at ra rb
      obtain ⟨p, xs, rfl, hx, rx⟩ := ra
      have e := rx.length
      exact wO2_of (op_repT) ⟨p, k, xs, rfl, rb, hx, fun z => hc.1 (List.eq_nil_of_length_eq_zero (by rw [e, z]; rfl)), hc.2.1, hc.2.2.1, by rw [← e]; exact hc.2.2.2, fun z hz => h.tup R hz (rx.rep _)⟩
    · exact h.no.elim
  · rename_i k _ _
    split at h
    · rename_i l e1
      split at h
      · rename_i hc
        obtain ⟨p, xs, rfl, hx, rx⟩ := lst_at R ra e1
        simp only [Rep] at rb
        exact wO2_of op_rep ⟨p, k, xs, rfl, rb, hx, by have := hc.1; omega, hc.2.1, by rw [← rx.length]; exact hc.2.2, fun z hz => h.lst R hz (rx.rep _)⟩
      · exact h.no.elim
    · exact h.no.elim
  · exact h.no.elim
theorem od_div : OpD cm X (binaryOp .FloorDiv) dDiv := fun m S H a b x y Q R ra rb h => by
  unfold dDiv at h
  split at h
  · split at h
    · rename_i hc
      simp only [Rep] at ra rb
      exact wO2_of op_fdivW ⟨_, _, ra, rb, hc, h.int R⟩
    · exact h.no.elim
  · exact h.no.elim
theorem od_mod : OpD cm X (binaryOp .Mod) dMod := fun m S H a b x y Q R ra rb h => by
  unfold dMod at h
  split at h
  · split at h
    · rename_i hc
      simp only [Rep] at ra rb
      exact wO2_of op_mod ⟨_, _, ra, rb, hc, h.int R⟩
    · exact h.no.elim
  · exact h.no.elim
theorem op_powG : OpR X (binaryOp .Pow) (rI (fun i j => 0 ≤ j ∧ (Builtin.Int.intBits i : Int) * j ≤ 2 ^ 27) fun i j => .int (i ^ j.toNat)) := opI fun _ _ _ _ _ _ _ hc q => PyProof.Rows.pow_int hc.1 hc.2 q
theorem od_pow : OpD cm X (binaryOp .Pow) dPow := fun m S H a b x y Q R ra rb h => by
  unfold dPow at h
  split at h
  · split at h
    · rename_i hc
      simp only [Rep] at ra rb
      exact wO2_of op_powG ⟨_, _, ra, rb, hc, h.int R⟩
    · exact h.no.elim
  · exact h.no.elim
theorem ud_neg : UnD cm X (unaryOp .USub) dNeg := fun m S H a x Q R ra h => by
  unfold dNeg at h
  split at h
  · simp only [Rep] at ra
    exact wO1_of un_neg ⟨_, ra, h.int R⟩
  · exact h.no.elim
end

/-! ### order -/
def dCmp (pi : Int → Int → Bool) (ps : Str → Str → Bool) : Op2 := fun a b S => match a, b with
  | .int i, .int j => some (.bl (pi i j), S)
  | .str i, .str j => some (.bl (ps i j), S)
  | _, _ => none
def sLt (i j : Str) : Bool := decide (i.cps.toList < j.cps.toList)
def sLe (i j : Str) : Bool := !decide (j.cps.toList < i.cps.toList)
def dLt : Op2 := dCmp (fun i j => decide (i < j)) sLt
def dLe : Op2 := dCmp (fun i j => decide (i ≤ j)) sLe
def dGt : Op2 := dCmp (fun i j => decide (j < i)) fun i j => sLt j i
def dGe : Op2 := dCmp (fun i j => decide (j ≤ i)) fun i j => sLe j i
section
variable {cm : Cm} {X : Cx}
theorem od_cmp {f : Value → Value → Sem Value} {pi : Int → Int → Bool} {ps : Str → Str → Bool} (h1 : OpR X f (rI0 fun i j => .bl (pi i j))) (h2 : OpR X f (fun x y H Q => ∃ i j, x = .str i ∧ y = .str j ∧ Q (.bl (ps i j)) H)) : OpD cm X f (dCmp pi ps) := fun m S H a b x y Q R ra rb h => by
  unfold dCmp at h
  split at h
  · simp only [Rep] at ra rb
    exact wO2_of h1 ⟨_, _, ra, rb, h.bl R⟩
  · simp only [Rep] at ra rb
    exact wO2_of h2 ⟨_, _, ra, rb, h.bl R⟩
  · exact h.no.elim
theorem od_lt : OpD cm X (compareOp .Lt) dLt := od_cmp op_lt op_lt_str
theorem od_le : OpD cm X (compareOp .LtE) dLe := od_cmp op_le op_le_str
theorem od_gt : OpD cm X (compareOp .Gt) dGt := od_cmp op_gt op_gt_str
theorem od_ge : OpD cm X (compareOp .GtE) dGe := od_cmp op_ge op_ge_str
end

/-! ### equality of data -/
mutual
/-- as the library's data; none: not such -/
def toP : D → Option PyData
  | .non => some .none
  | .bl b => some (.bool b)
  | .int i => some (.int i)
  | .str s => some (.str s)
  | .tup l => match toPs l with
    | some ps => some (.tuple ps)
    | none => none
  | .lst l => match toPs l with
    | some ps => some (.list ps)
    | none => none
  | _ => none
def toPs : List D → Option (List PyData)
  | [] => some []
  | d :: l => match toP d, toPs l with
    | some p, some ps => some (p :: ps)
    | _, _ => none
end
/-- one with cells at its top -/
def toPt (d : D) (S : So) : Option PyData := match d with
  | .ref n => match S[n]? with
    | some (some (.lst l)) => match toPs l with
      | some ps => some (.list ps)
      | none => none
    | _ => none
  | d => toP d
section
variable {cm : Ct} {m : Am} {S : So} {H : Hp}
mutual
theorem toP_dp : ∀ (d : D) (v : V) (p : PyData), Rep cm m S H d v → toP d = some p → Dp cm.K H v p
  | .non, v, p, h, e => by
    simp only [Rep] at h; subst h
    simp only [toP, Option.some.injEq] at e; subst e
    exact .non
  | .bl b, v, p, h, e => by
    simp only [Rep] at h; subst h
    simp only [toP, Option.some.injEq] at e; subst e
    exact .bl b
  | .int b, v, p, h, e => by
    simp only [Rep] at h; subst h
    simp only [toP, Option.some.injEq] at e; subst e
    exact .int b
  | .str b, v, p, h, e => by
    simp only [Rep] at h; subst h
    simp only [toP, Option.some.injEq] at e; subst e
    exact .str b
  | .tup l, v, p, h, e => by
    simp only [Rep] at h
    obtain ⟨a, vs, rfl, h1, h2⟩ := h
    simp only [toP] at e
    split at e
    · rename_i ps eq
      simp only [Option.some.injEq] at e; subst e
      exact .tup h1 (toPs_dp l vs ps h2 eq)
    · cases e
  | .lst l, v, p, h, e => by
    simp only [Rep] at h
    obtain ⟨a, vs, rfl, h1, _, h2⟩ := h
    simp only [toP] at e
    split at e
    · rename_i ps eq
      simp only [Option.some.injEq] at e; subst e
      exact .lst (.inl (.inl h1)) (toPs_dp l vs ps h2 eq)
    · cases e
  | .dct _ _, _, _, _, e => by simp [toP] at e
  | .ins _ _ _, _, _, _, e => by simp [toP] at e
  | .ref _, _, _, _, e => by simp [toP] at e
  | .scr _, _, _, _, e => by simp [toP] at e
  | .exc _ _ _, _, _, _, e => by simp [toP] at e
theorem toPs_dp : ∀ (l : List D) (vs : List V) (ps : List PyData), Reps cm m S H l vs → toPs l = some ps → DpAll cm.K H vs ps
  | [], vs, ps, h, e => by
    simp only [Reps] at h; subst h
    simp only [toPs, Option.some.injEq] at e; subst e
    exact .nil
  | d :: l, vs, ps, h, e => by
    simp only [Reps] at h
    obtain ⟨v, r, rfl, h1, h2⟩ := h
    simp only [toPs] at e
    split at e
    · rename_i p qs e1 e2
      simp only [Option.some.injEq] at e; subst e
      exact .cons (toP_dp d v p h1 e1) (toPs_dp l r qs h2 e2)
    · cases e
end
theorem toPt_dp {d : D} {v : V} {p : PyData} (R : RelS cm m S H) (h : Rep cm m S H d v) (e : toPt d S = some p) : Dp cm.K H v p := by
  unfold toPt at e
  split at e
  · split at e
    · rename_i n l e1
      split at e
      · rename_i ps eq
        simp only [Option.some.injEq] at e; subst e
        simp only [Rep] at h
        obtain ⟨vs, h1, h2⟩ := R.at_ _ _ e1
        rw [h.2]
        exact .lst (.inl (.inl h1)) (toPs_dp l vs ps h2 eq)
      · cases e
    · cases e
  · exact toP_dp d v p h e
end
def dEqP (a b : D) (S : So) : Option Bool := match toPt a S, toPt b S with
  | some p, some q => if SeqAt.shaped p && SeqAt.shaped q then some (PyData.eqv p q) else none
  | _, _ => none
def dEq : Op2 := fun a b S => match dEqP a b S with
  | some k => some (.bl k, S)
  | none => none
def dNe : Op2 := fun a b S => match dEqP a b S with
  | some k => some (.bl (!k), S)
  | none => none
section
variable {cm : Cm} {X : Cx}
theorem eqP_run {m : Am} {S : So} {H : Hp} {a b : D} {x y : V} {k : Bool} (R : RelS (ct X cm) m S H) (ra : Rep (ct X cm) m S H a x) (rb : Rep (ct X cm) m S H b y) (e : dEqP a b S = some k) :
    ∃ d e, Dp X.K H x d ∧ Dp X.K H y e ∧ SeqAt.shaped d = true ∧ SeqAt.shaped e = true ∧ PyData.eqv d e = k := by
  unfold dEqP at e
  split at e
  · rename_i p q e1 e2
    split at e
    · rename_i hc
      simp only [Bool.and_eq_true] at hc
      exact ⟨p, q, toPt_dp (cm := ct X cm) R ra e1, toPt_dp (cm := ct X cm) R rb e2, hc.1, hc.2, Option.some.inj e⟩
    · cases e
  · cases e
theorem od_eq (hu : X.A.units + 64 < cLine) : OpD cm X (compareOp .Eq) dEq := fun m S H a b x y Q R ra rb h => by
  unfold dEq at h
  split at h
  · rename_i k e
    obtain ⟨d, e', h1, h2, h3, h4, h5⟩ := eqP_run R ra rb e
    refine wO2_of (op_eqD hu) ⟨d, e', h1, h2, h3, h4, ?_⟩
    rw [h5]
    exact h.bl R
  · exact h.no.elim
theorem od_ne (hu : X.A.units + 64 < cLine) : OpD cm X (compareOp .NotEq) dNe := fun m S H a b x y Q R ra rb h => by
  unfold dNe at h
  split at h
  · rename_i k e
    obtain ⟨d, e', h1, h2, h3, h4, h5⟩ := eqP_run R ra rb e
    refine wO2_of (op_neD hu) ⟨d, e', h1, h2, h3, h4, ?_⟩
    rw [h5]
    exact h.bl R
  · exact h.no.elim
end

/-! ### is None -/
def isNon (d : D) : Bool := match d with
  | .non => true
  | _ => false
def dIsN : Op2 := fun a b S => match b with
  | .non => some (.bl (isNon a), S)
  | _ => none
def dNotN : Op2 := fun a b S => match b with
  | .non => some (.bl (!isNon a), S)
  | _ => none
theorem isNon_v {cm : Ct} {m : Am} {S : So} {H : Hp} {a : D} {x : V} (r : Rep cm m S H a x) : decide (x = .non) = isNon a := by
  cases a with
  | non => simp only [Rep] at r; subst r; rfl
  | bl _ => simp only [Rep] at r; subst r; rfl
  | int _ => simp only [Rep] at r; subst r; rfl
  | str _ => simp only [Rep] at r; subst r; rfl
  | tup _ => simp only [Rep] at r; obtain ⟨a, vs, rfl, _⟩ := r; rfl
  | lst _ => simp only [Rep] at r; obtain ⟨a, vs, rfl, _⟩ := r; rfl
  | dct _ _ => simp only [Rep] at r; obtain ⟨a, vs, rfl, _⟩ := r; rfl
  | ins _ _ _ => simp only [Rep] at r; obtain ⟨a, C, dx, fs, rfl, _⟩ := r; rfl
  | ref _ => simp only [Rep] at r; obtain ⟨_, rfl⟩ := r; rfl
  | scr _ => simp only [Rep] at r; obtain ⟨a, rfl, _⟩ := r; rfl
  | exc _ _ _ => simp only [Rep] at r; obtain ⟨a, C, rfl, _⟩ := r; rfl
section
variable {cm : Cm} {X : Cx}
theorem od_isN : OpD cm X (compareOp .Is) dIsN := fun m S H a b x y Q R ra rb h => by
  unfold dIsN at h
  split at h
  · simp only [Rep] at rb
    refine wO2_of op_isN ⟨rb, ?_⟩
    rw [isNon_v ra]
    exact h.bl R
  · exact h.no.elim
theorem od_notN : OpD cm X (compareOp .IsNot) dNotN := fun m S H a b x y Q R ra rb h => by
  unfold dNotN at h
  split at h
  · simp only [Rep] at rb
    refine wO2_of op_notN ⟨rb, ?_⟩
    rw [isNon_v ra]
    exact h.bl R
  · exact h.no.elim
end

/-! ### chains: a < b < c -/
def mChain (g g' : Op2) (fa fb fc : E D) : E D := fun en S => (fa en S).bind fun a S1 => (fb en S1).bind fun b S2 => match g a b S2 with
  | some (.bl true, S3) => (fc en S3).bind fun c S4 => R.of (g' b c S4)
  | some (.bl false, S3) => .ok (.bl false) S3
  | _ => .bad
section
variable {cm : Cm} {X : Cx} {a b c : Expr} {fa fb fc : E D} {pos : Pos}
theorem chain_run {op op' : CmpOp} {g g' : Op2} (ho : OpD cm X (compareOp op) g) (ho' : OpD cm X (compareOp op') g') (ha : RE cm X a fa) (hb : RE cm X b fb) (hc : RE cm X c fc)
    {W : WX} (tk : Takes X W) {m : Am} {S : So} {H : Hp} {σ : St} {en : En} {Q : VK} (C : Cond (ct X cm) m S H σ en) (h : PQ (Rep (ct X cm)) (ct X cm) m S H σ W (mChain g g' fa fb fc en S) Q) :
    tChain (wO2 X (compareOp op)) (wO2 X (compareOp op')) (wE X a) (wE X b) (wE X c) σ H Q := by
  refine ha W tk m S H σ en _ C (PQ.bind h fun da S1 x m1 H1 e1 A1 R1 r1 k1 => ?_)
  refine hb W tk m1 S1 H1 σ en _ (C.adv A1 R1) (PQ.bind k1 fun db S2 y m2 H2 e2 A2 R2 r2 k2 => ?_)
  split at k2
  · rename_i S3 e3
    refine ho m2 S2 H2 da db x y _ R2 (Rep.adv A2 _ _ r1) r2 ?_
    rw [e3]
    intro σ' W' z m3 H3 A3 R3 r3
    simp only [Rep] at r3
    refine ⟨true, r3, ?_⟩
    rw [if_pos rfl]
    have k3 := PQ.after A3 k2
    refine hc W tk m3 S3 H3 σ en _ (((C.adv A1 R1).adv A2 R2).adv A3 R3) (PQ.bind k3 fun dc S4 w m4 H4 e4 A4 R4 r4 k4 => ?_)
    exact ho' m4 S4 H4 db dc y w Q R4 (Rep.adv (A3.trans A4) _ _ r2) r4 k4.pok
  · rename_i S3 e3
    refine ho m2 S2 H2 da db x y _ R2 (Rep.adv A2 _ _ r1) r2 ?_
    rw [e3]
    intro σ' W' z m3 H3 A3 R3 r3
    simp only [Rep] at r3
    refine ⟨false, r3, ?_⟩
    rw [if_neg Bool.false_ne_true]
    exact k2 _ m3 H3 A3 R3 (by simp only [Rep])
  · exact k2.elim
theorem re_chain {op op' : CmpOp} {g g' : Op2} (ho : OpD cm X (compareOp op) g) (ho' : OpD cm X (compareOp op') g') (ha : RE cm X a fa) (hb : RE cm X b fb) (hc : RE cm X c fc)
    (hm : lastMarks [op, op'] [b, c] = false := by with_unfolding_all rfl) : RE cm X (.Compare a [op, op'] [b, c] pos) (mChain g g' fa fb fc) := fun W tk m S H σ en Q C h =>
  wE_of (pe_chain op_w op_w pe_w pe_w pe_w hm) (chain_run ho ho' ha hb hc tk C h)
theorem rt_chain {op op' : CmpOp} {g g' : Op2} (ho : OpD cm X (compareOp op) g) (ho' : OpD cm X (compareOp op') g') (ha : RE cm X a fa) (hb : RE cm X b fb) (hc : RE cm X c fc)
    (hm : lastMarks [op, op'] [b, c] = false := by with_unfolding_all rfl) : RT cm X (.Compare a [op, op'] [b, c] pos) (tB' (mChain g g' fa fb fc)) := fun W tk m S H σ en Q C h => by
  refine wT_of (pt_chain op_w op_w pe_w pe_w pe_w hm) (chain_run ho ho' ha hb hc tk C (PQ.bind h fun da S1 x m1 H1 e1 A1 R1 r1 h1 => ?_))
  unfold asB at h1
  split at h1
  · simp only [Rep] at r1
    exact ⟨_, r1, PQ.now h1 R1 rfl⟩
  · exact h1.elim
end
end Mi

/-! Mi3: subscripts, slices, membership, built-in calls. -/
namespace Mi
open PySem PySem.Spec PyProof.Rows L2

/-! ### dicts -/
def keyOf (d : D) : Option Key := match d with
  | .int i => some (.inl i)
  | .str s => some (.inr s)
  | _ => none
def dctOf (d : D) (S : So) : Option (List Key × List D) := match d with
  | .dct ks l => some (ks, l)
  | .ref n => match S[n]? with
    | some (some (.dct ks l)) => some (ks, l)
    | _ => none
  | _ => none
def lookK : List Key → List D → Key → Option D
  | k :: ks, d :: l, x => if k = x then some d else lookK ks l x
  | _, _, _ => none
section
variable {cm : Ct} {m : Am} {S : So} {H : Hp} {d : D} {x : V}
theorem key_v {k : Key} (r : Rep cm m S H d x) (h : keyOf d = some k) : x = kV k := by
  cases d with
  | int i => simp only [Rep] at r; simp only [keyOf, Option.some.injEq] at h; subst h; exact r
  | str i => simp only [Rep] at r; simp only [keyOf, Option.some.injEq] at h; subst h; exact r
  | _ => simp [keyOf] at h
theorem dct_at {ks : List Key} {l : List D} (R : RelS cm m S H) (r : Rep cm m S H d x) (h : dctOf d S = some (ks, l)) : ∃ a kvs, x = .ref a ∧ Rd H a (.dK kvs) ∧ kvs.map (·.1) = ks ∧ Reps cm m S H l (kvs.map (·.2)) := by
  cases d with
  | dct ks' l' =>
    simp only [dctOf, Option.some.injEq, Prod.mk.injEq] at h
    obtain ⟨rfl, rfl⟩ := h
    simp only [Rep] at r
    obtain ⟨a, kvs, e, h1, _, h3, h4⟩ := r
    exact ⟨a, kvs, e, h1, h3, h4⟩
  | ref n =>
    simp only [dctOf] at h
    split at h
    · rename_i ks' l' e
      simp only [Option.some.injEq, Prod.mk.injEq] at h
      obtain ⟨rfl, rfl⟩ := h
      simp only [Rep] at r
      obtain ⟨kvs, h1, h2, h3⟩ := R.at_ n _ e
      exact ⟨m.p n, kvs, r.2, .inl h1, h2, h3⟩
    · cases h
  | _ => simp [dctOf] at h
theorem look_v : ∀ {kvs : List (Key × V)} {ks : List Key} {l : List D} {k : Key}, kvs.map (·.1) = ks → Reps cm m S H l (kvs.map (·.2)) →
    (lookK ks l k = none ∧ valV kvs k = none) ∨ ∃ d v, lookK ks l k = some d ∧ valV kvs k = some v ∧ Rep cm m S H d v
  | [], ks, l, k, e, h => by
    simp only [List.map_nil] at e
    subst e
    exact .inl ⟨by unfold lookK; rfl, rfl⟩
  | p :: kvs, ks, l, k, e, h => by
    simp only [List.map_cons] at e h
    subst e
    cases l with
    | nil => simp [Reps] at h
    | cons d l =>
      simp only [Reps, List.cons.injEq] at h
      obtain ⟨v, r, ⟨e1, e2⟩, h1, h2⟩ := h
      subst e1 e2
      by_cases c : p.1 = k
      · refine .inr ⟨d, p.2, ?_, valV_pos c, h1⟩
        unfold lookK
        rw [if_pos c]
      · have q := look_v (kvs := kvs) (k := k) rfl h2
        rw [valV_neg c]
        unfold lookK
        rw [if_neg c]
        exact q
end

/-! ### a[b] -/
def dIx : Op2 := fun a b S => match dctOf a S with
  | some (ks, l) => match keyOf b with
    | some k => (lookK ks l k).map fun d => (d, S)
    | none => none
  | none => match b with
    | .int i => match a with
      | .str z => if z.length ≤ sizeLine then (atI z.cps.toList i).map fun c => (.str ⟨#[c]⟩, S) else none
      | a => match seqOf a S with
        | some l => (atI l i).map fun d => (d, S)
        | none => none
    | _ => none
def wIx (X : Cx) : R2 := fun x y H Q => ∀ value slice pins s σ v u, Inv X pins σ H s → RelV x v → RelV y u → subscripted slice false v u = operate [v, u] (getItem v u) → wpAny (model X.prog X.w) X.A (subscriptTail value slice v u) (EP X pins σ Q) X.xe s
theorem ix_w {X : Cx} : IxR X (wIx X) := fun value slice pins s σ H x y v u Q I rx ry h hs => h value slice pins s σ v u I rx ry hs
theorem wIx_of {X : Cx} {r : R2} {x y : V} {H : Hp} {Q : VK} (h : IxR X r) (q : r x y H Q) : wIx X x y H Q := fun value slice pins s σ v u I rx ry hs => h value slice pins s σ H x y v u Q I rx ry q hs
theorem ix_dict {X : Cx} (hu : X.A.units + 1 < cLine) : IxR X (fun x y H Q => ∃ a v, x = .ref a ∧ DGet H a y (some v) ∧ Q v H) := by
  intro value slice pins s σ H x y v u Q I rx ry h hs
  obtain ⟨a, w', rfl, g, q⟩ := h
  cases rx
  exact tail_any (dict_typeIs I g) slot_dict_getitem.lookup (d_getItem hu I g ry fun w2 s3 I3 rw' => ⟨w', H, I3, rw', q⟩) hs
theorem atI_rep {cm : Ct} {m : Am} {S : So} {H : Hp} {l : List D} {vs : List V} {i : Int} {d : D} (r : Reps cm m S H l vs) (h : atI l i = some d) : ∃ v, atI vs i = some v ∧ Rep cm m S H d v := by
  unfold atI at h ⊢
  rw [← r.length]
  cases e : ixN l.length i with
  | none => rw [e] at h; cases h
  | some j =>
    rw [e] at h
    exact r.get h
section
variable {cm : Cm} {X : Cx} {a b : Expr} {fa fb : E D} {pos : Pos}
theorem od_ix (hu : X.A.units + 1 < cLine) : ∀ m S H a b x y Q, RelS (ct X cm) m S H → Rep (ct X cm) m S H a x → Rep (ct X cm) m S H b y → POk (Rep (ct X cm)) (ct X cm) m S H (dIx a b S) Q → wIx X x y H Q := fun m S H a b x y Q R ra rb h => by
  unfold dIx at h
  split at h
  · rename_i ks l e
    split at h
    · rename_i k ek
      obtain ⟨p, kvs, rfl, h1, h2, h3⟩ := dct_at R ra e
      have ey := key_v rb ek
      subst ey
      rcases look_v (k := k) h2 h3 with ⟨z, _⟩ | ⟨d, v, e1, e2, rd⟩
      · rw [z] at h
        exact h.no.elim
      · rw [e1] at h
        exact wIx_of (ix_dict hu) ⟨p, v, rfl, .inl ⟨kvs, k, h1, rfl, e2.symm⟩, h.now R rd⟩
    · exact h.no.elim
  · split at h
    · rename_i i
      simp only [Rep] at rb
      split at h
      · simp only [Rep] at ra
        split at h
        · rename_i z _ hz
          cases e : atI z.cps.toList i with
          | none => rw [e] at h; exact h.no.elim
          | some c =>
            rw [e] at h
            exact wIx_of ix_str ⟨z, i, c, ra, rb, hz, e, h.str R⟩
        · exact h.no.elim
      · split at h
        · rename_i l el
          cases e : atI l i with
          | none => rw [e] at h; exact h.no.elim
          | some d =>
            rw [e] at h
            obtain ⟨p, vs, rfl, h1, h2⟩ := seq_at R ra el
            obtain ⟨v, e2, rd⟩ := atI_rep h2 e
            rcases h1 with h1 | h1
            · exact wIx_of ix_list ⟨p, vs, i, v, rfl, rb, h1, e2, h.now R rd⟩
            · exact wIx_of ix_tup ⟨p, vs, i, v, rfl, rb, h1, e2, h.now R rd⟩
        · exact h.no.elim
    · exact h.no.elim
theorem re_ix (hu : X.A.units + 1 < cLine) (ha : RE cm X a fa) (hb : RE cm X b fb) (hs : PlainIx b) : RE cm X (.Subscript a b pos) (m2 dIx fa fb) := fun W tk m S H σ en Q C h => by
  refine wE_of (pe_ix ix_w pe_w pe_w hs) ?_
  refine ha W tk m S H σ en _ C (PQ.bind h fun da S1 x m1 H1 e1 A1 R1 r1 h1 => ?_)
  refine hb W tk m1 S1 H1 σ en _ (C.adv A1 R1) (PQ.bind h1 fun db S2 y m2 H2 e2 A2 R2 r2 h2 => ?_)
  exact od_ix hu m2 S2 H2 da db x y Q R2 (Rep.adv A2 _ _ r1) r2 h2.pok
end

/-! ### a[lo:hi] -/
def cutD (l : List D) (lo hi : Option Int) : List D := (l.drop (HT.sIx l.length 0 lo)).take (HT.sIx l.length l.length hi - HT.sIx l.length 0 lo)
abbrev OpS := D → Option Int → Option Int → So → Option (D × So)
def dSl : OpS := fun a lo hi S => match a with
  | .str z => if z.length ≤ sizeLine then some (.str (cutS z lo hi), S) else none
  | .tup l => some (.tup (cutD l lo hi), S)
  | a => match lstOf a S with
    | some l => some (.lst (cutD l lo hi), S)
    | none => none
/-- the list's slice as a cell -/
def dSlN : OpS := fun a lo hi S => match lstOf a S with
  | some l => some (.ref S.length, S ++ [some (.lst (cutD l lo hi))])
  | none => none
def pNo : E (Option Int) := fun _ S => .ok none S
def pSo (f : E D) : E (Option Int) := fun en S => (f en S).bind fun d S1 => match d with
  | .int i => .ok (some i) S1
  | _ => .bad
def mSl (g : OpS) (fa : E D) (fl fh : E (Option Int)) : E D := fun en S => (fa en S).bind fun a S1 => (fl en S1).bind fun lo S2 => (fh en S2).bind fun hi S3 => R.of (g a lo hi S3)
def wO (X : Cx) (e : Option Expr) : TO := fun σ H Q => ∀ pins s, Inv X pins σ H s → wpAny (model X.prog X.w) X.A (evalPart e X.env) (fun u s' => ∃ o H', Inv X pins σ H' s' ∧ IsPart u o ∧ Q o H') X.xe s
theorem po_w {X : Cx} {e : Option Expr} : PO X e (wO X e) := ⟨fun pins s σ H Q I h => h pins s I⟩
theorem wO_of {X : Cx} {e : Option Expr} {t : TO} {σ : St} {H : Hp} {Q : Option Int → Hp → Prop} (h : PO X e t) (q : t σ H Q) : wO X e σ H Q := fun pins s I => h.run pins s σ H Q I q
def RO (cm : Cm) (X : Cx) (e : Option Expr) (f : E (Option Int)) : Prop := ∀ W, Takes X W → ∀ m S H σ en Q, Cond (ct X cm) m S H σ en → PQ rO (ct X cm) m S H σ W (f en S) Q → wO X e σ H Q
def wSl (X : Cx) : V → Option Int → Option Int → Hp → VK → Prop := fun x lo hi H Q => ∀ (pins : List (Addr × Obj)) (s : Shared) (σ : St) (v vl vu : Value) (sl : Addr), Inv X pins σ H s → RelV x v → s.heap.IsSliceOf sl vl vu .none → IsPart vl lo → IsPart vu hi →
    ∃ T id, typeLookup (.type T) "__getitem__" = pure (some (.builtin id)) ∧ s.TypeIs v T ∧ wpAny (model X.prog X.w) X.A (getItem v (.ref sl)) (EP X pins σ Q) X.xe s
theorem sl_w {X : Cx} : SlR X (wSl X) := fun pins s σ H x v vl vu lo hi sl Q I rx hs pl pu h => h pins s σ v vl vu sl I rx hs pl pu
theorem wSl_of {X : Cx} {r : V → Option Int → Option Int → Hp → VK → Prop} {x : V} {lo hi : Option Int} {H : Hp} {Q : VK} (h : SlR X r) (q : r x lo hi H Q) : wSl X x lo hi H Q := fun pins s σ v vl vu sl I rx hs pl pu => h pins s σ H x v vl vu lo hi sl Q I rx hs pl pu q
def SlD (cm : Cm) (X : Cx) (g : OpS) : Prop := ∀ m S H a x lo hi Q, RelS (ct X cm) m S H → Rep (ct X cm) m S H a x → POk (Rep (ct X cm)) (ct X cm) m S H (g a lo hi S) Q → wSl X x lo hi H Q
theorem cutD_rep {cm : Ct} {m : Am} {S : So} {H : Hp} {l : List D} {vs : List V} {lo hi : Option Int} (r : Reps cm m S H l vs) : Reps cm m S H (cutD l lo hi) (cutV vs lo hi) := by
  unfold cutD cutV
  rw [← r.length]
  exact (r.drop _).take _
section
variable {cm : Cm} {X : Cx} {a : Expr} {lo hi : Option Expr} {fa : E D} {fl fh : E (Option Int)} {pos p2 : Pos}
theorem ro_none : RO cm X none pNo := fun W tk m S H σ en Q C h => wO_of po_none (PQ.now h C.rel rfl)
theorem ro_some (ha : RE cm X a fa) : RO cm X (some a) (pSo fa) := fun W tk m S H σ en Q C h => by
  refine wO_of (po_some pe_w) ?_
  refine ha W tk m S H σ en _ C (PQ.bind h fun d S1 x m1 H1 e1 A1 R1 r1 h1 => ?_)
  split at h1
  · simp only [Rep] at r1
    exact ⟨_, r1, PQ.now h1 R1 rfl⟩
  · exact h1.elim
theorem re_sl {g : OpS} (hg : SlD cm X g) (ha : RE cm X a fa) (hl : RO cm X lo fl) (hh : RO cm X hi fh) : RE cm X (.Subscript a (.Slice lo hi none p2) pos) (mSl g fa fl fh) := fun W tk m S H σ en Q C h => by
  refine wE_of (pe_slice sl_w pe_w po_w po_w) ?_
  refine ha W tk m S H σ en _ C (PQ.bind h fun d S1 x m1 H1 e1 A1 R1 r1 h1 => ?_)
  refine hl W tk m1 S1 H1 σ en _ (C.adv A1 R1) (PQ.bind h1 fun l S2 l' m2 H2 e2 A2 R2 r2 h2 => ?_)
  obtain rfl : l = l' := r2
  refine hh W tk m2 S2 H2 σ en _ ((C.adv A1 R1).adv A2 R2) (PQ.bind h2 fun u S3 u' m3 H3 e3 A3 R3 r3 h3 => ?_)
  obtain rfl : u = u' := r3
  exact hg m3 S3 H3 d x l u Q R3 (Rep.adv (A2.trans A3) _ _ r1) h3.pok
theorem sd_sl : SlD cm X dSl := fun m S H a x lo hi Q R ra h => by
  unfold dSl at h
  split at h
  · simp only [Rep] at ra
    split at h
    · rename_i z hz
      exact wSl_of sl_str ⟨z, ra, hz, h.str R⟩
    · exact h.no.elim
  · rename_i l
    simp only [Rep] at ra
    obtain ⟨p, vs, rfl, h1, h2⟩ := ra
    refine wSl_of sl_tupA ⟨p, vs, rfl, h1, fun hw => ?_, fun _ z hz => h.tup R hz (cutD_rep h2)⟩
    refine h.now R ?_
    have e : cutD l lo hi = l := by
      unfold cutD
      rw [h2.length, hw.1, hw.2]
      simp [← h2.length]
    rw [e]
    simp only [Rep]
    exact ⟨p, vs, rfl, h1, h2⟩
  · split at h
    · rename_i l e
      obtain ⟨p, vs, rfl, h1, h2⟩ := lst_at R ra e
      exact wSl_of sl_list ⟨p, vs, rfl, .inl (.inl h1), fun z hz => h.lst R hz (cutD_rep h2)⟩
    · exact h.no.elim
end

/-! ### membership -/
def strIn (y z : Str) : Bool := !(Builtin.Str.occurrences z y 0 z.length 1).isEmpty
def dInB (a b : D) (S : So) : Option Bool := match b with
  | .str z => match a with
    | .str y => some (strIn y z)
    | _ => none
  | b => match dctOf b S with
    | some (ks, _) => match keyOf a with
      | some k => some (ks.any fun j => decide (j = k))
      | none => none
    | none => match toPt b S, toPt a S with
      | some (.list ps), some p => if SeqAt.shaped p && SeqAt.shaped (.list ps) then some (ps.any fun q => PyData.eqv q p) else none
      | some (.tuple ps), some p => if SeqAt.shaped p && SeqAt.shaped (.tuple ps) then some (ps.any fun q => PyData.eqv q p) else none
      | _, _ => none
def dIn : Op2 := fun a b S => (dInB a b S).map fun k => (.bl k, S)
def dNotIn : Op2 := fun a b S => (dInB a b S).map fun k => (.bl (!k), S)
section
variable {X : Cx}
theorem op_inT (hu : X.A.units + 65 < cLine) : OpR X (compareOp .In) (fun x y H Q => ∃ d ds, Dp X.K H x d ∧ Dp X.K H y (.tuple ds) ∧ SeqAt.shaped d = true ∧ SeqAt.shaped (.tuple ds) = true ∧ Q (.bl (ds.any fun z => PyData.eqv z d)) H) := by
  intro pins s σ H x y v u Q I rx ry h
  obtain ⟨d, ds, hd, he, sd, se, q⟩ := h
  obtain ⟨as, r1⟩ := Dp.reads I d x v hd rx
  obtain ⟨bs, r2⟩ := Dp.reads I (.tuple ds) y u he ry
  exact SeqAt.in_tuple_reads r2 r1 (SeqAt.canLay_of_shaped se) (SeqAt.canLay_of_shaped sd) (room_in_shaped sd hu) ⟨.bl _, H, I, rfl, q⟩
theorem op_notInT (hu : X.A.units + 65 < cLine) : OpR X (compareOp .NotIn) (fun x y H Q => ∃ d ds, Dp X.K H x d ∧ Dp X.K H y (.tuple ds) ∧ SeqAt.shaped d = true ∧ SeqAt.shaped (.tuple ds) = true ∧ Q (.bl (!ds.any fun z => PyData.eqv z d)) H) := by
  intro pins s σ H x y v u Q I rx ry h
  obtain ⟨d, ds, hd, he, sd, se, q⟩ := h
  obtain ⟨as, r1⟩ := Dp.reads I d x v hd rx
  obtain ⟨bs, r2⟩ := Dp.reads I (.tuple ds) y u he ry
  exact SeqAt.notIn_tuple_reads r2 r1 (SeqAt.canLay_of_shaped se) (SeqAt.canLay_of_shaped sd) (room_in_shaped sd hu) ⟨.bl _, H, I, rfl, q⟩
theorem op_inL (hu : X.A.units + 65 < cLine) : OpR X (compareOp .In) (fun x y H Q => ∃ d ds, Dp X.K H x d ∧ Dp X.K H y (.list ds) ∧ SeqAt.shaped d = true ∧ SeqAt.shaped (.list ds) = true ∧ Q (.bl (ds.any fun z => PyData.eqv z d)) H) := by
  intro pins s σ H x y v u Q I rx ry h
  obtain ⟨d, ds, hd, he, sd, se, q⟩ := h
  obtain ⟨as, r1⟩ := Dp.reads I d x v hd rx
  obtain ⟨bs, r2⟩ := Dp.reads I (.list ds) y u he ry
  exact SeqAt.in_list_reads r2 r1 (SeqAt.canLay_of_shaped se) (SeqAt.canLay_of_shaped sd) (room_in_shaped sd hu) ⟨.bl _, H, I, rfl, q⟩
theorem op_notInL (hu : X.A.units + 65 < cLine) : OpR X (compareOp .NotIn) (fun x y H Q => ∃ d ds, Dp X.K H x d ∧ Dp X.K H y (.list ds) ∧ SeqAt.shaped d = true ∧ SeqAt.shaped (.list ds) = true ∧ Q (.bl (!ds.any fun z => PyData.eqv z d)) H) := by
  intro pins s σ H x y v u Q I rx ry h
  obtain ⟨d, ds, hd, he, sd, se, q⟩ := h
  obtain ⟨as, r1⟩ := Dp.reads I d x v hd rx
  obtain ⟨bs, r2⟩ := Dp.reads I (.list ds) y u he ry
  exact SeqAt.notIn_list_reads r2 r1 (SeqAt.canLay_of_shaped se) (SeqAt.canLay_of_shaped sd) (room_in_shaped sd hu) ⟨.bl _, H, I, rfl, q⟩
theorem op_dIn (hu : X.A.units + 1 < cLine) : OpR X (compareOp .In) (fun y x H Q => ∃ a o, x = .ref a ∧ DGet H a y o ∧ Q (.bl o.isSome) H) := by
  intro pins s σ H y x v u Q I ry rx h
  obtain ⟨a, o, rfl, g, q⟩ := h
  cases rx
  exact d_in hu I g ry fun s3 I3 => ⟨.bl o.isSome, H, I3, rfl, q⟩
theorem op_dNotIn (hu : X.A.units + 1 < cLine) : OpR X (compareOp .NotIn) (fun y x H Q => ∃ a o, x = .ref a ∧ DGet H a y o ∧ Q (.bl (!o.isSome)) H) := by
  intro pins s σ H y x v u Q I ry rx h
  obtain ⟨a, o, rfl, g, q⟩ := h
  cases rx
  exact d_notIn hu I g ry fun s3 I3 => ⟨.bl (!o.isSome), H, I3, rfl, q⟩
end
theorem any_keys {κ : Type} [DecidableEq κ] (k : κ) (kvs : List (κ × V)) : ((kvs.map (·.1)).any fun j => decide (j = k)) = (valV kvs k).isSome := by
  rw [← valV_any, List.any_map]
  rfl
/-- the four roads of in -/
theorem inB_run {cm : Ct} {m : Am} {S : So} {H : Hp} {a b : D} {x y : V} {k : Bool} (R : RelS cm m S H) (ra : Rep cm m S H a x) (rb : Rep cm m S H b y) (e : dInB a b S = some k) :
    (∃ i j, x = .str i ∧ y = .str j ∧ (!(Builtin.Str.occurrences j i 0 j.length 1).isEmpty) = k) ∨ (∃ p o, y = .ref p ∧ DGet H p x o ∧ o.isSome = k) ∨
    (∃ d ds, Dp cm.K H x d ∧ Dp cm.K H y (.list ds) ∧ SeqAt.shaped d = true ∧ SeqAt.shaped (.list ds) = true ∧ (ds.any fun z => PyData.eqv z d) = k) ∨
    (∃ d ds, Dp cm.K H x d ∧ Dp cm.K H y (.tuple ds) ∧ SeqAt.shaped d = true ∧ SeqAt.shaped (.tuple ds) = true ∧ (ds.any fun z => PyData.eqv z d) = k) := by
  unfold dInB at e
  split at e
  · split at e
    · simp only [Rep] at ra rb
      simp only [Option.some.injEq] at e
      exact .inl ⟨_, _, ra, rb, e⟩
    · cases e
  · split at e
    · rename_i ks l ed
      split at e
      · rename_i k' ek
        simp only [Option.some.injEq] at e
        obtain ⟨p, kvs, rfl, h1, h2, h3⟩ := dct_at R rb ed
        have ex := key_v ra ek
        subst ex
        refine .inr (.inl ⟨p, _, rfl, .inl ⟨kvs, k', h1, rfl, rfl⟩, ?_⟩)
        rw [← e, ← h2, any_keys]
      · cases e
    · split at e
      · rename_i ps p e1 e2
        split at e
        · rename_i hc
          simp only [Bool.and_eq_true] at hc
          simp only [Option.some.injEq] at e
          exact .inr (.inr (.inl ⟨p, ps, toPt_dp R ra e2, toPt_dp R rb e1, hc.1, hc.2, e⟩))
        · cases e
      · rename_i ps p e1 e2
        split at e
        · rename_i hc
          simp only [Bool.and_eq_true] at hc
          simp only [Option.some.injEq] at e
          exact .inr (.inr (.inr ⟨p, ps, toPt_dp R ra e2, toPt_dp R rb e1, hc.1, hc.2, e⟩))
        · cases e
      · cases e
section
variable {cm : Cm} {X : Cx}
theorem od_in (hu : X.A.units + 65 < cLine) : OpD cm X (compareOp .In) dIn := fun m S H a b x y Q R ra rb h => by
  unfold dIn at h
  cases e : dInB a b S with
  | none => rw [e] at h; exact h.no.elim
  | some k =>
    rw [e] at h
    have q := h.bl R
    rcases inB_run (cm := ct X cm) R ra rb e with ⟨i, j, h1, h2, h3⟩ | ⟨p, o, h1, h2, h3⟩ | ⟨d, ds, h1, h2, h3, h4, h5⟩ | ⟨d, ds, h1, h2, h3, h4, h5⟩
    · exact wO2_of op_in_str ⟨i, j, h1, h2, by rw [h3]; exact q⟩
    · exact wO2_of (op_dIn (by omega)) ⟨p, o, h1, h2, by rw [h3]; exact q⟩
    · exact wO2_of (op_inL hu) ⟨d, ds, h1, h2, h3, h4, by rw [h5]; exact q⟩
    · exact wO2_of (op_inT hu) ⟨d, ds, h1, h2, h3, h4, by rw [h5]; exact q⟩
theorem od_notIn (hu : X.A.units + 65 < cLine) : OpD cm X (compareOp .NotIn) dNotIn := fun m S H a b x y Q R ra rb h => by
  unfold dNotIn at h
  cases e : dInB a b S with
  | none => rw [e] at h; exact h.no.elim
  | some k =>
    rw [e] at h
    have q := h.bl R
    rcases inB_run (cm := ct X cm) R ra rb e with ⟨i, j, h1, h2, h3⟩ | ⟨p, o, h1, h2, h3⟩ | ⟨d, ds, h1, h2, h3, h4, h5⟩ | ⟨d, ds, h1, h2, h3, h4, h5⟩
    · exact wO2_of L2.op_notin_str ⟨i, j, h1, h2, by rw [h3]; exact q⟩
    · exact wO2_of (op_dNotIn (by omega)) ⟨p, o, h1, h2, by rw [h3]; exact q⟩
    · exact wO2_of (op_notInL hu) ⟨d, ds, h1, h2, h3, h4, by rw [h5]; exact q⟩
    · exact wO2_of (op_notInT hu) ⟨d, ds, h1, h2, h3, h4, by rw [h5]; exact q⟩
end
end Mi

/-! Mi4: statements, targets, loops, comprehensions. -/
namespace Mi
open PySem PySem.Spec PyProof.Rows L2

inductive Fl where
  | nx (en : En) | rt (d : D) | bk (en : En) | ct (en : En)
/-- a statement -/
abbrev T := En → So → R Fl

def PF (cm : Ct) (m : Am) (S : So) (H : Hp) (W : WX) (r : R Fl) (D : Ends) : Prop := match r with
  | .ok (.nx en') S' => ∀ m' σ' H', Adv m S H m' S' H' → Cond cm m' S' H' σ' en' → D.nx σ' H'
  | .ok (.bk en') S' => ∀ m' σ' H', Adv m S H m' S' H' → Cond cm m' S' H' σ' en' → D.bk σ' H'
  | .ok (.ct en') S' => ∀ m' σ' H', Adv m S H m' S' H' → Cond cm m' S' H' σ' en' → D.ct σ' H'
  | .ok (.rt d) S' => ∀ v m' H', Adv m S H m' S' H' → RelS cm m' S' H' → Rep cm m' S' H' d v → D.rt v H'
  | .err x en' S' => ∀ cls dd m' σ' H', Adv m S H m' S' H' → Cond cm m' S' H' σ' en' → RepX cm m' S' H' x cls dd → W cls dd σ' H'
  | .bad => False
section
variable {α β γ δ : Type} {cm : Ct} {m m1 : Am} {S S1 : So} {H H1 : Hp} {σ : St} {en : En} {W : WX} {D : Ends}
theorem PF.after {r : R Fl} (A : Adv m S H m1 S1 H1) (h : PF cm m S H W r D) : PF cm m1 S1 H1 W r D := by
  cases r with
  | ok a S' =>
    cases a with
    | nx en' => exact fun m' σ' H' A' => h m' σ' H' (A.trans A')
    | bk en' => exact fun m' σ' H' A' => h m' σ' H' (A.trans A')
    | ct en' => exact fun m' σ' H' A' => h m' σ' H' (A.trans A')
    | rt d => exact fun v m' H' A' => h v m' H' (A.trans A')
  | err x en' S' => exact fun c d m' σ' H' A' => h c d m' σ' H' (A.trans A')
  | bad => exact h
theorem PF.bind {rp : Rp α γ} {r : R α} {k : α → So → R Fl} {Q : γ → Hp → Prop} (h : PF cm m S H W (r.bind k) D)
    (hk : ∀ a S1 x m1 H1, r = .ok a S1 → Adv m S H m1 S1 H1 → RelS cm m1 S1 H1 → rp m1 S1 H1 a x → PF cm m1 S1 H1 W (k a S1) D → Q x H1) : PQ rp cm m S H σ W r Q := by
  cases r with
  | ok a S' => exact fun v m' H' A Rl rp => hk a S' v m' H' rfl A Rl rp (PF.after A h)
  | err x en' S' => exact fun c d m' H' A C X => h c d m' σ H' A C X
  | bad => exact h
theorem PF.nx (h : PF cm m S H W (.ok (.nx en) S) D) (C : Cond cm m S H σ en) : D.nx σ H := h m σ H Adv.refl C
end

def wS (X : Cx) (st : Stmt) : TS := fun D σ H => ∀ pins s, Inv X pins σ H s → wpAny (model X.prog X.w) X.A (exec st X.env) (SP X pins D) X.xe s
def wSs (X : Cx) (st : List Stmt) : TS := fun D σ H => ∀ pins s, Inv X pins σ H s → wpAny (model X.prog X.w) X.A (execs st X.env) (SP X pins D) X.xe s
theorem ps_w {X : Cx} {st : Stmt} : PS X st (wS X st) := ⟨fun pins s _ _ _ I h => h pins s I⟩
theorem pss_w {X : Cx} {st : List Stmt} : PSs X st (wSs X st) := ⟨fun pins s _ _ _ I h => h pins s I⟩
theorem wS_of {X : Cx} {st : Stmt} {t : TS} {D : Ends} {σ : St} {H : Hp} (h : PS X st t) (q : t D σ H) : wS X st D σ H := fun pins s I => h.run pins s σ H D I q
theorem wSs_of {X : Cx} {st : List Stmt} {t : TS} {D : Ends} {σ : St} {H : Hp} (h : PSs X st t) (q : t D σ H) : wSs X st D σ H := fun pins s I => h.run pins s σ H D I q
def RS (cm : Cm) (X : Cx) (st : Stmt) (f : T) : Prop := ∀ W, Takes X W → ∀ m S H σ en D, Cond (ct X cm) m S H σ en → PF (ct X cm) m S H W (f en S) D → wS X st D σ H
def RSs (cm : Cm) (X : Cx) (st : List Stmt) (f : T) : Prop := ∀ W, Takes X W → ∀ m S H σ en D, Cond (ct X cm) m S H σ en → PF (ct X cm) m S H W (f en S) D → wSs X st D σ H

/-! ### targets -/
abbrev TgD := D → En → So → Option En
def wG (X : Cx) (tg : Expr) : TG := fun v σ H Q => ∀ pins s u, Inv X pins σ H s → RelV v u → wpAny (model X.prog X.w) X.A (assign tg X.env u) (fun _ s' => ∃ σ' H', Inv X pins σ' H' s' ∧ Q σ' H') X.xe s
theorem pg_w {X : Cx} {tg : Expr} : PG X tg (wG X tg) := ⟨fun pins s σ H v u Q I r h => h pins s u I r⟩
theorem wG_of {X : Cx} {tg : Expr} {t : TG} {v : V} {σ : St} {H : Hp} {Q : St → Hp → Prop} (h : PG X tg t) (q : t v σ H Q) : wG X tg v σ H Q := fun pins s u I r => h.run pins s σ H v u Q I r q
def wGs (X : Cx) (ts : List Expr) : TGs := fun vs σ H Q => ∀ pins s us, Inv X pins σ H s → Vals vs us → wpAny (model X.prog X.w) X.A (assignInOrder ((assignEach ts X.env).map (·.2)) us) (fun _ s' => ∃ σ' H', Inv X pins σ' H' s' ∧ Q σ' H') X.xe s
theorem pgs_w {X : Cx} {ts : List Expr} : PGs X ts (wGs X ts) := ⟨fun pins s σ H v u Q I r h => h pins s u I r⟩
theorem wGs_of {X : Cx} {ts : List Expr} {t : TGs} {v : List V} {σ : St} {H : Hp} {Q : St → Hp → Prop} (h : PGs X ts t) (q : t v σ H Q) : wGs X ts v σ H Q := fun pins s u I r => h.run pins s σ H v u Q I r q
/-- .. ws: the slots that are stored -/
def Off' (ws : List Nat) (σ σ' : St) : Prop := σ'.length = σ.length ∧ ∀ j, j ∉ ws → σ'[j]? = σ[j]?
def RG (cm : Cm) (X : Cx) (tg : Expr) (g : TgD) (ws : List Nat) : Prop := ∀ m S H σ en d v en' Q, Cond (ct X cm) m S H σ en → Rep (ct X cm) m S H d v → g d en S = some en' → (∀ σ', Cond (ct X cm) m S H σ' en' → Off' ws σ σ' → Q σ' H) → wG X tg v σ H Q
def RGs (cm : Cm) (X : Cx) (ts : List Expr) (g : List D → En → So → Option En) (ws : List Nat) : Prop := ∀ m S H σ en l vs en' Q, Cond (ct X cm) m S H σ en → Reps (ct X cm) m S H l vs → g l en S = some en' → (∀ σ', Cond (ct X cm) m S H σ' en' → Off' ws σ σ' → Q σ' H) → wGs X ts vs σ H Q
theorem Off'.refl {ws : List Nat} {σ : St} : Off' ws σ σ := ⟨rfl, fun _ _ => rfl⟩
theorem Off'.set {i : Nat} {σ : St} {x : Option V} : Off' [i] σ (σ.set i x) := ⟨by simp, fun j h => List.getElem?_set_ne (fun e => h (by simp [e]))⟩
theorem Off'.trans {a b : List Nat} {σ σ' σ'' : St} (h : Off' a σ σ') (k : Off' b σ' σ'') : Off' (a ++ b) σ σ'' := ⟨k.1.trans h.1, fun j n => (k.2 j fun z => n (List.mem_append_right _ z)).trans (h.2 j fun z => n (List.mem_append_left _ z))⟩
theorem Cond.set {cm : Ct} {m : Am} {S : So} {H : Hp} {σ : St} {en : En} {d : D} {v : V} (C : Cond cm m S H σ en) (i : Nat) (r : Rep cm m S H d v) : Cond cm m S H (σ.set i (some v)) (en.set i (some d)) := by
  refine ⟨C.rel, by rw [List.length_set, List.length_set]; exact C.len, fun j d' e => ?_⟩
  by_cases h : i = j
  · subst h
    by_cases hl : i < en.length
    · rw [List.getElem?_set_self hl] at e
      cases e
      exact ⟨v, List.getElem?_set_self (by rw [← C.len]; exact hl), r⟩
    · rw [List.getElem?_eq_none (by rw [List.length_set]; omega)] at e
      cases e
  · rw [List.getElem?_set_ne h] at e ⊢
    exact C.env j d' e
def gN (i : Nat) : TgD := fun d en _ => some (en.set i (some d))
def gsNil : List D → En → So → Option En := fun l en _ => match l with
  | [] => some en
  | _ => none
def gsCons (g : TgD) (r : List D → En → So → Option En) : List D → En → So → Option En := fun l en S => match l with
  | d :: l => (g d en S).bind fun en1 => r l en1 S
  | [] => none
/-- a, b = a tuple -/
def gT (n : Nat) (r : List D → En → So → Option En) : TgD := fun d en S => match d with
  | .tup l => if l.length = n then r l en S else none
  | _ => none
section
variable {cm : Cm} {X : Cx} {pos : Pos} {e : Expr} {es : List Expr} {g : TgD} {r : List D → En → So → Option En}
theorem rg_n (i : Nat) {x : Str} (hN : X.N.Nodup) (hi : X.N[i]? = some x) (hx : Loc X.env.scope x) (hf : X.fn x = true ∨ X.env.scope.names.lookup x = some .local := by first | exact .inl rfl | exact .inr rfl | assumption)  : RG cm X (.Name x pos) (gN i) [i] :=
  fun m S H σ en d v en' Q C rd e q => wG_of (pg_name hN hi hx hf) (q _ (by cases e; exact C.set i rd) Off'.set)
theorem rgs_nil : RGs cm X [] gsNil [] := fun m S H σ en l vs en' Q C rl e q => by
  refine wGs_of pgs_nil ?_
  cases l with
  | nil =>
    simp only [Reps] at rl
    cases e
    exact ⟨rl, q _ C Off'.refl⟩
  | cons _ _ => cases e
theorem rgs_cons {w1 w2 : List Nat} (h1 : RG cm X e g w1) (h2 : RGs cm X es r w2) (hs : (assignEach (e :: es) X.env).map (·.2) = assign e X.env :: (assignEach es X.env).map (·.2) := by rfl)  : RGs cm X (e :: es) (gsCons g r) (w1 ++ w2) := fun m S H σ en l vs en' Q C rl q0 q => by
  refine wGs_of (pgs_cons pg_w pgs_w hs) ?_
  cases l with
  | nil => cases q0
  | cons d l =>
    simp only [Reps] at rl
    obtain ⟨v, rr, e1, r1, r2⟩ := rl
    subst e1
    unfold gsCons at q0
    cases e2 : g d en S with
    | none => simp only [e2] at q0; cases q0
    | some en1 =>
      simp only [e2, Option.bind_some] at q0
      exact ⟨v, rr, rfl, h1 m S H σ en d v en1 _ C r1 e2 fun σ1 C1 o1 => h2 m S H σ1 en1 l rr en' Q C1 r2 q0 fun σ2 C2 o2 => q σ2 C2 (o1.trans o2)⟩
theorem rg_t {k n : Nat} {ws : List Nat} (hc : X.calm = true) (h : RGs cm X es r ws) (hn : (assignEach es X.env).length = n := by rfl) (hst : (assignEach es X.env).findIdx? (·.1) = none := by rfl)  : RG cm X (.Tuple es k pos) (gT n r) ws := fun m S H σ en d v en' Q C rd e q => by
  refine wG_of (pg_tup hc pgs_w hn hst) ?_
  unfold gT at e
  split at e
  · rename_i l
    split at e
    · rename_i hl
      simp only [Rep] at rd
      obtain ⟨a, vs, rfl, h1, h2⟩ := rd
      exact ⟨a, vs, rfl, h1, by rw [← h2.length]; exact hl, h m S H σ en l vs en' Q C h2 e q⟩
    · cases e
  · cases e
end

/-! ### small statements -/
def sNil : T := fun en S => .ok (.nx en) S
def sSeq (f g : T) : T := fun en S => (f en S).bind fun fl S1 => match fl with
  | .nx en1 => g en1 S1
  | fl => .ok fl S1
def sBk : T := fun en S => .ok (.bk en) S
def sCt : T := fun en S => .ok (.ct en) S
def sEx (f : E D) : T := fun en S => (f en S).bind fun _ S1 => .ok (.nx en) S1
def sRet (f : E D) : T := fun en S => (f en S).bind fun d S1 => .ok (.rt d) S1
def sRetN : T := fun _ S => .ok (.rt .non) S
def sIf (t : E Bool) (f g : T) : T := fun en S => (t en S).bind fun b S1 => match b with
  | true => f en S1
  | false => g en S1
def sSet (i : Nat) (f : E D) : T := fun en S => (f en S).bind fun d S1 => .ok (.nx (en.set i (some d))) S1
def sAsg (g : TgD) (f : E D) : T := fun en S => (f en S).bind fun d S1 => match g d en S1 with
  | some en1 => .ok (.nx en1) S1
  | none => .bad
def sPar (i j : Nat) (f : E (List D)) : T := fun en S => (f en S).bind fun l S1 => match l with
  | [a, b] => .ok (.nx ((en.set i (some a)).set j (some b))) S1
  | _ => .bad
def sAug (i : Nat) (g : Op2) (f : E D) : T := fun en S => match en[i]? with
  | some (some d) => (f en S).bind fun b S1 => (R.of (g d b S1)).bind fun c S2 => .ok (.nx (en.set i (some c))) S2
  | _ => .bad
def sNever : T := fun _ _ => .bad
section
variable {cm : Cm} {X : Cx} {pos : Pos} {st : Stmt} {rest : List Stmt} {f g : T} {e : Expr} {fe : E D}
theorem rss_nil : RSs cm X [] sNil := fun W tk m S H σ en D C h => wSs_of pss_nil (h.nx C)
theorem rss_cons (h1 : RS cm X st f) (h2 : RSs cm X rest g) : RSs cm X (st :: rest) (sSeq f g) := fun W tk m S H σ en D C h => by
  refine wSs_of (pss_cons ps_w pss_w) ?_
  refine h1 W tk m S H σ en _ C ?_
  unfold sSeq at h
  cases e : f en S with
  | bad => rw [e] at h; exact h
  | err x en' S' => rw [e] at h; exact h
  | ok fl S' =>
    rw [e] at h
    cases fl with
    | nx en1 => exact fun m' σ' H' A C' => h2 W tk m' S' H' σ' en1 D C' (PF.after A h)
    | rt d => exact h
    | bk en1 => exact h
    | ct en1 => exact h
theorem rss_one (h1 : RS cm X st f) : RSs cm X [st] f := fun W tk m S H σ en D C h => wSs_of (pss_one ps_w) (h1 W tk m S H σ en D C h)
theorem rs_pass : RS cm X (.Pass pos) sNil := fun W tk m S H σ en D C h => wS_of ps_pass (h.nx C)
theorem rs_break : RS cm X (.Break pos) sBk := fun W tk m S H σ en D C h => wS_of ps_break (h m σ H Adv.refl C)
theorem rs_continue : RS cm X (.Continue pos) sCt := fun W tk m S H σ en D C h => wS_of ps_continue (h m σ H Adv.refl C)
theorem rs_never : RS cm X st sNever := fun W tk m S H σ en D C h => h.elim
theorem rss_never : RSs cm X rest sNever := fun W tk m S H σ en D C h => h.elim
theorem rs_ex (he : RE cm X e fe) (hs : swapsWith e none pos.line X.env = pure false := by rfl) : RS cm X (.Expr e pos) (sEx fe) := fun W tk m S H σ en D C h =>
  wS_of (ps_expr pe_w hs) (he W tk m S H σ en _ C (PF.bind h fun d S1 x m1 H1 e1 A1 R1 r1 h1 => h1.nx (C.adv A1 R1)))
theorem rs_ret (he : RE cm X e fe) : RS cm X (.Return (some e) pos) (sRet fe) := fun W tk m S H σ en D C h =>
  wS_of (ps_ret pe_w) (he W tk m S H σ en _ C (PF.bind h fun d S1 x m1 H1 e1 A1 R1 r1 h1 => h1 x m1 H1 Adv.refl R1 r1))
theorem rs_retN : RS cm X (.Return none pos) sRetN := fun W tk m S H σ en D C h => wS_of ps_retN (h .non m H Adv.refl C.rel (by simp only [Rep]))
theorem rs_if {c : Expr} {a b : List Stmt} {t : E Bool} (hc : RT cm X c t) (ha : RSs cm X a f) (hb : RSs cm X b g) : RS cm X (.If c a b pos) (sIf t f g) := fun W tk m S H σ en D C h => by
  refine wS_of (ps_if pt_w pss_w pss_w) ?_
  refine hc W tk m S H σ en _ C (PF.bind h fun k S1 x m1 H1 e1 A1 R1 r1 h1 => ?_)
  obtain rfl : k = x := r1
  cases k with
  | true => rw [if_pos rfl]; exact ha W tk m1 S1 H1 σ en D (C.adv A1 R1) h1
  | false => rw [if_neg Bool.false_ne_true]; exact hb W tk m1 S1 H1 σ en D (C.adv A1 R1) h1
theorem rs_set (i : Nat) {x : Str} {pos' : Pos} (hN : X.N.Nodup) (hi : X.N[i]? = some x) (hx : Loc X.env.scope x) (he : RE cm X e fe) (hs : swapsWith e (some (.Name x pos')) pos.line X.env = pure false := by rfl) (hf : X.fn x = true ∨ X.env.scope.names.lookup x = some .local := by first | exact .inl rfl | exact .inr rfl | assumption) :
    RS cm X (.Assign [.Name x pos'] e pos) (sSet i fe) := fun W tk m S H σ en D C h =>
  wS_of (ps_set hN hi hx pe_w hs hf) (he W tk m S H σ en _ C (PF.bind h fun d S1 y m1 H1 e1 A1 R1 r1 h1 => h1.nx ((C.adv A1 R1).set i r1)))
theorem rs_asg {tg : Expr} {gd : TgD} {ws : List Nat} (he : RE cm X e fe) (hg : RG cm X tg gd ws) (hs : swapsWithSole [tg] e pos.line X.env = pure false := by rfl) (hw : swappedStores [tg] e X.env = pure none := by rfl)
    (h1 : (assignEach [tg] X.env).map (·.2) = [assign tg X.env] := by rfl) : RS cm X (.Assign [tg] e pos) (sAsg gd fe) := fun W tk m S H σ en D C h => by
  refine wS_of (ps_asg pe_w pg_w hs hw h1) (he W tk m S H σ en _ C (PF.bind h fun d S1 y m1 H1 e1 A1 R1 r1 k1 => ?_))
  cases e2 : gd d en S1 with
  | none => rw [e2] at k1; exact k1.elim
  | some en1 =>
    rw [e2] at k1
    exact hg m1 S1 H1 σ en d y en1 _ (C.adv A1 R1) r1 e2 fun σ' C' _ => k1.nx C'
theorem rs_par (i j : Nat) {x y : Str} {a b : Expr} {fl : E (List D)} {px py pt : Pos} {kt k2 pt2} (hc : X.calm = true) (hN : X.N.Nodup) (hi : X.N[i]? = some x) (hj : X.N[j]? = some y) (hij : i ≠ j)
    (hx : X.env.scope.names.lookup x = some .local) (hy : X.env.scope.names.lookup y = some .local) (ha : RA cm X [a, b] fl)
    (hw : swappedStores [.Tuple [.Name x px, .Name y py] kt pt] (.Tuple [a, b] k2 pt2) X.env = pure (some [x, y]))
    (hs : swapsWithSole [.Tuple [.Name x px, .Name y py] kt pt] (.Tuple [a, b] k2 pt2) pos.line X.env = pure false := by rfl) :
    RS cm X (.Assign [.Tuple [.Name x px, .Name y py] kt pt] (.Tuple [a, b] k2 pt2) pos) (sPar i j fl) := fun W tk m S H σ en D C h => by
  refine wS_of (ps_par hc hN hi hj hij hx hy pa_w hw hs) (ha W tk m S H σ en _ C (PF.bind h fun l S1 vs m1 H1 e1 A1 R1 r1 k1 => ?_))
  split at k1
  · simp only [Reps] at r1
    obtain ⟨v, r, e1, r1, w, r', e2, r2, e3⟩ := r1
    subst e3 e2 e1
    exact ⟨v, w, rfl, k1.nx (((C.adv A1 R1).set i r1).set j r2)⟩
  · exact k1.elim
theorem rs_aug (i : Nat) {x : Str} {op : Operator} {gd : Op2} {pos' : Pos} (hN : X.N.Nodup) (hi : X.N[i]? = some x) (hx : Loc X.env.scope x) (ho : OpD cm X (inplaceOp op) gd) (he : RE cm X e fe)
    (hf : X.fn x = true ∨ X.env.scope.names.lookup x = some .local := by first | exact .inl rfl | exact .inr rfl | assumption) : RS cm X (.AugAssign (.Name x pos') op e pos) (sAug i gd fe) := fun W tk m S H σ en D C h => by
  refine wS_of (ps_aug (ti := wO2 X (inplaceOp op)) hN hi hx pe_w (fun pins s σ H x y v u Q I r1 r2 h => h pins s σ v u I r1 r2) hf) ?_
  unfold sAug at h
  split at h
  · rename_i d e0
    obtain ⟨v, e1, rv⟩ := C.env i d e0
    refine ⟨v, e1, he W tk m S H σ en _ C (PF.bind h fun b S1 y m1 H1 _ A1 R1 r1 k1 => ?_)⟩
    refine ho m1 S1 H1 d b v y _ R1 (Rep.adv A1 _ _ rv) r1 (PQ.pok (σ := σ) (W := W) ?_)
    exact PF.bind k1 fun c S2 z m2 H2 _ A2 R2 r2 k2 => k2.nx (((C.adv A1 R1).adv A2 R2).set i r2)
  · exact h.elim
end

/-! ### what is walked -/
structure Src where
  hold : Option Nat
  items : List D
/-- the cell that is walked stands as it stood -/
noncomputable def still (h : Option Nat) (S0 S : So) : Bool := match h with
  | some n => @decide (S[n]? = S0[n]?) (Classical.propDecidable _)
  | none => true
theorem still_of {h : Option Nat} {S0 S : So} : still h S0 S = true ↔ ∀ n, h = some n → S[n]? = S0[n]? := by
  cases h with
  | none => simp [still]
  | some n =>
    have : still (some n) S0 S = @decide (S[n]? = S0[n]?) (Classical.propDecidable _) := rfl
    rw [this]
    constructor
    · intro q k e
      cases e
      exact @of_decide_eq_true _ (Classical.propDecidable _) q
    · intro q
      exact @decide_eq_true _ (Classical.propDecidable _) (q n rfl)
@[simp] theorem still_none {S0 S : So} : still none S0 S = true := rfl
theorem still_same {h : Option Nat} {S0 S : So} (e : ∀ n, h = some n → S[n]? = S0[n]?) : still h S0 S = true := still_of.mpr e
def WalkJ (cm : Ct) (J : It) (src : Src) (m1 : Am) (S1 : So) (H1 : Hp) : Prop := ∀ m S H, Adv m1 S1 H1 m S H → RelS cm m S H → still src.hold S1 S = true →
  (∀ i d, src.items[i]? = some d → J.go i H ∧ ∀ x H', J.yld i H x H' → (∀ a o, H a = some o → H' a = some o) ∧ Rep cm m S H' d x) ∧ J.stop src.items.length H
def wI (X : Cx) (tg iter : Expr) : TI := fun σ H R => ∀ pins s, Inv X pins σ H s → wpAny (model X.prog X.w) X.A (eval iter X.env) (fun v s1 => wpAny (model X.prog X.w) X.A (pyIter v) (PIE X pins σ tg R) X.xe s1) X.xe s
theorem pi_w {X : Cx} {tg iter : Expr} : PI X tg iter (wI X tg iter) := ⟨fun pins s σ H R I h => h pins s I⟩
theorem wI_of {X : Cx} {tg iter : Expr} {wi : TI} {σ : St} {H : Hp} {R : It → Hp → Prop} (h : PI X tg iter wi) (q : wi σ H R) : wI X tg iter σ H R := fun pins s I => h.run pins s σ H R I q
def rJ (cm : Ct) : Rp Src It := fun m S H src J => WalkJ cm J src m S H
def RI (cm : Cm) (X : Cx) (tg iter : Expr) (f : E Src) : Prop := ∀ W, Takes X W → ∀ m S H σ en R, Cond (ct X cm) m S H σ en → PQ (rJ (ct X cm)) (ct X cm) m S H σ W (f en S) R → wI X tg iter σ H R
/-- over a list or a tuple -/
def srcOf (d : D) (S : So) : Option Src := match d with
  | .lst l => some ⟨none, l⟩
  | .tup l => some ⟨none, l⟩
  | .scr ns => some ⟨none, ns.map D.int⟩
  | .ref n => match S[n]? with
    | some (some (.lst l)) => some ⟨some n, l⟩
    | _ => none
  | _ => none
def iSeq (f : E D) : E Src := fun en S => (f en S).bind fun d S1 => match srcOf d S1 with
  | some s => .ok s S1
  | none => .bad
def iSq (K : PySem.W.Frag) (tl : TE) : TI := fun σ H R => tl σ H fun x H1 => ∃ a, x = .ref a ∧ (((∃ xs, SqL K H1 a xs) ∧ R (Itl K a) H1) ∨ ((∃ xs, SqT K H1 a xs) ∧ R (Itt K a) H1))
theorem pi_sq {X : Cx} {tg l : Expr} {tl : TE} (hl : PE X l tl) : PI X tg l (iSq X.K tl) := by
  refine ⟨fun pins s σ H R I h => ?_⟩
  refine thn (hl.run pins s σ H _ I h) fun v s1 ⟨x, H1, I1, r1, q1⟩ => ?_
  obtain ⟨a, e, q1⟩ := q1
  subst e
  cases r1
  rcases q1 with ⟨⟨xs, hq⟩, q⟩ | ⟨⟨xs, hq⟩, q⟩
  · obtain ⟨its, rv, p, hz⟩ := I1.list hq
    refine wpAny_pyIter_list p.isList ?_
    refine ⟨s1.heap.objs.size, [s1.heap.objs.size], _, _, H1, rfl, I1.kept (t' := s1.toks) fun b o e => Heap.get?_push_of_some _ e, turn_list a _, ⟨_, Heap.get?_push_size _ rfl, rfl, rfl⟩, fun b hb => ?_, q⟩
    have e : b = s1.heap.objs.size := by simpa using hb
    subst e
    exact I1.fpOk (Nat.le_refl _) (I1.hok.fresh (Nat.le_refl _))
  · obtain ⟨its, rv, p, hz⟩ := I1.tuple hq
    refine wpAny_pyIter_tuple (show s1.heap.IsTuple a its.toArray from p) ?_
    refine ⟨s1.heap.objs.size, [s1.heap.objs.size], _, _, H1, rfl, I1.kept (t' := s1.toks) fun b o e => Heap.get?_push_of_some _ e, turn_tuple a _, ⟨_, Heap.get?_push_size _ rfl, rfl, rfl⟩, fun b hb => ?_, q⟩
    have e : b = s1.heap.objs.size := by simpa using hb
    subst e
    exact I1.fpOk (Nat.le_refl _) (I1.hok.fresh (Nat.le_refl _))
section
variable {cm : Ct} {m : Am} {S : So} {H : Hp} {a : Addr} {l : List D} {vs : List V} {hold : Option Nat}
theorem walk_l (h : ∀ m' S' H', Adv m S H m' S' H' → RelS cm m' S' H' → still hold S S' = true → SqL cm.K H' a vs) (r : Reps cm m S H l vs) (u : ∀ H xs, SqL cm.K H a xs → SqL cm.K H a vs → xs = vs ∨ True) : WalkJ cm (Itl cm.K a) ⟨hold, l⟩ m S H := fun m' S' H' A R e => by
  have q := h m' S' H' A R e
  have r' := Reps.adv A _ _ r
  refine ⟨fun i d ed => ?_, ⟨vs, q, by rw [r.length]; exact Nat.le_refl _⟩⟩
  obtain ⟨v, ev, rv⟩ := r'.get ed
  refine ⟨⟨vs, v, q, ev⟩, fun x H2 y => ?_⟩
  obtain ⟨e2, y⟩ := y
  subst e2
  have z := y vs q
  rw [ev] at z
  cases z
  exact ⟨fun _ _ h => h, rv⟩
theorem walk_t (h : ∀ m' S' H', Adv m S H m' S' H' → RelS cm m' S' H' → still hold S S' = true → SqT cm.K H' a vs) (r : Reps cm m S H l vs) : WalkJ cm (Itt cm.K a) ⟨hold, l⟩ m S H := fun m' S' H' A R e => by
  have q := h m' S' H' A R e
  have r' := Reps.adv A _ _ r
  refine ⟨fun i d ed => ?_, ⟨vs, q, by rw [r.length]; exact Nat.le_refl _⟩⟩
  obtain ⟨v, ev, rv⟩ := r'.get ed
  refine ⟨⟨vs, v, q, ev⟩, fun x H2 y => ?_⟩
  obtain ⟨e2, y⟩ := y
  subst e2
  have z := y vs q
  rw [ev] at z
  cases z
  exact ⟨fun _ _ h => h, rv⟩
end
theorem walk_of_src {cm : Ct} {m : Am} {S : So} {H : Hp} {d : D} {x : V} {src : Src} (R : RelS cm m S H) (r : Rep cm m S H d x) (h : srcOf d S = some src) :
    ∃ a, x = .ref a ∧ (((∃ xs, SqL cm.K H a xs) ∧ WalkJ cm (Itl cm.K a) src m S H) ∨ ((∃ xs, SqT cm.K H a xs) ∧ WalkJ cm (Itt cm.K a) src m S H)) := by
  cases d with
  | lst l =>
    simp only [srcOf, Option.some.injEq] at h
    subst h
    simp only [Rep] at r
    obtain ⟨a, vs, e, h1, h2, h3⟩ := r
    exact ⟨a, e, .inl ⟨⟨vs, .inl (.inl h1)⟩, walk_l (fun m' S' H' A _ _ => .inl (.inl (A.fr _ _ h1 h2.1).lst)) h3 fun _ _ _ _ => .inr trivial⟩⟩
  | tup l =>
    simp only [srcOf, Option.some.injEq] at h
    subst h
    simp only [Rep] at r
    obtain ⟨a, vs, e, h1, h3⟩ := r
    exact ⟨a, e, .inr ⟨⟨vs, h1⟩, walk_t (fun m' S' H' A _ _ => SqT.adv A h1) h3⟩⟩
  | scr ns =>
    simp only [srcOf, Option.some.injEq] at h
    subst h
    simp only [Rep] at r
    obtain ⟨a, e, h1⟩ := r
    exact ⟨a, e, .inl ⟨⟨_, h1.l⟩, walk_l (fun m' S' H' A _ _ => (SqS.adv A h1).l) (reps_ints ns) fun _ _ _ _ => .inr trivial⟩⟩
  | ref n =>
    simp only [srcOf] at h
    split at h
    · rename_i l e
      simp only [Option.some.injEq] at h
      subst h
      simp only [Rep] at r
      obtain ⟨vs, h1, h2⟩ := R.at_ n _ e
      refine ⟨m.p n, r.2, .inl ⟨⟨vs, .inl (.inl h1)⟩, fun m' S' H' A R' st => ?_⟩⟩
      have e' : S'[n]? = some (some (.lst l)) := (still_of.mp st n rfl).trans e
      obtain ⟨ws, g1, g2⟩ := R'.at_ n _ e'
      rw [A.mm n r.1] at g1
      refine ⟨fun i d ed => ?_, ⟨ws, .inl (.inl g1), by rw [g2.length]; exact Nat.le_refl _⟩⟩
      obtain ⟨v, ev, rv⟩ := g2.get ed
      refine ⟨⟨ws, v, .inl (.inl g1), ev⟩, fun x H2 y => ?_⟩
      obtain ⟨e2, y⟩ := y
      subst e2
      have z := y ws (.inl (.inl g1))
      rw [ev] at z
      cases z
      exact ⟨fun _ _ h => h, rv⟩
    · cases h
  | _ => simp [srcOf] at h
section
variable {cm : Cm} {X : Cx} {tg iter a b : Expr} {f fa fb : E D} {p pos : Pos}
theorem ri_seq (h : RE cm X iter f) : RI cm X tg iter (iSeq f) := fun W tk m S H σ en R C hq => by
  refine wI_of (pi_sq pe_w) ?_
  refine h W tk m S H σ en _ C (PQ.bind hq fun d S1 x m1 H1 e1 A1 R1 r1 h1 => ?_)
  cases e : srcOf d S1 with
  | none => rw [e] at h1; exact h1.elim
  | some src =>
    rw [e] at h1
    obtain ⟨a, rfl, ⟨h2, h3⟩ | ⟨h2, h3⟩⟩ := walk_of_src (cm := ct X cm) R1 r1 e
    · exact ⟨a, rfl, .inl ⟨h2, PQ.now h1 R1 h3⟩⟩
    · exact ⟨a, rfl, .inr ⟨h2, PQ.now h1 R1 h3⟩⟩
/-- range(a), range(a, b) -/
def rngL (lo : Int) (n : Nat) : List D := (List.range n).map fun (i : Nat) => D.int (lo + (i : Int))
def iRg1 (f : E (List D)) : E Src := fun en S => (f en S).bind fun l S1 => match l with
  | [.int j] => if -(2 ^ 62) ≤ j ∧ j < 2 ^ 62 then .ok ⟨none, rngL 0 j.toNat⟩ S1 else .bad
  | _ => .bad
def iRg2 (f : E (List D)) : E Src := fun en S => (f en S).bind fun l S2 => match l with
  | [.int i, .int j] => if -(2 ^ 62) ≤ i ∧ i < 2 ^ 62 ∧ -(2 ^ 62) ≤ j ∧ j < 2 ^ 62 then .ok ⟨none, rngL i (j - i).toNat⟩ S2 else .bad
  | _ => .bad
theorem walk_rng {cm : Ct} {m : Am} {S : So} {H : Hp} (lo : Int) (n : Nat) : WalkJ cm (Itr lo n) ⟨none, rngL lo n⟩ m S H := fun m' S' H' A R e => by
  have hl : (rngL lo n).length = n := by simp [rngL]
  refine ⟨fun i d ed => ?_, (by show n ≤ (rngL lo n).length; rw [hl]; exact Nat.le_refl _)⟩
  have hi : i < n := by
    have q : i < (rngL lo n).length := (List.getElem?_eq_some_iff.mp ed).1
    rw [hl] at q
    exact q
  refine ⟨hi, fun x H2 y => ?_⟩
  obtain ⟨e1, e2⟩ := y
  subst e1 e2
  simp only [rngL, List.getElem?_map, List.getElem?_range hi, Option.map_some, Option.some.injEq] at ed
  subst ed
  exact ⟨fun _ _ h => h, by simp only [Rep]⟩
theorem ri_rg1 {fl : E (List D)} (hg : Gl X "range") (hm : X.mg "range" = none) (ha : RA cm X [a] fl) (hs : starEach [a] X.env = [(false, eval a X.env)] := by rfl) : RI cm X tg (.Call (.Name "range" p) [a] [] pos) (iRg1 fl) := fun W tk m S H σ en R C hq => by
  refine wI_of (pi_range1 hg hm pa_w hs) ?_
  refine ha W tk m S H σ en _ C (PQ.bind hq fun l S1 x m1 H1 e1 A1 R1 r1 h1 => ?_)
  split at h1
  · rename_i j
    split at h1
    · rename_i hc
      simp only [Reps, Rep] at r1
      obtain ⟨v, r, e1, e2, e3⟩ := r1
      subst e3 e2 e1
      exact ⟨j, rfl, hc.1, hc.2, PQ.now h1 R1 (walk_rng 0 j.toNat)⟩
    · exact h1.elim
  · exact h1.elim
theorem ri_rg2 {fl : E (List D)} (hg : Gl X "range") (hm : X.mg "range" = none) (ha : RA cm X [a, b] fl) (hs : starEach [a, b] X.env = [(false, eval a X.env), (false, eval b X.env)] := by rfl) (hs2 : starEach [b] X.env = [(false, eval b X.env)] := by rfl) : RI cm X tg (.Call (.Name "range" p) [a, b] [] pos) (iRg2 fl) := fun W tk m S H σ en R C hq => by
  refine wI_of (pi_range2 hg hm pa_w hs hs2) ?_
  refine ha W tk m S H σ en _ C (PQ.bind hq fun l S1 x m1 H1 e1 A1 R1 r1 h1 => ?_)
  split at h1
  · rename_i i j
    split at h1
    · rename_i hc
      simp only [Reps, Rep] at r1
      obtain ⟨v, r, e1, e2, w, r', e3, e4, e5⟩ := r1
      subst e5 e4 e3 e2 e1
      exact ⟨i, j, rfl, hc, PQ.now h1 R1 (walk_rng i (j - i).toNat)⟩
    · exact h1.elim
  · exact h1.elim
end

/-! ### for -/
noncomputable def forM (hold : Option Nat) (S0 : So) (g : TgD) (body : T) : List D → T
  | [], en, S => .ok (.nx en) S
  | d :: l, en, S => match g d en S with
    | none => .bad
    | some en1 => (body en1 S).bind fun fl S2 => match fl with
      | .nx en2 => if still hold S0 S2 then forM hold S0 g body l en2 S2 else .bad
      | .ct en2 => if still hold S0 S2 then forM hold S0 g body l en2 S2 else .bad
      | .bk en2 => .ok (.nx en2) S2
      | .rt x => .ok (.rt x) S2
noncomputable def sFor (fi : E Src) (g : TgD) (body : T) : T := fun en S => (fi en S).bind fun src S1 => forM src.hold S1 g body src.items en S1
section
variable {cm : Cm} {X : Cx} {tg iter : Expr} {body : List Stmt} {fi : E Src} {g : TgD} {fb : T} {pos : Pos}
theorem rs_for {ws : List Nat} (hp : PassesOwn (model X.prog X.w) X.A X.env X.xe) (hc : X.calm = true) (hi : RI cm X tg iter fi) (hg : RG cm X tg g ws) (hb : RSs cm X body fb)
    (hs : ∀ x, foldedSetIterable iter X.env x = pure x := by intro _; rfl) : RS cm X (.For tg iter body [] pos) (sFor fi g fb) := fun W tk m S H σ en D C h => by
  refine wS_of (ps_for hp hc pi_w pg_w pss_w hs) ?_
  refine hi W tk m S H σ en _ C (PF.bind h fun src S1 J m1 H1 e1 A1 R1 wj h1 => ?_)
  refine ⟨fun i μ σ' H' => μ = src.items.length - i ∧ i ≤ src.items.length ∧ ∃ m' S' en', Adv m1 S1 H1 m' S' H' ∧ Cond (ct X cm) m' S' H' σ' en' ∧ still src.hold S1 S' = true ∧ PF (ct X cm) m' S' H' W (forM src.hold S1 g fb (src.items.drop i) en' S') D,
    ⟨_, rfl, Nat.zero_le _, m1, S1, en, Adv.refl, C.adv A1 R1, still_same fun _ _ => rfl, by rw [List.drop_zero]; exact h1⟩, ?_⟩
  rintro i μ σ' H' ⟨rfl, hi', m', S', en', A', C', st, hq⟩
  obtain ⟨w1, w2⟩ := wj m' S' H' A' C'.rel st
  by_cases hlt : i < src.items.length
  · have ed : src.items[i]? = some src.items[i] := List.getElem?_eq_getElem hlt
    obtain ⟨go, yl⟩ := w1 i _ ed
    rw [List.drop_eq_getElem_cons hlt] at hq
    unfold forM at hq
    cases eg : g src.items[i] en' S' with
    | none => simp only [eg] at hq; exact hq.elim
    | some en1 =>
      simp only [eg] at hq
      refine .inr ⟨go, fun σ2 H2 => ∃ m2 S2 en2, Adv m1 S1 H1 m2 S2 H2 ∧ Cond (ct X cm) m2 S2 H2 σ2 en2 ∧ still src.hold S1 S2 = true ∧ PF (ct X cm) m2 S2 H2 W (forM src.hold S1 g fb (src.items.drop (i + 1)) en2 S2) D,
        fun σ2 H2 z => ⟨src.items.length - (i + 1), by omega, rfl, by omega, z⟩, fun x H2 y => ?_⟩
      obtain ⟨k, rx⟩ := yl x H2 y
      have A2 : Adv m' S' H' m' S' H2 := Adv.grow k
      refine hg m' S' H2 σ' en' _ x en1 _ (C'.adv A2 (C'.rel.grow k)) rx eg fun σ3 C3 _ => ?_
      have hq2 := PF.after A2 hq
      refine hb W tk m' S' H2 σ3 en1 _ C3 ?_
      cases eb : fb en1 S' with
      | bad => rw [eb] at hq2; exact hq2
      | err x' en2 S2 => rw [eb] at hq2; exact hq2
      | ok fl S2 =>
        rw [eb] at hq2
        cases fl with
        | nx en2 =>
          intro m3 σ4 H4 A4 C4
          simp only [R.bind_ok] at hq2
          split at hq2
          · rename_i st2
            exact ⟨m3, S2, en2, (A'.trans A2).trans A4, C4, st2, PF.after A4 hq2⟩
          · exact hq2.elim
        | ct en2 =>
          intro m3 σ4 H4 A4 C4
          simp only [R.bind_ok] at hq2
          split at hq2
          · rename_i st2
            exact ⟨m3, S2, en2, (A'.trans A2).trans A4, C4, st2, PF.after A4 hq2⟩
          · exact hq2.elim
        | bk en2 => exact fun m3 σ4 H4 A4 C4 => hq2 m3 σ4 H4 A4 C4
        | rt z => exact hq2
  · have e : i = src.items.length := by omega
    subst e
    rw [List.drop_length] at hq
    exact .inl ⟨w2, PF.nx hq C'⟩
end
end Mi

/-! Mi5: while, comprehensions. -/
namespace Mi
open PySem PySem.Spec PyProof.Rows L2

def whileM (t : E Bool) (f : T) : Nat → T
  | 0, _, _ => .bad
  | n + 1, en, S => (t en S).bind fun b S1 => match b with
    | false => .ok (.nx en) S1
    | true => (f en S1).bind fun fl S2 => match fl with
      | .nx en2 => whileM t f n en2 S2
      | .ct en2 => whileM t f n en2 S2
      | .bk en2 => .ok (.nx en2) S2
      | .rt x => .ok (.rt x) S2
section
variable {cm : Cm} {X : Cx} {c : Expr} {body : List Stmt} {t : E Bool} {f : T} {pos : Pos}
theorem rs_while (n : Nat) (hp : PassesOwn (model X.prog X.w) X.A X.env X.xe) (hc : RT cm X c t) (hb : RSs cm X body f) : RS cm X (.While c body [] pos) (whileM t f n) := fun W tk m S H σ en D C h => by
  refine wS_of (ps_while hp pt_w pss_w) ?_
  refine ⟨fun k σ' H' => ∃ m' S' en', Cond (ct X cm) m' S' H' σ' en' ∧ PF (ct X cm) m' S' H' W (whileM t f k en' S') D, ⟨n, m, S, en, C, h⟩, ?_⟩
  rintro k σ' H' ⟨m', S', en', C', q⟩
  cases k with
  | zero => exact q.elim
  | succ k =>
    refine hc W tk m' S' H' σ' en' _ C' (PF.bind q fun b S1 x m1 H1 e1 A1 R1 r1 h1 => ?_)
    obtain rfl : b = x := r1
    cases b with
    | false => rw [if_neg Bool.false_ne_true]; exact PF.nx h1 (C'.adv A1 R1)
    | true =>
      rw [if_pos rfl]
      refine ⟨fun σ2 H2 => ∃ m2 S2 en2, Cond (ct X cm) m2 S2 H2 σ2 en2 ∧ PF (ct X cm) m2 S2 H2 W (whileM t f k en2 S2) D, fun σ2 H2 z => ⟨k, Nat.lt_succ_self k, z⟩, ?_⟩
      refine hb W tk m1 S1 H1 σ' en' _ (C'.adv A1 R1) ?_
      cases eb : f en' S1 with
      | bad => rw [eb] at h1; exact h1
      | err x' en2 S2 => rw [eb] at h1; exact h1
      | ok fl S2 =>
        rw [eb] at h1
        cases fl with
        | nx en2 => exact fun m3 σ4 H4 A4 C4 => ⟨m3, S2, en2, C4, PF.after A4 h1⟩
        | ct en2 => exact fun m3 σ4 H4 A4 C4 => ⟨m3, S2, en2, C4, PF.after A4 h1⟩
        | bk en2 => exact fun m3 σ4 H4 A4 C4 => h1 m3 σ4 H4 A4 C4
        | rt z => exact h1
end

/-! ### comprehensions -/
def wipeE (en : En) : List Nat → En
  | [] => en
  | v :: vs => (wipeE en vs).set v none
theorem wipeE_len (en : En) : ∀ vs : List Nat, (wipeE en vs).length = en.length
  | [] => rfl
  | v :: vs => by unfold wipeE; rw [List.length_set, wipeE_len en vs]
theorem Cond.wipe {cm : Ct} {m : Am} {S : So} {H : Hp} {σ : St} {en : En} (C : Cond cm m S H σ en) : ∀ vs : List Nat, Cond cm m S H (L2.wipe σ vs) (wipeE en vs)
  | [] => C
  | v :: vs => by
    have C' := Cond.wipe C vs
    refine ⟨C.rel, ?_, fun i d e => ?_⟩
    · show ((wipeE en vs).set v none).length = ((L2.wipe σ vs).set v none).length
      rw [List.length_set, List.length_set, C'.len]
    · show ∃ w, ((L2.wipe σ vs).set v none)[i]? = some (some w) ∧ _
      have e' : ((wipeE en vs).set v none)[i]? = some (some d) := e
      by_cases h : v = i
      · subst h
        by_cases hl : v < (wipeE en vs).length
        · rw [List.getElem?_set_self hl] at e'; cases e'
        · rw [List.getElem?_eq_none (by rw [List.length_set]; omega)] at e'; cases e'
      · rw [List.getElem?_set_ne h] at e' ⊢
        exact C'.env i d e'
theorem wipe_get (τ : St) (i : Nat) : ∀ vs : List Nat, (wipe τ vs)[i]? = if i ∈ vs then (if i < τ.length then some none else none) else τ[i]?
  | [] => by simp [wipe]
  | v :: vs => by
    show ((wipe τ vs).set v none)[i]? = _
    by_cases h : v = i
    · subst h
      by_cases hl : v < τ.length
      · rw [List.getElem?_set_self (by rw [wipe_length]; exact hl)]
        simp [hl]
      · rw [List.getElem?_eq_none (by rw [List.length_set, wipe_length]; omega)]
        simp [hl]
    · rw [List.getElem?_set_ne h, wipe_get τ i vs]
      simp [Ne.symm h]
theorem wipe_off {σ σ' : St} {ws vs : List Nat} (o : Off' ws σ σ') (hs : ∀ j ∈ ws, j ∈ vs) : wipe σ' vs = wipe σ vs := by
  apply List.ext_getElem?
  intro i
  rw [wipe_get, wipe_get, o.1]
  by_cases hi : i ∈ vs
  · simp [hi]
  · simp only [hi, if_false]
    exact o.2 i fun z => hi (hs i z)
theorem wipe_idem (σ : St) (vs : List Nat) : wipe (wipe σ vs) vs = wipe σ vs := by
  apply List.ext_getElem?
  intro i
  rw [wipe_get, wipe_get, wipe_length]
  by_cases hi : i ∈ vs
  · simp [hi]
  · simp only [hi, if_false]

noncomputable def compM (hold : Option Nat) (S0 : So) (g : TgD) (t : E Bool) (f : E D) (enw : En) : List D → List D → So → R (List D)
  | [], acc, S => .ok acc S
  | d :: l, acc, S => match g d enw S with
    | none => .bad
    | some en1 => match t en1 S with
      | .ok true S1 => match f en1 S1 with
        | .ok y S2 => if acc.length < sizeLine ∧ still hold S0 S2 = true then compM hold S0 g t f enw l (acc ++ [y]) S2 else .bad
        | _ => .bad
      | .ok false S1 => if still hold S0 S1 = true then compM hold S0 g t f enw l acc S1 else .bad
      | _ => .bad
/-- as a value; as a cell -/
noncomputable def mComp (fi : E Src) (g : TgD) (t : E Bool) (f : E D) (vs : List Nat) : E D := fun en S => (fi en S).bind fun src S1 => (compM src.hold S1 g t f (wipeE en vs) src.items [] S1).bind fun l S2 => .ok (.lst l) S2
noncomputable def mCompN (fi : E Src) (g : TgD) (t : E Bool) (f : E D) (vs : List Nat) : E D := fun en S => (fi en S).bind fun src S1 => (compM src.hold S1 g t f (wipeE en vs) src.items [] S1).bind fun l S2 => .ok (.ref S2.length) (S2 ++ [some (.lst l)])
def tT : E Bool := fun _ S => .ok true S
def wTs (X : Cx) (ifs : List Expr) : TT := fun σ H Q => ∀ pins s, Inv X pins σ H s →
    wpAny (model X.prog X.w) X.A (forIn ifs true fun c r => if r = true then do let ok ← isTrue c X.env (eval c X.env); pure (ForInStep.yield ok) else pure (ForInStep.yield r)) (TP X pins σ Q) X.xe s
theorem wTs_of {X : Cx} {ifs : List Expr} {t : TT} {σ : St} {H : Hp} {Q : Bool → Hp → Prop} (h : PTs X ifs t) (q : t σ H Q) : wTs X ifs σ H Q := fun pins s I => h.run pins s σ H Q I q
def RTs (cm : Cm) (X : Cx) (ifs : List Expr) (f : E Bool) : Prop := ∀ W, Takes X W → ∀ m S H σ en Q, Cond (ct X cm) m S H σ en → PQ rB (ct X cm) m S H σ W (f en S) Q → wTs X ifs σ H Q
section
variable {cm : Cm} {X : Cx} {c : Expr} {t : E Bool}
theorem rts_nil : RTs cm X [] tT := fun W tk m S H σ en Q C h => wTs_of pts_nil (PQ.now h C.rel rfl)
theorem rts_one (h : RT cm X c t) : RTs cm X [c] t := fun W tk m S H σ en Q C q => wTs_of (pts_one pt_w) (h W tk m S H σ en Q C q)
end
/-- D hidden -/
def Am.hide (m : Am) (a : Addr) : Am := { m with hid := fun b => m.hid b ∨ b = a }
section
variable {cm : Ct} {m m1 : Am} {S S1 : So} {H H1 : Hp} {a : Addr} {xs : List V} {u : HO}
theorem hide_adv (h : H a = none) : Adv m S H (m.hide a) S (upd H a u) where
  len := Nat.le_refl _
  mm := fun _ _ => rfl
  al := fun n o e => .inl ⟨(List.getElem?_eq_some_iff.mp e).1, o, e⟩
  fr := fun b o e _ => .inl (grow_upd h b o e)
  tr := fun b e z => by
    by_cases c : b = a
    · subst c; exact e h
    · rw [upd_ne c] at z; exact e z
  tp := fun b xs e => grow_upd h b _ e
  fz := fun b o u e => grow_upd h b _ e
  hd1 := fun b z => .inl z
  hd2 := fun b z => z.elim .inl fun q => .inr (by rw [q]; exact h)
  hd3 := fun b o _ e => grow_upd h b o e
theorem hide_rel (R : RelS cm m S H) (h : H a = none) : RelS cm (m.hide a) S (upd H a u) := by
  have A : Adv m S H (m.hide a) S (upd H a u) := hide_adv h
  refine ⟨fun n o e => (R.at_ n o e).kp A.kp (upd_ne (R.off_new h n o e)), R.inj, fun b z => ?_, fun b z => z.elim (R.hoff b) fun q => by rw [q]; exact R.off_new h⟩
  rcases z with z | z
  · exact A.tr b (R.hid b z)
  · subst z
    rw [upd_same]
    exact fun q => by cases q
/-- the hidden list is written -/
theorem hid_kp (hh : m.hid a) (e : H a = some (.lst xs)) {ys : List V} : Kp m S H m S (upd H a (.lst ys)) := by
  have ne : ∀ b o, H b = some o → (∀ zs, o ≠ .lst zs) → b ≠ a := fun b o q n z => by
    subst z; rw [e] at q; exact n xs (Option.some.inj q).symm
  refine ⟨fun b o q f => ⟨?_, f⟩, fun b zs q => ?_, fun b o v q => ?_, Nat.le_refl _, fun _ _ => rfl⟩
  · unfold Sm; rw [upd_ne fun z => f.2 (by rw [z]; exact hh)]; exact .inl q
  · rw [upd_ne (ne b _ q fun _ z => by cases z)]; exact q
  · rw [upd_ne (ne b _ q fun _ z => by cases z)]; exact q
theorem hid_rel (R : RelS cm m S H) (hh : m.hid a) (o : Off m S a) (e : H a = some (.lst xs)) {ys : List V} : RelS cm m S (upd H a (.lst ys)) := by
  refine ⟨fun n u q => (R.at_ n u q).kp (hid_kp hh e) (upd_ne (o n u q)), R.inj, fun b z => ?_, R.hoff⟩
  by_cases c : b = a
  · subst c; rw [upd_same]; exact fun q => by cases q
  · rw [upd_ne c]; exact R.hid b z
theorem hid_adv (A : Adv m S H m1 S1 H1) (h : H a = none) {ys : List V} (k : ∃ u, H1 a = some (.lst u)) : Adv m S H m1 S1 (upd H1 a (.lst ys)) where
  len := A.len
  mm := A.mm
  al := A.al
  fr := fun b o e f => by unfold Sm; rw [upd_ne (ne_of_none e h)]; exact A.fr b o e f
  tr := fun b e z => by
    by_cases c : b = a
    · subst c; rw [upd_same] at z; cases z
    · rw [upd_ne c] at z; exact A.tr b e z
  tp := fun b xs e => by rw [upd_ne (ne_of_none e h)]; exact A.tp b xs e
  fz := fun b o u e => by rw [upd_ne (ne_of_none e h)]; exact A.fz b o u e
  hd1 := A.hd1
  hd2 := A.hd2
  hd3 := fun b o z e => by rw [upd_ne (ne_of_none e h)]; exact A.hd3 b o z e
/-- shown at the end -/
def Am.show (m : Am) (m0 : Am) : Am := { m with hid := m0.hid }
theorem show_kp (A : Adv m S H m1 S1 H1) : Kp m1 S1 H1 (m1.show m) S1 H1 := ⟨fun b o e f => ⟨.inl e, f.1, fun z => f.2 (A.hd1 b z)⟩, fun _ _ e => e, fun _ _ _ e => e, Nat.le_refl _, fun _ _ => rfl⟩
theorem show_rel (A : Adv m S H m1 S1 H1) (R : RelS cm m1 S1 H1) : RelS cm (m1.show m) S1 H1 := ⟨fun n o e => (R.at_ n o e).kp (show_kp A) rfl, R.inj, fun b z => R.hid b (A.hd1 b z), fun b z => R.hoff b (A.hd1 b z)⟩
theorem show_adv (A : Adv m S H m1 S1 H1) : Adv m S H (m1.show m) S1 H1 := ⟨A.len, A.mm, A.al, A.fr, A.tr, A.tp, A.fz, fun _ h => h, fun _ h => .inl h, A.hd3⟩
end
def rL (cm : Ct) : Rp (List D) Addr := fun m S H l a => ∃ vs, H a = some (.lst vs) ∧ Reps cm m S H l vs
/-- what a comprehension leaves: the list at a new place -/
def PC' (cm : Ct) (m : Am) (S : So) (H : Hp) (r : R (List D)) (Q : Addr → Hp → Prop) : Prop := match r with
  | .ok l S' => ∀ a m' H' vs, Adv m S H m' S' H' → RelS cm m' S' H' → H a = none → H' a = some (.lst vs) → Free m' S' a → Reps cm m' S' H' l vs → Q a H'
  | _ => False
section
variable {cm : Cm} {X : Cx} {elt tg iter : Expr} {ifs : List Expr} {scope : Scope} {own : List (Str × Nat)} {pos : Pos} {fi : E Src} {g : TgD} {t : E Bool} {f : E D} {ws : List Nat}
def bG (X : Cx) (scope : Scope) (tg : Expr) : TG := fun v σ H Q => ∀ (s : Shared) (H0 : Hp) (C : Addr) (cl : List (Str × Addr)) (fp : List Addr), wG (X.blk s H0 scope (compEnvC scope cl C X.env) fp) tg v σ H Q
def bT (X : Cx) (scope : Scope) (ifs : List Expr) : TT := fun σ H Q => ∀ (s : Shared) (H0 : Hp) (C : Addr) (cl : List (Str × Addr)) (fp : List Addr), wTs (X.blk s H0 scope (compEnvC scope cl C X.env) fp) ifs σ H Q
def bE (X : Cx) (scope : Scope) (e : Expr) : TE := fun σ H Q => ∀ (s : Shared) (H0 : Hp) (C : Addr) (cl : List (Str × Addr)) (fp : List Addr), wE (X.blk s H0 scope (compEnvC scope cl C X.env) fp) e σ H Q
theorem comp_run
    (hg : ∀ (s : Shared) (H : Hp) (C : Addr) (cl : List (Str × Addr)) (fp : List Addr), RG cm (X.blk s H scope (compEnvC scope cl C X.env) fp) tg g ws)
    (ht : ∀ (s : Shared) (H : Hp) (C : Addr) (cl : List (Str × Addr)) (fp : List Addr), RTs cm (X.blk s H scope (compEnvC scope cl C X.env) fp) ifs t)
    (he : ∀ (s : Shared) (H : Hp) (C : Addr) (cl : List (Str × Addr)) (fp : List Addr), RE cm (X.blk s H scope (compEnvC scope cl C X.env) fp) elt f)
    (hw : ∀ j ∈ ws, j ∈ own.map (·.2)) {m1 : Am} {S1 : So} {H1 : Hp} {σ : St} {en : En} {src : Src} {J : It} {Q : VK} (C : Cond (ct X cm) m1 S1 H1 σ en) (wj : WalkJ (ct X cm) J src m1 S1 H1)
    (h : PC' (ct X cm) m1 S1 H1 (compM src.hold S1 g t f (wipeE en (own.map (·.2))) src.items [] S1) (fun a => Q (.ref a))) :
    ∀ D, H1 D = none → ∃ W : Nat → Nat → Hp → Prop, (∃ m, W 0 m (upd H1 D (.lst []))) ∧ ∀ i m H, W i m H →
      (J.stop i H ∧ Q (.ref D) H) ∨ (J.go i H ∧ ∃ Nx : Hp → Prop, (∀ H', Nx H' → ∃ m', m' < m ∧ W (i + 1) m' H') ∧ ∀ x H', J.yld i H x H' → bG X scope tg x (wipe σ (own.map (·.2))) H' fun σ2 H2 => wipe σ2 (own.map (·.2)) = wipe σ (own.map (·.2)) ∧ bT X scope ifs σ2 H2 fun b H3 =>
        if b = true then bE X scope elt σ2 H3 fun y H4 => ∃ acc, H4 D = some (.lst acc) ∧ acc.length < sizeLine ∧ Nx (upd H4 D (.lst (acc ++ [y]))) else Nx H3) := by
  intro D hD
  generalize hvs : own.map (·.2) = vs at *
  refine ⟨fun i μ H' => μ = src.items.length - i ∧ i ≤ src.items.length ∧ ∃ m' S' acc accV, Adv m1 S1 H1 m' S' H' ∧ RelS (ct X cm) m' S' H' ∧ m'.hid D ∧ Off m' S' D ∧ H' D = some (.lst accV) ∧ Reps (ct X cm) m' S' H' acc accV ∧ still src.hold S1 S' = true ∧
      PC' (ct X cm) m1 S1 H1 (compM src.hold S1 g t f (wipeE en vs) (src.items.drop i) acc S') (fun a => Q (.ref a)),
    ⟨_, rfl, Nat.zero_le _, m1.hide D, S1, [], [], hide_adv hD, hide_rel C.rel hD, .inr rfl, (C.rel.off_new hD : Off m1 S1 D), upd_same, Reps.nil, still_same fun _ _ => rfl, by rw [List.drop_zero]; exact h⟩, ?_⟩
  rintro i μ H' ⟨rfl, hi', m', S', acc, accV, A', R', hid, off, hL, rl, st, hq⟩
  obtain ⟨w1, w2⟩ := wj m' S' H' A' R' st
  by_cases hlt : i < src.items.length
  · have ed : src.items[i]? = some src.items[i] := List.getElem?_eq_getElem hlt
    obtain ⟨go, yl⟩ := w1 i _ ed
    rw [List.drop_eq_getElem_cons hlt] at hq
    unfold compM at hq
    cases eg : g src.items[i] (wipeE en vs) S' with
    | none => simp only [eg] at hq; exact hq.elim
    | some en1 =>
      simp only [eg] at hq
      refine .inr ⟨go, fun H2 => ∃ m2 S2 acc2 accV2, Adv m1 S1 H1 m2 S2 H2 ∧ RelS (ct X cm) m2 S2 H2 ∧ m2.hid D ∧ Off m2 S2 D ∧ H2 D = some (.lst accV2) ∧ Reps (ct X cm) m2 S2 H2 acc2 accV2 ∧ still src.hold S1 S2 = true ∧
          PC' (ct X cm) m1 S1 H1 (compM src.hold S1 g t f (wipeE en vs) (src.items.drop (i + 1)) acc2 S2) (fun a => Q (.ref a)),
        fun H2 z => ⟨src.items.length - (i + 1), by omega, rfl, by omega, z⟩, fun x H2 y => ?_⟩
      obtain ⟨k, rx⟩ := yl x H2 y
      have A2 : Adv m' S' H' m' S' H2 := Adv.grow k
      have R2 := R'.grow k
      have C2 : Cond (ct X cm) m' S' H2 (wipe σ vs) (wipeE en vs) := ((C.adv A' R').adv A2 R2).wipe vs
      intro s H0 Cb cl fp
      refine hg s H0 Cb cl fp m' S' H2 (wipe σ vs) (wipeE en vs) _ x en1 _ C2 rx eg fun σ3 C3 o3 => ⟨?_, ?_⟩
      · have e1 := wipe_off o3 hw
        rw [e1]
        exact wipe_idem σ vs
      · intro s H0 Cb cl fp
        have offD : ∀ {m5 : Am} {S5 : So} {H5 : Hp}, Adv m' S' H2 m5 S5 H5 → H5 D = some (.lst accV) ∧ Off m5 S5 D ∧ m5.hid D := fun A5 => ⟨(A5.fr D _ (k D _ hL) off).lst, A5.off (k D _ hL) off, A5.hd1 D hid⟩
        cases et : t en1 S' with
        | bad => simp only [et] at hq; exact hq.elim
        | err _ _ _ => simp only [et] at hq; exact hq.elim
        | ok b S3 =>
          refine ht s H0 Cb cl fp (fun _ _ _ _ => False) takes0 m' S' H2 σ3 en1 _ C3 ?_
          rw [et]
          intro b' m3 H3 A3 R3 eb
          obtain rfl : b = b' := eb
          cases b with
          | false =>
            rw [if_neg Bool.false_ne_true]
            simp only [et] at hq
            split at hq
            · rename_i st3
              obtain ⟨o1, o2, o3'⟩ := offD A3
              exact ⟨m3, S3, acc, accV, (A'.trans A2).trans A3, R3, o3', o2, o1, Reps.adv (A2.trans A3) _ _ rl, st3, hq⟩
            · exact hq.elim
          | true =>
            rw [if_pos rfl]
            simp only [et] at hq
            cases ef : f en1 S3 with
            | bad => simp only [ef] at hq; exact hq.elim
            | err _ _ _ => simp only [ef] at hq; exact hq.elim
            | ok yv S4 =>
              intro s H0 Cb cl fp
              refine he s H0 Cb cl fp (fun _ _ _ _ => False) takes0 m3 S3 H3 σ3 en1 _ (C3.adv A3 R3) ?_
              rw [ef]
              intro v m4 H4 A4 R4 rv
              simp only [ef] at hq
              split at hq
              · rename_i st4
                obtain ⟨o1, o2, o3'⟩ := offD (A3.trans A4)
                have rl4 := Reps.adv ((A2.trans A3).trans A4) _ _ rl
                refine ⟨accV, o1, by rw [← rl4.length]; exact st4.1, m4, S4, acc ++ [yv], accV ++ [v], hid_adv (((A'.trans A2).trans A3).trans A4) hD ⟨_, o1⟩, hid_rel R4 o3' o2 o1, o3', o2, upd_same, ?_, st4.2, hq⟩
                exact Reps.kp (hid_kp o3' o1) _ _ (rl4.append (Reps.cons rv Reps.nil))
              · exact hq.elim
  · have e : i = src.items.length := by omega
    subst e
    rw [List.drop_length] at hq
    refine .inl ⟨w2, hq D (m'.show m1) H' accV (show_adv A') (show_rel A' R') hD hL ⟨off, fun z => C.rel.hid D z hD⟩ (Reps.kp (show_kp A') _ _ rl)⟩
theorem PQ.pc {α : Type} {rp : Rp α V} {cm : Ct} {m : Am} {S : So} {H : Hp} {σ : St} {W : WX} {r : R (List D)} {k : List D → So → R α} {Q : VK} (h : PQ rp cm m S H σ W (r.bind k) Q)
    (hn : ∀ x en' S', r ≠ .err x en' S') (hk : ∀ l S' a m' H' vs, Adv m S H m' S' H' → RelS cm m' S' H' → H a = none → H' a = some (.lst vs) → Free m' S' a → Reps cm m' S' H' l vs → PQ rp cm m' S' H' σ W (k l S') Q → Q (.ref a) H') :
    PC' cm m S H r (fun a => Q (.ref a)) := by
  cases r with
  | ok l S' => exact fun a m' H' vs A R h1 h2 h3 h4 => hk l S' a m' H' vs A R h1 h2 h3 h4 (PQ.after A h)
  | err x en' S' => exact (hn x en' S' rfl).elim
  | bad => exact h
theorem compM_noerr {hold : Option Nat} {S0 : So} {g : TgD} {t : E Bool} {f : E D} {enw : En} : ∀ {l acc : List D} {S : So} {x : Ex} {en' : En} {S' : So}, compM hold S0 g t f enw l acc S ≠ .err x en' S'
  | [], acc, S, x, en', S' => by unfold compM; exact fun z => by cases z
  | d :: l, acc, S, x, en', S' => by
    unfold compM
    split
    · exact fun z => by cases z
    · split
      · split
        · split
          · exact compM_noerr
          · exact fun z => by cases z
        · exact fun z => by cases z
      · split
        · exact compM_noerr
        · exact fun z => by cases z
      · exact fun z => by cases z
theorem re_comp (hc : X.calm = true) (hN : X.N.Nodup) (hi : RI cm X tg iter fi) (ok : BlkOk X.N X.env.scope scope own)
    (hg : ∀ (s : Shared) (H : Hp) (C : Addr) (cl : List (Str × Addr)) (fp : List Addr), RG cm (X.blk s H scope (compEnvC scope cl C X.env) fp) tg g ws)
    (ht : ∀ (s : Shared) (H : Hp) (C : Addr) (cl : List (Str × Addr)) (fp : List Addr), RTs cm (X.blk s H scope (compEnvC scope cl C X.env) fp) ifs t)
    (he : ∀ (s : Shared) (H : Hp) (C : Addr) (cl : List (Str × Addr)) (fp : List Addr), RE cm (X.blk s H scope (compEnvC scope cl C X.env) fp) elt f)
    (hw : ∀ j ∈ ws, j ∈ own.map (·.2) := by decide) (hs : ∀ x, foldedSetIterable iter X.env x = pure x := by intro _; rfl) :
    RE cm X (.ListComp elt [⟨tg, iter, ifs, 0⟩] scope pos) (mComp fi g t f (own.map (·.2))) := fun W tk m S H σ en Q C h => by
  refine wE_of (pe_lc (g := bG X scope tg) (tt := bT X scope ifs) (te := bE X scope elt) hc hN pi_w ok (fun s H0 Cb cl fp => ⟨fun pins s' σ H v u Q I r h => h s H0 Cb cl fp pins s' u I r⟩) (fun s H0 Cb cl fp => ⟨fun pins s' σ H Q I h => h s H0 Cb cl fp pins s' I⟩) (fun s H0 Cb cl fp => ⟨fun pins s' σ H Q I h => h s H0 Cb cl fp pins s' I⟩) hs) ?_
  refine hi W tk m S H σ en _ C (PQ.bind h fun src S1 J m1 H1 e1 A1 R1 wj h1 => ?_)
  refine comp_run (own := own) hg ht he hw (C.adv A1 R1) wj (PQ.pc h1 (fun _ _ _ => compM_noerr) fun l S' a m' H' vs A R h2 h3 h4 h5 h6 => ?_)
  refine PQ.now h6 R ?_
  simp only [Rep]
  exact ⟨a, vs, rfl, h3, h4, h5⟩
/-- y = [..] on one line -/
theorem rs_comp (i : Nat) {y : Str} {py spos : Pos} (hc : X.calm = true) (hN : X.N.Nodup) (hy : X.N[i]? = some y) (hyl : X.env.scope.names.lookup y = some .local)
    (hsw : swapsWith (.ListComp elt [⟨tg, iter, ifs, 0⟩] scope pos) (some (.Name y py)) spos.line X.env = pure true) (hi : RI cm X tg iter fi) (ok : BlkOk X.N X.env.scope scope own)
    (hg : ∀ (s : Shared) (H : Hp) (C : Addr) (cl : List (Str × Addr)) (fp : List Addr), RG cm (X.blk s H scope (compEnvC scope cl C X.env) fp) tg g ws)
    (ht : ∀ (s : Shared) (H : Hp) (C : Addr) (cl : List (Str × Addr)) (fp : List Addr), RTs cm (X.blk s H scope (compEnvC scope cl C X.env) fp) ifs t)
    (he : ∀ (s : Shared) (H : Hp) (C : Addr) (cl : List (Str × Addr)) (fp : List Addr), RE cm (X.blk s H scope (compEnvC scope cl C X.env) fp) elt f)
    (hw : ∀ j ∈ ws, j ∈ own.map (·.2) := by decide) (hs : ∀ x, foldedSetIterable iter X.env x = pure x := by intro _; rfl) :
    RS cm X (.Assign [.Name y py] (.ListComp elt [⟨tg, iter, ifs, 0⟩] scope pos) spos) (sSet i (mComp fi g t f (own.map (·.2)))) := fun W tk m S H σ en D C h => by
  refine wS_of (ps_setLc (g := bG X scope tg) (tt := bT X scope ifs) (te := bE X scope elt) hc hN hy hyl hsw pi_w ok (fun s H0 Cb cl fp => ⟨fun pins s' σ H v u Q I r h => h s H0 Cb cl fp pins s' u I r⟩) (fun s H0 Cb cl fp => ⟨fun pins s' σ H Q I h => h s H0 Cb cl fp pins s' I⟩) (fun s H0 Cb cl fp => ⟨fun pins s' σ H Q I h => h s H0 Cb cl fp pins s' I⟩) hs) ?_
  have h : PQ (Rep (ct X cm)) (ct X cm) m S H σ W (mComp fi g t f (own.map (·.2)) en S) (fun x H1 => gName i x σ H1 D.nx) := PF.bind h fun d S1 x m1 H1 e1 A1 R1 r1 h1 => h1.nx ((C.adv A1 R1).set i r1)
  refine hi W tk m S H σ en _ C (PQ.bind h fun src S1 J m1 H1 e1 A1 R1 wj h1 => ?_)
  refine comp_run (own := own) (Q := fun x H1 => gName i x σ H1 D.nx) hg ht he hw (C.adv A1 R1) wj (PQ.pc h1 (fun _ _ _ => compM_noerr) fun l S' a m' H' vs A R h2 h3 h4 h5 h6 => ?_)
  exact PQ.now (Q := fun x H1 => gName i x σ H1 D.nx) h6 R (by simp only [Rep]; exact ⟨a, vs, rfl, h3, h4, h5⟩)
end
end Mi

/-! Mi6: defs and calls. -/
namespace Mi
open PySem PySem.Spec PyProof.Rows L2

abbrev Fm := List D → So → R D
def PD (cm : Ct) (m : Am) (S : So) (H : Hp) (r : R D) (Q : VK) (E : XK) : Prop := match r with
  | .ok d S' => ∀ v m' H', Adv m S H m' S' H' → RelS cm m' S' H' → Rep cm m' S' H' d v → Q v H'
  | .err x _ S' => ∀ cls dd m' H', Adv m S H m' S' H' → RelS cm m' S' H' → RepX cm m' S' H' x cls dd → E cls dd H'
  | .bad => False
def spF (cm : Ct) (n : Nat) (F : Fm) : Sp := fun vs H Q E => vs.length = n ∧ ∃ m S ds, RelS cm m S H ∧ Reps cm m S H ds vs ∧ PD cm m S H (F ds S) Q E
def bodyR : R Fl → R D
  | .ok (.nx _) S' => .ok .non S'
  | .ok (.rt d) S' => .ok d S'
  | .ok _ _ => .bad
  | .err x _ S' => .err x [] S'
  | .bad => .bad
/-- a def's mirror: n slots, k parameters -/
def bodyM (n k : Nat) (f : T) : Fm := fun ds S => if ds.length = k then bodyR (f (ds.map some ++ List.replicate (n - k) none) S) else .bad
def R.at {α : Type} (en : En) : R α → R α
  | .err x _ S => .err x en S
  | r => r
def mCall (F : Fm) (fa : E (List D)) : E D := fun en S => (fa en S).bind fun ds S1 => (F ds S1).at en
def fBad : Fm := fun _ _ => .bad

section
variable {P : Program} {w : World} {K : PySem.W.Frag} {mg : Str → Option Value} {base : Heap} {cm : Cm}
def DefM (P : Program) (w : World) (K : PySem.W.Frag) (mg : Str → Option Value) (base : Heap) (cm : Cm) (k : Nat) (x : Str) (F : Fm) : Prop :=
  ∃ f fd ps, mg x = some (.ref f) ∧ PySem.W.keepIn K (.ref f) = true ∧ FnOk P w K mg base (L2.CX P w) k f fd ps (spF ⟨K, cm.cls, cm.exc⟩ ps.length F) ∧ Binds K fd ps [] ∧ ∀ ds S, ds.length ≠ ps.length → F ds S = .bad
theorem DefM.mono {j k : Nat} {x : Str} {F : Fm} (h : DefM P w K mg base cm j x F) (l : j ≤ k) : DefM P w K mg base cm k x F := let ⟨f, fd, ps, a, b, c, d⟩ := h; ⟨f, fd, ps, a, b, c.mono l, d⟩
/-- the text of a def, found -/
def Fnd (K : PySem.W.Frag) (mg : Str → Option Value) (x qual : Str) (st : Stmt) (ps : List Str) : Prop := ∃ f fd, mg x = some (.ref f) ∧ Fun K x qual st f fd ∧ Binds K fd ps []
theorem spF_bad {f : Addr} {fd : FuncData} {ps : List Str} {k : Nat} {ct : Ct} : FnOk P w K mg base (L2.CX P w) k f fd ps (spF ct ps.length fBad) := ⟨fun _ _ _ _ h => h.1, fun _ _ _ _ _ _ _ _ _ _ _ _ _ h => by
  obtain ⟨_, _, _, _, _, _, z⟩ := h
  exact z.elim⟩
theorem DefM.zero {x qual : Str} {st : Stmt} {ps : List Str} (F : Fnd K mg x qual st ps) : DefM P w K mg base cm 0 x fBad :=
  let ⟨f, fd, a, b, c⟩ := F
  ⟨f, fd, ps, a, b.kp, spF_bad, c, fun _ _ _ => rfl⟩
theorem cond_start {cm : Ct} {m : Am} {S : So} {H : Hp} {ds : List D} {vs : List V} {N : List Str} (R : RelS cm m S H) (h : Reps cm m S H ds vs) : Cond cm m S H (L2.start N vs) (ds.map some ++ List.replicate (N.length - ds.length) none) := by
  have hl := h.length
  refine ⟨R, by unfold L2.start; simp [hl], fun i d e => ?_⟩
  by_cases hi : i < ds.length
  · rw [List.getElem?_append_left (by simpa using hi), List.getElem?_map] at e
    cases q : ds[i]? with
    | none => rw [q] at e; cases e
    | some d' =>
      rw [q] at e
      cases e
      obtain ⟨v, h1, h2⟩ := h.get q
      refine ⟨v, ?_, h2⟩
      unfold L2.start
      rw [List.getElem?_append_left (by simpa using (List.getElem?_eq_some_iff.mp h1).1), List.getElem?_map, h1]
      rfl
  · rw [List.getElem?_append_right (by simpa using hi), List.getElem?_replicate] at e
    split at e <;> cases e
theorem fnm_of {x qual : Str} {st : Stmt} {f : Addr} {fd : FuncData} {N ps : List Str} {k : Nat} {g : T} (b : Fun K x qual st f fd) (S : FnScope N ps (defScope st))
    (hb : ∀ (f : Addr) (cdv : Value) (A : Around) (outer : List Env) (s : Shared) (H : Hp) (E : XK), Room k (A.deeper (envOfC qual (defScope st) s.heap.objs.size f cdv)) →
      RSs cm (cxOf (L2.CX P w) P w K mg base N qual (defScope st) f cdv A outer s H E) (defBody st) g) : FnOk P w K mg base (L2.CX P w) (k + 1) f fd ps (spF ⟨K, cm.cls, cm.exc⟩ ps.length (bodyM N.length ps.length g)) := by
  refine b.okX S (fun _ _ _ _ h => h.1) (fun cdv A outer s H vs Q E hr hsp => ?_)
  obtain ⟨hl, m, S1, ds, R, rs, h⟩ := hsp
  refine ⟨_, pss_w, ?_⟩
  have hl2 : ds.length = ps.length := by rw [← hl]; exact rs.length
  unfold bodyM at h
  rw [if_pos hl2] at h
  refine hb f cdv A outer s H E hr (fun cls d _ H => E cls d H) (takes_of rfl rfl rfl rfl) m S1 H _ (ds.map some ++ List.replicate (N.length - ps.length) none) _ (by rw [← hl2]; exact cond_start R rs) ?_
  revert h
  cases g (ds.map some ++ List.replicate (N.length - ps.length) none) S1 with
  | bad => exact fun h => h.elim
  | err x en' S' => exact fun h cls dd m' σ' H' A' C' X' => h cls dd m' H' A' C'.rel X'
  | ok fl S' =>
    cases fl with
    | nx en' => exact fun h m' σ' H' A' C' => h .non m' H' A' C'.rel (by simp only [Rep])
    | rt d => exact fun h v m' H' A' R' r' => h v m' H' A' R' r'
    | bk _ => exact fun h => h.elim
    | ct _ => exact fun h => h.elim
theorem DefM.of {x qual : Str} {st : Stmt} {N ps : List Str} {k : Nat} {g : T} (F : Fnd K mg x qual st ps) (S : FnScope N ps (defScope st))
    (hb : ∀ (f : Addr) (cdv : Value) (A : Around) (outer : List Env) (s : Shared) (H : Hp) (E : XK), Room k (A.deeper (envOfC qual (defScope st) s.heap.objs.size f cdv)) →
      RSs cm (cxOf (L2.CX P w) P w K mg base N qual (defScope st) f cdv A outer s H E) (defBody st) g) : DefM P w K mg base cm (k + 1) x (bodyM N.length ps.length g) := by
  obtain ⟨f, fd, a, b, c⟩ := F
  exact ⟨f, fd, ps, a, b.kp, fnm_of b S hb, c, fun ds S' h => by unfold bodyM; rw [if_neg h]⟩
end
section
variable {cm : Cm} {X : Cx} {k : Nat} {x : Str} {F : Fm} {p pos : Pos} {e : Expr} {es : List Expr} {fa : E (List D)}
theorem PQ.pd {cm : Ct} {m : Am} {S : So} {H : Hp} {σ : St} {en : En} {W : WX} {r : R D} {Q : VK} (C : Cond cm m S H σ en) (h : PQ (Rep cm) cm m S H σ W (r.at en) Q) : PD cm m S H r Q (WE W σ) := by
  cases r with
  | ok d S' => exact h
  | err x en' S' => exact fun cls dd m' H' A R rx => h cls dd m' H' A (C.adv A R) rx
  | bad => exact h
theorem re_call (Dm : DefM X.prog X.w X.K X.mg X.base cm k x F) (hr : Room k X.A) (hg : Gl X x) (ha : RA cm X (e :: es) fa) (hdb : (x == ("__debug__" : Str)) = false := by decide)
    (he : starEach (e :: es) X.env = (false, eval e X.env) :: starEach es X.env := by rfl) (hpl : (backTo pos (starEach es X.env)).any (·.1) = false := by rfl) :
    RE cm X (.Call (.Name x p) (e :: es) [] pos) (mCall F fa) := fun W tk m S H σ en Q C h => by
  obtain ⟨f, fd, ps, hm, hk, hF, hb, hbad⟩ := Dm
  refine wE_of (pe_callS hF hr hg hm hk hb (passAt tk) pa_w hdb he hpl) ?_
  refine ha W tk m S H σ en _ C (PQ.bind h fun ds S1 vs m1 H1 e1 A1 R1 rs h1 => ?_)
  have hl : ds.length = ps.length := by
    by_cases q : ds.length = ps.length
    · exact q
    · rw [hbad ds S1 q] at h1
      exact h1.elim
  exact ⟨by rw [← hl]; exact rs.length.symm, m1, S1, ds, R1, rs, h1.pd (C.adv A1 R1)⟩
theorem pe_callS0 {CX : CXT} {f : Addr} {fd : FuncData} {ps : List Str} {sp : Sp} {E : St → XK} (Fo : FnOk X.prog X.w X.K X.mg X.base CX k f fd ps sp) (hr : Room k X.A) (hg : Gl X x) (hm : X.mg x = some (.ref f)) (hk : PySem.W.keepIn X.K (.ref f) = true) (hb : Binds X.K fd ps []) (hx : ∀ σ, PassesAt CX X σ (E σ))
    (hdb : (x == ("__debug__" : Str)) = false := by decide) : PE X (.Call (.Name x p) [] [] pos) (tCallS sp E tNil) := by
  refine ⟨fun pins s σ H Q I h => ?_⟩
  refine wpAny_Call_Name_kw (ld_glob I hg hm ?_ hdb)
  exact PySem.W.callWith_K0 I.kIn hk (run_fnS (us := []) Fo hr hb (hx σ) I .nil h)
theorem re_call0 (Dm : DefM X.prog X.w X.K X.mg X.base cm k x F) (hr : Room k X.A) (hg : Gl X x) (hdb : (x == ("__debug__" : Str)) = false := by decide) :
    RE cm X (.Call (.Name x p) [] [] pos) (mCall F aNil) := fun W tk m S H σ en Q C h => by
  obtain ⟨f, fd, ps, hm, hk, hF, hb, hbad⟩ := Dm
  refine wE_of (pe_callS0 hF hr hg hm hk hb (passAt tk) hdb) ?_
  have h1 : PQ (Rep (ct X cm)) (ct X cm) m S H σ W ((F [] S).at en) Q := h
  have hl : ([] : List D).length = ps.length := by
    by_cases q : ([] : List D).length = ps.length
    · exact q
    · rw [hbad [] S q] at h1
      exact h1.elim
  exact ⟨hl, m, S, [], C.rel, Reps.nil, h1.pd C⟩
end
end Mi

/-! Mi7: calls of built-ins. -/
namespace Mi
open PySem PySem.Spec PyProof.Rows L2

abbrev OpL := List D → So → Option (D × So)
def rW (X : Cx) (f : Value) : List V → Hp → VK → Prop := fun vs H Q => ∀ pins s σ us, Inv X pins σ H s → Vals vs us → wpAny (model X.prog X.w) X.A (call f us) (EP X pins σ Q) X.xe s
theorem call_w {X : Cx} {f : Value} : CallR X f (rW X f) := fun pins s σ H vs us Q I r h => h pins s σ us I r
theorem rW_of {X : Cx} {f : Value} {r : List V → Hp → VK → Prop} {vs : List V} {H : Hp} {Q : VK} (h : CallR X f r) (q : r vs H Q) : rW X f vs H Q := fun pins s σ us I rv => h pins s σ H vs us Q I rv q
def CallD (cm : Cm) (X : Cx) (f : Value) (g : OpL) : Prop := ∀ m S H ds vs Q, RelS (ct X cm) m S H → Reps (ct X cm) m S H ds vs → POk (Rep (ct X cm)) (ct X cm) m S H (g ds S) Q → rW X f vs H Q
def mB (g : OpL) (fa : E (List D)) : E D := fun en S => (fa en S).bind fun l S1 => R.of (g l S1)
section
variable {cm : Cm} {X : Cx} {x : Str} {p pos : Pos} {e : Expr} {es : List Expr} {fa : E (List D)} {id T : String} {g : OpL}
theorem re_b (hc : CallD cm X (.builtin id) g) (hg : Gl X x) (hm : X.mg x = none) (hv : bootBuiltins x = some (.builtin id)) (ha : RA cm X (e :: es) fa) (hn : x ≠ "__name__" := by decide) (hdb : (x == ("__debug__" : Str)) = false := by decide)
    (he : starEach (e :: es) X.env = (false, eval e X.env) :: starEach es X.env := by rfl) (hpl : (backTo pos (starEach es X.env)).any (·.1) = false := by rfl) : RE cm X (.Call (.Name x p) (e :: es) [] pos) (mB g fa) := fun W tk m S H σ en Q C h => by
  refine wE_of (pe_callB call_w hg hm hv pa_w hn hdb he hpl) ?_
  refine ha W tk m S H σ en _ C (PQ.bind h fun ds S1 vs m1 H1 e1 A1 R1 rs h1 => ?_)
  exact hc m1 S1 H1 ds vs _ R1 rs h1.pok
theorem re_ty (hc : CallD cm X (.type T) g) (hg : Gl X x) (hm : X.mg x = none) (hv : bootBuiltins x = some (.type T)) (ha : RA cm X (e :: es) fa) (hn : x ≠ "__name__" := by decide) (hdb : (x == ("__debug__" : Str)) = false := by decide)
    (he : starEach (e :: es) X.env = (false, eval e X.env) :: starEach es X.env := by rfl) (hpl : (backTo pos (starEach es X.env)).any (·.1) = false := by rfl) : RE cm X (.Call (.Name x p) (e :: es) [] pos) (mB g fa) := fun W tk m S H σ en Q C h => by
  refine wE_of (pe_callTy call_w hg hm hv pa_w hn hdb he hpl) ?_
  refine ha W tk m S H σ en _ C (PQ.bind h fun ds S1 vs m1 H1 e1 A1 R1 rs h1 => ?_)
  exact hc m1 S1 H1 ds vs _ R1 rs h1.pok
theorem reps1 {cm : Ct} {m : Am} {S : So} {H : Hp} {d : D} {vs : List V} (r : Reps cm m S H [d] vs) : ∃ x, vs = [x] ∧ Rep cm m S H d x := by
  simp only [Reps] at r
  obtain ⟨v, r, e, h, e2⟩ := r
  subst e2
  exact ⟨v, e, h⟩
theorem reps2 {cm : Ct} {m : Am} {S : So} {H : Hp} {d d' : D} {vs : List V} (r : Reps cm m S H [d, d'] vs) : ∃ x y, vs = [x, y] ∧ Rep cm m S H d x ∧ Rep cm m S H d' y := by
  simp only [Reps] at r
  obtain ⟨v, r, e, h, w, r', e2, h2, e3⟩ := r
  subst e3 e2
  exact ⟨v, w, e, h, h2⟩
end

/-! ### numbers -/
def bAbs : OpL := fun l S => match l with
  | [.int i] => some (.int (if i < 0 then -i else i), S)
  | _ => none
def bInt : OpL := fun l S => match l with
  | [.int i] => some (.int i, S)
  | [.bl b] => some (.int (if b then 1 else 0), S)
  | _ => none
def bMax : OpL := fun l S => match l with
  | [.int i, .int j] => some (.int (if j > i then j else i), S)
  | _ => none
def bMin : OpL := fun l S => match l with
  | [.int i, .int j] => some (.int (if j < i then j else i), S)
  | _ => none
section
variable {cm : Cm} {X : Cx}
theorem cd_abs : CallD cm X (.builtin "abs") bAbs := fun m S H ds vs Q R r h => by
  unfold bAbs at h
  split at h
  · obtain ⟨x, rfl, rx⟩ := reps1 r
    simp only [Rep] at rx
    exact rW_of call_abs ⟨_, by rw [rx], h.int R⟩
  · exact h.no.elim
theorem cd_int : CallD cm X (.type "int") bInt := fun m S H ds vs Q R r h => by
  unfold bInt at h
  split at h
  · obtain ⟨x, rfl, rx⟩ := reps1 r
    simp only [Rep] at rx
    exact rW_of call_int1 (.inl ⟨_, by rw [rx], h.int R⟩)
  · obtain ⟨x, rfl, rx⟩ := reps1 r
    simp only [Rep] at rx
    exact rW_of call_int1 (.inr ⟨_, by rw [rx], h.int R⟩)
  · exact h.no.elim
theorem cd_max (hc : X.calm = true) : CallD cm X (.builtin "max") bMax := fun m S H ds vs Q R r h => by
  unfold bMax at h
  split at h
  · obtain ⟨x, y, rfl, rx, ry⟩ := reps2 r
    simp only [Rep] at rx ry
    exact rW_of (call_max2 hc) ⟨_, _, by rw [rx, ry], h.int R⟩
  · exact h.no.elim
theorem cd_min (hc : X.calm = true) : CallD cm X (.builtin "min") bMin := fun m S H ds vs Q R r h => by
  unfold bMin at h
  split at h
  · obtain ⟨x, y, rfl, rx, ry⟩ := reps2 r
    simp only [Rep] at rx ry
    exact rW_of (call_min2 hc) ⟨_, _, by rw [rx, ry], h.int R⟩
  · exact h.no.elim
end

/-! ### len, all, any, tuple, list -/
def bLen : OpL := fun l S => match l with
  | [.str z] => if z.length ≤ sizeLine then some (.int z.length, S) else none
  | [d] => match seqOf d S with
    | some l => some (.int l.length, S)
    | none => match dctOf d S with
      | some (ks, _) => some (.int ks.length, S)
      | none => none
  | _ => none
def blsOf : List D → Option (List Bool)
  | [] => some []
  | .bl b :: l => (blsOf l).map (b :: ·)
  | _ => none
def bAll : OpL := fun l S => match l with
  | [d] => match lstOf d S with
    | some l => (blsOf l).map fun bs => (.bl (bs.all id), S)
    | none => none
  | _ => none
def bAny : OpL := fun l S => match l with
  | [d] => match lstOf d S with
    | some l => (blsOf l).map fun bs => (.bl (bs.any id), S)
    | none => none
  | _ => none
/-- tuple(list) -/
def bTup : OpL := fun l S => match l with
  | [.tup l] => some (.tup l, S)
  | [d] => (lstOf d S).map fun l => (.tup l, S)
  | _ => none
def sgns (x : Str) : List D := x.cps.toList.map fun c => D.str ⟨#[c]⟩
/-- list(xs), a value; a cell -/
def itmsOf (d : D) (S : So) : Option (List D) := seqOf d S
def bLst : OpL := fun l S => match l with
  | [d] => (itmsOf d S).map fun l => (.lst l, S)
  | _ => none
def bLstN : OpL := fun l S => match l with
  | [d] => (itmsOf d S).map fun l => (.ref S.length, S ++ [some (.lst l)])
  | _ => none
theorem reps_bls {cm : Ct} {m : Am} {S : So} {H : Hp} : ∀ {l : List D} {bs : List Bool} {vs : List V}, blsOf l = some bs → Reps cm m S H l vs → vs = bs.map V.bl
  | [], bs, vs, e, r => by
    simp only [blsOf, Option.some.injEq] at e
    subst e
    simp only [Reps] at r
    exact r
  | d :: l, bs, vs, e, r => by
    simp only [Reps] at r
    obtain ⟨v, r, rfl, h1, h2⟩ := r
    cases d with
    | bl b =>
      simp only [blsOf, Option.map_eq_some_iff] at e
      obtain ⟨bs', e1, rfl⟩ := e
      simp only [Rep] at h1
      rw [h1, reps_bls e1 h2]
      rfl
    | _ => simp [blsOf] at e
theorem vals_of_get : ∀ {xs : List V} {us : List Value}, xs.length = us.length → (∀ (j : Nat) (v : Value), us[j]? = some v → ∃ x : V, xs[j]? = some x ∧ RelV x v) → Vals xs us
  | [], [], _, _ => .nil
  | x :: xs, u :: us, hl, h => by
    obtain ⟨y, e, r⟩ := h 0 u rfl
    cases e
    exact .cons r (vals_of_get (by simpa using hl) fun j v e => by
      obtain ⟨y, e1, r1⟩ := h (j + 1) v (by simpa using e)
      exact ⟨y, by simpa using e1, r1⟩)
section
variable {cm : Ct} {m : Am} {S : So} {H : Hp} {l : List D}
theorem POk.cell {p : Addr} {u : HO} {o : Ob} {Q : VK} (h : POk (Rep cm) cm m S H (some (.ref S.length, S ++ [some o])) Q) (R : RelS cm m S H) (hp : H p = none)
    (ho : ∀ m' S' H', Adv m S H m' S' H' → H' p = some u → ObAt cm m' S' H' p o) : Q (.ref p) (upd H p u) := PQ.cell (h [] (fun _ _ _ _ => False)) R hp ho
theorem POk.lstN {p : Addr} {vs : List V} {Q : VK} (h : POk (Rep cm) cm m S H (some (.ref S.length, S ++ [some (.lst l)])) Q) (R : RelS cm m S H) (hp : H p = none) (r : Reps cm m S H l vs) : Q (.ref p) (upd H p (.lst vs)) :=
  h.cell R hp fun m' S' H' A e => ⟨vs, e, Reps.adv A _ _ r⟩
end
theorem kv_len {kvs : List (Key × V)} {ks : List Key} (e : kvs.map (·.1) = ks) : ks.length = kvs.length := by rw [← e, List.length_map]
/-- len of a dict -/
theorem call_lenDk {X : Cx} : CallR X (.builtin "len") (fun xs H Q => ∃ p kvs, xs = [.ref p] ∧ Rd H p (.dK kvs) ∧ Q (.int (kvs.length : Nat)) H) := by
  intro pins s σ H xs us Q I r h
  obtain ⟨p, kvs, rfl, hd, q⟩ := h
  obtain ⟨u, rfl, rx⟩ := vals1 r
  cases rx
  have hl := line63
  have hs : sizeLine = 16777216 := sizeLine_eq
  obtain ⟨hz, hS, vs, r, m⟩ := dk_rd I.hok hd
  have hlen : kvs.length = vs.length := Paired.length r
  exact PySem.call_len_dict hS m (by omega) ⟨.int (kvs.length : Nat), H, I.tok _, ⟨_, by rw [hlen]⟩, q⟩
section
variable {cm : Cm} {X : Cx}
theorem cd_len : CallD cm X (.builtin "len") bLen := fun m S H ds vs Q R r h => by
  unfold bLen at h
  split at h
  · split at h
    · rename_i z hz
      obtain ⟨x, rfl, rx⟩ := reps1 r
      simp only [Rep] at rx
      exact rW_of call_len_str ⟨z, by rw [rx], hz, h.int R⟩
    · exact h.no.elim
  · obtain ⟨x, rfl, rx⟩ := reps1 r
    split at h
    · rename_i l e
      obtain ⟨a, vs, rfl, h1, h2⟩ := seq_at R rx e
      refine rW_of call_len_seq ⟨a, vs, rfl, h1, ?_⟩
      rw [← h2.length]
      exact h.int R
    · split at h
      · rename_i ks l e
        obtain ⟨a, kvs, rfl, h1, h2, h3⟩ := dct_at R rx e
        refine rW_of call_lenDk ⟨a, kvs, rfl, h1, ?_⟩
        rw [← kv_len h2]
        exact h.int R
      · exact h.no.elim
  · exact h.no.elim
theorem cd_all (hc : X.calm = true) : CallD cm X (.builtin "all") bAll := fun m S H ds vs Q R r h => by
  unfold bAll at h
  split at h
  · obtain ⟨x, rfl, rx⟩ := reps1 r
    split at h
    · rename_i l e
      obtain ⟨a, vs, rfl, h1, h2⟩ := lst_at R rx e
      cases eb : blsOf l with
      | none => rw [eb] at h; exact h.no.elim
      | some bs =>
        rw [eb] at h
        have ev := reps_bls eb h2
        subst ev
        exact rW_of (cr_all hc) ⟨a, bs, rfl, .inl (.inl h1), h.bl R⟩
    · exact h.no.elim
  · exact h.no.elim
theorem cd_any (hc : X.calm = true) : CallD cm X (.builtin "any") bAny := fun m S H ds vs Q R r h => by
  unfold bAny at h
  split at h
  · obtain ⟨x, rfl, rx⟩ := reps1 r
    split at h
    · rename_i l e
      obtain ⟨a, vs, rfl, h1, h2⟩ := lst_at R rx e
      cases eb : blsOf l with
      | none => rw [eb] at h; exact h.no.elim
      | some bs =>
        rw [eb] at h
        have ev := reps_bls eb h2
        subst ev
        exact rW_of (cr_any hc) ⟨a, bs, rfl, .inl (.inl h1), h.bl R⟩
    · exact h.no.elim
  · exact h.no.elim
theorem cd_tup : CallD cm X (.type "tuple") bTup := fun m S H ds vs Q R r h => by
  unfold bTup at h
  split at h
  · obtain ⟨x, rfl, rx⟩ := reps1 r
    have rx' := rx
    simp only [Rep] at rx
    obtain ⟨a, vs, rfl, h1, h2⟩ := rx
    exact rW_of call_tuple_of ⟨a, vs, rfl, .inr ⟨h1, h.now R rx'⟩⟩
  · obtain ⟨x, rfl, rx⟩ := reps1 r
    cases e : lstOf _ S with
    | none => rw [e] at h; exact h.no.elim
    | some l =>
      rw [e] at h
      obtain ⟨a, vs, rfl, h1, h2⟩ := lst_at R rx e
      exact rW_of call_tuple_of ⟨a, vs, rfl, .inl ⟨.inl (.inl h1), fun p hp => h.tup R hp h2⟩⟩
  · exact h.no.elim
theorem cd_lst : CallD cm X (.type "list") bLst := fun m S H ds vs Q R r h => by
  unfold bLst at h
  split at h
  · obtain ⟨x, rfl, rx⟩ := reps1 r
    cases e : itmsOf _ S with
    | none => rw [e] at h; exact h.no.elim
    | some l =>
      rw [e] at h
      obtain ⟨a, vs, rfl, h1, h2⟩ := seq_at R rx e
      exact rW_of call_list_of ⟨a, vs, rfl, h1, fun p hp => h.lst R hp h2⟩
  · exact h.no.elim
theorem cd_lstN : CallD cm X (.type "list") bLstN := fun m S H ds vs Q R r h => by
  unfold bLstN at h
  split at h
  · obtain ⟨x, rfl, rx⟩ := reps1 r
    cases e : itmsOf _ S with
    | none => rw [e] at h; exact h.no.elim
    | some l =>
      rw [e] at h
      obtain ⟨a, vs, rfl, h1, h2⟩ := seq_at R rx e
      exact rW_of call_list_of ⟨a, vs, rfl, h1, fun p hp => h.lstN R hp h2⟩
  · exact h.no.elim
end

/-! ### list(a text) -/
def bLstS : OpL := fun l S => match l with
  | [.str x] => if x.length ≤ sizeLine then some (.ref S.length, S ++ [some (.lst (sgns x))]) else none
  | _ => none
def vsgns (x : Str) : List V := x.cps.toList.map fun c => V.str ⟨#[c]⟩
theorem reps_map {α : Type} {cm : Ct} {m : Am} {S : So} {H : Hp} {f : α → D} {g : α → V} (h : ∀ a, Rep cm m S H (f a) (g a)) : ∀ l : List α, Reps cm m S H (l.map f) (l.map g)
  | [] => Reps.nil
  | a :: l => Reps.cons (h a) (reps_map h l)
theorem call_list_signs {X : Cx} (hc : X.calm = true) : CallR X (.type "list") (fun xs H Q => ∃ x, xs = [.str x] ∧ x.length ≤ sizeLine ∧ ∀ p, H p = none → Q (.ref p) (upd H p (.lst (vsgns x)))) := by
  intro pins s σ H xs us Q I r h
  obtain ⟨x, rfl, hz, q⟩ := h
  obtain ⟨u, rfl, rx⟩ := vals1 r
  obtain ⟨t, rfl⟩ := rx
  refine PySem.call_list_str (I.ok.hd hc) x t (hn := hz) fun h' tk acc c' hk hD hacc => ?_
  have hlen : (vsgns x).length ≤ sizeLine := by unfold vsgns; rw [List.length_map, Array.length_toList]; exact hz
  have hv : Vals (vsgns x) acc.toList := by
    refine vals_of_get ?_ ?_
    · unfold vsgns
      rw [List.length_map, Array.length_toList, Array.length_toList]
      exact hacc.1.symm
    · intro j v e
      obtain ⟨c, u, hc, rfl⟩ := hacc.2 j v (by rw [← Array.getElem?_toList]; exact e)
      refine ⟨.str ⟨#[c]⟩, ?_, ⟨_, rfl⟩⟩
      unfold vsgns
      rw [List.getElem?_map, Array.getElem?_toList, hc]
      rfl
  exact ⟨.ref s.heap.objs.size, upd H s.heap.objs.size (.lst (vsgns x)), I.laid (t' := tk) hk (Nat.le_refl _)
    (show ObjOk X.prog X.w _ _ _ (.lst (vsgns x)) from ⟨hlen, acc.toList, c', hv, by rw [Array.toArray_toList]; exact hD⟩), rfl, q _ (I.hok.fresh (Nat.le_refl _))⟩
theorem cd_lstS {cm : Cm} {X : Cx} (hc : X.calm = true) : CallD cm X (.type "list") bLstS := fun m S H ds vs Q R r h => by
  unfold bLstS at h
  split at h
  · split at h
    · rename_i x hx
      obtain ⟨x, rfl, rx⟩ := reps1 r
      simp only [Rep] at rx
      exact rW_of (call_list_signs hc) ⟨_, by rw [rx], hx, fun p hp => h.lstN R hp (reps_map (fun c => by simp only [Rep]) _)⟩
    · exact h.no.elim
  · exact h.no.elim
end Mi

/-! Mi8: cells changed, methods, isinstance. -/
namespace Mi
open PySem PySem.Spec PyProof.Rows L2

section
variable {cm : Ct} {m : Am} {S : So} {H : Hp} {n : Nat} {o o' : Ob} {u : HO}
theorem set_live {k : Nat} {v : Ob} (e : S[n]? = some (some o)) (h : (S.set n (some o'))[k]? = some (some v)) : (k = n ∧ v = o') ∨ (k ≠ n ∧ S[k]? = some (some v)) := by
  by_cases c : n = k
  · subst c
    rw [List.getElem?_set_self (List.getElem?_eq_some_iff.mp e).1] at h
    exact .inl ⟨rfl, (Option.some.inj (Option.some.inj h)).symm⟩
  · rw [List.getElem?_set_ne c] at h
    exact .inr ⟨fun z => c z.symm, h⟩
theorem ob_mut (R : RelS cm m S H) (e : S[n]? = some (some o)) : ∃ w, H (m.p n) = some w ∧ (∀ xs, w ≠ .tup xs) ∧ ∀ o u, w ≠ .frz o u := by
  have h := R.at_ n o e
  cases o with
  | lst l => obtain ⟨vs, h1, _⟩ := h; exact ⟨_, h1, fun _ z => (by cases z), fun _ _ z => (by cases z)⟩
  | dct ks l => obtain ⟨vs, h1, _⟩ := h; exact ⟨_, h1, fun _ z => (by cases z), fun _ _ z => (by cases z)⟩
  | ins c ks l => obtain ⟨C, dx, fs, hc, h1, _⟩ := h; exact ⟨_, h1, fun _ z => (by cases z), fun _ _ z => (by cases z)⟩
theorem cell_kp (R : RelS cm m S H) (e : S[n]? = some (some o)) : Kp m S H m (S.set n (some o')) (upd H (m.p n) u) := by
  obtain ⟨w, hw, n1, n2⟩ := ob_mut R e
  refine ⟨fun a v h f => ⟨?_, fun k v' e' z => ?_, f.2⟩, fun a xs h => ?_, fun a v x h => ?_, by simp, fun _ _ => rfl⟩
  · left
    rw [upd_ne (fun z => f.1 n o e z.symm)]
    exact h
  · rcases set_live e e' with ⟨h1, _⟩ | ⟨_, h1⟩
    · rw [h1] at z
      exact f.1 n o e z
    · exact f.1 k v' h1 z
  · rw [upd_ne (fun z => by rw [z, hw] at h; exact n1 _ (Option.some.inj h))]; exact h
  · rw [upd_ne (fun z => by rw [z, hw] at h; exact n2 _ _ (Option.some.inj h))]; exact h
theorem cell_w (R : RelS cm m S H) (e : S[n]? = some (some o)) (ho : Kp m S H m (S.set n (some o')) (upd H (m.p n) u) → ObAt cm m (S.set n (some o')) (upd H (m.p n) u) (m.p n) o') :
    Adv m S H m (S.set n (some o')) (upd H (m.p n) u) ∧ RelS cm m (S.set n (some o')) (upd H (m.p n) u) := by
  have K := cell_kp (o' := o') (u := u) R e
  have A : Adv m S H m (S.set n (some o')) (upd H (m.p n) u) := by
    refine ⟨by simp, fun _ _ => rfl, fun k v h => ?_, fun a v h f => ?_, fun a h z => ?_, K.tp, K.fz, fun _ h => h, fun _ h => .inl h, fun a u z q => by rw [upd_ne (fun c => R.hoff a z n o e c.symm)]; exact q⟩
    · rcases set_live e h with ⟨h1, _⟩ | ⟨_, h1⟩
      · subst h1
        exact .inl ⟨(List.getElem?_eq_some_iff.mp e).1, o, e⟩
      · exact .inl ⟨(List.getElem?_eq_some_iff.mp h1).1, v, h1⟩
    · left
      rw [upd_ne (fun z => f n o e z.symm)]
      exact h
    · by_cases c : a = m.p n
      · subst c; rw [upd_same] at z; cases z
      · rw [upd_ne c] at z; exact h z
  refine ⟨A, fun k v h => ?_, fun k j v v' h1 h2 q => ?_, fun a h => A.tr a (R.hid a h), fun a h k v e' z => by
    rcases set_live e e' with ⟨z1, _⟩ | ⟨_, z1⟩
    · rw [z1] at z; exact R.hoff a h n o e z
    · exact R.hoff a h k v z1 z⟩
  · rcases set_live e h with ⟨h1, h2⟩ | ⟨h1, h2⟩
    · subst h1 h2
      exact ho K
    · exact (R.at_ k v h2).kp K (upd_ne fun z => h1 (R.inj k n v o h2 e z))
  · have l1 : ∃ w, S[k]? = some (some w) := by
      rcases set_live e h1 with ⟨z, _⟩ | ⟨_, z⟩
      · subst z; exact ⟨_, e⟩
      · exact ⟨_, z⟩
    have l2 : ∃ w, S[j]? = some (some w) := by
      rcases set_live e h2 with ⟨z, _⟩ | ⟨_, z⟩
      · subst z; exact ⟨_, e⟩
      · exact ⟨_, z⟩
    obtain ⟨w1, g1⟩ := l1
    obtain ⟨w2, g2⟩ := l2
    exact R.inj k j w1 w2 g1 g2 q
/-- a cell given up: nobody changes it any more -/
theorem cell_gone (R : RelS cm m S H) (e : S[n]? = some (some o)) : Adv m S H m (S.set n none) H ∧ RelS cm m (S.set n none) H ∧ Off m (S.set n none) (m.p n) := by
  have lv : ∀ {k : Nat} {v : Ob}, (S.set n none)[k]? = some (some v) → k ≠ n ∧ S[k]? = some (some v) := fun {k v} h => by
    by_cases c : n = k
    · subst c
      rw [List.getElem?_set_self (List.getElem?_eq_some_iff.mp e).1] at h
      cases h
    · rw [List.getElem?_set_ne c] at h
      exact ⟨fun z => c z.symm, h⟩
  have A : Adv m S H m (S.set n none) H := ⟨by simp, fun _ _ => rfl, fun k v h => .inl ⟨(List.getElem?_eq_some_iff.mp (lv h).2).1, v, (lv h).2⟩, fun a v h _ => .inl h, fun _ h => h, fun _ _ h => h, fun _ _ _ h => h, fun _ h => h, fun _ h => .inl h, fun _ _ _ h => h⟩
  refine ⟨A, ⟨fun k v h => (R.at_ k v (lv h).2).kp A.kp rfl, fun k j v v' h1 h2 q => R.inj k j v v' (lv h1).2 (lv h2).2 q, R.hid, fun a h k v e' => R.hoff a h k v (lv e').2⟩, fun k v h z => ?_⟩
  exact (lv h).1 (R.inj k n v o (lv h).2 e z)
end

/-! ### methods -/
def rM (X : Cx) (id : String) : V → List V → Hp → VK → Prop := fun x vs H Q => ∀ pins s σ v us, Inv X pins σ H s → RelV x v → Vals vs us → wpAny (model X.prog X.w) X.A (call (.builtin id) (v :: us)) (EP X pins σ Q) X.xe s
theorem mt_w {X : Cx} {id : String} : MtR X id (rM X id) := fun pins s σ H x xs v us Q I r rs h => h pins s σ v us I r rs
theorem rM_of {X : Cx} {id : String} {r : V → List V → Hp → VK → Prop} {x : V} {vs : List V} {H : Hp} {Q : VK} (h : MtR X id r) (q : r x vs H Q) : rM X id x vs H Q := fun pins s σ v us I rx rv => h pins s σ H x vs v us Q I rx rv q
abbrev OpM := D → List D → So → Option (D × So)
def MtD (cm : Cm) (X : Cx) (id : String) (g : OpM) : Prop := ∀ m S H d ds x vs Q, RelS (ct X cm) m S H → Rep (ct X cm) m S H d x → Reps (ct X cm) m S H ds vs → POk (Rep (ct X cm)) (ct X cm) m S H (g d ds S) Q → rM X id x vs H Q
def isTyp (T : String) (d : D) (S : So) : Bool := match d with
  | .str _ => T == "str"
  | d => (T == "list" && (lstOf d S).isSome)
def mM (T : String) (g : OpM) (fo : E D) (fa : E (List D)) : E D := fun en S => (fo en S).bind fun d S1 => if isTyp T d S1 then (fa en S1).bind fun l S2 => R.of (g d l S2) else .bad
section
variable {cm : Cm} {X : Cx} {o e : Expr} {es : List Expr} {fo : E D} {fa : E (List D)} {name : Str} {apos cpos : Pos} {T id : String} {g : OpM}
theorem typ_v {m : Am} {S : So} {H : Hp} {d : D} {x : V} (R : RelS (ct X cm) m S H) (r : Rep (ct X cm) m S H d x) (h : isTyp T d S = true) : tyV X.K T x H := by
  have go : (T == "list" && (lstOf d S).isSome) = true → tyV X.K T x H := fun z => by
    simp only [Bool.and_eq_true, beq_iff_eq, Option.isSome_iff_exists] at z
    obtain ⟨e, l, q⟩ := z
    obtain ⟨a, vs, rfl, h1, h2⟩ := lst_at R r q
    exact .inl ⟨e, vs, .inl (.inl h1)⟩
  cases d with
  | str z =>
    simp only [isTyp, beq_iff_eq] at h
    simp only [Rep] at r
    subst r
    exact h
  | _ => exact go (by simpa [isTyp] using h)
theorem re_m (pa : PlainAttrs T) (slot : Slot T name id) (hty : typeOf (.builtin id) = pure (.type "method_descriptor")) (hm : MtD cm X id g) (ho : RE cm X o fo) (ha : RA cm X (e :: es) fa)
    (hbase : attributeBase o name X.env (eval o X.env) = eval o X.env := by rfl)
    (hfew : ((backTo cpos (starEach (e :: es) X.env)).all (fun x => !x.1) && (backToKw cpos (keywordEach [] X.env)).all (fun x => x.1.isSome)
      && decide ((e :: es).length + ([] : List Keyword).length + (if ([] : List Keyword).isEmpty then 0 else 1) < 30)) = true := by rfl)
    (hline : (apos.endLine == cpos.line) = true := by rfl) (hs : starEach (e :: es) X.env = (false, eval e X.env) :: starEach es X.env := by rfl) (hplain : (backTo cpos (starEach es X.env)).any (·.1) = false := by rfl) :
    RE cm X (.Call (.Attribute o name apos) (e :: es) [] cpos) (mM T g fo fa) := fun W tk m S H σ en Q C h => by
  refine wE_of (pe_bm pa slot hty mt_w pe_w pa_w hbase hfew hline hs hplain) ?_
  refine ho W tk m S H σ en _ C (PQ.bind h fun d S1 x m1 H1 e1 A1 R1 r1 h1 => ?_)
  split at h1
  · rename_i ht
    refine ⟨typ_v R1 r1 ht, ha W tk m1 S1 H1 σ en _ (C.adv A1 R1) (PQ.bind h1 fun l S2 vs m2 H2 e2 A2 R2 r2 h2 => ?_)⟩
    exact hm m2 S2 H2 d l x vs _ R2 (Rep.adv A2 _ _ r1) r2 h2.pok
  · exact h1.elim
theorem re_m0 (pa : PlainAttrs T) (slot : Slot T name id) (hty : typeOf (.builtin id) = pure (.type "method_descriptor")) (hm : MtD cm X id g) (ho : RE cm X o fo)
    (hbase : attributeBase o name X.env (eval o X.env) = eval o X.env := by rfl) (hline : (apos.endLine == cpos.line) = true := by rfl) :
    RE cm X (.Call (.Attribute o name apos) [] [] cpos) (mM T g fo aNil) := fun W tk m S H σ en Q C h => by
  refine wE_of (pe_bm0 pa slot hty mt_w pe_w hbase hline) ?_
  refine ho W tk m S H σ en _ C (PQ.bind h fun d S1 x m1 H1 e1 A1 R1 r1 h1 => ?_)
  split at h1
  · rename_i ht
    have h2 : PQ (Rep (ct X cm)) (ct X cm) m1 S1 H1 σ W (R.of (g d [] S1)) Q := h1
    exact ⟨typ_v R1 r1 ht, hm m1 S1 H1 d [] x [] _ R1 r1 Reps.nil h2.pok⟩
  · exact h1.elim
end
def cellL (d : D) (S : So) : Option (Nat × List D) := match d with
  | .ref n => match S[n]? with
    | some (some (.lst l)) => some (n, l)
    | _ => none
  | _ => none
theorem cellL_at {cm : Ct} {m : Am} {S : So} {H : Hp} {d : D} {x : V} {n : Nat} {l : List D} (R : RelS cm m S H) (r : Rep cm m S H d x) (h : cellL d S = some (n, l)) :
    S[n]? = some (some (.lst l)) ∧ x = .ref (m.p n) ∧ ∃ vs, H (m.p n) = some (.lst vs) ∧ Reps cm m S H l vs := by
  unfold cellL at h
  split at h
  · split at h
    · rename_i n' l' e
      cases h
      simp only [Rep] at r
      obtain ⟨vs, h1, h2⟩ := R.at_ _ _ e
      exact ⟨e, r.2, vs, h1, h2⟩
    · cases h
  · cases h
def mApp : OpM := fun d l S => match l with
  | [y] => match cellL d S with
    | some (n, xs) => if xs.length < sizeLine then some (.non, S.set n (some (.lst (xs ++ [y])))) else none
    | none => none
  | _ => none
def mPopAt : OpM := fun d l S => match l with
  | [.int i] => match cellL d S with
    | some (n, xs) => if -(2 ^ 63) ≤ i ∧ i < 2 ^ 63 then match ixN xs.length i with
        | some k => match xs[k]? with
          | some y => some (y, S.set n (some (.lst (xs.eraseIdx k))))
          | none => none
        | none => none
      else none
    | none => none
  | _ => none
def strsOf : List D → Option (List Str)
  | [] => some []
  | .str b :: l => (strsOf l).map (b :: ·)
  | _ => none
theorem reps_strs {cm : Ct} {m : Am} {S : So} {H : Hp} : ∀ {l : List D} {bs : List Str} {vs : List V}, strsOf l = some bs → Reps cm m S H l vs → vs = bs.map V.str
  | [], bs, vs, e, r => by
    simp only [strsOf, Option.some.injEq] at e
    subst e
    simp only [Reps] at r
    exact r
  | d :: l, bs, vs, e, r => by
    simp only [Reps] at r
    obtain ⟨v, r, rfl, h1, h2⟩ := r
    cases d with
    | str b =>
      simp only [strsOf, Option.map_eq_some_iff] at e
      obtain ⟨bs', e1, rfl⟩ := e
      simp only [Rep] at h1
      rw [h1, reps_strs e1 h2]
      rfl
    | _ => simp [strsOf] at e
def mJoin : OpM := fun d l S => match d, l with
  | .str a, [y] => match seqOf y S with
    | some xs => match strsOf xs with
      | some ys => if (ys.map (·.length)).sum + ys.length * a.length ≤ 16777216 then some (.str (Txt.join a ys), S) else none
      | none => none
    | none => none
  | _, _ => none
section
variable {cm : Cm} {X : Cx}
theorem md_app : MtD cm X "list.append" mApp := fun m S H d ds x vs Q R r rs h => by
  unfold mApp at h
  split at h
  · obtain ⟨y, rfl, ry⟩ := reps1 rs
    split at h
    · rename_i n xs e
      split at h
      · rename_i hl
        obtain ⟨e1, rfl, ws, h1, h2⟩ := cellL_at R r e
        refine rM_of (show MtR X "list.append" rAppend from mt_append) ⟨_, ws, y, rfl, rfl, h1, by rw [← h2.length]; exact hl, ?_⟩
        obtain ⟨A, R'⟩ := cell_w (o' := .lst (xs ++ [_])) (u := .lst (ws ++ [y])) R e1 fun K => ⟨_, upd_same, Reps.kp K _ _ (h2.append (Reps.cons ry Reps.nil))⟩
        exact h.at A R' (by simp only [Rep])
      · exact h.no.elim
    · exact h.no.elim
  · exact h.no.elim
theorem ixN_i {n : Nat} {i : Int} {k : Nat} (h : ixN n i = some k) : seqIndex? i n = some k := (ixN_seq h).1
theorem md_popAt : MtD cm X "list.pop" mPopAt := fun m S H d ds x vs Q R r rs h => by
  unfold mPopAt at h
  split at h
  · obtain ⟨y, rfl, ry⟩ := reps1 rs
    simp only [Rep] at ry
    subst ry
    split at h
    · rename_i n xs e
      split at h
      · rename_i hi
        split at h
        · rename_i k ek
          split at h
          · rename_i yy ey
            obtain ⟨e1, rfl, ws, h1, h2⟩ := cellL_at R r e
            obtain ⟨v, ev, rv⟩ := h2.get ey
            refine rM_of (show MtR X "list.pop" rPopAt from mt_popAt) ⟨_, ws, _, k, v, rfl, rfl, h1, hi.1, hi.2, by rw [← h2.length]; exact ixN_i ek, ev, ?_⟩
            obtain ⟨A, R'⟩ := cell_w (o' := .lst (xs.eraseIdx k)) (u := .lst (ws.eraseIdx k)) R e1 fun K => ⟨_, upd_same, Reps.kp K _ _ (h2.eraseIdx k)⟩
            exact h.at A R' (Rep.adv A _ _ rv)
          · exact h.no.elim
        · exact h.no.elim
      · exact h.no.elim
    · exact h.no.elim
  · exact h.no.elim
theorem md_join : MtD cm X "str.join" mJoin := fun m S H d ds x vs Q R r rs h => by
  unfold mJoin at h
  split at h
  · obtain ⟨y, rfl, ry⟩ := reps1 rs
    simp only [Rep] at r
    subst r
    split at h
    · rename_i xs e
      split at h
      · rename_i ys es
        split at h
        · rename_i hz
          obtain ⟨a, ws, rfl, h1, h2⟩ := seq_at R ry e
          have ev := reps_strs es h2
          subst ev
          exact rM_of mt_join ⟨_, a, ys, rfl, rfl, h1, hz, h.str R⟩
        · exact h.no.elim
      · exact h.no.elim
    · exact h.no.elim
  · exact h.no.elim
end

/-! ### o[i] = v -/
def wSet (X : Cx) : TSet := fun o i v H Q => ∀ pins s σ ov iv u, Inv X pins σ H s → RelV o ov → RelV i iv → RelV v u → wpAny (model X.prog X.w) X.A (setItem ov iv u) (fun _ s' => ∃ H', Inv X pins σ H' s' ∧ Q H') X.xe s
theorem pset_w {X : Cx} : PSet X (wSet X) := fun pins s σ H o i v ov iv u Q I ro ri rv h => h pins s σ ov iv u I ro ri rv
theorem wSet_of {X : Cx} {t : TSet} {o i v : V} {H : Hp} {Q : Hp → Prop} (h : PSet X t) (q : t o i v H Q) : wSet X o i v H Q := fun pins s σ ov iv u I ro ri rv => h pins s σ H o i v ov iv u Q I ro ri rv q
def putKD (ks : List Key) (l : List D) (k : Key) (v : D) : List Key × List D := match ks, l with
  | k' :: ks, d :: l => if k' = k then (k' :: ks, v :: l) else let r := putKD ks l k v; (k' :: r.1, d :: r.2)
  | ks, l => (ks ++ [k], l ++ [v])
def putD (o i v : D) (S : So) : Option So := match o with
  | .ref n => match S[n]? with
    | some (some (.lst l)) => match i with
      | .int k => (ixN l.length k).map fun j => S.set n (some (.lst (l.set j v)))
      | _ => none
    | some (some (.dct ks l)) => match keyOf i with
      | some k => if ks.Nodup ∧ ks.length < sizeLine then some (S.set n (some (.dct (putKD ks l k v).1 (putKD ks l k v).2))) else none
      | none => none
    | _ => none
  | _ => none
theorem putKD_v {cm : Ct} {m : Am} {S : So} {H : Hp} {k : Key} {dv : D} {v : V} (rv : Rep cm m S H dv v) : ∀ {kvs : List (Key × V)} {ks : List Key} {l : List D}, ks.Nodup → kvs.map (·.1) = ks → Reps cm m S H l (kvs.map (·.2)) →
    (putK kvs k v).map (·.1) = (putKD ks l k dv).1 ∧ Reps cm m S H (putKD ks l k dv).2 ((putK kvs k v).map (·.2))
  | [], ks, l, _, e, h => by
    simp only [List.map_nil] at e h
    subst e
    have h' : l = [] := by cases l with
      | nil => rfl
      | cons _ _ => simp [Reps] at h
    subst h'
    exact ⟨rfl, Reps.cons rv Reps.nil⟩
  | p :: kvs, ks, l, nd, e, h => by
    simp only [List.map_cons] at e h
    subst e
    cases l with
    | nil => simp [Reps] at h
    | cons d l =>
      simp only [Reps] at h
      obtain ⟨v', r', e', h1, h2⟩ := h
      cases e'
      obtain ⟨nd1, nd2⟩ := List.nodup_cons.mp nd
      by_cases c : p.1 = k
      · have e1 : putKD (p.1 :: kvs.map (·.1)) (d :: l) k dv = (p.1 :: kvs.map (·.1), dv :: l) := by simp [putKD, c]
        have e2 : putK (p :: kvs) k v = (p.1, v) :: kvs := by
          unfold putK
          rw [if_pos (by simp [c]), List.map_cons, if_pos c]
          congr 1
          conv => rhs; rw [← List.map_id kvs]
          refine List.map_congr_left fun q hq => ?_
          rw [if_neg (fun z => nd1 (by rw [c, ← z]; exact List.mem_map.mpr ⟨q, hq, rfl⟩))]
          rfl
        rw [e1, e2]
        exact ⟨by simp, Reps.cons rv h2⟩
      · obtain ⟨i1, i2⟩ := putKD_v rv (k := k) (l := l) nd2 rfl h2
        have e1 : putKD (p.1 :: kvs.map (·.1)) (d :: l) k dv = (p.1 :: (putKD (kvs.map (·.1)) l k dv).1, d :: (putKD (kvs.map (·.1)) l k dv).2) := by simp [putKD, c]
        have e2 : putK (p :: kvs) k v = p :: putK kvs k v := by
          unfold putK
          simp only [List.any_cons, c, decide_false, Bool.false_or, List.map_cons, if_false, List.cons_append]
          split <;> rfl
        rw [e1, e2]
        exact ⟨by simp [i1], Reps.cons h1 i2⟩
def sPut (fv fo fi : E D) : T := fun en S => (fv en S).bind fun v S1 => (fo en S1).bind fun o S2 => (fi en S2).bind fun i S3 => match putD o i v S3 with
  | some S4 => .ok (.nx en) S4
  | none => .bad
section
variable {cm : Cm} {X : Cx} {o i e : Expr} {fo fi fv : E D} {pos pos' : Pos}
theorem put_run (hu : X.A.units + 1 < cLine) {m : Am} {S S' : So} {H : Hp} {dO dI dV : D} {o i v : V} {Q : Hp → Prop} (R : RelS (ct X cm) m S H) (ro : Rep (ct X cm) m S H dO o) (ri : Rep (ct X cm) m S H dI i) (rv : Rep (ct X cm) m S H dV v)
    (h : putD dO dI dV S = some S') (q : ∀ H', Adv m S H m S' H' → RelS (ct X cm) m S' H' → Q H') : wSet X o i v H Q := by
  unfold putD at h
  split at h
  · simp only [Rep] at ro
    obtain ⟨_, rfl⟩ := ro
    split at h
    · rename_i n l e
      obtain ⟨vs, h1, h2⟩ := R.at_ _ _ e
      split at h
      · rename_i k
        simp only [Rep] at ri
        subst ri
        cases ej : ixN l.length k with
        | none => rw [ej] at h; cases h
        | some j =>
          rw [ej] at h
          cases h
          obtain ⟨A, R'⟩ := cell_w (o' := .lst (l.set j dV)) (u := .lst (vs.set j v)) R e fun K => ⟨_, upd_same, Reps.kp K _ _ (h2.set j rv)⟩
          exact wSet_of set_list ⟨_, vs, k, j, rfl, rfl, h1, by rw [← h2.length]; exact ej, q _ A R'⟩
      · cases h
    · rename_i n ks l e
      obtain ⟨kvs, h1, h2, h3⟩ := R.at_ _ _ e
      split at h
      · rename_i k ek
        have ei := key_v ri ek
        subst ei
        split at h
        · rename_i hn
          cases h
          obtain ⟨g1, g2⟩ := putKD_v rv (k := k) hn.1 h2 h3
          obtain ⟨A, R'⟩ := cell_w (o' := .dct (putKD ks l k dV).1 (putKD ks l k dV).2) (u := .dK (putK kvs k v)) R e fun K => ⟨_, upd_same, g1, Reps.kp K _ _ g2⟩
          exact wSet_of (set_dict hu) ⟨_, _, rfl, DPut.k h1 (by rw [← kv_len h2]; exact hn.2), q _ A R'⟩
        · cases h
      · cases h
    · cases h
  · cases h
theorem rs_put (hu : X.A.units + 1 < cLine) (hv : RE cm X e fv) (ho : RE cm X o fo) (hi : RE cm X i fi) (hs : swapsWithSole [.Subscript o i pos'] e pos.line X.env = pure false := by rfl) (hw : swappedStores [.Subscript o i pos'] e X.env = pure none := by rfl)
    (h1 : (assignEach [.Subscript o i pos'] X.env).map (·.2) = [assign (.Subscript o i pos') X.env] := by rfl)
    (ha : ∀ v, assign (.Subscript o i pos') X.env v = (do
      let ov ← holding [v] (eval o X.env)
      let iv ← holding [v, ov] (eval i X.env)
      standAt pos'
      holding [v, ov, iv] (setItem ov iv v)
      release [v, ov, iv] []) := by intro _; rfl) : RS cm X (.Assign [.Subscript o i pos'] e pos) (sPut fv fo fi) := fun W tk m S H σ en D C h => by
  refine wS_of (ps_asg pe_w (pg_sub pe_w pe_w pset_w ha) hs hw h1) (hv W tk m S H σ en _ C (PF.bind h fun d S1 y m1 H1 e1 A1 R1 r1 k1 => ?_))
  refine ho W tk m1 S1 H1 σ en _ (C.adv A1 R1) (PF.bind k1 fun d2 S2 y2 m2 H2 e2 A2 R2 r2 k2 => ?_)
  refine hi W tk m2 S2 H2 σ en _ ((C.adv A1 R1).adv A2 R2) (PF.bind k2 fun d3 S3 y3 m3 H3 e3 A3 R3 r3 k3 => ?_)
  cases e4 : putD d2 d3 d S3 with
  | none => rw [e4] at k3; exact k3.elim
  | some S4 =>
    rw [e4] at k3
    exact put_run hu R3 (Rep.adv A3 _ _ r2) r3 (Rep.adv A3 _ _ (Rep.adv A2 _ _ r1)) e4 fun H' A' R' => k3 _ _ _ A' ((((C.adv A1 R1).adv A2 R2).adv A3 R3).adv A' R')
end
end Mi

/-! Mi9: freezing, isinstance, dicts made, what is walked, sorted. -/
namespace Mi
open PySem PySem.Spec PyProof.Rows L2

/-! ### return x: a cell becomes a value -/
def frz (d : D) (S : So) : D × So := match d with
  | .ref n => match S[n]? with
    | some (some (.lst l)) => (.lst l, S.set n none)
    | some (some (.dct ks l)) => (.dct ks l, S.set n none)
    | some (some (.ins c ks l)) => (.ins c ks l, S.set n none)
    | _ => (d, S)
  | _ => (d, S)
theorem frz_ok {cm : Ct} {m : Am} {S : So} {H : Hp} {d : D} {x : V} (R : RelS cm m S H) (r : Rep cm m S H d x) : Adv m S H m (frz d S).2 H ∧ RelS cm m (frz d S).2 H ∧ Rep cm m (frz d S).2 H (frz d S).1 x := by
  unfold frz
  split
  · rename_i n
    have r0 := r
    simp only [Rep] at r
    split
    · rename_i l e
      obtain ⟨A, R', o⟩ := cell_gone R e
      obtain ⟨vs, h1, h2⟩ := R.at_ n _ e
      refine ⟨A, R', ?_⟩
      simp only [Rep]
      exact ⟨_, vs, r.2, h1, ⟨o, fun z => R.hoff _ z n _ e rfl⟩, Reps.adv A _ _ h2⟩
    · rename_i ks l e
      obtain ⟨A, R', o⟩ := cell_gone R e
      obtain ⟨vs, h1, h2, h3⟩ := R.at_ n _ e
      refine ⟨A, R', ?_⟩
      simp only [Rep]
      exact ⟨_, vs, r.2, .inl h1, ⟨o, fun z => R.hoff _ z n _ e rfl⟩, h2, Reps.adv A _ _ h3⟩
    · rename_i c ks l e
      obtain ⟨A, R', o⟩ := cell_gone R e
      obtain ⟨C, dx, fs, hc, h1, h2, h3⟩ := R.at_ n _ e
      refine ⟨A, R', ?_⟩
      simp only [Rep]
      exact ⟨_, C, dx, fs, r.2, hc, h1, ⟨o, fun z => R.hoff _ z n _ e rfl⟩, h2, Reps.adv A _ _ h3⟩
    · exact ⟨Adv.refl, R, r0⟩
  · exact ⟨Adv.refl, R, r⟩
def sRetZ (fe : E D) : T := fun en S => (fe en S).bind fun d S1 => .ok (.rt (frz d S1).1) (frz d S1).2
def mFrz (fe : E D) : E D := fun en S => (fe en S).bind fun d S1 => .ok (frz d S1).1 (frz d S1).2
section
variable {cm : Cm} {X : Cx} {e : Expr} {fe : E D} {pos : Pos}
theorem re_frz (h : RE cm X e fe) : RE cm X e (mFrz fe) := fun W tk m S H σ en Q C q => by
  refine h W tk m S H σ en _ C (PQ.bind q fun d S1 x m1 H1 e1 A1 R1 r1 k1 => ?_)
  obtain ⟨A, R', r'⟩ := frz_ok R1 r1
  exact k1 x m1 H1 A R' r'
end

/-! ### isinstance -/
inductive Ty where
  | non | bl | int | str | tup | lst | dct
  deriving DecidableEq
def Ty.name : Ty → String
  | .non => "NoneType" | .bl => "bool" | .int => "int" | .str => "str" | .tup => "tuple" | .lst => "list" | .dct => "dict"
def tyD (d : D) (S : So) : Option Ty := match d with
  | .non => some .non
  | .bl _ => some .bl
  | .int _ => some .int
  | .str _ => some .str
  | .tup _ => some .tup
  | .lst _ => some .lst
  | .scr _ => some .lst
  | .dct _ _ => some .dct
  | .ins _ _ _ => none
  | .exc _ _ _ => none
  | .ref n => match S[n]? with
    | some (some (.lst _)) => some .lst
    | some (some (.dct _ _)) => some .dct
    | _ => none
def isOwn (d : D) (S : So) : Option Str := match d with
  | .ins c _ _ => some c
  | .ref n => match S[n]? with
    | some (some (.ins c _ _)) => some c
    | _ => none
  | _ => none
def isT (t T : Ty) : Bool := decide (t = T) || (decide (t = .bl) && decide (T = .int))
def isD (T : Ty) (d : D) (S : So) : Option Bool := match tyD d S with
  | some t => some (isT t T)
  | none => (isOwn d S).map fun _ => false
theorem kit_isT (t T : Ty) (h : T ≠ .non) : kitB t.name T.name = some (isT t T) := by
  cases T <;> first | exact absurd rfl h | skip
  all_goals cases t <;> decide +kernel
/-- what the walk asks of an own class -/
structure OwnC (K : PySem.W.Frag) (C : Addr) : Prop where
  cl : Cls K C
  ha : PySem.W.findIn K (.ref C) "__class__" = some (some (.builtin "object.__class__"))
  hn : PySem.W.specialIn K (.builtin "object.__class__") "__get__" = some (some (.builtin "getset_descriptor.__get__"))
  htk : PySem.W.takesIn K (.builtin "object.__class__") = some true
  hm : PySem.W.mroIn K C (.type "object") = some true
  is : ∀ T : Ty, T ≠ .non → PySem.W.kitOne K (.ref C) (.type T.name) = some false
def OwnAll (K : PySem.W.Frag) (cm : Cm) : Prop := ∀ c C, cm.cls c = some C → OwnC K C
section
variable {cm : Ct} {m : Am} {S : So} {H : Hp} {d : D} {x : V}
theorem tyD_v {t : Ty} (R : RelS cm m S H) (r : Rep cm m S H d x) (h : tyD d S = some t) : TyX cm.K H x (.type t.name) := by
  cases d with
  | non => simp only [tyD, Option.some.injEq] at h; subst h; simp only [Rep] at r; subst r; exact .base .non
  | bl b => simp only [tyD, Option.some.injEq] at h; subst h; simp only [Rep] at r; subst r; exact .base (.bl b)
  | int b => simp only [tyD, Option.some.injEq] at h; subst h; simp only [Rep] at r; subst r; exact .base (.int b)
  | str b => simp only [tyD, Option.some.injEq] at h; subst h; simp only [Rep] at r; subst r; exact .base (.str b)
  | tup l =>
    simp only [tyD, Option.some.injEq] at h; subst h; simp only [Rep] at r
    obtain ⟨a, vs, rfl, h1, _⟩ := r
    rcases h1 with (h1 | ⟨o, h1⟩) | ⟨o, its, n, h1, h2, _⟩
    · exact .base (.tup h1)
    · exact .fTuple h1
    · exact .kTuple h1 h2
  | lst l =>
    simp only [tyD, Option.some.injEq] at h; subst h; simp only [Rep] at r
    obtain ⟨a, vs, rfl, h1, _⟩ := r
    exact .base (.lst h1)
  | scr l =>
    simp only [tyD, Option.some.injEq] at h; subst h; simp only [Rep] at r
    obtain ⟨a, rfl, h1⟩ := r
    rcases h1 with ⟨o, h1⟩ | ⟨o, its, n, h1, h2, _⟩
    · exact .base (.frz h1)
    · exact .kList h1 h2
  | dct ks l =>
    simp only [tyD, Option.some.injEq] at h; subst h; simp only [Rep] at r
    obtain ⟨a, kvs, rfl, h1, _⟩ := r
    rcases h1 with h1 | ⟨o, h1⟩
    · exact .base (.dK h1)
    · exact .fDict h1
  | ins c ks l => simp [tyD] at h
  | exc c ks l => simp [tyD] at h
  | ref n =>
    simp only [tyD] at h
    simp only [Rep] at r
    obtain ⟨_, rfl⟩ := r
    split at h
    · rename_i l e
      cases h
      obtain ⟨vs, h1, _⟩ := R.at_ n _ e
      exact .base (.lst h1)
    · rename_i ks l e
      cases h
      obtain ⟨vs, h1, _⟩ := R.at_ n _ e
      exact .base (.dK h1)
    · cases h
theorem own_v {c : Str} (R : RelS cm m S H) (r : Rep cm m S H d x) (h : isOwn d S = some c) : ∃ a C dx fs, x = .ref a ∧ cm.cls c = some C ∧ H a = some (.ins C dx fs) := by
  cases d with
  | ins c' ks l =>
    simp only [isOwn, Option.some.injEq] at h
    subst h
    simp only [Rep] at r
    obtain ⟨a, C, dx, fs, e, hc, h1, _⟩ := r
    exact ⟨a, C, dx, fs, e, hc, h1⟩
  | ref n =>
    simp only [isOwn] at h
    simp only [Rep] at r
    split at h
    · rename_i c' ks l e
      cases h
      obtain ⟨C, dx, fs, hc, h1, _⟩ := R.at_ n _ e
      exact ⟨_, C, dx, fs, r.2, hc, h1⟩
    · cases h
  | _ => simp [isOwn] at h
end
def mIs (T : Ty) (fe : E D) : E D := fun en S => (fe en S).bind fun d S1 => match isD T d S1 with
  | some b => .ok (.bl b) S1
  | none => .bad
/-- isinstance(x, (T, U)) -/
def mIs2 (T U : Ty) (fe : E D) : E D := fun en S => (fe en S).bind fun d S1 => match isD T d S1, isD U d S1 with
  | some a, some b => .ok (.bl (a || b)) S1
  | _, _ => .bad
section
variable {cm : Cm} {X : Cx} {e : Expr} {fe : E D} {p p1 p2 pt pos : Pos}
theorem isD_all {m : Am} {S : So} {H : Hp} {d : D} {x : V} {T : Ty} {b : Bool} (ho : OwnAll X.K cm) (R : RelS (ct X cm) m S H) (r : Rep (ct X cm) m S H d x) (h : isD T d S = some b) :
    ∃ t, TyX X.K H x t ∧ ∀ (U : Ty) (k : Bool), U ≠ .non → isD U d S = some k → PySem.W.kitOne X.K t (.type U.name) = some k := by
  unfold isD at h
  split at h
  · rename_i t e
    refine ⟨_, tyD_v R r e, fun U k hU q => ?_⟩
    unfold isD at q
    rw [e] at q
    cases q
    exact kit_ty (kit_isT t U hU)
  · rename_i e0
    cases e : isOwn d S with
    | none => rw [e] at h; cases h
    | some c =>
      obtain ⟨a, C, dx, fs, rfl, hc, h1⟩ := own_v R r e
      have o := ho c C hc
      refine ⟨_, .base (.ins h1 o.cl o.ha o.hn o.htk o.hm), fun U k hU q => ?_⟩
      unfold isD at q
      rw [e0, e] at q
      cases q
      exact o.is U hU
theorem re_is (T : Ty) {x : Str} (ho : OwnAll X.K cm) (hg : Gl X "isinstance") (hm : X.mg "isinstance" = none) (hg2 : Gl X x) (hm2 : X.mg x = none) (hv2 : bootBuiltins x = some (.type T.name)) (he : RE cm X e fe) (hT : T ≠ .non := by decide)
    (hn : x ≠ "__name__" := by decide) (hdb : (x == ("__debug__" : Str)) = false := by decide)
    (hs : starEach [e, .Name x p1] X.env = (false, eval e X.env) :: starEach [.Name x p1] X.env := by rfl) (hs2 : starEach [.Name x p1] X.env = (false, eval (.Name x p1) X.env) :: starEach [] X.env := by rfl)
    (hpl : (backTo pos (starEach [.Name x p1] X.env)).any (·.1) = false := by rfl) :
    RE cm X (.Call (.Name "isinstance" p) [e, .Name x p1] [] pos) (mIs T fe) := fun W tk m S H σ en Q C h => by
  refine wE_of (pe_callB call_isi hg hm PyProof.Rows.boot_isinstance (pa_cons pe_w (pa_cons (pe_bltn (v := .ty T.name) hg2 hm2 hv2 rfl hn hdb) pa_nil hs2) hs) (by decide) (by decide) hs hpl) ?_
  refine he W tk m S H σ en _ C (PQ.bind h fun d S1 x m1 H1 e1 A1 R1 r1 h1 => ?_)
  split at h1
  · rename_i b eb
    obtain ⟨t, g1, g2⟩ := isD_all ho R1 r1 eb
    exact ⟨x, .ty T.name, t, .type T.name, b, rfl, .ty _, g1, g2 T b hT eb, PQ.now h1 R1 (by simp only [Rep])⟩
  · exact h1.elim
/-- isinstance(x, (T, U)) -/
theorem re_is2 (T U : Ty) {x y : Str} {kt : Nat} (ho : OwnAll X.K cm) (hg : Gl X "isinstance") (hm : X.mg "isinstance" = none) (hg2 : Gl X x) (hm2 : X.mg x = none) (hv2 : bootBuiltins x = some (.type T.name))
    (hg3 : Gl X y) (hm3 : X.mg y = none) (hv3 : bootBuiltins y = some (.type U.name)) (he : RE cm X e fe) (hT : T ≠ .non := by decide) (hU : U ≠ .non := by decide)
    (hn : x ≠ "__name__" := by decide) (hdb : (x == ("__debug__" : Str)) = false := by decide) (hn3 : y ≠ "__name__" := by decide) (hdb3 : (y == ("__debug__" : Str)) = false := by decide)
    (hs : starEach [e, .Tuple [.Name x p1, .Name y p2] kt pt] X.env = (false, eval e X.env) :: starEach [.Tuple [.Name x p1, .Name y p2] kt pt] X.env := by rfl)
    (hs2 : starEach [.Tuple [.Name x p1, .Name y p2] kt pt] X.env = (false, eval (.Tuple [.Name x p1, .Name y p2] kt pt) X.env) :: starEach [] X.env := by rfl)
    (ht1 : starEach [.Name x p1, .Name y p2] X.env = (false, eval (.Name x p1) X.env) :: starEach [.Name y p2] X.env := by rfl) (ht2 : starEach [.Name y p2] X.env = (false, eval (.Name y p2) X.env) :: starEach [] X.env := by rfl)
    (hpl : (backTo pos (starEach [.Tuple [.Name x p1, .Name y p2] kt pt] X.env)).any (·.1) = false := by rfl) :
    RE cm X (.Call (.Name "isinstance" p) [e, .Tuple [.Name x p1, .Name y p2] kt pt] [] pos) (mIs2 T U fe) := fun W tk m S H σ en Q C h => by
  refine wE_of (pe_callB call_isiT hg hm PyProof.Rows.boot_isinstance (pa_cons pe_w (pa_cons (pe_tup (pa_cons (pe_bltn (v := .ty T.name) hg2 hm2 hv2 rfl hn hdb) (pa_cons (pe_bltn (v := .ty U.name) hg3 hm3 hv3 rfl hn3 hdb3) pa_nil ht2) ht1)) pa_nil hs2) hs) (by decide) (by decide) hs hpl) ?_
  refine he W tk m S H σ en _ C (PQ.bind h fun d S1 x m1 H1 e1 A1 R1 r1 h1 => ?_)
  split at h1
  · rename_i a b ea eb
    refine ⟨by show 2 ≤ sizeLine; rw [sizeLine_eq]; omega, fun q hq => ?_⟩
    have R2 := R1.grow (grow_upd (p := q) (o := .tup [.ty T.name, .ty U.name]) hq)
    have r2 := Rep.adv (Adv.new (o := .tup [.ty T.name, .ty U.name]) hq) _ _ r1
    obtain ⟨t', g1, g2⟩ := isD_all ho R2 r2 ea
    refine ⟨x, q, [.ty T.name, .ty U.name], t', [.type T.name, .type U.name], a || b, rfl, upd_same, .cons (.ty _) (.cons (.ty _) .nil), g1, ?_, h1.grown R1 (grow_upd hq) fun _ => by simp only [Rep]⟩
    exact kitAny_cons (g2 T a hT ea) (fun z => kitAny_cons (g2 U b hU eb) (fun z' => by rw [z, z']; exact kitAny_nil) fun z' => by rw [z']; simp) fun z => by rw [z]; rfl
  · exact h1.elim
end

/-! ### over a text -/
def iTxt (f : E D) : E Src := fun en S => (f en S).bind fun d S1 => match d with
  | .str x => .ok ⟨none, sgns x⟩ S1
  | _ => .bad
theorem ri_str {cm : Cm} {X : Cx} {tg iter : Expr} {f : E D} (h : RE cm X iter f) : RI cm X tg iter (iTxt f) := fun W tk m S H σ en R C hq => by
  refine wI_of (pi_str pe_w) ?_
  refine h W tk m S H σ en _ C (PQ.bind hq fun d S1 y m1 H1 e1 A1 R1 r1 h1 => ?_)
  split at h1
  · rename_i x
    simp only [Rep] at r1
    refine ⟨x, r1, PQ.now h1 R1 fun m' S' H' A R' st => ?_⟩
    have hl : (sgns x).length = x.cps.size := by unfold sgns; rw [List.length_map, Array.length_toList]
    refine ⟨fun i d ed => ?_, by show x.cps.size ≤ (sgns x).length; rw [hl]; exact Nat.le_refl _⟩
    have hi : i < x.cps.size := by rw [← hl]; exact (List.getElem?_eq_some_iff.mp ed).1
    refine ⟨hi, fun v H2 y => ?_⟩
    obtain ⟨e1, c, ec, e2⟩ := y
    subst e1 e2
    unfold sgns at ed
    rw [List.getElem?_map, Array.getElem?_toList, ec] at ed
    simp only [Option.map_some, Option.some.injEq] at ed
    subst ed
    exact ⟨fun _ _ h => h, by simp only [Rep]⟩
  · exact h1.elim
end Mi

/-! MiX: own exceptions over any base, with a field. -/
namespace Mi
open PySem PySem.Spec PyProof.Rows L2

/-- a built-in class as a base: how its instances are made, what its __init__ does -/
structure XB (newId initId : String) (bmB : List Value) : Prop where
  call : ∀ {prog : Program} {w : World} {A : Around} {R : Result → Shared → Prop} {h : Heap} {g : Array GenState} {d : Drawn} {t : Nat} {os : OsState} {nm q : Str} {C N : Addr} {bs bm : List Value} {hdct : Bool} {sn : List Str} {sub : List Value} {ab : Bool} {col : Option Bool} {dd : Option Addr} {k0 k1 k2 k3 k5 : Option Value} {rest : List Value} {fI : Addr},
    (∀ X : String, bm.contains (.type X) = bmB.contains (.type X)) → h.get? C = some (excClassObj nm q C N bs bm hdct sn sub ab col dd k0 k1 k2 k3 k5 newId) → PySem.W.Looks (model prog w) h (typeLookup (.ref C) "__init__") (some (.ref fI)) →
    (∀ self, PySem.W.Looks (model prog w) h (bindSpecial (.ref fI) self) (.ref fI, [self])) → rest.length ≤ sizeLine →
    codeAny (model prog w) (A.under (.builtin "type.__call__" ⟨.ref C :: rest, []⟩)) (.call (.ref fI) ⟨.ref (h.objs.size + 1) :: rest, []⟩) (PySem.W.InitBack (h.objs.size + 1) R) ⟨(h.push (PySem.W.kdv_tup rest)).push (PySem.HandSPX.excO C h.objs.size), g, d, t, os⟩ →
    codeAny (model prog w) A (.call (.ref C) ⟨rest, []⟩) R ⟨h, g, d, t, os⟩
  init : ∀ {prog : Program} {w : World} {A : Around} {R : Result → Shared → Prop} {h : Heap} {g : Array GenState} {d : Drawn} {t : Nat} {os : OsState} {nm q : Str} {C N : Addr} {bs bm : List Value} {hdct : Bool} {sn : List Str} {sub : List Value} {ab : Bool} {col : Option Bool} {dd : Option Addr} {k0 k1 k2 k3 k5 : Option Value} {e t0 : Addr} {rest : List Value},
    (∀ X : String, bm.contains (.type X) = bmB.contains (.type X)) → h.get? C = some (excClassObj nm q C N bs bm hdct sn sub ab col dd k0 k1 k2 k3 k5 newId) → h.get? e = some (PySem.HandSPX.excO C t0) → rest.length ≤ sizeLine →
    (∀ h' t1, (∀ b o, b ≠ e → h.get? b = some o → h'.get? b = some o) → h'.get? e = some (PySem.HandSPX.excO C t1) → R (.ok (.ret .none)) ⟨h', g, d, t, os⟩) →
    codeAny (model prog w) A (.call (.builtin initId) ⟨.ref e :: rest, []⟩) R ⟨h, g, d, t, os⟩
theorem XB.of {B newId initId : String} {bmB : List Value} (F : ExcBaseFacts B newId initId bmB) : XB newId initId bmB :=
  ⟨fun hT hC hi hb hr hq => PySem.HandSPX.call_own F hT hC hi hb hr hq, fun hT hC he hr hq => PySem.HandSPX.init_base F hT hC he hr hq⟩
structure OxC (K : PySem.W.Frag) (C : Addr) (bmB : List Value) (newId : String) : Prop where
  q : PySem.W.excInitIn K C bmB newId = true
  ov : PySem.W.excOver K C bmB = true
  sa : PySem.W.findIn K (.ref C) "__setattr__" = some (some (.builtin "object.__setattr__"))
  hd : PySem.W.hasDictIn K C = true
  exC : PySem.W.subIn K (.ref C) (.type "BaseException") = some true
  tyC : PySem.W.typeIn K (.ref C) = some (.type "type")
  kC : PySem.W.keepIn K (.ref C) = true
section
open PySem.W PySem.Calls PySem.HandSPX Builtin Builtin.ObjectAttr
variable {prog : Program} {w : World} {A : Around} {E : Value → Shared → Prop} {R : Result → Shared → Prop} {hp : Heap} {g : Array GenState} {d : Drawn} {t : Nat} {os : OsState} {B newId initId : String} {bmB : List Value}
theorem exc_osaB {K : W.Frag} {name : Str} {tk : Tok} {v : Value} {x C : Addr} {fv : Array Value} (SF : StoreFacts B bmB "object.__setattr__" "object")
    (X : K.In hp) (hx : hp.get? x = some { cls := .ref C, data := .fields fv }) (hp' : excOver K C bmB = true) (hh : hasDictIn K C = true) (ht : takerIn K C name = some none) (hnc : notCls ({ cls := .ref C, data := .fields fv } : Obj) = true)
    (hq : ∀ h' tk' dx, (∀ b o, b ≠ x → hp.get? b = some o → h'.get? b = some o) → hp.objs.size ≤ dx → dx ≠ x → h'.get? x = some { cls := .ref C, dict := some dx, data := .fields fv } →
      h'.Ns1 dx (fun y => if y = name then some v else none) → R (.ok (.ret .none)) ⟨h', g, d, tk', os⟩) :
    codeAny (model prog w) A (.call (.builtin "object.__setattr__") ⟨[.ref x, .str name tk, v], []⟩) R ⟨hp, g, d, t, os⟩ := by
  have I : W.InstAt hp x { cls := .ref C, data := .fields fv } C none := ⟨hx, rfl, rfl, trivial⟩
  have hxs : x ≠ hp.objs.size := Nat.ne_of_lt (Heap.lt_size hx)
  obtain ⟨cd, hcd, hdd⟩ := any_some hh
  have hcls : W.Looks (model prog w) hp (classData C) cd := W.looks_clsIn X hcd
  refine osa_openX SF X I hp' ht fun b => ?_
  show wpAny _ _ (storeInOwnDict (.ref x) (.ref C) (.str name tk) name v b) _ _ _
  obtain ⟨nm, bs, mro, ns, qn, hd, sn, sb, ab, col, del⟩ := cd
  dsimp only at hdd
  subst hdd
  unfold storeInOwnDict ownDictForStores
  repeat (first | with_reducible refine store_in_new ?_ ?_ | with_reducible refine wpAny_loadPart_at hx ?_ | with_reducible refine hcls.at ?_ | wp_step)
  · exact ⟨_, #[], _, (Heap.get?_update_ne _ _ _ _ hxs.symm).trans (Heap.get?_push_at rfl rfl), rfl, fun e he => absurd he (by simp), fun _ => rfl⟩
  · intro h' tk' hn' hs
    have hx₁ : (hp.push { cls := .type "dict", data := .dict #[] }).get? x = some { cls := .ref C, data := .fields fv } := Heap.get?_push_of_some _ hx
    refine hq h' tk' hp.objs.size (fun b o hb ho => ?_) (Nat.le_refl _) hxs.symm ?_ hn'
    · exact (hs.2 b (Nat.ne_of_lt (Heap.lt_size ho))).trans ((Heap.get?_update_ne _ _ _ _ hb).trans (Heap.get?_push_of_some _ ho))
    · exact (hs.2 x hxs).trans (Heap.get?_update_self _ hx₁ rfl)
end

/-! ### over tracked heaps -/
section
variable {X : Cx} {pins : List (Addr × Obj)} {σ : St} {H : Hp} {s : Shared} {a C dx : Addr} {f : Str} {y : V} {u : Value} {fs : List (Str × V)} {E : Value → Shared → Prop} {A : Around} {B newId initId : String} {bmB : List Value}
theorem exc_set {Q : Unit → Shared → Prop} (SF : StoreFacts B bmB "object.__setattr__" "object") (T : OxC X.K C bmB newId) (I : Inv X pins σ H s) (e : H a = some (exo a C none)) (hno : PySem.W.findIn X.K (.ref C) f = some none) (ry : RelV y u)
    (h : ∀ dx s', H dx = none → dx ≠ a → Inv X pins σ (upd (upd H dx (exd dx [(f, y)])) a (exo a C (some dx))) s' → Q () s') : wpAny (model X.prog X.w) A (setAttr (.ref a) f u) Q E s := by
  obtain ⟨t1, ho⟩ := exo_at I.hok e
  obtain ⟨hp, g, d, t, os⟩ := s
  refine PySem.W.set_plain I.kIn (ox := { cls := .ref C, dict := none, data := .fields #[.ref t1, .none, .none, .none, .bool false, .none] }) (od := none) ⟨ho, rfl, rfl, trivial⟩ T.sa ?_
  refine exc_osaB SF I.kIn ho T.ov T.hd (NoAttr.taker hno) rfl (fun h' tk' dx k dn dne hx hn => ?_)
  have hnd : H dx = none := I.hok.fresh dn
  have nd : ∀ {b : Addr} {o : Obj}, hp.get? b = some o → b ≠ dx := fun {b o} q => Nat.ne_of_lt (Nat.lt_of_lt_of_le (Heap.lt_size q) dn)
  have na : ∀ {b : Addr}, H b = none → b ≠ a := fun {b} n z => by
    rw [z, e] at n
    cases n
  have keepT : ∀ {b : Addr} {o : HO}, H b = some o → exo a C none ≠ o → (upd (upd H dx (exd dx [(f, y)])) a (exo a C (some dx))) b = some o := fun {b o} q z => by
    rw [upd_ne (at_ne e q z), upd_ne (ne_of_none q hnd)]
    exact q
  have Un1 : Un X.fs [] H (upd (upd H dx (exd dx [(f, y)])) a (exo a C (some dx))) hp h' := {
    keep := fun b o q n _ _ => k b o (na n) q
    slot := fun b o q n _ _ => ⟨o.slots, k b o (na n) q⟩
    free := fun b o q n _ => by rw [upd_ne (na n), upd_ne (nd q)]; exact n
    there := fun b o q _ => by
      by_cases hb : b = a
      · exact ⟨_, by rw [hb]; exact hx⟩
      · exact ⟨o, k b o hb q⟩
    tups := fun b xs q => keepT q exo_tup
    frzs := fun b o v q => keepT q exo_frz
    tbls := fun b ps q => ⟨#[], by rw [keepT q exo_tbl]; simp⟩ }
  refine h dx _ hnd dne (I.un (t' := tk') Un1 fun b o q => ?_)
  by_cases hb : b = a
  · subst hb
    rw [upd_same] at q
    cases q
    exact exo_ok hx
  · rw [upd_ne hb] at q
    by_cases hd : b = dx
    · subst hd
      rw [upd_same] at q
      cases q
      exact exd_ok hn (relO_put (fs := []) ry fun g => True.intro)
    · rw [upd_ne hd] at q
      exact (I.hok b o q).stay (fun c v hc z => k c v (by
          rcases hc with hc | hc
          · rw [hc]
            exact hb
          · exact at_ne e hc exo_own) z)
        (fun c hc => keepT hc exo_own) (fun c xs hc => keepT hc exo_tup)
/-- B.__init__(self, ..) -/
theorem exc_init {us : List Value} {Q : Value → Shared → Prop} (F : XB newId initId bmB) (T : OxC X.K C bmB newId) (I : Inv X pins σ H s) (e : H a = some (exo a C none)) (hl : us.length ≤ sizeLine) (h : ∀ s', Inv X pins σ H s' → Q .none s') :
    wpAny (model X.prog X.w) A (call (.builtin initId) (.ref a :: us)) Q E s := by
  obtain ⟨nm, N, qn, bs, bm, hdct, sn, sub, ab, col, dd, k0, k1, k2, k3, k5, hC, hT⟩ := PySem.W.excInit_of I.kIn T.q
  obtain ⟨t1, ho⟩ := exo_at I.hok e
  obtain ⟨hp, g, d, t, os⟩ := s
  refine wpAny_call (F.init hT hC ho hl fun h' t2 k hx => ?_)
  have J := I.write (t' := t) (x := a) (e := a) (o := exo a C none) (by rw [e]; exact True.intro) (.inl rfl) k ⟨_, hx⟩ (exo_ok hx)
  have eu : upd H a (exo a C none) = H := by
    funext b
    by_cases hb : b = a
    · rw [hb, upd_same, e]
    · rw [upd_ne hb]
  rw [eu] at J
  exact h _ J
end
/-- B.__init__(self, ..) where B names a built-in class; an own one -/
def tBi (K : PySem.W.Frag) (bmB : List Value) (newId : String) (ta : TA) : TE := fun σ H Q => ta σ H fun vs H1 => ∃ (a C : Addr) (ws : List V), vs = .ref a :: ws ∧ ws.length ≤ 1000 ∧ OxC K C bmB newId ∧ H1 a = some (exo a C none) ∧ Q .non H1
def tOf (K : PySem.W.Frag) (bmB : List Value) (newId : String) (f : Str) (to te : TE) : TS := fun D σ H => te σ H fun y H1 => to σ H1 fun x H2 => ∃ a C : Addr, x = .ref a ∧ OxC K C bmB newId ∧ PySem.W.findIn K (.ref C) f = some none ∧
  H2 a = some (exo a C none) ∧ ∀ dx, H2 dx = none → dx ≠ a → D.nx σ (upd (upd H2 dx (exd dx [(f, y)])) a (exo a C (some dx)))
section
variable {X : Cx} {o e : Expr} {es : List Expr} {to te : TE} {ta : TA} {f x : Str} {p p' p1 p2 pos : Pos} {B newId initId T : String} {bmB : List Value}
theorem init_args {pins : List (Addr × Obj)} {σ : St} {H : Hp} {s : Shared} {Q : VK} (F : XB newId initId bmB) (I : Inv X pins σ H s) (ha : PA X (e :: es) ta) (h : tBi X.K bmB newId ta σ H Q)
    (he : starEach (e :: es) X.env = (false, eval e X.env) :: starEach es X.env := by rfl) (hpl : (backTo pos (starEach es X.env)).any (·.1) = false := by rfl) :
    wpAny (model X.prog X.w) X.A (callWith pos (Value.builtin initId) [] (backTo pos (starEach (e :: es) X.env)) []) (EP X pins σ Q) X.xe s := by
  refine PyProof.Rows.callWith_method1 (thn (ha.run pos pins _ σ H _ I h) fun us s1 ⟨vs, H1, I1, r1, a, C, ws, ev, hl, T, ea, q⟩ => ?_) he hpl
  subst ev
  cases r1 with
  | @cons _ u0 _ ur ra rw' =>
    obtain rfl : u0 = Value.ref a := ra
    have hlen : ur.length ≤ sizeLine := by
      rw [← Paired.length rw', sizeLine_eq]
      omega
    exact exc_init F T I1 ea hlen fun s' J => ⟨.non, H1, J, rfl, q⟩
theorem pe_biinit {pl : Sem Bool} (F : XB newId initId bmB) (hg : Gl X x) (hm : X.mg x = none) (hv : bootBuiltins x = some (.type B)) (ht : typeOf (.type B) = pure (.type "type")) (hst : Manifest.isStub B = false) (hh : PySem.W.handedIn (.builtin initId) = true) (vV : PySem.W.findCls X.K (.type B) (.type "type") "__init__" = some (.val (.builtin initId))) (ha : PA X (e :: es) ta)
    (hn : x ≠ "__name__" := by decide) (hdb : (x == ("__debug__" : Str)) = false := by decide)
    (hc : eval (.Call (.Attribute (.Name x p1) "__init__" p2) (e :: es) [] pos) X.env = (do
      let ov ← eval (.Name x p1) X.env
      standAt p2.atName
      let (f, first) ← holding [ov] (getMethod ov "__init__" pl)
      callWith pos f first (backTo pos (starEach (e :: es) X.env)) (backToKw pos (keywordEach [] X.env))) := by rfl)
    (he : starEach (e :: es) X.env = (false, eval e X.env) :: starEach es X.env := by rfl) (hpl : (backTo pos (starEach es X.env)).any (·.1) = false := by rfl) :
    PE X (.Call (.Attribute (.Name x p1) "__init__" p2) (e :: es) [] pos) (tBi X.K bmB newId ta) := by
  refine ⟨fun pins s σ H Q I h => ?_⟩
  refine PySem.W.methodCall_KW (ld_blt I hg hm hv ?_ hn hdb) hc
  obtain ⟨m, fr⟩ := I.fr
  refine PySem.W.method_type fr I.ok.mod.kin ht hst vV hh ?_
  exact init_args F (I.tok _) ha h he hpl
theorem pe_owinit {pl : Sem Bool} {D : Addr} {mc : Value} (F : XB newId initId bmB) (hg : Gl X x) (hm : X.mg x = some (.ref D)) (hs : PySem.W.specialIn X.K (.ref D) "__getattribute__" = some (some (.builtin "type.__getattribute__"))) (hr : PySem.W.readsIn X.K D mc = true) (hh : PySem.W.handedIn (.builtin initId) = true) (vV : PySem.W.findCls X.K (.ref D) mc "__init__" = some (.val (.builtin initId))) (ha : PA X (e :: es) ta)
    (hdb : (x == ("__debug__" : Str)) = false := by decide)
    (hc : eval (.Call (.Attribute (.Name x p1) "__init__" p2) (e :: es) [] pos) X.env = (do
      let ov ← eval (.Name x p1) X.env
      standAt p2.atName
      let (f, first) ← holding [ov] (getMethod ov "__init__" pl)
      callWith pos f first (backTo pos (starEach (e :: es) X.env)) (backToKw pos (keywordEach [] X.env))) := by rfl)
    (he : starEach (e :: es) X.env = (false, eval e X.env) :: starEach es X.env := by rfl) (hpl : (backTo pos (starEach es X.env)).any (·.1) = false := by rfl) :
    PE X (.Call (.Attribute (.Name x p1) "__init__" p2) (e :: es) [] pos) (tBi X.K bmB newId ta) := by
  refine ⟨fun pins s σ H Q I h => ?_⟩
  refine PySem.W.methodCall_KW (ld_glob I hg hm ?_ hdb) hc
  refine PySem.W.method_cls I.kIn hs (PySem.W.cls_value I.kIn hr vV hh ?_)
  exact init_args F (I.tok _) ha h he hpl
theorem ps_exf (SF : StoreFacts B bmB "object.__setattr__" "object") (ho : PE X o to) (he : PE X e te) (hs : swapsWith e (some (.Attribute o f p')) pos.line X.env = pure false := by rfl) : PS X (.Assign [.Attribute o f p'] e pos) (tOf X.K bmB newId f to te) := by
  refine ⟨fun pins s σ H D I h => ?_⟩
  refine plainObj_wpAny_Assign_Attribute (thn (he.run pins s σ H _ I h) fun v s1 ⟨y, H1, I1, r1, q1⟩ => thn (ho.run pins s1 σ H1 _ I1 q1) fun u s2 ⟨x, H2, I2, r2, a, C, ex, T, hno, ea, q⟩ => ?_) hs
  subst ex
  obtain rfl : u = Value.ref a := r2
  exact exc_set SF T I2 ea hno r1 fun dx s' n ne J => ⟨σ, _, J, q dx n ne⟩
end
/-- what such an __init__ promises -/
def spXi (K : PySem.W.Frag) (bmB : List Value) (newId : String) (f : Str) : Sp := fun vs H Q _ => ∃ (a C : Addr) (v : V), vs = [.ref a, v] ∧ OxC K C bmB newId ∧ PySem.W.findIn K (.ref C) f = some none ∧ H a = some (exo a C none) ∧
  ∀ dx, H dx = none → dx ≠ a → Q .non (upd (upd H dx (exd dx [(f, v)])) a (exo a C (some dx)))

/-! ### such an exception made: as a value; to be raised -/
section
variable {X : Cx} {x : Str} {C fI : Addr} {k : Nat} {fd : FuncData} {ps : List Str} {sp : Sp} {e : Expr} {es : List Expr} {ta : TA} {p pos : Pos} {CX : CXT} {B newId initId : String} {bmB : List Value}
/-- C(e, ..): the new object, then its __init__ -/
def tMkV (C : Addr) (sp : Sp) (ta : TA) : TE := fun σ H Q => ta σ H fun vs H1 => vs.length ≤ 1000 ∧ ∀ a, H1 a = none → sp (.ref a :: vs) (upd H1 a (exo a C none)) (fun v H2 => v = .non ∧ Q (.ref a) H2) (fun _ _ _ => False)
theorem oex_run {pins : List (Addr × Obj)} {σ : St} {H : Hp} {s : Shared} {Qv : Value → Shared → Prop} {Q : Hp → Addr → Hp → Prop} (F : XB newId initId bmB) (T : OxC X.K C bmB newId) (iC : PySem.W.findIn X.K (.ref C) "__init__" = some (some (.ref fI))) (tI : PySem.W.isFn X.K (.ref fI) = true)
    (F1 : FnOk X.prog X.w X.K X.mg X.base CX k fI fd ps sp) (hr : Room (k + 1) X.A) (hb : Binds X.K fd ps []) (hx : Passes CX X (fun _ _ _ => False)) (hg : Gl X x) (hm : X.mg x = some (.ref C)) (ha : PA X (e :: es) ta)
    (I : Inv X pins σ H s) (h : ta σ H fun vs H1 => vs.length ≤ 1000 ∧ ∀ a, H1 a = none → sp (.ref a :: vs) (upd H1 a (exo a C none)) (fun v H2 => v = .non ∧ Q H1 a H2) (fun _ _ _ => False))
    (hQ : ∀ {H1 H2 : Hp} {hp hp2 h2 : Heap} {g1 g2 : Array GenState} {d1 d2 : Drawn} {t1 t2 : Nat} {os1 os2 : OsState} {a : Addr}, Inv X pins σ H1 ⟨hp, g1, d1, t1, os1⟩ → hp.objs.size ≤ a → (∀ b o, hp.get? b = some o → hp2.get? b = some o) →
      Un (frs X.stack) [] (upd H1 a (exo a C none)) H2 hp2 h2 → HOk X.prog X.w H2 h2 → os2 = os1 → AllBare g2 → Inv X pins σ (upd H1 a (exo a C none)) ⟨hp2, g1, d1, t1, os1⟩ → Q H1 a H2 → Qv (.ref a) ⟨h2, g2, d2, t2, os2⟩)
    (hdb : (x == ("__debug__" : Str)) = false := by decide) (he : starEach (e :: es) X.env = (false, eval e X.env) :: starEach es X.env := by rfl) (hpl : (backTo pos (starEach es X.env)).any (·.1) = false := by rfl) :
    wpAny (model X.prog X.w) X.A (eval (.Call (.Name x p) (e :: es) [] pos) X.env) Qv X.xe s := by
  refine wpAny_Call_Name_kw (ld_glob I hg hm ?_ hdb)
  refine PySem.W.callWith_K (h₀ := X.base) I.ok.mod.kin T.kC (thn (ha.run pos pins s σ H _ I h) fun us s1 ⟨vs, H1, I1, r1, hz, q1⟩ => ⟨I1.kIn, ?_⟩) he hpl
  show wpAny _ _ (call (.ref C) us) _ _ _
  obtain ⟨nm, N, qn, bs, bm, hdct, sn, sub, ab, col, dd, k0, k1, k2, k3, k5, hC, hT⟩ := PySem.W.excInit_of I1.kIn T.q
  obtain ⟨oI, hoI, hcI⟩ : ∃ oI, s1.heap.get? fI = some oI ∧ oI.cls = .type "function" := by
    obtain ⟨o, ho, hc⟩ := Option.map_eq_some_iff.mp (show (X.K.lookup fI).map (·.cls) = some (.type "function") from beq_iff_eq.mp tI)
    exact ⟨o, I1.kIn _ _ ho, hc⟩
  have hi' : PySem.W.Looks (model X.prog X.w) s1.heap (typeLookup (.ref C) "__init__") (some (.ref fI)) := PySem.W.looks_findIn I1.kIn iC
  obtain ⟨hp, g, dr, tk, os⟩ := s1
  have hsz : hp.objs.size ≤ hp.objs.size + 1 := Nat.le_succ _
  have hn : H1 (hp.objs.size + 1) = none := I1.hok.fresh hsz
  have hq := q1 (hp.objs.size + 1) hn
  have kk : ∀ b o, hp.get? b = some o → ((hp.push (PySem.W.kdv_tup us)).push (PySem.HandSPX.excO C hp.objs.size)).get? b = some o := fun b o e => Heap.get?_push_of_some _ (Heap.get?_push_of_some _ e)
  have hget : ((hp.push (PySem.W.kdv_tup us)).push (PySem.HandSPX.excO C hp.objs.size)).get? (hp.objs.size + 1) = some (PySem.HandSPX.excO C hp.objs.size) := by heap_get
  have I2 : Inv X pins σ (upd H1 (hp.objs.size + 1) (exo (hp.objs.size + 1) C none)) ⟨(hp.push (PySem.W.kdv_tup us)).push (PySem.HandSPX.excO C hp.objs.size), g, dr, tk, os⟩ :=
    I1.laid (t' := tk) (a := hp.objs.size + 1) (o := exo (hp.objs.size + 1) C none) (h' := (hp.push (PySem.W.kdv_tup us)).push (PySem.HandSPX.excO C hp.objs.size)) kk hsz (exo_ok hget)
  have r2 : Vals (V.ref (hp.objs.size + 1) :: vs) (Value.ref (hp.objs.size + 1) :: us) := .cons rfl r1
  have hl : (Value.ref (hp.objs.size + 1) :: us).length = ps.length := by
    have e := r2.length
    rw [F1.len _ _ _ _ hq] at e
    exact e.symm
  have hus : us.length ≤ sizeLine := by
    rw [← Paired.length r1, sizeLine_eq]
    omega
  have b0 := hb { heap := (hp.push (PySem.W.kdv_tup us)).push (PySem.HandSPX.excO C hp.objs.size), gens := g, drawn := dr, toks := tk, os := os } (Value.ref (hp.objs.size + 1) :: us) I2.kIn (by rw [List.append_nil]; exact hl)
  rw [List.append_nil] at b0
  refine wpAny_call (F.call hT hC hi' (fun self => PySem.W.exc_bind hoI hcI self) hus
    (codeAny_mono (F1.run _ X.stack _ _ ⟨Value.ref (hp.objs.size + 1) :: us, []⟩ (Value.ref (hp.objs.size + 1) :: us) _ _ (fun _ _ _ => False) (hr.make C us []) (I2.env0.make C us []) b0 r2 hq) fun r s' hq' => ?_))
  cases r with
  | error er => exact hx pins σ _ _ er s' I2 hq'
  | ok fl =>
    cases fl with
    | ret u =>
      obtain ⟨v, H2, os2, bare2, un2, hok2, rv, ev, q2⟩ := hq'
      subst ev
      obtain ⟨h2, g2, d2, t2, os'⟩ := s'
      exact ⟨rv, hQ I1 hsz kk un2 hok2 os2 bare2 I2 q2⟩
    | next => exact False.elim hq'
    | brk => exact False.elim hq'
    | cont => exact False.elim hq'
theorem pe_oexV (F : XB newId initId bmB) (T : OxC X.K C bmB newId) (iC : PySem.W.findIn X.K (.ref C) "__init__" = some (some (.ref fI))) (tI : PySem.W.isFn X.K (.ref fI) = true)
    (F1 : FnOk X.prog X.w X.K X.mg X.base CX k fI fd ps sp) (hr : Room (k + 1) X.A) (hb : Binds X.K fd ps []) (hx : Passes CX X (fun _ _ _ => False)) (hg : Gl X x) (hm : X.mg x = some (.ref C)) (ha : PA X (e :: es) ta)
    (hdb : (x == ("__debug__" : Str)) = false := by decide) (he : starEach (e :: es) X.env = (false, eval e X.env) :: starEach es X.env := by rfl) (hpl : (backTo pos (starEach es X.env)).any (·.1) = false := by rfl) :
    PE X (.Call (.Name x p) (e :: es) [] pos) (tMkV C sp ta) := ⟨fun pins s σ H Q I h => by
  refine oex_run (Q := fun _ a H2 => Q (.ref a) H2) F T iC tI F1 hr hb hx hg hm ha I h ?_ hdb he hpl
  intro H1 H2 hp hp2 h2 g1 g2 d1 d2 t1 t2 os1 os2 a I1 hsz kk un hok ho hbare I2 q
  subst ho
  exact ⟨.ref a, H2, I2.call (ch := []) un hok hbare (fun b z => absurd z (by simp)), rfl, q⟩⟩
theorem pmk_oexB (F : XB newId initId bmB) (T : OxC X.K C bmB newId) (iC : PySem.W.findIn X.K (.ref C) "__init__" = some (some (.ref fI))) (tI : PySem.W.isFn X.K (.ref fI) = true)
    (F1 : FnOk X.prog X.w X.K X.mg X.base CX k fI fd ps sp) (hr : Room (k + 1) X.A) (hb : Binds X.K fd ps []) (hx : Passes CX X (fun _ _ _ => False)) (hg : Gl X x) (hm : X.mg x = some (.ref C)) (ha : PA X (e :: es) ta)
    (hdb : (x == ("__debug__" : Str)) = false := by decide) (he : starEach (e :: es) X.env = (false, eval e X.env) :: starEach es X.env := by rfl) (hpl : (backTo pos (starEach es X.env)).any (·.1) = false := by rfl) :
    PMk X (.Call (.Name x p) (e :: es) [] pos) (tMkO C sp [] ta) := by
  intro pins s σ H Q I h
  unfold tMkO at h
  simp only [List.append_nil] at h
  refine oex_run (Q := fun H1 a H2 => ∃ (d : Addr) (fs : List (Str × V)), H2 a = some (exo a C (some d)) ∧ H2 d = some (exd d fs) ∧ H1 d = none ∧ Q (.ref C) (some d) (upd (del H2 a) d (.xd fs))) F T iC tI F1 hr hb hx hg hm ha I h ?_ hdb he hpl
  intro H1 H2 hp hp2 h2 g1 g2 d1 d2 t1 t2 os1 os2 a I1 hsz kk un hok ho hbare I2 ⟨d, fs, ea, ed, hd1, q2⟩
  exact mk_end (raises_own T.exC T.tyC) I1 hsz kk un hok ho hbare ea ed hd1 q2
end
end Mi

/-! MiV: exceptions as values. -/
namespace Mi
open PySem PySem.Spec PyProof.Rows L2

/-- what an own exception class must say, so that its instances are asked rightly -/
structure ExA (K : PySem.W.Frag) (C : Addr) : Prop where
  ga : PySem.W.findIn K (.ref C) "__getattribute__" = some (some (.builtin "BaseException.__getattribute__"))
  gg : PySem.W.findIn K (.ref C) "__getattr__" = some none
  exC : PySem.W.subIn K (.ref C) (.type "BaseException") = some true
  hd : PySem.W.hasDictIn K C = true
  ha : PySem.W.findIn K (.ref C) "__class__" = some (some (.builtin "object.__class__"))
  hn : PySem.W.specialIn K (.builtin "object.__class__") "__get__" = some (some (.builtin "getset_descriptor.__get__"))
  htk : PySem.W.takesIn K (.builtin "object.__class__") = some true
  hm : PySem.W.mroIn K C (.type "object") = some true
theorem ExA.cl {K : PySem.W.Frag} {C : Addr} (h : ExA K C) : (PySem.W.clsIn K C).isSome = true := by
  obtain ⟨cd, hc, _⟩ := PySem.W.any_some h.hd
  rw [hc]
  rfl
/-- an exception stands at a -/
def XAt (H : Hp) (a C : Addr) : Prop := H a = some (ExO (.ref C) a) ∨ ∃ d fs, H a = some (exo a C (some d)) ∧ H d = some (exd d fs)
section
variable {X : Cx} {pins : List (Addr × Obj)} {σ : St} {H : Hp} {s : Shared}
theorem XAt.inst {a C : Addr} (I : Inv X pins σ H s) (h : XAt H a C) : ∃ ox od, PySem.W.InstAt s.heap a ox C od := by
  rcases h with h | ⟨d, fs, h1, h2⟩
  · obtain ⟨⟨oe, vs, e, z, dd, _⟩, _, _⟩ := I.hok a _ h
    obtain ⟨oc, od, oda, osl⟩ := oe
    obtain ⟨z1, z2⟩ := z
    dsimp only at z1 z2 dd
    subst z1 z2 dd
    exact ⟨_, none, e, rfl, rfl, trivial⟩
  · obtain ⟨t1, e⟩ := exo_at I.hok h1
    obtain ⟨mA, ⟨o, _, _, ho, _⟩, _⟩ := exd_at I.hok h2
    exact ⟨_, some o, e, rfl, rfl, ho⟩
/-- isinstance(e, c) -/
def rIsX (K : PySem.W.Frag) : List V → Hp → VK → Prop := fun xs H Q => ∃ (a C : Addr) (c : V) (u : Value) (b : Bool), xs = [.ref a, c] ∧ ClsV c u ∧ XAt H a C ∧ ExA K C ∧ PySem.W.kitOne K (.ref C) u = some b ∧ Q (.bl b) H
theorem call_isX : CallR X (.builtin "isinstance") (rIsX X.K) := by
  intro pins s σ H xs us Q I r h
  obtain ⟨a, C, c, u, b, rfl, k, hx, T, e, q⟩ := h
  obtain ⟨u1, u2, rfl, r1, r2⟩ := vals2 r
  have e2 := k.eq r2
  subst e2
  cases r1
  obtain ⟨ox, od, J⟩ := hx.inst I
  exact PySem.W.kia_one (PySem.W.kitx_exc T.cl T.ga T.gg T.exC T.ha T.hn T.htk T.hm) I.kIn J e (fun z => nomatch z) fun tk => ⟨.bl b, H, I.tok tk, rfl, q⟩
/-- e.f -/
def tXg (K : PySem.W.Frag) (f : Str) (te : TE) : TE := fun σ H Q => te σ H fun x H1 => ∃ (a C d : Addr) (fs : List (Str × V)) (v : V), x = .ref a ∧ ExA K C ∧ PySem.W.findIn K (.ref C) f = some none ∧ H1 a = some (exo a C (some d)) ∧ H1 d = some (exd d fs) ∧ fs.lookup f = some v ∧ Q v H1
theorem pe_xg {e : Expr} {te : TE} {pos : Pos} {n : Str} (he : PE X e te) (hb : attributeBase e n X.env (eval e X.env) = eval e X.env := by rfl) : PE X (.Attribute e n pos) (tXg X.K n te) := by
  refine ⟨fun pins s σ H Q I h => ?_⟩
  refine attr_of hb (thn (he.run pins s σ H _ I h) fun u s1 hh => ?_)
  obtain ⟨x, H1, I1, rx, a, C, d, fs, v, ex, T, hno, h1, h2, l, q⟩ := hh
  subst ex
  obtain rfl : u = Value.ref a := rx
  obtain ⟨t1, ha⟩ := exo_at I1.hok h1
  obtain ⟨mA, hns, hr⟩ := exd_at I1.hok h2
  obtain ⟨od, ho, hl⟩ := lookIn_ns hns
  obtain ⟨u, hu, ru⟩ := RelO.some_of (v := v) (o := mA n) (by rw [← l]; exact hr n)
  have J : PySem.W.InstAt s1.heap a _ C (some od) := ⟨ha, rfl, rfl, ho⟩
  exact HandSPX.exc_get I1.kIn J T.ga T.gg T.exC (PySem.W.findObj_own T.hd hno rfl (by rw [hl, hu])) (handed_of ru) ⟨v, H1, I1.tok _, ru, q⟩
end

/-! ### the rules -/
/-- X(e), without own __init__ -/
def mExc (c : Str) (fa : E (List D)) : E D := fun en S => (fa en S).bind fun l S1 => match l with
  | [_] => .ok (.exc c [] []) S1
  | _ => .bad
/-- X(e), its own __init__ keeps e as f -/
def mExcF (c f : Str) (fa : E (List D)) : E D := fun en S => (fa en S).bind fun l S1 => match l with
  | [d] => .ok (.exc c [f] [d]) S1
  | _ => .bad
def mIsX (g : Str → Bool) (fe : E D) : E D := fun en S => (fe en S).bind fun d S1 => match d with
  | .exc c _ _ => .ok (.bl (g c)) S1
  | _ => .bad
def mXf (f : Str) (fe : E D) : E D := fun en S => (fe en S).bind fun d S1 => match d with
  | .exc _ [g] [v] => if g = f then .ok v S1 else .bad
  | _ => .bad
section
variable {cm : Cm} {X : Cx} {x : Str} {C fI : Addr} {k : Nat} {fd : FuncData} {ps : List Str} {e : Expr} {es : List Expr} {fe : E D} {p p1 pos : Pos} {B newId initId : String} {bmB : List Value} {bm' : List Value}
theorem re_exc1 (F : ExcBaseFacts B newId initId bmB) (q : PySem.W.excIn X.K C bmB newId = true) (gC : X.mg x = some (.ref C)) (kC : PySem.W.keepIn X.K (.ref C) = true) (hC : cm.exc x = some C) (hg : Gl X x)
    (he : RE cm X e fe) (hs : starEach [e] X.env = (false, eval e X.env) :: starEach [] X.env := by rfl) (hdb : (x == ("__debug__" : Str)) = false := by decide) :
    RE cm X (.Call (.Name x p) [e] [] pos) (mExc x (aCons fe aNil)) := fun W tk m S H σ en Q C' h => by
  refine wE_of (pe_exc1 F q gC kC hg pe_w hs hdb) ?_
  have h0 : PQ (Rep (ct X cm)) (ct X cm) m S H σ W ((fe en S).bind fun d S1 => .ok (.exc x [] []) S1) Q := by
    have : mExc x (aCons fe aNil) en S = (fe en S).bind fun d S1 => .ok (.exc x [] []) S1 := by
      unfold mExc aCons aNil
      cases fe en S <;> rfl
    rw [this] at h
    exact h
  refine he W tk m S H σ en _ C' (PQ.bind h0 fun d S1 y m1 H1 e1 A1 R1 r1 h1 => ?_)
  intro a ha
  refine h1 _ m1 _ (Adv.new ha) (R1.grow (grow_upd ha)) ?_
  simp only [Rep]
  exact ⟨a, C, rfl, hC, R1.free_new ha, .inl ⟨trivial, trivial, upd_same⟩⟩
theorem re_excF {f : Str} (F : XB newId initId bmB) (T : OxC X.K C bmB newId) (iC : PySem.W.findIn X.K (.ref C) "__init__" = some (some (.ref fI))) (tI : PySem.W.isFn X.K (.ref fI) = true) (hno : PySem.W.findIn X.K (.ref C) f = some none)
    (F1 : FnOk X.prog X.w X.K X.mg X.base (L2.CX X.prog X.w) k fI fd ps (spXi X.K bmB newId f)) (hr : Room (k + 1) X.A) (hb : Binds X.K fd ps []) (hC : cm.exc x = some C) (hg : Gl X x) (hm : X.mg x = some (.ref C)) (he' : RE cm X e fe)
    (hdb : (x == ("__debug__" : Str)) = false := by decide) (he : starEach [e] X.env = (false, eval e X.env) :: starEach [] X.env := by rfl) (hpl : (backTo pos (starEach [] X.env)).any (·.1) = false := by rfl) :
    RE cm X (.Call (.Name x p) [e] [] pos) (mExcF x f (aCons fe aNil)) := fun W tk m S H σ en Q C' h => by
  refine wE_of (pe_oexV F T iC tI F1 hr hb (passes_call (E := fun _ _ _ => False) tk fun _ _ _ _ z => z.elim) hg hm (pa_cons pe_w pa_nil he) hdb he hpl) ?_
  have h0 : PQ (Rep (ct X cm)) (ct X cm) m S H σ W ((fe en S).bind fun d S1 => .ok (.exc x [f] [d]) S1) Q := by
    have : mExcF x f (aCons fe aNil) en S = (fe en S).bind fun d S1 => .ok (.exc x [f] [d]) S1 := by
      unfold mExcF aCons aNil
      cases fe en S <;> rfl
    rw [this] at h
    exact h
  refine he' W tk m S H σ en _ C' (PQ.bind h0 fun d S1 y m1 H1 e1 A1 R1 r1 h1 => ?_)
  refine ⟨by show 1 ≤ 1000; decide, fun a ha => ⟨a, C, y, rfl, T, hno, upd_same, fun dx hdx hne => ⟨rfl, ?_⟩⟩⟩
  have hdx1 : H1 dx = none := by rw [upd_ne hne] at hdx; exact hdx
  have kp : ∀ b o, H1 b = some o → (upd (upd (upd H1 a (exo a C none)) dx (exd dx [(f, y)])) a (exo a C (some dx))) b = some o := fun b o q => by
    rw [upd_ne (ne_of_none q ha), upd_ne (ne_of_none q hdx1), upd_ne (ne_of_none q ha)]
    exact q
  refine h1 _ m1 _ (Adv.grow kp) (R1.grow kp) ?_
  simp only [Rep]
  refine ⟨a, C, rfl, hC, R1.free_new ha, .inr ⟨dx, [(f, y)], upd_same, ?_, R1.free_new hdx1, rfl, Reps.cons (Rep.adv (Adv.grow kp) _ _ r1) Reps.nil⟩⟩
  rw [upd_ne hne, upd_same]
theorem exc_v {m : Am} {S : So} {H : Hp} {c : Str} {ks : List Str} {l : List D} {x : V} (r : Rep (ct X cm) m S H (.exc c ks l) x) : ∃ a C, x = .ref a ∧ cm.exc c = some C ∧ XAt H a C := by
  simp only [Rep] at r
  obtain ⟨a, C, e, hc, f, h | ⟨d, fs, h1, h2, f2, h3, h4⟩⟩ := r
  · exact ⟨a, C, e, hc, .inl h.2.2⟩
  · exact ⟨a, C, e, hc, .inr ⟨d, fs, h1, h2⟩⟩
/-- isinstance of an exception: c a built-in class or an own one -/
theorem re_isX {g : Str → Bool} {cv : V} {cu : Value} (ho : ∀ c C, cm.exc c = some C → ExA X.K C ∧ PySem.W.kitOne X.K (.ref C) cu = some (g c)) (k : ClsV cv cu) (hg : Gl X "isinstance") (hm : X.mg "isinstance" = none) (hx : PE X (.Name x p1) (tC cv)) (he : RE cm X e fe)
    (hs : starEach [e, .Name x p1] X.env = (false, eval e X.env) :: starEach [.Name x p1] X.env := by rfl) (hs2 : starEach [.Name x p1] X.env = (false, eval (.Name x p1) X.env) :: starEach [] X.env := by rfl)
    (hpl : (backTo pos (starEach [.Name x p1] X.env)).any (·.1) = false := by rfl) :
    RE cm X (.Call (.Name "isinstance" p) [e, .Name x p1] [] pos) (mIsX g fe) := fun W tk m S H σ en Q C h => by
  refine wE_of (pe_callB call_isX hg hm PyProof.Rows.boot_isinstance (pa_cons pe_w (pa_cons hx pa_nil hs2) hs) (by decide) (by decide) hs hpl) ?_
  refine he W tk m S H σ en _ C (PQ.bind h fun d S1 y m1 H1 e1 A1 R1 r1 h1 => ?_)
  split at h1
  · obtain ⟨a, C2, rfl, hc, hX⟩ := exc_v r1
    obtain ⟨T, hk⟩ := ho _ _ hc
    exact ⟨a, C2, cv, cu, _, rfl, k, hX, T, hk, PQ.now h1 R1 (by simp only [Rep])⟩
  · exact h1.elim
theorem re_xf {f : Str} (ho : ∀ c C, cm.exc c = some C → ExA X.K C ∧ PySem.W.findIn X.K (.ref C) f = some none) (he : RE cm X e fe) (hb : attributeBase e f X.env (eval e X.env) = eval e X.env := by rfl) : RE cm X (.Attribute e f pos) (mXf f fe) := fun W tk m S H σ en Q C h => by
  refine wE_of (pe_xg pe_w hb) ?_
  refine he W tk m S H σ en _ C (PQ.bind h fun d S1 y m1 H1 e1 A1 R1 r1 h1 => ?_)
  split at h1
  · rename_i c g v
    split at h1
    · rename_i hgf
      subst hgf
      simp only [Rep] at r1
      obtain ⟨a, C2, e, hc, f, h | ⟨d, fs, g1, g2, f2, g3, g4⟩⟩ := r1
      · exact absurd h.1 (by simp)
      · obtain ⟨T, hno⟩ := ho _ _ hc
        cases fs with
        | nil => simp at g3
        | cons p fs =>
          obtain ⟨pf, pv⟩ := p
          cases fs with
          | cons _ _ => simp at g3
          | nil =>
            simp only [List.map_cons, List.map_nil, List.cons.injEq, and_true] at g3
            subst g3
            obtain ⟨v', e', r'⟩ := reps1 g4
            cases e'
            exact ⟨a, C2, d, _, pv, e, T, hno, g1, g2, by simp [List.lookup], PQ.now h1 R1 r'⟩
    · exact h1.elim
  · exact h1.elim
end

/-! ### in short -/
def IsXo (K : PySem.W.Frag) (mg : Str → Option Value) (cm : Cm) (x : Str) (g : Str → Bool) : Prop := ∃ C, mg x = some (.ref C) ∧ ∀ c D, cm.exc c = some D → ExA K D ∧ PySem.W.kitOne K (.ref D) (.ref C) = some (g c)
def IsXb (K : PySem.W.Frag) (cm : Cm) (T : String) (g : Str → Bool) : Prop := ∀ c D, cm.exc c = some D → ExA K D ∧ PySem.W.kitOne K (.ref D) (.type T) = some (g c)
def NoX (K : PySem.W.Frag) (cm : Cm) (f : Str) : Prop := ∀ c D, cm.exc c = some D → ExA K D ∧ PySem.W.findIn K (.ref D) f = some none
def Mk1 (K : PySem.W.Frag) (mg : Str → Option Value) (cm : Cm) (x : Str) (bmB : List Value) (newId : String) : Prop := ∃ C, cm.exc x = some C ∧ mg x = some (.ref C) ∧ PySem.W.keepIn K (.ref C) = true ∧ PySem.W.excIn K C bmB newId = true
def MkF (P : Program) (w : World) (K : PySem.W.Frag) (mg : Str → Option Value) (base : Heap) (cm : Cm) (k : Nat) (x f : Str) (bmB : List Value) (newId : String) : Prop := ∃ C fI fd ps, OxC K C bmB newId ∧ PySem.W.findIn K (.ref C) "__init__" = some (some (.ref fI)) ∧ PySem.W.isFn K (.ref fI) = true ∧
  PySem.W.findIn K (.ref C) f = some none ∧ FnOk P w K mg base (L2.CX P w) k fI fd ps (spXi K bmB newId f) ∧ Binds K fd ps [] ∧ cm.exc x = some C ∧ mg x = some (.ref C)
section
variable {cm : Cm} {X : Cx} {x : Str} {k : Nat} {e : Expr} {fe : E D} {p p1 pos : Pos} {B newId initId T : String} {bmB : List Value} {g : Str → Bool}
theorem re_isXo (h : IsXo X.K X.mg cm x g) (hg : Gl X "isinstance") (hm : X.mg "isinstance" = none) (hx : Gl X x) (he : RE cm X e fe) (hd : (x == ("__debug__" : Str)) = false := by decide)
    (hs : starEach [e, .Name x p1] X.env = (false, eval e X.env) :: starEach [.Name x p1] X.env := by rfl) (hs2 : starEach [.Name x p1] X.env = (false, eval (.Name x p1) X.env) :: starEach [] X.env := by rfl)
    (hpl : (backTo pos (starEach [.Name x p1] X.env)).any (·.1) = false := by rfl) : RE cm X (.Call (.Name "isinstance" p) [e, .Name x p1] [] pos) (mIsX g fe) := by
  obtain ⟨C, hC, h⟩ := h
  exact re_isX h (.own C) hg hm (pe_glob (v := .ref C) hx hC rfl hd) he hs hs2 hpl
theorem re_isXb (h : IsXb X.K cm T g) (hg : Gl X "isinstance") (hm : X.mg "isinstance" = none) (hx : Gl X x) (hmx : X.mg x = none) (hv : bootBuiltins x = some (.type T)) (he : RE cm X e fe) (hn : x ≠ "__name__" := by decide) (hd : (x == ("__debug__" : Str)) = false := by decide)
    (hs : starEach [e, .Name x p1] X.env = (false, eval e X.env) :: starEach [.Name x p1] X.env := by rfl) (hs2 : starEach [.Name x p1] X.env = (false, eval (.Name x p1) X.env) :: starEach [] X.env := by rfl)
    (hpl : (backTo pos (starEach [.Name x p1] X.env)).any (·.1) = false := by rfl) : RE cm X (.Call (.Name "isinstance" p) [e, .Name x p1] [] pos) (mIsX g fe) :=
  re_isX h (.ty T) hg hm (pe_bltn (v := .ty T) hx hmx hv rfl hn hd) he hs hs2 hpl
theorem re_exc1o (F : ExcBaseFacts B newId initId bmB) (h : Mk1 X.K X.mg cm x bmB newId) (hg : Gl X x) (he : RE cm X e fe) (hs : starEach [e] X.env = (false, eval e X.env) :: starEach [] X.env := by rfl) (hdb : (x == ("__debug__" : Str)) = false := by decide) :
    RE cm X (.Call (.Name x p) [e] [] pos) (mExc x (aCons fe aNil)) := by
  obtain ⟨C, h1, h2, h3, h4⟩ := h
  exact re_exc1 F h4 h2 h3 h1 hg he hs hdb
theorem re_excFo {f : Str} (F : XB newId initId bmB) (h : MkF X.prog X.w X.K X.mg X.base cm k x f bmB newId) (hr : Room (k + 1) X.A) (hg : Gl X x) (he' : RE cm X e fe)
    (hdb : (x == ("__debug__" : Str)) = false := by decide) (he : starEach [e] X.env = (false, eval e X.env) :: starEach [] X.env := by rfl) (hpl : (backTo pos (starEach [] X.env)).any (·.1) = false := by rfl) :
    RE cm X (.Call (.Name x p) [e] [] pos) (mExcF x f (aCons fe aNil)) := by
  obtain ⟨C, fI, fd, ps, T, h1, h2, h3, h4, h5, h6, h7⟩ := h
  exact re_excF F T h1 h2 h3 h4 hr h5 h6 hg h7 he' hdb he hpl
end
theorem u1 {A : Around} {k : Nat} (hr : Room k A) : A.units + 1 < cLine := by have := hr.un; omega
theorem u64 {A : Around} {k : Nat} (hr : Room k A) : A.units + 64 < cLine := hr.units
theorem u65 {A : Around} {k : Nat} (hr : Room k A) : A.units + 65 < cLine := by have := hr.un; omega

/-- BlkOk, asked in one go -/
def blkB (N : List Str) (sc scope : Scope) (own : List (Str × Nat)) : Bool :=
  decide (scope.kind = .function) && (decide (∀ y ∈ scope.names, scope.names.lookup y.1 = some y.2) && (decide (∀ p ∈ own, N[p.2]? = some p.1) &&
    (decide (∀ y ∈ scope.names, y.2 = .free → sc.names.lookup y.1 = some .cell ∨ sc.names.lookup y.1 = some .free) && decide (∀ y ∈ scope.names, y.2 = .local ∨ y.2 = .cell → y.1 ∈ own.map (·.1) ∨ y.1 ∉ N))))
theorem blk_of {N : List Str} {sc scope : Scope} {own : List (Str × Nat)} (h : blkB N sc scope own = true) : BlkOk N sc scope own := by
  unfold blkB at h
  simp only [Bool.and_eq_true, decide_eq_true_eq] at h
  exact ⟨h.1, h.2.1, h.2.2.1, h.2.2.2.1, h.2.2.2.2⟩

/-! ### many texts -/
def strsIn : List Expr → Option (List Str)
  | [] => some []
  | .Constant (.str x) _ _ :: es => (strsIn es).map (x :: ·)
  | _ => none
def aC (l : List D) : E (List D) := fun _ S => .ok l S
theorem ra_strs {cm : Cm} {X : Cx} : ∀ {es : List Expr} {xs : List Str}, strsIn es = some xs → RA cm X es (aC (xs.map D.str))
  | [], xs, h => by
    simp only [strsIn, Option.some.injEq] at h
    subst h
    exact ra_nil
  | e :: es, xs, h => by
    unfold strsIn at h
    split at h
    · rename_i e'
      cases e'
    · rename_i x j p es' e'
      cases e'
      simp only [Option.map_eq_some_iff] at h
      obtain ⟨ys, h1, rfl⟩ := h
      exact ra_cons (f := mC (.str x)) re_str (ra_strs h1) rfl
    · cases h
end Mi

/-! MiR: raising, catching. -/
namespace Mi
open PySem PySem.Spec PyProof.Rows L2

/-- raise X("..") -/
def sRs1 (c : Str) : T := fun en S => .err ⟨c, [], []⟩ en S
/-- raise X(e), e kept as f -/
def sRsF (c f : Str) (fa : E (List D)) : T := fun en S => (fa en S).bind fun l S1 => match l with
  | [d] => .err ⟨c, [f], [d]⟩ en S1
  | _ => .bad
section
variable {cm : Cm} {X : Cx} {x : Str} {C fI : Addr} {k : Nat} {fd : FuncData} {ps : List Str} {e : Expr} {fe : E D} {p p2 pos pos' : Pos} {B newId initId : String} {bmB : List Value}
theorem rs_raise1 {t : Str} {j} (hc : X.calm = true) (F : ExcBaseFacts B newId initId bmB) (q : PySem.W.excIn X.K C bmB newId = true) (gC : X.mg x = some (.ref C)) (kC : PySem.W.keepIn X.K (.ref C) = true) (R : Raises X (.ref C)) (hC : cm.exc x = some C) (hg : Gl X x)
    (hdb : (x == ("__debug__" : Str)) = false := by decide) :
    RS cm X (.Raise (some (.Call (.Name x p) [.Constant (.str t) j p2] [] pos)) none pos') (sRs1 x) := fun W tk m S H σ en D C' h =>
  wS_of (ps_raise hc tk (pmk_own F q gC kC R hg hdb)) (h (.ref C) none m σ H Adv.refl C' ⟨C, hC, rfl, .inl ⟨rfl, rfl, rfl⟩⟩)
theorem rs_raiseF {f : Str} (hc : X.calm = true) (F : XB newId initId bmB) (T : OxC X.K C bmB newId) (iC : PySem.W.findIn X.K (.ref C) "__init__" = some (some (.ref fI))) (tI : PySem.W.isFn X.K (.ref fI) = true) (hno : PySem.W.findIn X.K (.ref C) f = some none)
    (F1 : FnOk X.prog X.w X.K X.mg X.base (L2.CX X.prog X.w) k fI fd ps (spXi X.K bmB newId f)) (hr : Room (k + 1) X.A) (hb : Binds X.K fd ps []) (hC : cm.exc x = some C) (hg : Gl X x) (hm : X.mg x = some (.ref C)) (he' : RE cm X e fe)
    (hdb : (x == ("__debug__" : Str)) = false := by decide) (he : starEach [e] X.env = (false, eval e X.env) :: starEach [] X.env := by rfl) (hpl : (backTo pos (starEach [] X.env)).any (·.1) = false := by rfl) :
    RS cm X (.Raise (some (.Call (.Name x p) [e] [] pos)) none pos') (sRsF x f (aCons fe aNil)) := fun W tk m S H σ en D C' h => by
  refine wS_of (ps_raise hc tk (pmk_oexB F T iC tI F1 hr hb (passes_call (E := fun _ _ _ => False) tk fun _ _ _ _ z => z.elim) hg hm (pa_cons pe_w pa_nil he) hdb he hpl)) ?_
  have h0 : PF (ct X cm) m S H W ((fe en S).bind fun d S1 => .err ⟨x, [f], [d]⟩ en S1) D := by
    have : sRsF x f (aCons fe aNil) en S = (fe en S).bind fun d S1 => .err ⟨x, [f], [d]⟩ en S1 := by
      unfold sRsF aCons aNil
      cases fe en S <;> rfl
    rw [this] at h
    exact h
  refine he' W tk m S H σ en _ C' (PF.bind h0 fun d S1 y m1 H1 e1 A1 R1 r1 h1 => ?_)
  refine ⟨by show 1 ≤ 1000; decide, fun a ha => ⟨a, C, y, rfl, T, hno, upd_same, fun dx hdx hne => ⟨rfl, ?_⟩⟩⟩
  have hdx1 : H1 dx = none := by rw [upd_ne hne] at hdx; exact hdx
  refine ⟨dx, [(f, y)], upd_same, by rw [upd_ne hne, upd_same], hdx1, ?_⟩
  have kp : ∀ b o, H1 b = some o → (upd (del (upd (upd (upd H1 a (exo a C none)) dx (exd dx [(f, y)])) a (exo a C (some dx))) a) dx (.xd [(f, y)])) b = some o := fun b o q => by
    have n1 := ne_of_none q ha
    have n2 := ne_of_none q hdx1
    rw [upd_ne n2, del_ne n1, upd_ne n1, upd_ne n2, upd_ne n1]
    exact q
  refine h1 _ _ m1 σ _ (Adv.grow kp) ((C'.adv A1 R1).adv (Adv.grow kp) (R1.grow kp)) ⟨C, hC, rfl, .inr ⟨dx, [(f, y)], rfl, upd_same, R1.free_new hdx1, rfl, Reps.cons (Rep.adv (Adv.grow kp) _ _ r1) Reps.nil⟩⟩
end
end Mi

/-! MiT: try with clauses of both kinds: except X: .., except X as n: .. -/
namespace Mi
open PySem PySem.Spec PyProof.Rows L2

/-- a clause: its class; the slot of its name; its suite -/
structure Cl where
  c : Value
  i : Option Nat
  ts : Addr → Value → Option Addr → TS
/-- the name is unbound behind the suite -/
def gone (i : Nat) (D : Ends) : Ends := ⟨fun σ H => D.nx (σ.set i none) H, D.rt, fun σ H => D.bk (σ.set i none) H, fun σ H => D.ct (σ.set i none) H⟩
def Cl.go (l : Cl) (a : Addr) (cls : Value) (d : Option Addr) (D : Ends) (σ : St) (H : Hp) : Prop := match l.i with
  | none => l.ts a cls d D σ H
  | some i => l.ts a cls d (gone i D) (σ.set i (some (.ref a))) H
def wMix (K : PySem.W.Frag) (Wo : WX) (D : Ends) : List Cl → WX
  | [] => Wo
  | l :: r => fun cls d σ H => ∃ b, PySem.W.exmOne K cls l.c = some b ∧ (b = true → ∀ a, H a = none → l.go a cls d D σ H) ∧ (b = false → wMix K Wo D r cls d σ H)
def SuiteOk (X : Cx) (st : List Stmt) (ts : Addr → Value → Option Addr → TS) : Prop := ∀ (a : Addr) (oe : Obj) (cls : Value) (d : Option Addr) (pn : List (Addr × Obj)), Zc cls d oe → (∃ vs, oe.data = .fields vs) → PSs (X.suite a ((a, oe) :: pn)) st (ts a cls d)
inductive ClsOk (X : Cx) : List ExceptHandler → List Cl → Prop
  | nil : ClsOk X [] []
  | plain {x : Str} {c : Value} {ts : Addr → Value → Option Addr → TS} {b : Stmt} {st : List Stmt} {p p' : Pos} {hs : List ExceptHandler} {l : List Cl} (hc : Names X x c) (su : SuiteOk X (b :: st) ts) (r : ClsOk X hs l) :
      ClsOk X (.ExceptHandler (some (.Name x p)) none (b :: st) p' :: hs) (⟨c, none, ts⟩ :: l)
  | named {x n : Str} {i : Nat} {c : Value} {ts : Addr → Value → Option Addr → TS} {b : Stmt} {st : List Stmt} {p p' : Pos} {hs : List ExceptHandler} {l : List Cl} (nd : X.N.Nodup) (hi : X.N[i]? = some n) (hl : X.env.kindOf n = some .local) (hc : Names X x c) (su : SuiteOk X (b :: st) ts) (r : ClsOk X hs l) :
      ClsOk X (.ExceptHandler (some (.Name x p)) (some n) (b :: st) p' :: hs) (⟨c, some i, ts⟩ :: l)
section
variable {X : Cx} {body : List Stmt} {h0 : ExceptHandler} {hs : List ExceptHandler} {l : List Cl} {pos : Pos} {tb : WX → TS} {Wo : WX}
theorem ps_try_mix (hst : X.stack = X.env :: X.outer) (hf : X.env.frame = some X.env.locals) (tk : Takes X Wo)
    (hb : ∀ (W : WX) (pn : List (Addr × Obj)) (xe : Value → Shared → Prop), Takes (X.tr pn xe) W → PassesOwn (model X.prog X.w) X.A X.env xe → PSs (X.tr pn xe) body (tb W))
    (hh : ClsOk X (h0 :: hs) l) : PS X (.Try body (h0 :: hs) [] [] pos) (fun D σ H => tb (wMix X.K Wo D l) D σ H) := by
  refine ⟨fun pins s σ H D I h => ?_⟩
  have ok := I.ok
  have fr0 : X.A.frames = some (X.env :: X.outer) := ok.frames.trans (by rw [hst])
  refine wpAny_Try_except (wpAny_mono ((hb (wMix X.K Wo D l) (X.pn ++ pins) (fun e s₁ => wpAny (model X.prog X.w) X.A (noteFrame e X.env) (fun _ s₂ => wpAny (model X.prog X.w) X.A (setFlight e none) (fun _ s₃ =>
    wpAny (model X.prog X.w) X.A (handleBy e X.env (h0 :: hs)) (SP X pins D) X.xe s₃) X.xe s₂) X.xe s₁) (fun u s' xx => ?_) PassesOwn.looking).run [] s σ H D (I.toTry _) h) (fun f s1 hsp => ?_) (fun e s1 he => he))
  · obtain ⟨a, B, sI, pins', σ', H', cls, d, rfl, J', nb, up, sky, na, os, ag, w⟩ := xx
    have J : Inv X pins σ' H' sI := J'.ofTry ok
    show wpAny (model X.prog X.w) X.A (noteFrame (.ref a) X.env) _ _ _
    refine Sky.land Zc.steady fr0 hf (by rw [← hst]; exact sky) fun h3 fl3 up3 => ?_
    have J3 : Inv X pins σ' H' { s' with heap := h3 } := J.landed nb fl3.1 (up.trans up3) os ag
    obtain ⟨oe3, vs3, he3, hz3, hd3⟩ := fl3.there
    have nfr : a ∉ frs (X.env :: X.outer) := fun hm => by
      obtain ⟨_, o', e', hnf⟩ := fl3.2.2.1.mem hm
      rw [he3] at e'
      cases e'
      exact hnf _ hd3
    have nL : a ≠ X.env.locals := fun z => nfr (List.mem_filterMap.mpr ⟨X.env, by simp, by rw [hf, z]⟩)
    have nF : a ∉ X.fs := fun hm => let ⟨e, he, q⟩ := List.mem_filterMap.mp hm; nfr (List.mem_filterMap.mpr ⟨e, by simp [he], q⟩)
    have S3 := J3.suite he3 hd3 na nL nF
    have LT : PySem.W.Looks (model X.prog X.w) h3 (typeOf (.ref a)) cls := fun A Q E s k q => wpAny_typeOf_ref (k _ _ he3) (by rw [hz3.1]; exact q)
    have test : ∀ {x : Str} {c : Value} {np : Pos} {Q : Value → Shared → Prop} {E : Value → Shared → Prop}, Names X x c → Q c { s' with heap := h3 } → wpAny (model X.prog X.w) (X.A.mark (some (.ref a))) (eval (.Name x np) X.env) Q E { s' with heap := h3 } := fun {x c np Q E} hc q => by
      obtain ⟨hg, hdb, hm | ⟨hm, hv, hn⟩⟩ := hc
      · exact ld_glob (X := X.suite a ((a, oe3) :: (X.pn ++ pins))) S3 hg hm q hdb
      · exact ld_blt (X := X.suite a ((a, oe3) :: (X.pn ++ pins))) S3 hg hm hv q hn hdb
    have go : ∀ {hs' : List ExceptHandler} {l' : List Cl}, ClsOk X hs' l' → wMix X.K Wo D l' cls d σ' H' → wpAny (model X.prog X.w) X.A (handleBy (.ref a) X.env hs') (SP X pins D) X.xe { s' with heap := h3 } := by
      intro hs' l' hk
      induction hk with
      | nil =>
        intro w
        refine wpAny_handleBy_nil ?_
        obtain ⟨k1, k2, k3, oe, vs, T, oT, ts', he, hz, hd, h1, hr⟩ := id fl3
        unfold PySem.passOn
        refine wpAny_bind (wpAny_field he hd h1 ?_)
        rw [if_neg (show ¬ ((Value.ref T == Value.none) = true) by simp)]
        have fin : wpAny (model X.prog X.w) X.A (setFlight (.ref a) X.env.frame) (fun _ s4 => wpAny (model X.prog X.w) X.A (throw (.ref a) : Sem Flow) (SP X pins D) X.xe s4) X.xe { s' with heap := h3 } := by
          rw [hf]
          exact HandSPX.setFlight_upZ fl3 fun h4 hh4 up4 => wpAny_throw (tk _ _ ⟨a, B, sI, pins, σ', H', cls, d, rfl, J, nb, (up.trans up3).trans up4, .inr (.inr (by rw [hst]; exact hh4)), na, os, ag, w⟩)
        first
          | exact wpAny_bind (wpAny_pure (wpAny_bind fin))
          | exact wpAny_bind fin
      | plain hc su r ih =>
        rintro ⟨b, hb1, hyes, hno⟩
        refine wpAny_handleBy_cons (codeAny_handlers_test ?_) (by intro q; cases q)
        refine test hc ((PySem.W.exm_one (M := model X.prog X.w) J3.kIn LT hb1).here ?_)
        cases b with
        | false => exact ih (hno rfl)
        | true =>
          refine codeAny_handlers_suite (HandSPX.lands_againZ fl3 fun h4 fl4 up4 => ?_)
          obtain ⟨oe4, vs4, he4, hz4, hd4⟩ := fl4.there
          have J4 : Inv X pins σ' H' { s' with heap := h4 } := J.landed nb fl4.1 ((up.trans up3).trans up4) os ag
          have S4 := J4.suite he4 hd4 na nL nF
          refine wpAny_mono ((su a oe4 cls d (X.pn ++ pins) hz4 ⟨_, hd4⟩).run [] _ _ H' D S4 (hyes rfl a na)) (fun f s6 hsp => ?_) (fun _ _ z => z.elim)
          cases f with
          | ret u => exact let ⟨_, _, _, S6, r6, q6⟩ := hsp; ⟨_, _, _, S6.unsuite ok, r6, q6⟩
          | next => exact let ⟨_, _, S6, q6⟩ := hsp; ⟨_, _, S6.unsuite ok, q6⟩
          | brk => exact let ⟨_, _, S6, q6⟩ := hsp; ⟨_, _, S6.unsuite ok, q6⟩
          | cont => exact let ⟨_, _, S6, q6⟩ := hsp; ⟨_, _, S6.unsuite ok, q6⟩
      | @named x n i c ts b0 st p p' hs2 l2 nd hi hl hc su r ih =>
        rintro ⟨b, hb1, hyes, hno⟩
        refine wpAny_handleBy_cons (codeAny_handlers_test ?_) (by intro q; cases q)
        refine test hc ((PySem.W.exm_one (M := model X.prog X.w) J3.kIn LT hb1).here ?_)
        cases b with
        | false => exact ih (hno rfl)
        | true =>
          refine codeAny_handlers_suite_as (HandSPX.lands_againZ fl3 fun h4 fl4 up4 => ?_)
          obtain ⟨oe4, vs4, he4, hz4, hd4⟩ := fl4.there
          have J4 : Inv X pins σ' H' { s' with heap := h4 } := J.landed nb fl4.1 ((up.trans up3).trans up4) os ag
          have S4 := J4.suite he4 hd4 na nL nF
          refine store_ok (X := X.suite a ((a, oe4) :: (X.pn ++ pins))) (v := .ref a) S4 nd hi (.inl hl) rfl (fun s5 S5 => ?_) (.inr hl)
          refine wpAny_mono ((su a oe4 cls d (X.pn ++ pins) hz4 ⟨_, hd4⟩).run [] s5 _ H' (gone i D) S5 (hyes rfl a na)) (fun f s6 hsp => ?_) (fun _ _ z => z.elim)
          have away : ∀ {σ6 : St} {H6 : Hp} {Q : Shared → Prop}, Inv (X.suite a ((a, oe4) :: (X.pn ++ pins))) [] σ6 H6 s6 → (∀ s7, Inv X pins (σ6.set i none) H6 s7 → Q s7) →
              wpAny (model X.prog X.w) X.A (do bindName X.env n .none; unbindBehindTheSuite X.env n p') (fun _ s7 => Q s7) X.xe s6 := fun S6 hq => gone_ok (S6.unsuite ok) nd hi hl hq
          cases f with
          | ret u => exact let ⟨_, _, _, S6, r6, q6⟩ := hsp; away S6 fun s7 J7 => ⟨_, _, _, J7, r6, q6⟩
          | next => exact let ⟨_, _, S6, q6⟩ := hsp; away S6 fun s7 J7 => ⟨_, _, J7, q6⟩
          | brk => exact let ⟨_, _, S6, q6⟩ := hsp; away S6 fun s7 J7 => ⟨_, _, J7, q6⟩
          | cont => exact let ⟨_, _, S6, q6⟩ := hsp; away S6 fun s7 J7 => ⟨_, _, J7, q6⟩
    exact go hh w
  · cases f with
    | ret u => exact let ⟨v, σ', H', J', r, q⟩ := hsp; ⟨v, σ', H', J'.ofTry ok, r, q⟩
    | next => exact let ⟨σ', H', J', q⟩ := hsp; wpAny_execs_nil ⟨σ', H', J'.ofTry ok, q⟩
    | brk => exact let ⟨σ', H', J', q⟩ := hsp; ⟨σ', H', J'.ofTry ok, q⟩
    | cont => exact let ⟨σ', H', J', q⟩ := hsp; ⟨σ', H', J'.ofTry ok, q⟩
end
end Mi

/-! MiU: try, over deep data. -/
namespace Mi
open PySem PySem.Spec PyProof.Rows L2

/-- a clause: which classes it takes, what it gives -/
structure Ch where
  g : Str → Bool
  f : Ex → T
def noErr : R Fl → R Fl
  | .err _ _ _ => .bad
  | r => r
def sTryGo : List Ch → Ex → En → So → R Fl
  | [], x, en, S => .err x en S
  | c :: r, x, en, S => if c.g x.c = true then noErr (c.f x en S) else sTryGo r x en S
def sTry (b : T) (cs : List Ch) : T := fun en S => match b en S with
  | .err x en' S' => sTryGo cs x en' S'
  | r => r
def noW : WX := fun _ _ _ _ => False
/-- what a clause of the walk is over deep data -/
structure CJ (cm : Cm) (X : Cx) (l : Cl) (c : Ch) : Prop where
  g : ∀ n C, cm.exc n = some C → PySem.W.exmOne X.K (.ref C) l.c = some (c.g n)
  f : ∀ cls dd a D σ H m S en x, Cond (ct X cm) m S H σ en → RepX (ct X cm) m S H x cls dd → H a = none → PF (ct X cm) m S H noW (c.f x en S) D → l.go a cls dd D σ H
inductive CJs (cm : Cm) (X : Cx) : List Cl → List Ch → Prop
  | nil : CJs cm X [] []
  | cons {l : Cl} {c : Ch} {ls : List Cl} {cs : List Ch} (h : CJ cm X l c) (r : CJs cm X ls cs) : CJs cm X (l :: ls) (c :: cs)
section
variable {cm : Cm} {X : Cx} {body : List Stmt} {h0 : ExceptHandler} {hs : List ExceptHandler} {l : List Cl} {cs : List Ch} {pos : Pos} {f : T}
theorem noErr_pf {ct : Ct} {m : Am} {S : So} {H : Hp} {W : WX} {r : R Fl} {D : Ends} (h : PF ct m S H W (noErr r) D) : PF ct m S H noW r D := by
  cases r with
  | ok a S' => cases a <;> exact h
  | err x en S' => exact h.elim
  | bad => exact h
theorem mix_of {W : WX} {D : Ends} (hj : CJs cm X l cs) {m : Am} {S : So} {H : Hp} {σ : St} {en : En} {x : Ex} {cls : Value} {dd : Option Addr} (C : Cond (ct X cm) m S H σ en) (rx : RepX (ct X cm) m S H x cls dd)
    (h : PF (ct X cm) m S H W (sTryGo cs x en S) D) : wMix X.K W D l cls dd σ H := by
  induction hj with
  | nil => exact h cls dd m σ H Adv.refl C rx
  | @cons l c ls cs hc r ih =>
    obtain ⟨A, h1, h2, h3⟩ := id rx
    refine ⟨c.g x.c, by rw [h2]; exact hc.g _ _ h1, fun e a ha => ?_, fun e => ih ?_⟩
    · unfold sTryGo at h
      rw [if_pos e] at h
      exact hc.f cls dd a D σ H m S en x C rx ha (noErr_pf h)
    · unfold sTryGo at h
      rw [if_neg (by rw [e]; exact Bool.false_ne_true)] at h
      exact h
theorem rs_try (hst : X.stack = X.env :: X.outer) (hf : X.env.frame = some X.env.locals) (hb : ∀ pn xe, RSs cm (X.tr pn xe) body f) (hc : ClsOk X (h0 :: hs) l) (hj : CJs cm X l cs) : RS cm X (.Try body (h0 :: hs) [] [] pos) (sTry f cs) := fun W tk m S H σ en D C h => by
  refine wS_of (ps_try_mix (tb := fun W' D σ H => ∀ pn xe, Takes (X.tr pn xe) W' → wSs (X.tr pn xe) body D σ H) hst hf tk (fun W' pn xe tk' _ => ⟨fun pins s σ H D I q => pss_w.run pins s σ H D I (q pn xe tk')⟩) hc) ?_
  intro pn xe tk'
  refine hb pn xe (wMix X.K W D l) tk' m S H σ en D C ?_
  unfold sTry at h
  revert h
  cases f en S with
  | ok a S' => cases a <;> exact fun h => h
  | bad => exact fun h => h
  | err x en' S' => exact fun h cls dd m' σ' H' A C' rx => mix_of hj C' rx (PF.after A h)
/-- a clause without a name -/
def tsOf (X : Cx) (st : List Stmt) : Addr → Value → Option Addr → TS := fun a cls d D σ H => ∀ oe pn, Zc cls d oe → (∃ vs, oe.data = .fields vs) → wSs (X.suite a ((a, oe) :: pn)) st D σ H
theorem suite_of {st : List Stmt} : SuiteOk X st (tsOf X st) := fun a oe cls d pn hz hf => ⟨fun pins s σ H D I q => pss_w.run pins s σ H D I (q oe pn hz hf)⟩
theorem cj_plain {c : Value} {st : List Stmt} {g : Str → Bool} (hg : ∀ n C, cm.exc n = some C → PySem.W.exmOne X.K (.ref C) c = some (g n)) (hs : ∀ a pn, RSs cm (X.suite a pn) st f) : CJ cm X ⟨c, none, tsOf X st⟩ ⟨g, fun _ => f⟩ :=
  ⟨hg, fun cls dd a D σ H m S en x C rx ha h oe pn hz hf => hs a _ noW takes_none5 m S H σ en D C h⟩
end
end Mi

/-! MiH: except X as n: return ("t", n.f) -/
namespace Mi
open PySem PySem.Spec PyProof.Rows L2

def tHg (K : PySem.W.Frag) (f : Str) (a : Addr) (cls : Value) (d : Option Addr) (te : TE) : TE := fun σ H Q => te σ H fun x H1 => x = .ref a ∧ ∃ (C dd : Addr) (fs : List (Str × V)) (v : V), cls = .ref C ∧ ExA K C ∧ PySem.W.findIn K (.ref C) f = some none ∧ d = some dd ∧ H1 dd = some (.xd fs) ∧ fs.lookup f = some v ∧ Q v H1
section
variable {X : Cx} {a : Addr} {oe : Obj} {cls : Value} {d : Option Addr} {pn : List (Addr × Obj)} {e : Expr} {te : TE} {pos : Pos} {n : Str}
theorem pe_hg (hz : Zc cls d oe) (hf : ∃ vs, oe.data = .fields vs) (he : PE (X.suite a ((a, oe) :: pn)) e te) (hb : attributeBase e n X.env (eval e X.env) = eval e X.env := by rfl) :
    PE (X.suite a ((a, oe) :: pn)) (.Attribute e n pos) (tHg X.K n a cls d te) := by
  refine ⟨fun pins s σ H Q I h => attr_of hb (thn (he.run pins s σ H _ I h) fun u s1 hh => ?_)⟩
  obtain ⟨x, H1, I1, rx, ex, C, dd, fs, v, ec, T, hno, ed, ea, l, q⟩ := hh
  subst ex ec ed
  obtain rfl : u = Value.ref a := rx
  obtain ⟨ha, _⟩ := I1.pin (a, oe) (List.mem_append_left _ List.mem_cons_self)
  obtain ⟨vs, hd⟩ := hf
  obtain ⟨mA, hns, hr⟩ : ObjOk X.prog X.w H1 s1.heap dd (.xd fs) := I1.hok dd _ ea
  obtain ⟨od, ho, hl⟩ := lookIn_ns hns
  obtain ⟨u, hu, ru⟩ := RelO.some_of (v := v) (o := mA n) (by rw [← l]; exact hr n)
  have J : PySem.W.InstAt s1.heap a oe C (some od) := ⟨ha, hz.1, by unfold PySem.W.notCls; rw [hd] <;> rfl, by rw [hz.2]; exact ho⟩
  exact HandSPX.exc_get I1.kIn J T.ga T.gg T.exC (PySem.W.findObj_own T.hd hno rfl (by rw [hl, hu])) (handed_of ru) ⟨v, H1, I1.tok _, ru, q⟩
end
def sHret (i : Nat) (t f : Str) : Ex → T := fun x en S => match x.ks, x.l with
  | [g], [v] => if g = f ∧ i < en.length then .ok (.rt (.tup [.str t, v])) S else .bad
  | _, _ => .bad
section
variable {cm : Cm} {X : Cx} {i j k : Nat} {t n f : Str} {c : Value} {g : Str → Bool} {p1 p2 p3 p4 p5 : Pos}
theorem cj_ret (hg : ∀ n C, cm.exc n = some C → PySem.W.exmOne X.K (.ref C) c = some (g n)) (hA : ∀ n C, cm.exc n = some C → ExA X.K C) (hno : ∀ n C, cm.exc n = some C → PySem.W.findIn X.K (.ref C) f = some none)
    (hi : X.N[i]? = some n) (hl : X.env.kindOf n = some .local) (hd : (n == ("__debug__" : Str)) = false := by decide) (hcd : (n == ("__classdict__" : Str)) = false := by decide)
    (hb : attributeBase (.Name n p2) f X.env (eval (.Name n p2) X.env) = eval (.Name n p2) X.env := by rfl)
    (hs : ∀ a pn, starEach [.Constant (.str t) j p1, .Attribute (.Name n p2) f p3] (X.suite a pn).env = (false, eval (.Constant (.str t) j p1) (X.suite a pn).env) :: starEach [.Attribute (.Name n p2) f p3] (X.suite a pn).env := by intros; rfl)
    (hs2 : ∀ a pn, starEach [.Attribute (.Name n p2) f p3] (X.suite a pn).env = (false, eval (.Attribute (.Name n p2) f p3) (X.suite a pn).env) :: starEach [] (X.suite a pn).env := by intros; rfl) :
    CJ cm X ⟨c, some i, tsOf X [.Return (some (.Tuple [.Constant (.str t) j p1, .Attribute (.Name n p2) f p3] k p4)) p5]⟩ ⟨g, sHret i t f⟩ := by
  refine ⟨hg, fun cls dd a D σ H m S en x C rx ha h oe pn hz hf => ?_⟩
  obtain ⟨C1, h1, h2, h3⟩ := rx
  refine wSs_of (pss_one (ps_ret (pe_tup (pa_cons pe_str (pa_cons (pe_hg hz hf (pe_var (X := X.suite a ((a, oe) :: pn)) (i := i) hi (.inl hl) hd hcd) hb) pa_nil (hs2 _ _)) (hs _ _))))) ?_
  replace h : PF (ct X cm) m S H noW (sHret i t f x en S) D := h
  rcases h3 with ⟨e1, e2, e3⟩ | ⟨d1, fs, e1, e2, e3, e4, e5⟩
  · unfold sHret at h
    rw [e2] at h
    exact h.elim
  unfold sHret at h
  split at h
  · rename_i g1 v1 q1 q2
    split at h
    · rename_i eg
      obtain ⟨eg, hlen⟩ := eg
      rw [C.len] at hlen
      subst eg
      rw [q1] at e4
      rw [q2] at e5
      obtain ⟨y, r, ey, ry, er⟩ := e5
      match fs, e4, ey, er with
      | [(kk, z)], e4, ey, er =>
        simp only [List.map_cons, List.map_nil, List.cons.injEq, and_true] at e4
        subst e4
        simp only [List.map_cons, List.map_nil, List.cons.injEq] at ey
        obtain ⟨ey, _⟩ := ey
        subst ey
        refine ⟨.ref a, by simp [List.getElem?_set, hlen], rfl, C1, d1, [(kk, z)], z, h2, hA _ _ h1, hno _ _ h1, e1, e2, by simp [List.lookup], ?_⟩
        refine ⟨by show 2 ≤ sizeLine; rw [sizeLine_eq]; decide, fun p hp => ?_⟩
        have kp := grow_upd (o := HO.tup [V.str t, z]) hp
        refine h (.ref p) m _ (Adv.grow kp) (C.rel.grow kp) ?_
        simp only [Rep]
        exact ⟨p, [V.str t, z], rfl, .inl (.inl upd_same), Reps.cons (by simp only [Rep]) (Reps.cons (Rep.adv (Adv.grow kp) _ _ ry) Reps.nil)⟩
    · exact h.elim
  · exact h.elim
end
end Mi

/-! MiO: an own class's operators. -/
namespace Mi
open PySem PySem.Spec PyProof.Rows L2

section
variable {prog : Program} {w : World} {A : Around} {E : Value → Shared → Prop} {s : Shared} {K : PySem.W.Frag} {x C L f : Addr} {h₀ : Heap} {m : Str → Option Value} {ox : Obj} {od : Option Obj} {T : String}
/-- x ∘ b, b of a built-in type -/
theorem own_binT {op : Operator} {b : Value} {fo ro rc : Option Value} {Q : Value → Shared → Prop} (X : K.In s.heap) (I : PySem.W.InstAt s.heap x ox C od) (L2 : PySem.W.Looks (model prog w) s.heap (typeOf b) (.type T)) (hc : PySem.W.selfFirst K C = true)
    (hs : PySem.W.findIn K (.ref C) (PySem.dunder op.info.2) = some (some (.ref f))) (hf : PySem.W.isFn K (.ref f) = true) (hr : PySem.W.findIn K (.ref C) (dunderR op.info.2) = some rc) (hp : rc = none ∨ ∃ g : Addr, rc = some (.ref g))
    (h1 : PySem.W.findIn K (.type T) (PySem.dunder op.info.2) = some fo) (h2 : PySem.W.findIn K (.type T) (dunderR op.info.2) = some ro) (hsub : PySem.W.subIn K (.type T) (.ref C) = some false)
    (h : wpAny (model prog w) A (call (.ref f) [.ref x, b]) (PySem.W.CmpBack Q) E s) : wpAny (model prog w) A (binaryOp op (.ref x) b) Q E s := by
  obtain ⟨cd, rest, hcd, hm⟩ := PySem.W.ksp_first hc
  rcases hi : op.info with ⟨sym, nm'⟩
  rw [hi] at hs hr h1 h2
  dsimp only at hs hr h1 h2
  have one := PySem.W.ksp_try X I hs hf h
  obtain ⟨hh, g, d, tt, os⟩ := s
  have L1 : PySem.W.Looks (model prog w) hh (typeOf (.ref x)) (.ref C) := I.type
  have L3 := PySem.W.fills_K (M := model prog w) (nm := nm') X hcd hm hs
  have L4 := PySem.W.ksp_fillsT (M := model prog w) X h1 h2
  have L5 := PySem.W.looks_subIn (M := model prog w) X hsub
  have L6 := PySem.W.ksp_inPy (M := model prog w) X hs hr hp
  have L7 : PySem.W.Looks (model prog w) hh (numberSlotInPython (.type T) nm') false := PySem.W.Looks.of_pure rfl
  have L8 := PySem.W.looks_findIn (M := model prog w) X h2
  generalize ((fo.isSome && !isSeqSlot fo) || (ro.isSome && !isSeqSlot ro)) = right at L4
  have hne : (Value.ref C == Value.type T) = false := Bool.eq_false_iff.mpr fun q => by cases beq_iff_eq.mp q
  simp only [binaryOp, hi]
  refine wpAny_holding (wpAny_bind ?_)
  unfold binaryOp1
  refine wpAny_bind (L1.at (wpAny_bind (L2.at (wpAny_bind (L3.at ?_)))))
  simp only [hne, Bool.false_eq_true, if_false]
  cases right with
  | false =>
    ksp_lk
    refine wpAny_mono one (fun r s' hr' => ?_) fun _ _ e => e
    obtain ⟨v, rfl, hq⟩ := hr'
    ksp_lk
    exact hq
  | true =>
    ksp_lk
    refine wpAny_mono one (fun r s' hr' => ?_) fun _ _ e => e
    obtain ⟨v, rfl, hq⟩ := hr'
    ksp_lk
    exact hq
/-- x ∘ y, both of the class -/
theorem own_binS {op : Operator} {b : Value} {Q : Value → Shared → Prop} (X : K.In s.heap) (I : PySem.W.InstAt s.heap x ox C od) (L2 : PySem.W.Looks (model prog w) s.heap (typeOf b) (.ref C)) (hc : PySem.W.selfFirst K C = true)
    (hs : PySem.W.findIn K (.ref C) (PySem.dunder op.info.2) = some (some (.ref f))) (hf : PySem.W.isFn K (.ref f) = true)
    (h : wpAny (model prog w) A (call (.ref f) [.ref x, b]) (PySem.W.CmpBack Q) E s) : wpAny (model prog w) A (binaryOp op (.ref x) b) Q E s := by
  obtain ⟨cd, rest, hcd, hm⟩ := PySem.W.ksp_first hc
  rcases hi : op.info with ⟨sym, nm'⟩
  rw [hi] at hs
  dsimp only at hs
  have one := PySem.W.ksp_try X I hs hf h
  obtain ⟨hh, g, d, tt, os⟩ := s
  have L1 : PySem.W.Looks (model prog w) hh (typeOf (.ref x)) (.ref C) := I.type
  have L3 := PySem.W.fills_K (M := model prog w) (nm := nm') X hcd hm hs
  have heq : (Value.ref C == Value.ref C) = true := beq_self_eq_true _
  simp only [binaryOp, hi]
  refine wpAny_holding (wpAny_bind ?_)
  unfold binaryOp1
  refine wpAny_bind (L1.at (wpAny_bind (L2.at (wpAny_bind (L3.at ?_)))))
  simp only [heq, if_true]
  ksp_lk
  refine wpAny_mono one (fun r s' hr' => ?_) fun _ _ e => e
  obtain ⟨v, rfl, hq⟩ := hr'
  ksp_lk
  exact hq
end
end Mi

/-! MiM: methods of an own class, over deep data. -/
namespace Mi
open PySem PySem.Spec PyProof.Rows L2

/-- what stands for an operator's name in the class and in the built-in types -/
structure OwnOp (K : PySem.W.Frag) (C : Addr) (nm : String) : Prop where
  first : PySem.W.selfFirst K C = true
  rev : ∃ rc, PySem.W.findIn K (.ref C) (dunderR nm) = some rc ∧ (rc = none ∨ ∃ g : Addr, rc = some (.ref g))
  ty : ∀ T : Ty, ∃ fo ro, PySem.W.findIn K (.type T.name) (PySem.dunder nm) = some fo ∧ PySem.W.findIn K (.type T.name) (dunderR nm) = some ro ∧ PySem.W.subIn K (.type T.name) (.ref C) = some false
/-- a method: what it does is F -/
def MethM (P : Program) (w : World) (K : PySem.W.Frag) (mg : Str → Option Value) (base : Heap) (cm : Cm) (k : Nat) (n name : Str) (F : Fm) : Prop :=
  ∃ C f fd ps, cm.cls n = some C ∧ OwnC K C ∧ PySem.W.findIn K (.ref C) name = some (some (.ref f)) ∧ PySem.W.isFn K (.ref f) = true ∧ FnOk P w K mg base (L2.CX P w) k f fd ps (spF ⟨K, cm.cls, cm.exc⟩ ps.length F) ∧ Binds K fd ps [] ∧ (∀ ds S, ds.length ≠ ps.length → F ds S = .bad) ∧ PySem.W.keepIn K (.ref f) = true
theorem MethM.mono {P : Program} {w : World} {K : PySem.W.Frag} {mg : Str → Option Value} {base : Heap} {cm : Cm} {j k : Nat} {n x : Str} {F : Fm} (h : MethM P w K mg base cm j n x F) (l : j ≤ k) : MethM P w K mg base cm k n x F :=
  let ⟨C, f, fd, ps, a, b, c, d, e, g⟩ := h
  ⟨C, f, fd, ps, a, b, c, d, e.mono l, g⟩
/-- a ∘ b, a of class n -/
def mOwn (n : Str) (F : Fm) (fa fb : E D) : E D := fun en S => (fa en S).bind fun a S1 => (fb en S1).bind fun b S2 =>
  if isOwn a S2 = some n ∧ ((tyD b S2).isSome = true ∨ isOwn b S2 = some n) then (F [a, b] S2).at en else .bad
section
variable {cm : Cm} {X : Cx} {k : Nat} {n : Str} {F : Fm} {ea eb : Expr} {fa fb : E D} {pos : Pos} {op : Operator}
theorem ret_back {X : Cx} {pins : List (Addr × Obj)} {σ : St} {Q : VK} {u : Value} {s : Shared} (h : EP X pins σ Q u s) : PySem.W.CmpBack (EP X pins σ Q) u s := by
  obtain ⟨v, H', I, r, q⟩ := h
  cases u with
  | notImplemented =>
    cases v <;> first | exact nomatch r | (obtain ⟨_, r⟩ := r; exact nomatch r)
  | _ => exact ⟨v, H', I, r, q⟩
theorem re_own (M : MethM X.prog X.w X.K X.mg X.base cm k n (PySem.dunder op.info.2) F) (O : ∀ C, cm.cls n = some C → OwnOp X.K C op.info.2) (hr : Room k X.A) (ha : RE cm X ea fa) (hb : RE cm X eb fb) : RE cm X (.BinOp ea op eb pos) (mOwn n F fa fb) := fun W tk m S H σ en Q C h => by
  obtain ⟨C1, f, fd, ps, hc, ho, hm, hk, hF, hbd, hbad, _⟩ := M
  have O1 := O C1 hc
  refine wE_of (t := fun σ H Q => wE X ea σ H fun x H1 => wE X eb σ H1 fun y H2 => ∃ a b S2 m2, RelS (ct X cm) m2 S2 H2 ∧ Rep (ct X cm) m2 S2 H2 a x ∧ Rep (ct X cm) m2 S2 H2 b y ∧ isOwn a S2 = some n ∧ ((tyD b S2).isSome = true ∨ isOwn b S2 = some n) ∧ PD (ct X cm) m2 S2 H2 (F [a, b] S2) Q (WE W σ)) ⟨fun pins s σ H Q I h => ?_⟩ ?_
  · refine wpAny_BinOp (binT pe_w pe_w I h fun v u s2 x y H2 I2 rx ry q => ?_)
    obtain ⟨a, b, S2, m2, R2, r1, r2, o1, o2, q⟩ := q
    obtain ⟨aa, CC, dx, fs, rfl, hc2, h1⟩ := own_v R2 r1 o1
    obtain rfl : C1 = CC := by
      have := hc.symm.trans hc2
      cases this
      rfl
    obtain rfl : v = Value.ref aa := rx
    obtain ⟨mA, Om, _, _, _, _⟩ := ins_get I2.hok h1
    obtain ⟨od, J, _⟩ := Om.look
    have go : wpAny (model X.prog X.w) X.A (call (.ref f) [.ref aa, u]) (PySem.W.CmpBack (EP X pins σ Q)) X.xe s2 := by
      refine wpAny_mono (run_fnS (vs := [.ref aa, y]) (E := WE W) hF hr hbd (passAt tk σ) I2 (.cons rfl (.cons ry .nil)) ⟨?_, m2, S2, [a, b], R2, Reps.cons r1 (Reps.cons r2 Reps.nil), q⟩) (fun _ _ z => ret_back z) fun _ _ z => z
      show 2 = ps.length
      by_cases e : [a, b].length = ps.length
      · exact e
      · rw [hbad _ S2 e] at q
        exact q.elim
    rcases o2 with o2 | o2
    · obtain ⟨T, eT⟩ := Option.isSome_iff_exists.mp o2
      obtain ⟨P, kx, hp, _⟩ := kit_of I2 ry (tyD_v R2 r2 eT)
      obtain ⟨rc, hrv, hrc⟩ := O1.rev
      obtain ⟨fo, ro, t1, t2, t3⟩ := O1.ty T
      exact own_binT I2.kIn J (kx.ty _ _ I2.kIn hp) O1.first hm hk hrv hrc t1 t2 t3 go
    · obtain ⟨bb, CC, dy, gs, rfl, hc3, h3⟩ := own_v R2 r2 o2
      obtain rfl : C1 = CC := by
        have := hc.symm.trans hc3
        cases this
        rfl
      obtain rfl : u = Value.ref bb := ry
      obtain ⟨mB, Om2, _, _, _, _⟩ := ins_get I2.hok h3
      obtain ⟨od2, J2, _⟩ := Om2.look
      exact own_binS I2.kIn J J2.type O1.first hm hk go
  · refine ha W tk m S H σ en _ C (PQ.bind h fun a S1 x m1 H1 e1 A1 R1 r1 h1 => ?_)
    refine hb W tk m1 S1 H1 σ en _ (C.adv A1 R1) (PQ.bind h1 fun b S2 y m2 H2 e2 A2 R2 r2 h2 => ?_)
    split at h2
    · rename_i c
      exact ⟨a, b, S2, m2, R2, Rep.adv A2 _ _ r1, r2, c.1, c.2, h2.pd ((C.adv A1 R1).adv A2 R2)⟩
    · exact h2.elim
end
end Mi

/-! MiP: an own class's fields, properties, methods, length, items, equality. -/
namespace Mi
open PySem PySem.Spec PyProof.Rows L2

def insOf (d : D) (S : So) : Option (Str × List Str × List D) := match d with
  | .ins c ks l => some (c, ks, l)
  | .ref n => match S[n]? with
    | some (some (.ins c ks l)) => some (c, ks, l)
    | _ => none
  | _ => none
section
variable {cm : Ct} {m : Am} {S : So} {H : Hp} {d : D} {x : V}
theorem insOf_v {c : Str} {ks : List Str} {l : List D} (R : RelS cm m S H) (r : Rep cm m S H d x) (h : insOf d S = some (c, ks, l)) : ∃ a C dx fs, x = .ref a ∧ cm.cls c = some C ∧ H a = some (.ins C dx fs) ∧ fs.map (·.1) = ks ∧ Reps cm m S H l (fs.map (·.2)) := by
  cases d with
  | ins c' ks' l' =>
    simp only [insOf, Option.some.injEq, Prod.mk.injEq] at h
    obtain ⟨rfl, rfl, rfl⟩ := h
    simp only [Rep] at r
    obtain ⟨a, C, dx, fs, e, hc, h1, _, h2, h3⟩ := r
    exact ⟨a, C, dx, fs, e, hc, h1, h2, h3⟩
  | ref n =>
    simp only [insOf] at h
    simp only [Rep] at r
    split at h
    · rename_i c' ks' l' e
      cases h
      obtain ⟨C, dx, fs, hc, h1, h2, h3⟩ := R.at_ n _ e
      exact ⟨_, C, dx, fs, r.2, hc, h1, h2, h3⟩
    · cases h
  | _ => simp [insOf] at h
theorem fld_v {f : Str} {v : D} : ∀ {fs : List (Str × V)} {l : List D}, Reps cm m S H l (fs.map (·.2)) → ((fs.map (·.1)).zip l).lookup f = some v → ∃ u, fs.lookup f = some u ∧ Rep cm m S H v u
  | [], l, _, e => by simp at e
  | p :: fs, [], r, e => by simp at e
  | p :: fs, d :: l, r, e => by
    simp only [List.map_cons, Reps] at r
    obtain ⟨v', r', e', h1, h2⟩ := r
    cases e'
    obtain ⟨g, u⟩ := p
    cases q : (f == g) with
    | true =>
      simp only [List.map_cons, List.zip_cons_cons, List.lookup, q, Option.some.injEq] at e ⊢
      subst e
      exact ⟨u, rfl, h1⟩
    | false =>
      simp only [List.map_cons, List.zip_cons_cons, List.lookup, q] at e ⊢
      exact fld_v h2 e
theorem lookup_no {f : Str} : ∀ {fs : List (Str × V)}, (fs.map (·.1)).contains f = false → fs.lookup f = none
  | [], _ => rfl
  | p :: fs, e => by
    obtain ⟨g, u⟩ := p
    simp only [List.map_cons, List.contains_cons, Bool.or_eq_false_iff] at e
    simp only [List.lookup, e.1]
    exact lookup_no e.2
theorem isOwn_ins {n : Str} (h : isOwn d S = some n) : ∃ ks l, insOf d S = some (n, ks, l) := by
  cases d with
  | ins c ks l => simp only [isOwn, Option.some.injEq] at h; subst h; exact ⟨ks, l, rfl⟩
  | ref k =>
    simp only [isOwn] at h
    split at h
    · rename_i c ks l e
      cases h
      exact ⟨ks, l, by simp only [insOf, e]⟩
    · cases h
  | _ => simp [isOwn] at h
end

/-! ### e.f, e.p -/
def fldD (f : Str) (d : D) (S : So) : Option D := match insOf d S with
  | some (_, ks, l) => (ks.zip l).lookup f
  | none => none
def mFld (f : Str) (fe : E D) : E D := fun en S => (fe en S).bind fun d S1 => match fldD f d S1 with
  | some v => .ok v S1
  | none => .bad
def NoAt (K : PySem.W.Frag) (cm : Cm) (f : Str) : Prop := ∀ c C, cm.cls c = some C → Cls K C ∧ NoAttr K C f
/-- a property p that gives the field f -/
def PropM (P : Program) (w : World) (K : PySem.W.Frag) (mg : Str → Option Value) (base : Heap) (cm : Cm) (p f : Str) : Prop := ∀ c C, cm.cls c = some C → Cls K C ∧ ∃ pa g fd, PropOf K C p pa g ∧ FnOk P w K mg base (fun _ _ _ _ _ _ => False) 1 g fd ["self"] (getSp C f) ∧ Binds K fd ["self"] []
section
variable {cm : Cm} {X : Cx} {e : Expr} {fe : E D} {pos : Pos} {f p : Str}
theorem fldD_v {m : Am} {S : So} {H : Hp} {d v : D} {x : V} (R : RelS (ct X cm) m S H) (r : Rep (ct X cm) m S H d x) (h : fldD f d S = some v) : ∃ a c C dx fs u, x = .ref a ∧ cm.cls c = some C ∧ H a = some (.ins C dx fs) ∧ fs.lookup f = some u ∧ Rep (ct X cm) m S H v u := by
  unfold fldD at h
  split at h
  · rename_i c ks l e
    obtain ⟨a, C, dx, fs, ex, hc, h1, h2, h3⟩ := insOf_v R r e
    subst h2
    obtain ⟨u, h4, h5⟩ := fld_v h3 h
    exact ⟨a, c, C, dx, fs, u, ex, hc, h1, h4, h5⟩
  · cases h
theorem re_fld (ho : NoAt X.K cm f) (he : RE cm X e fe) (hb : attributeBase e f X.env (eval e X.env) = eval e X.env := by rfl) : RE cm X (.Attribute e f pos) (mFld f fe) := fun W tk m S H σ en Q C h => by
  refine wE_of (pe_fld pe_w hb) ?_
  refine he W tk m S H σ en _ C (PQ.bind h fun d S1 y m1 H1 e1 A1 R1 r1 h1 => ?_)
  split at h1
  · rename_i v ev
    obtain ⟨a, c, C2, dx, fs, u, rfl, hc, g1, g2, g3⟩ := fldD_v R1 r1 ev
    obtain ⟨k1, k2⟩ := ho c C2 hc
    exact ⟨a, C2, dx, fs, u, rfl, g1, k1, k2, g2, PQ.now h1 R1 g3⟩
  · exact h1.elim
theorem re_prop (ho : PropM X.prog X.w X.K X.mg X.base cm p f) (hr : Room 2 X.A) (he : RE cm X e fe) (hb : attributeBase e p X.env (eval e X.env) = eval e X.env := by rfl) : RE cm X (.Attribute e p pos) (mFld f fe) := fun W tk m S H σ en Q C h => by
  refine wE_of (t := fun σ H Q => wE X e σ H fun x H1 => ∃ a c C dx fs u, x = .ref a ∧ cm.cls c = some C ∧ H1 a = some (.ins C dx fs) ∧ fs.lookup f = some u ∧ Q u H1) ⟨fun pins s σ H Q I h => ?_⟩ ?_
  · refine attr_of hb (thn (pe_w.run pins s σ H _ I h) fun u s1 hh => ?_)
    obtain ⟨x, H1, I1, rx, a, c, C, dx, fs, v, ex, hc, ea, l, q⟩ := hh
    subst ex
    obtain rfl : u = Value.ref a := rx
    obtain ⟨k1, pa, g, fd, k2, k3, k4⟩ := ho c C hc
    exact getprop_ok (E := fun _ _ _ => False) I1 ea k1 k2 k3 hr k4 .nil (fun _ _ _ _ _ _ _ z => z.elim) ⟨a, dx, fs, v, rfl, ea, l, q⟩
  · refine he W tk m S H σ en _ C (PQ.bind h fun d S1 y m1 H1 e1 A1 R1 r1 h1 => ?_)
    split at h1
    · rename_i v ev
      obtain ⟨a, c, C2, dx, fs, u, rfl, hc, g1, g2, g3⟩ := fldD_v R1 r1 ev
      exact ⟨a, c, C2, dx, fs, u, rfl, hc, g1, g2, PQ.now h1 R1 g3⟩
    · exact h1.elim
end

/-! ### o.m(..) -/
def mMeth (n nm : Str) (F : Fm) (fo : E D) (fa : E (List D)) : E D := fun en S => (fo en S).bind fun a S1 => match insOf a S1 with
  | some (c, ks, _) => if c = n ∧ ks.contains nm = false then (fa en S1).bind fun ds S2 => (F (a :: ds) S2).at en else .bad
  | none => .bad
section
variable {cm : Cm} {X : Cx} {k : Nat} {n nm : Str} {F : Fm} {o e : Expr} {es : List Expr} {fo : E D} {fa : E (List D)} {pos apos : Pos}
theorem re_meth {pl : Sem Bool} (M : MethM X.prog X.w X.K X.mg X.base cm k n nm F) (hr : Room k X.A) (ho : RE cm X o fo) (ha : RA cm X (e :: es) fa)
    (hst : starEach (e :: es) X.env = (false, eval e X.env) :: starEach es X.env := by rfl) (hpl : (backTo pos (starEach es X.env)).any (·.1) = false := by rfl)
    (ht : eval (.Call (.Attribute o nm apos) (e :: es) [] pos) X.env = (do
      let ov ← eval o X.env
      standAt apos.atName
      let (f, first) ← holding [ov] (getMethod ov nm pl)
      callWith pos f first (backTo pos (starEach (e :: es) X.env)) (backToKw pos (keywordEach [] X.env))) := by rfl) :
    RE cm X (.Call (.Attribute o nm apos) (e :: es) [] pos) (mMeth n nm F fo fa) := fun W tk m S H σ en Q C h => by
  obtain ⟨C1, f, fd, ps, hc, ho1, hm, hk, hF, hbd, hbad, hkp⟩ := M
  refine wE_of (t := fun σ H Q => wE X o σ H fun x H1 => ∃ a dx fs, x = .ref a ∧ H1 a = some (.ins C1 dx fs) ∧ fs.lookup nm = none ∧ wA X (e :: es) σ H1 fun vs H2 => spF ⟨X.K, cm.cls, cm.exc⟩ ps.length F (x :: vs) H2 Q (WE W σ)) ⟨fun pins s σ H Q I h => ?_⟩ ?_
  · refine PySem.W.methodCall_KW (pl := pl) (thn (pe_w.run pins s σ H _ I h) fun u s1 hh => ?_) ht
    obtain ⟨x, H1, I1, rx, a, dx, fs, ex, ea, l, q⟩ := hh
    subst ex
    obtain rfl : u = Value.ref a := rx
    refine getmeth_ok I1 ea ho1.cl ⟨hm, hk, hkp⟩ l ?_
    refine PySem.W.callWith_K (first := [.ref a]) (h₀ := X.base) I.ok.mod.kin hkp (thn (pa_w.run pos pins s1 σ H1 _ I1 q) fun us s2 hh => ?_) hst hpl
    obtain ⟨vs, H2, I2, r, q2⟩ := hh
    exact ⟨I2.kIn, run_fnS (us := .ref a :: us) (vs := .ref a :: vs) (E := WE W) hF hr hbd (passAt tk σ) I2 (.cons rfl r) q2⟩
  · refine ho W tk m S H σ en _ C (PQ.bind h fun d S1 x m1 H1 e1 A1 R1 r1 h1 => ?_)
    split at h1
    · rename_i c ks l eI
      split at h1
      · rename_i hcn
        obtain ⟨a, C2, dx, fs, rfl, hc2, h3, hk3, h4⟩ := insOf_v R1 r1 eI
        obtain rfl : C2 = C1 := by
          rw [hcn.1] at hc2
          exact Option.some.inj (hc2.symm.trans hc)
        subst hk3
        refine ⟨a, dx, fs, rfl, h3, lookup_no hcn.2, ?_⟩
        refine ha W tk m1 S1 H1 σ en _ (C.adv A1 R1) (PQ.bind h1 fun ds S2 vs m2 H2 e2 A2 R2 r2 h2 => ?_)
        have hl : (d :: ds).length = ps.length := by
          by_cases q : (d :: ds).length = ps.length
          · exact q
          · rw [hbad _ S2 q] at h2
            exact h2.elim
        exact ⟨by rw [← hl, List.length_cons, List.length_cons, r2.length], m2, S2, d :: ds, R2, Reps.cons (Rep.adv A2 _ _ r1) r2, h2.pd ((C.adv A1 R1).adv A2 R2)⟩
      · exact h1.elim
    · exact h1.elim
theorem re_meth0 {pl : Sem Bool} (M : MethM X.prog X.w X.K X.mg X.base cm k n nm F) (hr : Room k X.A) (ho : RE cm X o fo)
    (ht : eval (.Call (.Attribute o nm apos) [] [] pos) X.env = (do
      let ov ← eval o X.env
      standAt apos.atName
      let (f, first) ← holding [ov] (getMethod ov nm pl)
      callWith pos f first (backTo pos (starEach [] X.env)) (backToKw pos (keywordEach [] X.env))) := by rfl) :
    RE cm X (.Call (.Attribute o nm apos) [] [] pos) (mMeth n nm F fo aNil) := fun W tk m S H σ en Q C h => by
  obtain ⟨C1, f, fd, ps, hc, ho1, hm, hk, hF, hbd, hbad, hkp⟩ := M
  refine wE_of (t := fun σ H Q => wE X o σ H fun x H1 => ∃ a dx fs, x = .ref a ∧ H1 a = some (.ins C1 dx fs) ∧ fs.lookup nm = none ∧ spF ⟨X.K, cm.cls, cm.exc⟩ ps.length F [x] H1 Q (WE W σ)) ⟨fun pins s σ H Q I h => ?_⟩ ?_
  · refine PySem.W.methodCall_KW (pl := pl) (thn (pe_w.run pins s σ H _ I h) fun u s1 hh => ?_) ht
    obtain ⟨x, H1, I1, rx, a, dx, fs, ex, ea, l, q⟩ := hh
    subst ex
    obtain rfl : u = Value.ref a := rx
    refine getmeth_ok I1 ea ho1.cl ⟨hm, hk, hkp⟩ l ?_
    exact PySem.W.callWith_K0 (first := [.ref a]) I1.kIn hkp (run_fnS (us := [.ref a]) (vs := [.ref a]) (E := WE W) hF hr hbd (passAt tk σ) I1 (.cons rfl .nil) q)
  · refine ho W tk m S H σ en _ C (PQ.bind h fun d S1 x m1 H1 e1 A1 R1 r1 h1 => ?_)
    split at h1
    · rename_i c ks l eI
      split at h1
      · rename_i hcn
        obtain ⟨a, C2, dx, fs, rfl, hc2, h3, hk3, h4⟩ := insOf_v R1 r1 eI
        obtain rfl : C2 = C1 := by
          rw [hcn.1] at hc2
          exact Option.some.inj (hc2.symm.trans hc)
        subst hk3
        refine ⟨a, dx, fs, rfl, h3, lookup_no hcn.2, ?_⟩
        have h2 : PQ (Rep (ct X cm)) (ct X cm) m1 S1 H1 σ W ((F [d] S1).at en) Q := h1
        have hl : [d].length = ps.length := by
          by_cases q : [d].length = ps.length
          · exact q
          · rw [hbad _ S1 q] at h2
            exact h2.elim
        exact ⟨hl, m1, S1, [d], R1, Reps.cons r1 Reps.nil, h2.pd (C.adv A1 R1)⟩
      · exact h1.elim
    · exact h1.elim
end

/-! ### the callee runs one deeper, or where it stands, and raises nothing -/
section
variable {X : Cx} {k : Nat} {f : Addr} {fd : FuncData} {ps : List Str} {sp : Sp}
theorem run_in1 {pins : List (Addr × Obj)} {σ : St} {H : Hp} {s : Shared} {Q : VK} {us : List Value} {vs : List V} {E' : Value → Shared → Prop} (F : FnOk X.prog X.w X.K X.mg X.base (L2.CX X.prog X.w) k f fd ps sp) (hr : Room (k + 1) X.A) (hb : Binds X.K fd ps [])
    (I : Inv X pins σ H s) (r : Vals vs us) (h : sp vs H Q fun _ _ _ => False) : wpAny (model X.prog X.w) X.A.in1 (call (.ref f) us) (EP X pins σ Q) E' s := by
  have hl : (us ++ []).length = ps.length := by
    rw [List.append_nil, ← r.length]
    exact F.len _ _ _ _ h
  have b := hb s us I.kIn hl
  rw [List.append_nil] at b hl
  refine wpAny_call (codeAny_mono (F.run X.A.in1 X.stack s H ⟨us, []⟩ us vs Q _ hr.in1 I.env0.in1 b r h) fun r s' hq => ?_)
  cases r with
  | error er =>
    obtain ⟨_, _, _, _, _, _, _, _, _, _, _, _, z⟩ := hq
    exact z.elim
  | ok fl =>
    cases fl with
    | ret u => exact I.after hq
    | next => exact False.elim hq
    | brk => exact False.elim hq
    | cont => exact False.elim hq
theorem run_no {pins : List (Addr × Obj)} {σ : St} {H : Hp} {s : Shared} {Q : VK} {us : List Value} {vs : List V} {E' : Value → Shared → Prop} (F : FnOk X.prog X.w X.K X.mg X.base (L2.CX X.prog X.w) k f fd ps sp) (hr : Room k X.A) (hb : Binds X.K fd ps [])
    (I : Inv X pins σ H s) (r : Vals vs us) (h : sp vs H Q fun _ _ _ => False) : wpAny (model X.prog X.w) X.A (call (.ref f) us) (EP X pins σ Q) E' s := by
  have hl : (us ++ []).length = ps.length := by
    rw [List.append_nil, ← r.length]
    exact F.len _ _ _ _ h
  have b := hb s us I.kIn hl
  rw [List.append_nil] at b hl
  refine wpAny_call (codeAny_mono (F.run X.A X.stack s H ⟨us, []⟩ us vs Q _ hr I.env0 b r h) fun r s' hq => ?_)
  cases r with
  | error er =>
    obtain ⟨_, _, _, _, _, _, _, _, _, _, _, _, z⟩ := hq
    exact z.elim
  | ok fl =>
    cases fl with
    | ret u => exact I.after hq
    | next => exact False.elim hq
    | brk => exact False.elim hq
    | cont => exact False.elim hq
end
/-- what a method gives that raises nothing -/
def oneOf (r : R D) : Option (D × So) := match r with
  | .ok d S => some (d, S)
  | _ => none
section
variable {cm : Cm} {X : Cx} {k : Nat} {n : Str} {F : Fm}
theorem pd_of {ct : Ct} {m : Am} {S : So} {H : Hp} {r : R D} {Q : VK} (h : POk (Rep ct) ct m S H (oneOf r) Q) : PD ct m S H r Q fun _ _ _ => False := by
  cases r with
  | ok d S' => exact fun v m' H' A R r => POk.at h A R r
  | err x en S' => exact (POk.no h).elim
  | bad => exact (POk.no h).elim
/-- len(x) -/
def bLenO (n : Str) (F : Fm) : OpL := fun l S => match l with
  | [d] => if isOwn d S = some n then match oneOf (F [d] S) with
      | some (.int i, S') => if 0 ≤ i ∧ i < 2 ^ 63 then some (.int i, S') else none
      | _ => none
    else none
  | _ => none
theorem cd_lenO (M : MethM X.prog X.w X.K X.mg X.base cm k n "__len__" F) (hr : Room (k + 1) X.A) : CallD cm X (.builtin "len") (bLenO n F) := fun m S H ds vs Q R r h => by
  obtain ⟨C1, f, fd, ps, hc, ho1, hm, hk, hF, hbd, hbad, hkp⟩ := M
  unfold bLenO at h
  split at h
  · rename_i d
    split at h
    · rename_i ho
      split at h
      · rename_i i S' eo
        split at h
        · rename_i hi
          obtain ⟨x, rfl, rx⟩ := reps1 r
          obtain ⟨a, C2, dx, fs, rfl, hc2, h1⟩ := own_v R rx ho
          obtain rfl : C1 = C2 := Option.some.inj (hc.symm.trans hc2)
          intro pins s σ us I rv
          obtain ⟨u, eu, rx'⟩ := vals1 rv
          subst eu
          cases rx'
          obtain ⟨mA, Om, _, _, _, _⟩ := ins_get I.hok h1
          obtain ⟨od, J, _⟩ := Om.look
          obtain ⟨mm, hFr⟩ := I.fr
          have hp : PD (ct X cm) m S H (F [d] S) (fun v H' => v = .int i ∧ Q v H') fun _ _ _ => False := by
            revert eo
            cases F [d] S with
            | ok d' S2 =>
              intro eo v m' H' A R' r'
              simp only [oneOf, Option.some.injEq, Prod.mk.injEq] at eo
              obtain ⟨e1, e2⟩ := eo
              subst e1 e2
              have := r'
              simp only [Rep] at this
              exact ⟨this, POk.at h A R' r'⟩
            | err _ _ _ => intro eo; cases eo
            | bad => intro eo; cases eo
          refine PySem.W.len_K hFr I.ok.mod.kin J hm hk (wpAny_mono (run_in1 (vs := [.ref a]) hF hr hbd I (.cons rfl .nil) ⟨?_, m, S, [d], R, Reps.cons rx Reps.nil, hp⟩) (fun v s' z => ?_) fun _ _ z => z)
          · show 1 = ps.length
            by_cases e : [d].length = ps.length
            · exact e
            · rw [hbad _ S e] at hp
              exact hp.elim
          · obtain ⟨v', H', I', rv', ev, q⟩ := z
            subst ev
            obtain ⟨t, rfl⟩ := rv'
            exact ⟨hi, .int i, _, I'.tok _, ⟨_, rfl⟩, q⟩
        · exact h.no.elim
      · exact h.no.elim
    · exact h.no.elim
  · exact h.no.elim
/-- a == b -/
def dEqO (n : Str) (F : Fm) : Op2 := fun a b S => if isOwn a S = some n ∧ isOwn b S = some n then oneOf (F [a, b] S) else none
theorem od_eqO (M : MethM X.prog X.w X.K X.mg X.base cm k n "__eq__" F) (hr : Room k X.A) : OpD cm X (compareOp .Eq) (dEqO n F) := fun m S H a b x y Q R ra rb h => by
  obtain ⟨C1, f, fd, ps, hc, ho1, hm, hk, hF, hbd, hbad, hkp⟩ := M
  unfold dEqO at h
  split at h
  · rename_i ho
    obtain ⟨aa, C2, dx, fs, rfl, hc2, h1⟩ := own_v R ra ho.1
    obtain rfl : C1 = C2 := Option.some.inj (hc.symm.trans hc2)
    obtain ⟨bb, C2, dy, gs, rfl, hc3, h3⟩ := own_v R rb ho.2
    obtain rfl : C1 = C2 := Option.some.inj (hc.symm.trans hc3)
    intro pins s σ v u I rv ru
    obtain rfl : v = Value.ref aa := rv
    obtain rfl : u = Value.ref bb := ru
    obtain ⟨mA, Om, _, _, _, _⟩ := ins_get I.hok h1
    obtain ⟨od, J, _⟩ := Om.look
    obtain ⟨mB, Om2, _, _, _, _⟩ := ins_get I.hok h3
    obtain ⟨od2, J2, _⟩ := Om2.look
    obtain ⟨mm, hFr⟩ := I.fr
    have hp := pd_of h
    show wpAny (model X.prog X.w) X.A (richCompare .Eq (.ref aa) (.ref bb)) _ _ _
    refine PySem.W.cmp_K (op := .Eq) (tb := .ref C1) hr.units0 hFr I.ok.mod.kin J J2.type (by simp [PySem.W.notFirst]) hm hk (wpAny_mono (run_no (vs := [.ref aa, .ref bb]) (Q := Q) hF hr hbd I (.cons rfl (.cons rfl .nil)) ⟨?_, m, S, [a, b], R, Reps.cons ra (Reps.cons rb Reps.nil), hp⟩) (fun v s' z => ret_back z) fun _ _ z => z)
    show 2 = ps.length
    by_cases e : [a, b].length = ps.length
    · exact e
    · rw [hbad _ S e] at hp
      exact hp.elim
  · exact h.no.elim
end
end Mi

/-! MiQ: isinstance of an own class, its items, its making. -/
namespace Mi
open PySem PySem.Spec PyProof.Rows L2

/-! ### isinstance(x, C) -/
def mIsO (n : Str) (fe : E D) : E D := fun en S => (fe en S).bind fun d S1 => match isOwn d S1 with
  | some c => .ok (.bl (decide (c = n))) S1
  | none => match tyD d S1 with
    | some _ => .ok (.bl false) S1
    | none => .bad
def IsOwn (K : PySem.W.Frag) (mg : Str → Option Value) (cm : Cm) (n : Str) : Prop := ∃ C, mg n = some (.ref C) ∧ (∀ T : Ty, PySem.W.kitOne K (.type T.name) (.ref C) = some false) ∧ ∀ c D, cm.cls c = some D → OwnC K D ∧ PySem.W.kitOne K (.ref D) (.ref C) = some (decide (c = n))
section
variable {cm : Cm} {X : Cx} {e : Expr} {fe : E D} {p p1 pos : Pos} {n : Str}
theorem re_isO (h : IsOwn X.K X.mg cm n) (hg : Gl X "isinstance") (hm : X.mg "isinstance" = none) (hx : Gl X n) (he : RE cm X e fe) (hd : (n == ("__debug__" : Str)) = false := by decide)
    (hs : starEach [e, .Name n p1] X.env = (false, eval e X.env) :: starEach [.Name n p1] X.env := by rfl) (hs2 : starEach [.Name n p1] X.env = (false, eval (.Name n p1) X.env) :: starEach [] X.env := by rfl)
    (hpl : (backTo pos (starEach [.Name n p1] X.env)).any (·.1) = false := by rfl) : RE cm X (.Call (.Name "isinstance" p) [e, .Name n p1] [] pos) (mIsO n fe) := fun W tk m S H σ en Q C h' => by
  obtain ⟨C0, hC, hT, hO⟩ := h
  refine wE_of (pe_callB call_isi hg hm PyProof.Rows.boot_isinstance (pa_cons pe_w (pa_cons (pe_glob (v := .ref C0) hx hC rfl hd) pa_nil hs2) hs) (by decide) (by decide) hs hpl) ?_
  refine he W tk m S H σ en _ C (PQ.bind h' fun d S1 x m1 H1 e1 A1 R1 r1 h1 => ?_)
  cases eo : isOwn d S1 with
  | some c =>
    rw [eo] at h1
    obtain ⟨a, C2, dx, fs, rfl, hc, h3⟩ := own_v R1 r1 eo
    obtain ⟨o, hk⟩ := hO c C2 hc
    exact ⟨_, .ref C0, _, .ref C0, _, rfl, .own C0, .base (.ins h3 o.cl o.ha o.hn o.htk o.hm), hk, PQ.now h1 R1 (by simp only [Rep])⟩
  | none =>
    rw [eo] at h1
    dsimp only at h1
    split at h1
    · rename_i t et
      exact ⟨_, .ref C0, _, .ref C0, _, rfl, .own C0, tyD_v R1 r1 et, hT t, PQ.now h1 R1 (by simp only [Rep])⟩
    · exact h1.elim
end

/-! ### x[i] -/
def dIxO (n : Str) (F : Fm) : Op2 := fun a b S => if isOwn a S = some n then oneOf (F [a, b] S) else none
section
variable {cm : Cm} {X : Cx} {k : Nat} {n : Str} {F : Fm} {ea eb : Expr} {fa fb : E D} {pos : Pos}
theorem re_ixO (M : MethM X.prog X.w X.K X.mg X.base cm k n "__getitem__" F) (hfi : ∀ C f, cm.cls n = some C → PySem.W.findIn X.K (.ref C) "__getitem__" = some (some (.ref f)) → PySem.W.fnIn X.K f = true) (hr : Room (k + 1) X.A) (ha : RE cm X ea fa) (hb : RE cm X eb fb)
    (hsl : ∀ o i, subscripted eb true o i = runValue (.builtin "lifetime.subscript" ⟨[o, i], []⟩)) : RE cm X (.Subscript ea eb pos) (m2 (dIxO n F) fa fb) := fun W tk m S H σ en Q C h => by
  obtain ⟨C1, f, fd, ps, hc, ho1, hm, hk, hF, hbd, hbad, hkp⟩ := M
  refine wE_of (t := fun σ H Q => wE X ea σ H fun x H1 => wE X eb σ H1 fun y H2 => ∃ a b S2 m2, RelS (ct X cm) m2 S2 H2 ∧ Rep (ct X cm) m2 S2 H2 a x ∧ Rep (ct X cm) m2 S2 H2 b y ∧ isOwn a S2 = some n ∧ PD (ct X cm) m2 S2 H2 (F [a, b] S2) Q fun _ _ _ => False) ⟨fun pins s σ H Q I h => ?_⟩ ?_
  · refine Subscript_ (binT pe_w pe_w I h fun v u s2 x y H2 I2 rx ry q => ?_)
    obtain ⟨a, b, S2, m2, R2, r1, r2, o1, q⟩ := q
    obtain ⟨aa, CC, dx, fs, rfl, hc2, h1⟩ := own_v R2 r1 o1
    obtain rfl : C1 = CC := Option.some.inj (hc.symm.trans hc2)
    obtain rfl : v = Value.ref aa := rx
    obtain ⟨mA, Om, _, _, _, _⟩ := ins_get I2.hok h1
    obtain ⟨od, J, _⟩ := Om.look
    obtain ⟨mm, hFr⟩ := I2.fr
    refine PySem.W.sub_K hFr I2.ok.mod.kin J hm (hfi C1 f hc hm) hk (run_in1 (vs := [.ref aa, y]) hF hr hbd I2 (.cons rfl (.cons ry .nil)) ⟨?_, m2, S2, [a, b], R2, Reps.cons r1 (Reps.cons r2 Reps.nil), q⟩) (hsl _ _)
    show 2 = ps.length
    by_cases e : [a, b].length = ps.length
    · exact e
    · rw [hbad _ S2 e] at q
      exact q.elim
  · refine ha W tk m S H σ en _ C (PQ.bind h fun a S1 x m1 H1 e1 A1 R1 r1 h1 => ?_)
    refine hb W tk m1 S1 H1 σ en _ (C.adv A1 R1) (PQ.bind h1 fun b S2 y m2 H2 e2 A2 R2 r2 h2 => ?_)
    have h3 := h2.pok
    unfold dIxO at h3
    split at h3
    · rename_i c
      exact ⟨a, b, S2, m2, R2, Rep.adv A2 _ _ r1, r2, c, pd_of h3⟩
    · exact h3.no.elim
end

/-! ### self.f = e, in __init__ -/
def sFput (f : Str) (fv fo : E D) : T := fun en S => (fv en S).bind fun v S1 => (fo en S1).bind fun o S2 => match o with
  | .ref n => match S2[n]? with
    | some (some (.ins c ks l)) => if ks.contains f = false ∧ ks.length < 1000 then .ok (.nx en) (S2.set n (some (.ins c (ks ++ [f]) (l ++ [v])))) else .bad
    | _ => .bad
  | _ => .bad
theorem putF_new {f : Str} {v : V} : ∀ {fs : List (Str × V)}, (fs.map (·.1)).contains f = false → putF f v fs = fs ++ [(f, v)]
  | [], _ => rfl
  | p :: fs, e => by
    obtain ⟨g, u⟩ := p
    simp only [List.map_cons, List.contains_cons, Bool.or_eq_false_iff] at e
    have ne : g ≠ f := fun z => by
      have := e.1
      rw [z] at this
      simp at this
    unfold putF
    rw [if_neg ne, putF_new e.2]
    rfl
section
variable {cm : Cm} {X : Cx} {o value : Expr} {fo fv : E D} {f : Str} {pos pos' : Pos}
theorem rs_fput (hn : NoAt X.K cm f) (hv : RE cm X value fv) (ho : RE cm X o fo) (hs : swapsWith value (some (.Attribute o f pos')) pos.line X.env = pure false := by rfl) : RS cm X (.Assign [.Attribute o f pos'] value pos) (sFput f fv fo) := fun W tk m S H σ en D C h => by
  refine wS_of (ps_fld pe_w pe_w hs) (hv W tk m S H σ en _ C (PF.bind h fun d S1 y m1 H1 e1 A1 R1 r1 k1 => ?_))
  refine ho W tk m1 S1 H1 σ en _ (C.adv A1 R1) (PF.bind k1 fun d2 S2 x m2 H2 e2 A2 R2 r2 k2 => ?_)
  split at k2
  · rename_i n
    split at k2
    · rename_i c ks l e
      split at k2
      · rename_i hc
        simp only [Rep] at r2
        obtain ⟨C2, dx, fs, hC, h1, h2, h3⟩ := R2.at_ n _ e
        obtain ⟨q1, q2⟩ := hn c C2 hC
        subst h2
        refine ⟨m2.p n, C2, dx, fs, r2.2, h1, q1, q2, by have := hc.2; rw [List.length_map] at this; exact this, ?_⟩
        rw [putF_new hc.1]
        obtain ⟨A, R'⟩ := cell_w (o' := .ins c (fs.map (·.1) ++ [f]) (l ++ [d])) (u := .ins C2 dx (fs ++ [(f, y)])) R2 e fun K => ⟨C2, dx, _, hC, upd_same, by simp, by
          rw [List.map_append]
          exact Reps.kp K _ _ (h3.append (Reps.cons (Rep.adv A2 _ _ r1) Reps.nil))⟩
        exact k2 _ _ _ A (((C.adv A1 R1).adv A2 R2).adv A R')
      · exact k2.elim
    · exact k2.elim
  · exact k2.elim
end

/-! ### C(e, .., k = v, ..) -/
/-- how its arguments come to __init__: n positional values, keywords named ks -/
structure MkB (K : PySem.W.Frag) (ct : Ct) (fd : FuncData) (ps : List Str) (n : Nat) (ks : List Str) (G : List D → List D → List D) : Prop where
  ex : ∃ g gV, KBn K fd ps (n + 1) ks g gV ∧ ∀ m S H ds zs vs ws, Reps ct m S H ds vs → Reps ct m S H zs ws → ds.length = n + 1 → zs.length = ks.length → Reps ct m S H (G ds zs) (gV vs ws)
/-- the class x, its __init__: F; b: one way to call it -/
def MakeM (P : Program) (w : World) (K : PySem.W.Frag) (mg : Str → Option Value) (base : Heap) (cm : Cm) (k : Nat) (x : Str) (F : Fm) (n : Nat) (ks : List Str) (G : List D → List D → List D) : Prop :=
  ∃ C f fd ps, cm.cls x = some C ∧ mg x = some (.ref C) ∧ Mk K C f ∧ FnOk P w K mg base (L2.CX P w) k f fd ps (spF ⟨K, cm.cls, cm.exc⟩ ps.length F) ∧ (∀ ds S, ds.length ≠ ps.length → F ds S = .bad) ∧ MkB K ⟨K, cm.cls, cm.exc⟩ fd ps n ks G
theorem MakeM.mono {P : Program} {w : World} {K : PySem.W.Frag} {mg : Str → Option Value} {base : Heap} {cm : Cm} {j k : Nat} {x : Str} {F : Fm} {n : Nat} {ks : List Str} {G : List D → List D → List D} (h : MakeM P w K mg base cm j x F n ks G) (l : j ≤ k) : MakeM P w K mg base cm k x F n ks G :=
  let ⟨C, f, fd, ps, a, b, c, d, e⟩ := h
  ⟨C, f, fd, ps, a, b, c, d.mono l, e⟩
def madeM (n : Nat) (en : En) : R D → R D
  | .ok .non S' => .ok (frz (.ref n) S').1 (frz (.ref n) S').2
  | .err x _ S' => .err x en S'
  | _ => .bad
def mMake (x : Str) (F : Fm) (G : List D → List D → List D) (k kk : Nat) (fa fk : E (List D)) : E D := fun en S => (fa en S).bind fun ds S1 => (fk en S1).bind fun zs S2 =>
  if ds.length = k ∧ zs.length = kk then madeM S2.length en (F (G (.ref S2.length :: ds) zs) (S2 ++ [some (.ins x [] [])])) else .bad
def wK (X : Cx) (kws : List Keyword) : TA := fun σ H Q => ∀ pos pins s, Inv X pins σ H s → wpAny (model X.prog X.w) X.A (evalAll ((backToKw pos (keywordEach kws X.env)).map (·.2))) (AP X pins σ Q) X.xe s
theorem pk_w {X : Cx} {kws : List Keyword} : PK X kws (wK X kws) := ⟨fun pos pins s _ _ _ I h => h pos pins s I⟩
theorem wK_of {X : Cx} {kws : List Keyword} {t : TA} {σ : St} {H : Hp} {Q : List V → Hp → Prop} (h : PK X kws t) (q : t σ H Q) : wK X kws σ H Q := fun pos pins s I => h.run pos pins s σ H Q I q
def RK (cm : Cm) (X : Cx) (kws : List Keyword) (f : E (List D)) : Prop := ∀ W, Takes X W → ∀ m S H σ en Q, Cond (ct X cm) m S H σ en → PQ (Reps (ct X cm)) (ct X cm) m S H σ W (f en S) Q → wK X kws σ H Q
section
variable {cm : Cm} {X : Cx} {k n : Nat} {x : Str} {F : Fm} {G : List D → List D → List D} {e : Expr} {es : List Expr} {kws : List Keyword} {ks : List Str} {f : E D} {fa fk g : E (List D)} {p pos kpos : Pos} {nm : Option Str}
theorem rk_nil : RK cm X [] aNil := fun W tk m S H σ en Q C h => wK_of pk_nil (h.now C.rel Reps.nil)
theorem rk_cons (h1 : RE cm X e f) (h2 : RK cm X kws g) : RK cm X (⟨nm, e, kpos⟩ :: kws) (aCons f g) := fun W tk m S H σ en Q C h => by
  refine wK_of (pk_cons pe_w pk_w) ?_
  refine h1 W tk m S H σ en _ C (PQ.bind h fun d S1 x m1 H1 e1 A1 R1 r1 k1 => ?_)
  refine h2 W tk m1 S1 H1 σ en _ (C.adv A1 R1) (PQ.bind k1 fun l S2 xs m2 H2 e2 A2 R2 r2 k2 => ?_)
  exact PQ.now k2 R2 (Reps.cons (Rep.adv A2 _ _ r1) r2)
/-- what is asked at the class's call -/
def tMk (X : Cx) (cm : Cm) (x : Str) (F : Fm) (G : List D → List D → List D) (nk : Nat) (W : WX) (en : En) (n : Nat) (σ : St) (Q : VK) (vs zs : List V) (H : Hp) : Prop := ∃ m S ds dz, RelS (ct X cm) m S H ∧ Reps (ct X cm) m S H ds vs ∧ Reps (ct X cm) m S H dz zs ∧ Cond (ct X cm) m S H σ en ∧ ds.length = n ∧ dz.length = nk ∧
  PQ (Rep (ct X cm)) (ct X cm) m S H σ W (madeM S.length en (F (G (.ref S.length :: ds) dz) (S ++ [some (.ins x [] [])]))) Q
theorem run_mk {W : WX} (tk : Takes X W) {C f : Addr} {fd : FuncData} {ps : List Str} (hc : cm.cls x = some C) (M : Mk X.K C f) (hF : FnOk X.prog X.w X.K X.mg X.base (L2.CX X.prog X.w) k f fd ps (spF ⟨X.K, cm.cls, cm.exc⟩ ps.length F)) (hbad : ∀ ds S, ds.length ≠ ps.length → F ds S = .bad)
    (B : MkB X.K ⟨X.K, cm.cls, cm.exc⟩ fd ps n ks G) (hr : Room (k + 1) X.A) {pins : List (Addr × Obj)} {σ : St} {en : En} {H : Hp} {s : Shared} {Q : VK} {us ws : List Value} {vs zs : List V} (I : Inv X pins σ H s) (r : Vals vs us) (rz : Vals zs ws) (q : tMk X cm x F G ks.length W en n σ Q vs zs H) :
    wpAny (model X.prog X.w) X.A (call (.ref C) us (ks.zip ws)) (EP X pins σ Q) X.xe s := by
  obtain ⟨g, gV, hb, hG⟩ := B.ex
  obtain ⟨m, S, ds, dz, R, rd, rdz, Cn, l1, l2, q⟩ := q
  have hx := I.hok.fresh (Nat.le_succ s.heap.objs.size)
  have hdx := I.hok.fresh (Nat.le_refl s.heap.objs.size)
  have I2 := Inv.made (C := C) I
  have r1 : Vals (V.ref (s.heap.objs.size + 1) :: vs) (Value.ref (s.heap.objs.size + 1) :: us) := .cons rfl r
  have r2 := hb.rel r1 rz
  have n1 : (Value.ref (s.heap.objs.size + 1) :: us).length = n + 1 := by
    rw [List.length_cons, ← r.length, ← rd.length, l1]
  have n2 : ws.length = ks.length := by rw [← rz.length, ← rdz.length, l2]
  generalize hdxe : s.heap.objs.size = dx at hx hdx I2 r1 r2 n1
  have hne : dx ≠ dx + 1 := Nat.ne_of_lt (Nat.lt_succ_self _)
  have A0 : Adv m S H m S (upd H dx (.own (dx + 1))) := Adv.new hdx
  have R0 := R.grow (grow_upd (o := .own (dx + 1)) hdx)
  have hx0 : upd H dx (.own (dx + 1)) (dx + 1) = none := by rw [upd_ne (Ne.symm hne)]; exact hx
  have A1 : Adv m S (upd H dx (.own (dx + 1))) (m.put S.length (dx + 1)) (S ++ [some (.ins x [] [])]) (upd (upd H dx (.own (dx + 1))) (dx + 1) (.ins C dx [])) := new_adv hx0
  have R1 : RelS (ct X cm) (m.put S.length (dx + 1)) (S ++ [some (.ins x [] [])]) (upd (upd H dx (.own (dx + 1))) (dx + 1) (.ins C dx [])) := new_cell R0 hx0 fun m' S' H' A e => ⟨C, dx, [], hc, e, rfl, Reps.nil⟩
  have A2 := A0.trans A1
  have rs : Reps (ct X cm) (m.put S.length (dx + 1)) (S ++ [some (.ins x [] [])]) (upd (upd H dx (.own (dx + 1))) (dx + 1) (.ins C dx [])) (G (.ref S.length :: ds) dz) (gV (V.ref (dx + 1) :: vs) zs) :=
    hG _ _ _ _ _ _ _ (Reps.cons (by simp [Rep, Am.put]) (Reps.adv A2 _ _ rd)) (Reps.adv A2 _ _ rdz) (by rw [List.length_cons, l1]) l2
  have hp : PD (ct X cm) (m.put S.length (dx + 1)) (S ++ [some (.ins x [] [])]) (upd (upd H dx (.own (dx + 1))) (dx + 1) (.ins C dx [])) (F (G (.ref S.length :: ds) dz) (S ++ [some (.ins x [] [])])) (fun v H2 => v = .non ∧ Q (.ref (dx + 1)) H2) (WE W σ) := by
    revert q
    cases F (G (.ref S.length :: ds) dz) (S ++ [some (.ins x [] [])]) with
    | bad => exact fun q => q
    | err y en' S' => exact fun q cls dd m' H' A' R' rx => q cls dd m' H' (A2.trans A') (Cn.adv (A2.trans A') R') rx
    | ok d S' =>
      cases d with
      | non =>
        intro q v m' H' A' R' r'
        simp only [Rep] at r'
        have rx : Rep (ct X cm) m' S' H' (.ref S.length) (.ref (dx + 1)) := by
          simp only [Rep]
          have hl : S.length < (S ++ [some (Ob.ins x [] [])]).length := by simp
          refine ⟨Nat.lt_of_lt_of_le hl A'.len, ?_⟩
          rw [A'.mm _ hl]
          simp [Am.put]
        obtain ⟨A3, R3, r3⟩ := frz_ok R' rx
        exact ⟨r', q (.ref (dx + 1)) m' H' ((A2.trans A').trans A3) R3 r3⟩
      | _ => exact fun q => q.elim
  have hl : (G (.ref S.length :: ds) dz).length = ps.length := by
    by_cases e : (G (.ref S.length :: ds) dz).length = ps.length
    · exact e
    · rw [hbad _ _ e] at hp
      exact hp.elim
  have hsp : spF ⟨X.K, cm.cls, cm.exc⟩ ps.length F (gV (V.ref (dx + 1) :: vs) zs) (upd (upd H dx (.own (dx + 1))) (dx + 1) (.ins C dx [])) (fun v H2 => v = .non ∧ Q (.ref (dx + 1)) H2) (WE W σ) := ⟨by rw [← rs.length]; exact hl, _, _, _, R1, rs, hp⟩
  subst hdxe
  refine wpAny_call (make_map (f := f) I.kIn M.makes M.init (beq_iff_eq.mp M.fn) (codeAny_mono (hF.run _ X.stack _ _ ⟨Value.ref (s.heap.objs.size + 1) :: us, ks.zip ws⟩ (g (Value.ref (s.heap.objs.size + 1) :: us) ws) _ _ (WE W σ) (hr.make C us (ks.zip ws))
    (I2.env0.make C us (ks.zip ws)) (hb.to _ (Value.ref (s.heap.objs.size + 1) :: us) ws I2.kIn n1 n2) r2 hsp) fun r s' hq' => ?_))
  cases r with
  | error e => exact passAt tk σ pins _ _ e s' I2 hq'
  | ok fl =>
    cases fl with
    | ret u =>
      obtain ⟨v, H', I3, rv, ev, q3⟩ := I2.after hq'
      subst ev
      exact ⟨rv, ⟨V.ref (s.heap.objs.size + 1), H', I3, rfl, q3⟩⟩
    | next => exact False.elim hq'
    | brk => exact False.elim hq'
    | cont => exact False.elim hq'
/-- C(e, .., k = v, ..) -/
theorem re_make (M : MakeM X.prog X.w X.K X.mg X.base cm k x F n ks G) (hr : Room (k + 1) X.A) (hg : Gl X x) (ha : RA cm X (e :: es) fa) (hk : RK cm X kws fk)
    (hall : (backToKw pos (keywordEach kws X.env)).all (·.1.isSome) = true := by rfl) (hks : (backToKw pos (keywordEach kws X.env)).filterMap (·.1) = ks := by rfl) (hdb : (x == ("__debug__" : Str)) = false := by decide)
    (he : starEach (e :: es) X.env = (false, eval e X.env) :: starEach es X.env := by rfl) (hpl : ((backTo pos (starEach (e :: es) X.env)).any (·.1) || (backToKw pos (keywordEach kws X.env)).any (·.1.isNone)) = false := by rfl) :
    RE cm X (.Call (.Name x p) (e :: es) kws pos) (mMake x F G n ks.length fa fk) := fun W tk m S H σ en Q C h => by
  obtain ⟨C1, f, fd, ps, hc, hm, Mk1, hF, hbad, B⟩ := M
  refine wE_of (t := fun σ H Q => wA X (e :: es) σ H fun vs H1 => wK X kws σ H1 fun zs H2 => tMk X cm x F G ks.length W en n σ Q vs zs H2) ⟨fun pins s σ H Q I h => ?_⟩ ?_
  · refine wpAny_Call_Name_kw (ld_glob I hg hm ?_ hdb)
    refine PySem.W.callWith_KW (h₀ := X.base) I.ok.mod.kin Mk1.kp hall (thn (pa_w.run pos pins s σ H _ I h) fun us s1 hh => ?_) hpl he
    obtain ⟨vs, H1, I1, r, q⟩ := hh
    refine thn (pk_w.run pos pins s1 σ H1 _ I1 q) fun ws s2 hh => ?_
    obtain ⟨zs, H2, I2, rz, q2⟩ := hh
    refine ⟨I2.kIn, ?_⟩
    rw [hks]
    exact run_mk tk hc Mk1 hF hbad B hr I2 r rz q2
  · refine ha W tk m S H σ en _ C (PQ.bind h fun ds S1 vs m1 H1 e1 A1 R1 r1 h1 => ?_)
    refine hk W tk m1 S1 H1 σ en _ (C.adv A1 R1) (PQ.bind h1 fun dz S2 zs m2 H2 e2 A2 R2 r2 h2 => ?_)
    split at h2
    · rename_i hl
      exact ⟨m2, S2, ds, dz, R2, Reps.adv A2 _ _ r1, r2, (C.adv A1 R1).adv A2 R2, hl.1, hl.2, h2⟩
    · exact h2.elim
theorem re_makeK (M : MakeM X.prog X.w X.K X.mg X.base cm k x F 0 ks G) (hr : Room (k + 1) X.A) (hg : Gl X x) (hk : RK cm X kws fk)
    (hall : (backToKw pos (keywordEach kws X.env)).all (·.1.isSome) = true := by rfl) (hks : (backToKw pos (keywordEach kws X.env)).filterMap (·.1) = ks := by rfl) (hdb : (x == ("__debug__" : Str)) = false := by decide)
    (hpl : ((backTo pos (starEach [] X.env)).any (·.1) || (backToKw pos (keywordEach kws X.env)).any (·.1.isNone)) = false := by rfl) :
    RE cm X (.Call (.Name x p) [] kws pos) (mMake x F G 0 ks.length aNil fk) := fun W tk m S H σ en Q C h => by
  obtain ⟨C1, f, fd, ps, hc, hm, Mk1, hF, hbad, B⟩ := M
  refine wE_of (t := fun σ H Q => wK X kws σ H fun zs H2 => tMk X cm x F G ks.length W en 0 σ Q [] zs H2) ⟨fun pins s σ H Q I h => ?_⟩ ?_
  · refine wpAny_Call_Name_kw (ld_glob I hg hm ?_ hdb)
    refine PySem.W.callWith_KW0 (h₀ := X.base) I.ok.mod.kin Mk1.kp hall ?_ hpl
    refine thn (pk_w.run pos pins s σ H _ I h) fun ws s2 hh => ?_
    obtain ⟨zs, H2, I2, rz, q2⟩ := hh
    refine ⟨I2.kIn, ?_⟩
    rw [hks]
    exact run_mk (us := []) (vs := []) tk hc Mk1 hF hbad B hr I2 .nil rz q2
  · have h0 : PQ (Rep (ct X cm)) (ct X cm) m S H σ W ((fk en S).bind fun zs S2 => if ([] : List D).length = 0 ∧ zs.length = ks.length then madeM S2.length en (F (G (.ref S2.length :: []) zs) (S2 ++ [some (.ins x [] [])])) else .bad) Q := h
    refine hk W tk m S H σ en _ C (PQ.bind h0 fun dz S2 zs m2 H2 e2 A2 R2 r2 h2 => ?_)
    split at h2
    · rename_i hl
      exact ⟨m2, S2, [], dz, R2, Reps.nil, r2, C.adv A2 R2, rfl, hl.2, h2⟩
    · exact h2.elim
/-- C() -/
theorem re_make0 (M : MakeM X.prog X.w X.K X.mg X.base cm k x F 0 [] G) (hr : Room (k + 1) X.A) (hg : Gl X x) (hdb : (x == ("__debug__" : Str)) = false := by decide) :
    RE cm X (.Call (.Name x p) [] [] pos) (mMake x F G 0 0 aNil aNil) := fun W tk m S H σ en Q C h => by
  obtain ⟨C1, f, fd, ps, hc, hm, Mk1, hF, hbad, B⟩ := M
  refine wE_of (t := fun σ H Q => tMk X cm x F G 0 W en 0 σ Q [] [] H) ⟨fun pins s σ H Q I h => ?_⟩ ?_
  · refine wpAny_Call_Name_kw (ld_glob I hg hm ?_ hdb)
    exact PySem.W.callWith_K0 I.kIn Mk1.kp (run_mk (us := []) (vs := []) (ws := []) (zs := []) tk hc Mk1 hF hbad B hr I .nil .nil h)
  · exact ⟨m, S, [], [], C.rel, Reps.nil, Reps.nil, C, rfl, rfl, h⟩
end
end Mi

/-! MiD: dicts: displays, dict(pairs), get, walked, sorted. -/
namespace Mi
open PySem PySem.Spec PyProof.Rows L2

/-! ### merging -/
def mergeKD (acc : List Key × List D) (kds : List (Key × D)) : List Key × List D := kds.foldl (fun a kd => putKD a.1 a.2 kd.1 kd.2) acc
theorem putKD_mem {k k' : Key} {v : D} : ∀ {ks : List Key} {l : List D}, k' ∈ (putKD ks l k v).1 → k' ∈ ks ∨ k' = k
  | [], l, h => by
    simp only [putKD, List.nil_append, List.mem_singleton] at h
    exact .inr h
  | q :: ks, [], h => by
    simp only [putKD, List.mem_append, List.mem_singleton] at h
    exact h
  | q :: ks, d :: l, h => by
    unfold putKD at h
    split at h
    · exact .inl h
    · rcases List.mem_cons.mp h with z | z
      · exact .inl (by rw [z]; exact List.mem_cons_self ..)
      · rcases putKD_mem z with z | z
        · exact .inl (List.mem_cons_of_mem _ z)
        · exact .inr z
theorem putKD_nodup {k : Key} {v : D} : ∀ {ks : List Key} {l : List D}, ks.length = l.length → ks.Nodup → (putKD ks l k v).1.Nodup ∧ (putKD ks l k v).1.length = (putKD ks l k v).2.length
  | [], [], _, _ => by simp [putKD]
  | q :: ks, d :: l, e, nd => by
    simp only [List.length_cons, Nat.add_right_cancel_iff] at e
    unfold putKD
    split
    · exact ⟨nd, by simp [e]⟩
    · rename_i hq
      obtain ⟨n1, n2⟩ := List.nodup_cons.mp nd
      obtain ⟨i1, i2⟩ := putKD_nodup (k := k) (v := v) e n2
      refine ⟨List.nodup_cons.mpr ⟨fun z => ?_, i1⟩, by simp [i2]⟩
      rcases putKD_mem z with z | z
      · exact n1 z
      · exact hq z
theorem mergeKD_v {ct : Ct} {m : Am} {S : So} {H : Hp} : ∀ {kds : List (Key × D)} {kvs kvs0 : List (Key × V)} {ks : List Key} {l : List D}, kvs.map (·.1) = kds.map (·.1) → Reps ct m S H (kds.map (·.2)) (kvs.map (·.2)) → kvs0.map (·.1) = ks → Reps ct m S H l (kvs0.map (·.2)) → ks.Nodup →
    (mergeK kvs0 kvs).map (·.1) = (mergeKD (ks, l) kds).1 ∧ Reps ct m S H (mergeKD (ks, l) kds).2 ((mergeK kvs0 kvs).map (·.2))
  | [], kvs, kvs0, ks, l, e, _, e0, r0, _ => by
    have : kvs = [] := by simpa using e
    subst this
    exact ⟨e0, r0⟩
  | kd :: kds, [], _, _, _, e, _, _, _, _ => by simp at e
  | kd :: kds, kv :: kvs, kvs0, ks, l, e, r, e0, r0, nd => by
    simp only [List.map_cons, List.cons.injEq] at e
    simp only [List.map_cons, Reps] at r
    obtain ⟨v, r', ev, r1, r2⟩ := r
    cases ev
    obtain ⟨g1, g2⟩ := putKD_v r1 (k := kd.1) nd e0 r0
    have hl : ks.length = l.length := by
      rw [← e0, List.length_map, r0.length, List.length_map]
    have := mergeKD_v (kds := kds) (kvs := kvs) (kvs0 := putK kvs0 kd.1 kv.2) (ks := (putKD ks l kd.1 kd.2).1) (l := (putKD ks l kd.1 kd.2).2) e.2 r2 g1 g2 (putKD_nodup hl nd).1
    unfold mergeK mergeKD at this ⊢
    simp only [List.foldl_cons]
    rw [e.1]
    exact this

/-! ### {} -/
def mDct0 : E D := fun _ S => .ok (.dct [] []) S
def mDctN : E D := fun _ S => .ok (.ref S.length) (S ++ [some (.dct [] [])])
section
variable {cm : Cm} {X : Cx} {pos : Pos}
theorem re_dct0 : RE cm X (.Dict [] [] pos) mDct0 := fun W tk m S H σ en Q C h => by
  refine wE_of pe_dnewK fun p hp => ?_
  refine PQ.grown h C.rel (grow_upd hp) fun R => ?_
  simp only [Rep]
  exact ⟨p, [], rfl, .inl upd_same, C.rel.free_new hp, rfl, Reps.nil⟩
theorem re_dctN : RE cm X (.Dict [] [] pos) mDctN := fun W tk m S H σ en Q C h => by
  refine wE_of pe_dnewK fun p hp => ?_
  exact PQ.cell h C.rel hp fun m' S' H' A e => ⟨[], e, rfl, Reps.nil⟩
end

/-! ### {k: v, ..} -/
def mPairs : List (E D × E D) → E (List (D × D))
  | [] => fun _ S => .ok [] S
  | p :: r => fun en S => (p.1 en S).bind fun k S1 => (p.2 en S1).bind fun v S2 => (mPairs r en S2).bind fun l S3 => .ok ((k, v) :: l) S3
def keysD : List (D × D) → Option (List (Key × D))
  | [] => some []
  | p :: r => match keyOf p.1, keysD r with
    | some k, some l => some ((k, p.2) :: l)
    | _, _ => none
def mDct (prs : List (E D × E D)) : E D := fun en S => (mPairs prs en S).bind fun l S1 => match keysD l with
  | some kds => if l.length ≤ 15 then .ok (.dct (mergeKD ([], []) kds).1 (mergeKD ([], []) kds).2) S1 else .bad
  | none => .bad
def rPairs (ct : Ct) : Rp (List (D × D)) (List (V × V)) := fun m S H l ps => Reps ct m S H (l.map (·.1)) (ps.map (·.1)) ∧ Reps ct m S H (l.map (·.2)) (ps.map (·.2))
theorem keysD_v {ct : Ct} {m : Am} {S : So} {H : Hp} : ∀ {l : List (D × D)} {ps : List (V × V)} {kds : List (Key × D)}, keysD l = some kds → rPairs ct m S H l ps →
    ∃ kvs : List (Key × V), ps = kvs.map (fun kv => (kV kv.1, kv.2)) ∧ kvs.map (·.1) = kds.map (·.1) ∧ Reps ct m S H (kds.map (·.2)) (kvs.map (·.2)) ∧ kvs.length = l.length
  | [], ps, kds, e, r => by
    simp only [keysD, Option.some.injEq] at e
    subst e
    have := r.1.length
    have e0 : ps = [] := List.eq_nil_of_length_eq_zero (by simpa using this.symm)
    subst e0
    exact ⟨[], rfl, rfl, Reps.nil, rfl⟩
  | p :: l, [], _, _, r => by
    have := r.1.length
    simp at this
  | p :: l, q :: ps, kds, e, r => by
    unfold keysD at e
    split at e
    · rename_i k l' e1 e2
      simp only [Option.some.injEq] at e
      subst e
      obtain ⟨r1, r2⟩ := r
      simp only [List.map_cons, Reps] at r1 r2
      obtain ⟨v, r', ev, a1, a2⟩ := r1
      cases ev
      obtain ⟨v, r', ev, b1, b2⟩ := r2
      cases ev
      obtain ⟨kvs, g1, g2, g3, g4⟩ := keysD_v e2 ⟨a2, b2⟩
      refine ⟨(k, q.2) :: kvs, ?_, by simp [g2], Reps.cons b1 g3, by simp [g4]⟩
      rw [List.map_cons, ← g1, ← key_v a1 e1]
    · cases e
theorem hidU_adv {m m1 : Am} {S S1 : So} {H H1 : Hp} {a : Addr} {u : HO} (A : Adv m S H m1 S1 H1) (h : H a = none) : Adv m S H m1 S1 (upd H1 a u) where
  len := A.len
  mm := A.mm
  al := A.al
  fr := fun b o e f => by unfold Sm; rw [upd_ne (ne_of_none e h)]; exact A.fr b o e f
  tr := fun b e z => by
    by_cases c : b = a
    · subst c; rw [upd_same] at z; cases z
    · rw [upd_ne c] at z; exact A.tr b e z
  tp := fun b xs e => by rw [upd_ne (ne_of_none e h)]; exact A.tp b xs e
  fz := fun b o u e => by rw [upd_ne (ne_of_none e h)]; exact A.fz b o u e
  hd1 := A.hd1
  hd2 := A.hd2
  hd3 := fun b o z e => by rw [upd_ne (ne_of_none e h)]; exact A.hd3 b o z e
theorem hidU_kp {m : Am} {S : So} {H : Hp} {a : Addr} {u v : HO} (hh : m.hid a) (e : H a = some v) (n1 : ∀ zs, v ≠ .tup zs) (n2 : ∀ o w, v ≠ .frz o w) : Kp m S H m S (upd H a u) := by
  refine ⟨fun b o q f => ⟨?_, f⟩, fun b zs q => ?_, fun b o w q => ?_, Nat.le_refl _, fun _ _ => rfl⟩
  · unfold Sm; rw [upd_ne fun z => f.2 (by rw [z]; exact hh)]; exact .inl q
  · rw [upd_ne fun z => by subst z; rw [e] at q; exact n1 _ (Option.some.inj q)]; exact q
  · rw [upd_ne fun z => by subst z; rw [e] at q; exact n2 _ _ (Option.some.inj q)]; exact q
theorem hidU_rel {ct : Ct} {m : Am} {S : So} {H : Hp} {a : Addr} {u v : HO} (R : RelS ct m S H) (hh : m.hid a) (o : Off m S a) (e : H a = some v) (n1 : ∀ zs, v ≠ .tup zs) (n2 : ∀ o w, v ≠ .frz o w) : RelS ct m S (upd H a u) := by
  refine ⟨fun n w q => (R.at_ n w q).kp (hidU_kp hh e n1 n2) (upd_ne (o n w q)), R.inj, fun b z => ?_, R.hoff⟩
  by_cases c : b = a
  · subst c; rw [upd_same]; exact fun q => by cases q
  · rw [upd_ne c]; exact R.hid b z
/-- the pairs of a display -/
def RDs (cm : Cm) (X : Cx) (pos : Pos) (keys : List (Option Expr)) (values : List Expr) (prs : List (E D × E D)) : Prop := ∃ trs, PPs X pos keys values trs ∧ ∀ W, Takes X W → ∀ m S H σ en Q, Cond (ct X cm) m S H σ en → PQ (rPairs (ct X cm)) (ct X cm) m S H σ W (mPairs prs en S) Q → tPairs trs σ H Q
section
variable {cm : Cm} {X : Cx} {pos : Pos} {keys : List (Option Expr)} {values : List Expr} {prs : List (E D × E D)} {k v : Expr} {fk fv : E D}
theorem rds_nil : RDs cm X pos [] [] [] := ⟨[], pps_nil, fun W tk m S H σ en Q C h => h.now C.rel ⟨Reps.nil, Reps.nil⟩⟩
theorem rds_cons (hk : RE cm X k fk) (hv : RE cm X v fv) (hr : RDs cm X pos keys values prs) : RDs cm X pos (some k :: keys) (v :: values) ((fk, fv) :: prs) := by
  obtain ⟨trs, hp, hr⟩ := hr
  refine ⟨(wE X k, wE X v) :: trs, pps_cons pe_w pe_w hp, fun W tk m S H σ en Q C h => ?_⟩
  have h : PQ (rPairs (ct X cm)) (ct X cm) m S H σ W ((fk en S).bind fun k S1 => (fv en S1).bind fun v S2 => (mPairs prs en S2).bind fun l S3 => .ok ((k, v) :: l) S3) Q := h
  refine hk W tk m S H σ en _ C (PQ.bind h fun d1 S1 x m1 H1 e1 A1 R1 r1 h1 => ?_)
  refine hv W tk m1 S1 H1 σ en _ (C.adv A1 R1) (PQ.bind h1 fun d2 S2 y m2 H2 e2 A2 R2 r2 h2 => ?_)
  refine hr W tk m2 S2 H2 σ en _ ((C.adv A1 R1).adv A2 R2) (PQ.bind h2 fun l S3 ps m3 H3 e3 A3 R3 r3 h3 => ?_)
  exact PQ.now h3 R3 ⟨Reps.cons (Rep.adv A3 _ _ (Rep.adv A2 _ _ r1)) r3.1, Reps.cons (Rep.adv A3 _ _ r2) r3.2⟩
theorem re_dct (hd : RDs cm X pos keys values prs) (hall : keys.all (·.isSome) = true := by rfl) (hl : keys.length = values.length := by rfl) (h0 : keys ≠ [] := by exact fun z => by cases z) (h15 : keys.length ≤ 15 := by decide) : RE cm X (.Dict keys values pos) (mDct prs) := fun W tk m S H σ en Q C h => by
  obtain ⟨trs, hp, hr⟩ := hd
  refine wE_of (pe_disp hp hall hl h0 h15) ?_
  intro p hn
  have A0 : Adv m S H (m.hide p) S (upd H p (.dK [])) := hide_adv hn
  have R0 : RelS (ct X cm) (m.hide p) S (upd H p (.dK [])) := hide_rel C.rel hn
  refine hr W tk (m.hide p) S _ σ en _ (C.adv A0 R0) ?_
  unfold mDct at h
  revert h
  cases mPairs prs en S with
  | bad => exact fun h => h
  | err x en' S' => exact fun h c d m' H' A C X => h c d m' H' (A0.trans A) C X
  | ok l S1 =>
    intro h ps m1 H1 A1 R1 r1
    simp only [R.bind_ok] at h
    split at h
    · rename_i kds ek
      split at h
      · rename_i hz
        obtain ⟨kvs, g1, g2, g3, g4⟩ := keysD_v ek r1
        have hp1 : H1 p = some (.dK []) := A1.hd3 p _ (.inr rfl) upd_same
        refine ⟨hp1, kvs, g1, by rw [g4]; exact hz, ?_⟩
        have A2 : Adv m S H m1 S1 H1 := A0.trans A1
        have off : Off m1 S1 p := A1.off upd_same (C.rel.off_new hn : Off m S p)
        have hid : m1.hid p := A1.hd1 p (.inr rfl)
        have K2 := hidU_kp (S := S1) (u := .dK (mergeK [] kvs)) hid hp1 (fun _ z => by cases z) (fun _ _ z => by cases z)
        have R2 : RelS (ct X cm) m1 S1 (upd H1 p (.dK (mergeK [] kvs))) := hidU_rel R1 hid off hp1 (fun _ z => by cases z) (fun _ _ z => by cases z)
        have A3 : Adv m S H m1 S1 (upd H1 p (.dK (mergeK [] kvs))) := hidU_adv A2 hn
        obtain ⟨m1', m2'⟩ := mergeKD_v (kvs0 := []) (ks := []) (l := []) g2 (Reps.kp K2 _ _ g3) rfl Reps.nil List.nodup_nil
        refine h (.ref p) (m1.show m) _ (show_adv A3) (show_rel A3 R2) ?_
        simp only [Rep]
        exact ⟨p, _, rfl, .inl upd_same, ⟨off, fun z => C.rel.hid p z hn⟩, m1', Reps.kp (show_kp A3) _ _ m2'⟩
      · exact h.elim
    · exact h.elim
end

/-! ### dict([(k, v), ..]) -/
def pairsD : List D → Option (List (Key × D))
  | [] => some []
  | .tup [k, v] :: l => match keyOf k, pairsD l with
    | some k, some r => some ((k, v) :: r)
    | _, _ => none
  | _ => none
def bDict : OpL := fun l S => match l with
  | [d] => match lstOf d S with
    | some l => match pairsD l with
      | some kds => some (.dct (mergeKD ([], []) kds).1 (mergeKD ([], []) kds).2, S)
      | none => none
    | none => none
  | _ => none
theorem pairsD_v {ct : Ct} {m : Am} {S : So} {H : Hp} : ∀ {l : List D} {kds : List (Key × D)} {vs : List V}, pairsD l = some kds → Reps ct m S H l vs →
    ∃ (ps : List Addr) (kvs : List (Key × V)), vs = ps.map V.ref ∧ Paired (fun p kv => SqT ct.K H p [kV kv.1, kv.2]) ps kvs ∧ kvs.map (·.1) = kds.map (·.1) ∧ Reps ct m S H (kds.map (·.2)) (kvs.map (·.2))
  | [], kds, vs, e, r => by
    simp only [pairsD, Option.some.injEq] at e
    subst e
    simp only [Reps] at r
    subst r
    exact ⟨[], [], rfl, .nil, rfl, Reps.nil⟩
  | d :: l, kds, vs, e, r => by
    unfold pairsD at e
    split at e
    · rename_i e0; cases e0
    · rename_i k v l' e0
      cases e0
      split at e
      · rename_i k' r' e1 e2
        simp only [Option.some.injEq] at e
        subst e
        simp only [Reps] at r
        obtain ⟨u, vs', rfl, h1, h2⟩ := r
        simp only [Rep] at h1
        obtain ⟨a, us, rfl, h3, h4⟩ := h1
        obtain ⟨x, y, rfl, h5, h6⟩ := reps2 h4
        obtain ⟨ps, kvs, g1, g2, g3, g4⟩ := pairsD_v e2 h2
        refine ⟨a :: ps, (k', y) :: kvs, by rw [g1]; rfl, .cons (by rw [key_v h5 e1] at h3; exact h3) g2, by simp [g3], Reps.cons h6 g4⟩
      · cases e
    · cases e
theorem cd_dict {cm : Cm} {X : Cx} (hc : X.calm = true) : CallD cm X (.type "dict") bDict := fun m S H ds vs Q R r h => by
  unfold bDict at h
  split at h
  · split at h
    · rename_i l el
      split at h
      · rename_i kds ek
        obtain ⟨x, rfl, rx⟩ := reps1 r
        obtain ⟨a, ws, rfl, h1, h2⟩ := lst_at R rx el
        obtain ⟨ps, kvs, g1, g2, g3, g4⟩ := pairsD_v ek h2
        subst g1
        refine rW_of (call_dictP hc) ⟨a, ps, kvs, rfl, .inl (.inl h1), g2, fun p hp => ?_⟩
        obtain ⟨m1', m2'⟩ := mergeKD_v (kvs0 := []) (ks := []) (l := []) g3 g4 rfl Reps.nil List.nodup_nil
        refine h.at (Adv.new hp) (R.grow (grow_upd hp)) ?_
        simp only [Rep]
        exact ⟨p, _, rfl, .inl upd_same, R.free_new hp, m1', Reps.adv (Adv.new hp) _ _ m2'⟩
      · exact h.no.elim
    · exact h.no.elim
  · exact h.no.elim

/-! ### d.get(k, x) -/
def mGet (fo fi fd : E D) : E D := fun en S => (fo en S).bind fun d S1 => match dctOf d S1 with
  | some _ => (fi en S1).bind fun i S2 => (fd en S2).bind fun z S3 => match dctOf d S3, keyOf i with
    | some (ks, l), some k => .ok ((lookK ks l k).getD z) S3
    | _, _ => .bad
  | none => .bad
theorem re_get {cm : Cm} {X : Cx} {o e f : Expr} {fo fi fd : E D} {apos cpos : Pos} (hu : X.A.units + 1 < cLine) (ho : RE cm X o fo) (he : RE cm X e fi) (hf : RE cm X f fd)
    (hb : attributeBase o "get" X.env (eval o X.env) = eval o X.env := by rfl)
    (hw : ((backTo cpos (starEach [e, f] X.env)).all (fun x => !x.1) && (backToKw cpos (keywordEach [] X.env)).all (fun x => x.1.isSome)
      && decide (([e, f] : List Expr).length + ([] : List Keyword).length + (if ([] : List Keyword).isEmpty then 0 else 1) < 30)) = true := by rfl)
    (hl : (apos.endLine == cpos.line) = true := by rfl) (ht : backTo cpos (starEach [e, f] X.env) = [(false, eval e X.env), (false, eval f X.env)] := by rfl) :
    RE cm X (.Call (.Attribute o "get" apos) [e, f] [] cpos) (mGet fo fi fd) := fun W tk m S H σ en Q C h => by
  refine wE_of (pe_dget2 hu pe_w pe_w pe_w ⟨hb, hw, hl, ht⟩) ?_
  refine ho W tk m S H σ en _ C (PQ.bind h fun d S1 x m1 H1 e1 A1 R1 r1 h1 => ?_)
  split at h1
  · rename_i kl ed
    obtain ⟨a, kvs, rfl, g1, g2, g3⟩ := dct_at R1 r1 ed
    refine ⟨a, rfl, .inl ⟨kvs, g1⟩, ?_⟩
    refine he W tk m1 S1 H1 σ en _ (C.adv A1 R1) (PQ.bind h1 fun i S2 y m2 H2 e2 A2 R2 r2 h2 => ?_)
    refine hf W tk m2 S2 H2 σ en _ ((C.adv A1 R1).adv A2 R2) (PQ.bind h2 fun z S3 w m3 H3 e3 A3 R3 r3 h3 => ?_)
    split at h3
    · rename_i ks l k ed3 ek
      have r13 := Rep.adv A3 _ _ (Rep.adv A2 _ _ r1)
      obtain ⟨a', kvs', ea, g1', g2', g3'⟩ := dct_at R3 r13 ed3
      cases ea
      have ey := key_v r2 ek
      subst ey
      refine ⟨valV kvs' k, .inl ⟨kvs', k, g1', rfl, rfl⟩, PQ.now h3 R3 ?_⟩
      rcases look_v (k := k) g2' g3' with ⟨q1, q2⟩ | ⟨dv, v, q1, q2, q3⟩
      · rw [q1, q2]
        exact r3
      · rw [q1, q2]
        exact q3
    · exact h3.elim
  · exact h1.elim

/-! ### for k in d, for k, v in d.items(): d a value -/
def kD : Key → D
  | .inl i => .int i
  | .inr x => .str x
theorem kD_v {ct : Ct} {m : Am} {S : So} {H : Hp} : ∀ k : Key, Rep ct m S H (kD k) (kV k)
  | .inl i => by simp only [kD, Rep]; rfl
  | .inr x => by simp only [kD, Rep]; rfl
def iKeysV (f : E D) : E Src := fun en S => (f en S).bind fun d S1 => match d with
  | .dct ks _ => .ok ⟨none, ks.map kD⟩ S1
  | _ => .bad
def itemsD (ks : List Key) (l : List D) : List D := (ks.zip l).map fun p => .tup [kD p.1, p.2]
def iItemsV (f : E D) : E Src := fun en S => (f en S).bind fun d S1 => match d with
  | .dct ks l => .ok ⟨none, itemsD ks l⟩ S1
  | _ => .bad
/-- the dict is locked for good -/
def tLk (te : TE) : TE := fun σ H Q => te σ H fun x H1 => ∃ d kvs, x = .ref d ∧ ((∃ o, H1 d = some (.frz o (.dK kvs)) ∧ Q x H1) ∨ (H1 d = some (.dK kvs) ∧ ∀ o, Q x (upd H1 d (.frz o (.dK kvs)))))
theorem pe_lk {X : Cx} {e : Expr} {te : TE} (he : PE X e te) : PE X e (tLk te) := by
  refine ⟨fun pins s σ H Q I h => ?_⟩
  refine thn (he.run pins s σ H _ I h) fun u s1 hh => ?_
  obtain ⟨x, H1, I1, rx, d, kvs, ex, hq⟩ := hh
  subst ex
  rcases hq with ⟨o, h1, q⟩ | ⟨h1, q⟩
  · exact ⟨_, H1, I1, rx, q⟩
  · obtain ⟨od, I2⟩ := I1.lock h1 trivial
    exact ⟨_, _, I2, rx, q od⟩
section
variable {ct : Ct} {m : Am} {S : So} {H : Hp} {d : Addr} {kvs : List (Key × V)} {o : Obj}
theorem lk_adv (h : H d = some (.dK kvs)) (f : Free m S d) (R : RelS ct m S H) : Adv m S H m S (upd H d (.frz o (.dK kvs))) ∧ RelS ct m S (upd H d (.frz o (.dK kvs))) := by
  have A : Adv m S H m S (upd H d (.frz o (.dK kvs))) := by
    refine ⟨Nat.le_refl _, fun _ _ => rfl, fun n u e => .inl ⟨(List.getElem?_eq_some_iff.mp e).1, u, e⟩, fun a u e g => ?_, fun a e z => ?_, fun a xs e => ?_, fun a u w e => ?_, fun _ z => z, fun _ z => .inl z, fun a u z e => ?_⟩
    · by_cases c : a = d
      · subst c
        rw [h] at e
        cases e
        exact .inr ⟨kvs, o, rfl, upd_same⟩
      · exact .inl (by rw [upd_ne c]; exact e)
    · by_cases c : a = d
      · subst c; rw [upd_same] at z; cases z
      · rw [upd_ne c] at z; exact e z
    · rw [upd_ne fun c => by subst c; rw [h] at e; cases e]; exact e
    · rw [upd_ne fun c => by subst c; rw [h] at e; cases e]; exact e
    · rw [upd_ne fun c => by subst c; exact f.2 z]; exact e
  exact ⟨A, R.adv A fun n u e => upd_ne (f.1 n u e)⟩
end
section
variable {cm : Cm} {X : Cx} {tg e : Expr} {fe : E D}
theorem walk_lk {m : Am} {S : So} {H : Hp} {ks : List Key} {l : List D} {x : V} {W : WX} {σ : St} {src : Src} {Q : It → Hp → Prop} {J : Addr → Obj → List (Key × V) → It} (R : RelS (ct X cm) m S H) (r : Rep (ct X cm) m S H (.dct ks l) x) (h : PQ (rJ (ct X cm)) (ct X cm) m S H σ W (.ok src S) Q)
    (hw : ∀ d o kvs H', Adv m S H m S H' → RelS (ct X cm) m S H' → H' d = some (.frz o (.dK kvs)) → kvs.map (·.1) = ks → Reps (ct X cm) m S H' l (kvs.map (·.2)) → WalkJ (ct X cm) (J d o kvs) src m S H') :
    ∃ d kvs, x = .ref d ∧ ((∃ o, H d = some (.frz o (.dK kvs)) ∧ Q (J d o kvs) H) ∨ (H d = some (.dK kvs) ∧ ∀ o, Q (J d o kvs) (upd H d (.frz o (.dK kvs))))) := by
  simp only [Rep] at r
  obtain ⟨a, kvs, rfl, h1, f, g2, g3⟩ := r
  refine ⟨a, kvs, rfl, ?_⟩
  rcases h1 with h1 | ⟨o, h1⟩
  · refine .inr ⟨h1, fun o => ?_⟩
    obtain ⟨A, R'⟩ := lk_adv (o := o) h1 f R
    exact h _ m _ A R' (hw a o kvs _ A R' upd_same g2 (Reps.adv A _ _ g3))
  · exact .inl ⟨o, h1, h _ m _ Adv.refl R (hw a o kvs _ Adv.refl R h1 g2 g3)⟩
theorem ri_keysV (h : RE cm X e fe) : RI cm X tg e (iKeysV fe) := fun W tk m S H σ en R C hq => by
  refine wI_of (pi_keys (pe_lk pe_w)) ?_
  refine h W tk m S H σ en _ C (PQ.bind hq fun d S1 x m1 H1 e1 A1 R1 r1 h1 => ?_)
  split at h1
  · rename_i ks l
    obtain ⟨d, kvs, rfl, q⟩ := walk_lk (J := Itk) R1 r1 h1 fun d o kvs H' A R h1 g2 g3 m' S' H2 A' R' st => by
      have h2 : H2 d = some (.frz o (.dK kvs)) := A'.fz _ _ _ h1
      subst g2
      refine ⟨fun i dd ed => ⟨⟨h2, ?_⟩, fun x H3 y => ?_⟩, ⟨h2, by simp⟩⟩
      · have := (List.getElem?_eq_some_iff.mp ed).1
        simpa using this
      · obtain ⟨rfl, k, v, ek, rfl⟩ := y
        simp only [List.getElem?_map, ek, Option.map_some, Option.some.injEq] at ed
        subst ed
        exact ⟨fun _ _ h => h, kD_v _⟩
    refine ⟨d, kvs, rfl, ?_⟩
    rcases q with ⟨o, q1, q2⟩ | ⟨q1, q2⟩
    · exact .inl ⟨o, q1, d, o, rfl, .inl ⟨kvs, q1, q2⟩⟩
    · exact .inr ⟨q1, fun o => ⟨d, o, rfl, .inl ⟨kvs, upd_same, q2 o⟩⟩⟩
  · exact h1.elim
theorem ri_itemsV {elts : List Expr} {kk : Nat} {tpos apos cpos : Pos} (h : RE cm X e fe) (hbase : attributeBase e "items" X.env (eval e X.env) = eval e X.env := by rfl) (hline : (apos.endLine == cpos.line) = true := by rfl) :
    RI cm X (.Tuple elts kk tpos) (.Call (.Attribute e "items" apos) [] [] cpos) (iItemsV fe) := fun W tk m S H σ en R C hq => by
  refine wI_of (pi_items (pe_lk pe_w) hbase hline) ?_
  refine h W tk m S H σ en _ C (PQ.bind hq fun d S1 x m1 H1 e1 A1 R1 r1 h1 => ?_)
  split at h1
  · rename_i ks l
    obtain ⟨d, kvs, rfl, q⟩ := walk_lk (J := Iti) R1 r1 h1 fun d o kvs H' A R h1 g2 g3 m' S' H2 A' R' st => by
      have h2 : H2 d = some (.frz o (.dK kvs)) := A'.fz _ _ _ h1
      have g4 := Reps.adv A' _ _ g3
      subst g2
      have hl : l.length = kvs.length := by have := g3.length; simpa using this
      have hn : (itemsD (kvs.map (·.1)) l).length = kvs.length := by simp [itemsD, hl]
      refine ⟨fun i dd ed => ⟨⟨h2, ?_⟩, fun x H3 y => ?_⟩, ⟨h2, by rw [hn]; exact Nat.le_refl _⟩⟩
      · have := (List.getElem?_eq_some_iff.mp ed).1
        rw [hn] at this
        exact this
      · obtain ⟨T, k, v, ek, rfl, hT, rfl⟩ := y
        have ev : (kvs.map (·.2))[i]? = some v := by rw [List.getElem?_map, ek]; rfl
        obtain ⟨dv, ed2, rv⟩ := g4.get' ev
        have e2 : dd = .tup [kD k, dv] := by
          unfold itemsD at ed
          have e3 : ((kvs.map (·.1)).zip l)[i]? = some (k, dv) := List.getElem?_zip_eq_some.mpr ⟨by rw [List.getElem?_map, ek]; rfl, ed2⟩
          rw [List.getElem?_map, e3] at ed
          simpa using ed.symm
        subst e2
        refine ⟨grow_upd hT, ?_⟩
        simp only [Rep]
        exact ⟨T, _, rfl, .inl (.inl upd_same), Reps.cons (kD_v _) (Reps.cons (Rep.adv (Adv.new hT) _ _ rv) Reps.nil)⟩
    refine ⟨d, kvs, rfl, ?_⟩
    rcases q with ⟨o, q1, q2⟩ | ⟨q1, q2⟩
    · exact .inl ⟨o, q1, d, o, kvs, rfl, q1, q2⟩
    · exact .inr ⟨q1, fun o => ⟨d, o, kvs, rfl, upd_same, q2 o⟩⟩
  · exact h1.elim
end
end Mi

/-! MiE: sorted, zip and enumerate of tuples, a tuple of the module. -/
namespace Mi
open PySem PySem.Spec PyProof.Rows L2

/-! ### order of texts -/
def leS (a b : Str) : Prop := ltCps b.cps.toList a.cps.toList = false
theorem lt_irr : ∀ a : List Nat, ltCps a a = false
  | [] => rfl
  | a :: r => by
    show (decide (a < a) || (a == a && ltCps r r)) = false
    rw [lt_irr r]
    simp
theorem lt_anti : ∀ {a b : List Nat}, ltCps a b = false → ltCps b a = false → a = b
  | [], [], _, _ => rfl
  | [], b :: t, h, _ => by cases h
  | a :: r, [], _, h => by cases h
  | a :: r, b :: t, h, k => by
    have h : (decide (a < b) || (a == b && ltCps r t)) = false := h
    have k : (decide (b < a) || (b == a && ltCps t r)) = false := k
    simp only [Bool.or_eq_false_iff, decide_eq_false_iff_not, Bool.and_eq_false_iff, beq_eq_false_iff_ne] at h k
    have e : a = b := by omega
    subst e
    rcases h.2 with z | z
    · exact absurd rfl z
    · rcases k.2 with y | y
      · exact absurd rfl y
      · rw [lt_anti z y]
theorem lt_tr : ∀ {a b c : List Nat}, ltCps b a = false → ltCps c b = false → ltCps c a = false
  | [], [], [], _, _ => rfl
  | [], b :: t, [], _, h => by cases h
  | [], [], c :: u, _, _ => rfl
  | [], b :: t, c :: u, _, _ => rfl
  | a :: r, [], c, h, _ => by cases h
  | a :: r, b :: t, [], _, h => by cases h
  | a :: r, b :: t, c :: u, h, k => by
    have h : (decide (b < a) || (b == a && ltCps t r)) = false := h
    have k : (decide (c < b) || (c == b && ltCps u t)) = false := k
    show (decide (c < a) || (c == a && ltCps u r)) = false
    simp only [Bool.or_eq_false_iff, decide_eq_false_iff_not, Bool.and_eq_false_iff, beq_eq_false_iff_ne] at h k ⊢
    refine ⟨by omega, ?_⟩
    by_cases e : c = a
    · have e1 : b = a := by omega
      have e2 : c = b := by omega
      refine .inr (lt_tr (h.2.resolve_left fun z => z e1) (k.2.resolve_left fun z => z e2))
    · exact .inl e
theorem leS_anti {a b : Str} (h : leS a b) (k : leS b a) : a = b := by
  have e := lt_anti k h
  cases a; cases b
  simp only [Str.mk.injEq]
  exact Array.toList_inj.mp e
theorem leS_tr {a b c : Str} (h : leS a b) (k : leS b c) : leS a c := lt_tr h k
theorem rising_pw : ∀ {l : List Str} {p : Str}, risingS p l = true → (p :: l).Pairwise leS
  | [], p, _ => List.pairwise_singleton ..
  | x :: l, p, h => by
    simp only [risingS, Bool.and_eq_true, Bool.not_eq_true'] at h
    have i := rising_pw h.2
    refine List.pairwise_cons.mpr ⟨fun y hy => ?_, i⟩
    rcases List.mem_cons.mp hy with e | hy
    · rw [e]; exact h.1
    · exact leS_tr h.1 ((List.pairwise_cons.mp i).1 y hy)
theorem sortedS_pw {l : List Str} (h : sortedS l = true) : l.Pairwise leS := by
  cases l with
  | nil => exact .nil
  | cons x l => exact rising_pw h
def insS (x : Str) : List Str → List Str
  | [] => [x]
  | y :: l => if ltCps y.cps.toList x.cps.toList = false then x :: y :: l else y :: insS x l
def srtS (l : List Str) : List Str := l.foldr insS []
theorem insS_perm (x : Str) : ∀ l : List Str, (insS x l).Perm (x :: l)
  | [] => .refl _
  | y :: l => by
    unfold insS
    split
    · exact .refl _
    · exact ((insS_perm x l).cons y).trans (.swap x y l)
theorem srtS_perm : ∀ l : List Str, (srtS l).Perm l
  | [] => .refl _
  | x :: l => (insS_perm x (srtS l)).trans ((srtS_perm l).cons x)
theorem lt_tot : ∀ {a b : List Nat}, ltCps a b = true → ltCps b a = false
  | [], [], h => by cases h
  | [], b :: t, _ => rfl
  | a :: r, [], h => by cases h
  | a :: r, b :: t, h => by
    have h : (decide (a < b) || (a == b && ltCps r t)) = true := h
    show (decide (b < a) || (b == a && ltCps t r)) = false
    simp only [Bool.or_eq_true, decide_eq_true_eq, Bool.and_eq_true, beq_iff_eq, Bool.or_eq_false_iff, decide_eq_false_iff_not, Bool.and_eq_false_iff, beq_eq_false_iff_ne] at h ⊢
    rcases h with h | h
    · exact ⟨by omega, .inl (by omega)⟩
    · exact ⟨by omega, .inr (lt_tot h.2)⟩
theorem insS_pw (x : Str) : ∀ {l : List Str}, l.Pairwise leS → (insS x l).Pairwise leS
  | [], _ => List.pairwise_singleton ..
  | y :: l, h => by
    obtain ⟨h1, h2⟩ := List.pairwise_cons.mp h
    unfold insS
    split
    · rename_i c
      refine List.pairwise_cons.mpr ⟨fun z hz => ?_, h⟩
      rcases List.mem_cons.mp hz with e | hz
      · rw [e]; exact c
      · exact leS_tr (b := y) c (h1 z hz)
    · rename_i c
      refine List.pairwise_cons.mpr ⟨fun z hz => ?_, insS_pw x h2⟩
      rcases List.mem_cons.mp ((insS_perm x l).mem_iff.mp hz) with e | hz
      · rw [e]
        exact lt_tot (by simpa using c)
      · exact h1 z hz
theorem srtS_pw : ∀ l : List Str, (srtS l).Pairwise leS
  | [] => .nil
  | x :: l => insS_pw x (srtS_pw l)
theorem srtS_eq {l ys : List Str} (p : ys.Perm l) (h : sortedS ys = true) : ys = srtS l := List.Perm.eq_of_pairwise (le := leS) (fun _ _ _ _ => leS_anti) (sortedS_pw h) (srtS_pw l) (p.trans (srtS_perm l).symm)
def insI (x : Int) : List Int → List Int
  | [] => [x]
  | y :: l => if x ≤ y then x :: y :: l else y :: insI x l
def srtI (l : List Int) : List Int := l.foldr insI []
theorem insI_perm (x : Int) : ∀ l : List Int, (insI x l).Perm (x :: l)
  | [] => .refl _
  | y :: l => by
    unfold insI
    split
    · exact .refl _
    · exact ((insI_perm x l).cons y).trans (.swap x y l)
theorem srtI_perm : ∀ l : List Int, (srtI l).Perm l
  | [] => .refl _
  | x :: l => (insI_perm x (srtI l)).trans ((srtI_perm l).cons x)
theorem insI_pw (x : Int) : ∀ {l : List Int}, l.Pairwise (· ≤ ·) → (insI x l).Pairwise (· ≤ ·)
  | [], _ => List.pairwise_singleton ..
  | y :: l, h => by
    obtain ⟨h1, h2⟩ := List.pairwise_cons.mp h
    unfold insI
    split
    · rename_i c
      refine List.pairwise_cons.mpr ⟨fun z hz => ?_, h⟩
      rcases List.mem_cons.mp hz with e | hz
      · rw [e]; exact c
      · have := h1 z hz; omega
    · rename_i c
      refine List.pairwise_cons.mpr ⟨fun z hz => ?_, insI_pw x h2⟩
      rcases List.mem_cons.mp ((insI_perm x l).mem_iff.mp hz) with e | hz
      · omega
      · exact h1 z hz
theorem srtI_pw : ∀ l : List Int, (srtI l).Pairwise (· ≤ ·)
  | [] => .nil
  | x :: l => insI_pw x (srtI_pw l)
theorem srtI_eq {l ys : List Int} (p : ys.Perm l) (h : ys.Pairwise (· ≤ ·)) : ys = srtI l := List.Perm.eq_of_pairwise (le := (· ≤ ·)) (fun _ _ _ _ a b => Int.le_antisymm a b) h (srtI_pw l) (p.trans (srtI_perm l).symm)

/-! ### sorted(d), sorted([texts]) -/
def textsK : List Key → Option (List Str)
  | [] => some []
  | .inr x :: l => (textsK l).map (x :: ·)
  | _ => none
def intsK : List Key → Option (List Int)
  | [] => some []
  | .inl x :: l => (intsK l).map (x :: ·)
  | _ => none
theorem textsK_eq : ∀ {ks : List Key} {l : List Str}, textsK ks = some l → ks = l.map Sum.inr
  | [], l, h => by simp only [textsK, Option.some.injEq] at h; subst h; rfl
  | .inr x :: ks, l, h => by
    simp only [textsK, Option.map_eq_some_iff] at h
    obtain ⟨l', h1, rfl⟩ := h
    rw [textsK_eq h1]
    rfl
  | .inl x :: ks, l, h => by simp [textsK] at h
theorem intsK_eq : ∀ {ks : List Key} {l : List Int}, intsK ks = some l → ks = l.map Sum.inl
  | [], l, h => by simp only [intsK, Option.some.injEq] at h; subst h; rfl
  | .inl x :: ks, l, h => by
    simp only [intsK, Option.map_eq_some_iff] at h
    obtain ⟨l', h1, rfl⟩ := h
    rw [intsK_eq h1]
    rfl
  | .inr x :: ks, l, h => by simp [intsK] at h
def bSorted : OpL := fun l S => match l with
  | [d] => match dctOf d S with
    | some (ks, _) => match textsK ks with
      | some xs => if xs.length < 64 then some (.lst ((srtS xs).map D.str), S) else none
      | none => match intsK ks with
        | some xs => if xs.length < 64 then some (.lst ((srtI xs).map D.int), S) else none
        | none => none
    | none => match lstOf d S with
      | some l => match strsOf l with
        | some xs => if xs.length < 64 then some (.lst ((srtS xs).map D.str), S) else none
        | none => none
      | none => none
  | _ => none
section
variable {cm : Cm} {X : Cx}
theorem cd_sorted (hc : X.calm = true) : CallD cm X (.builtin "sorted") bSorted := fun m S H ds vs Q R r h => by
  have strs' : ∀ {m : Am} {S : So} {H : Hp} (l : List Str), Reps (ct X cm) m S H (l.map D.str) (l.map V.str) := fun l => reps_map (fun a => by simp only [Rep]) l
  unfold bSorted at h
  split at h
  · obtain ⟨x, rfl, rx⟩ := reps1 r
    split at h
    · rename_i ks l0 ed
      obtain ⟨a, kvs, rfl, h1, h2, h3⟩ := dct_at R rx ed
      subst h2
      split at h
      · rename_i xs ex
        split at h
        · rename_i hz
          refine rW_of (call_sortedD hc) ⟨a, kvs, xs, rfl, h1, textsK_eq ex, hz, fun ys p hp hs hn => ?_⟩
          rw [srtS_eq hp hs]
          exact h.lst R hn (strs' _)
        · exact h.no.elim
      · split at h
        · rename_i xs ex
          split at h
          · rename_i hz
            refine rW_of (call_sortedDI hc) ⟨a, kvs, xs, rfl, h1, intsK_eq ex, hz, fun ys p hp hs hn => ?_⟩
            rw [srtI_eq hp hs]
            exact h.lst R hn (reps_ints _)
          · exact h.no.elim
        · exact h.no.elim
    · split at h
      · rename_i l el
        split at h
        · rename_i xs ex
          split at h
          · rename_i hz
            obtain ⟨a, ws, rfl, h1, h2⟩ := lst_at R rx el
            have := reps_strs ex h2
            subst this
            refine rW_of cr_sortedS ⟨a, xs, rfl, .inl (.inl h1), hz, fun ys p hp hs hn => ?_⟩
            rw [srtS_eq hp hs]
            exact h.lst R hn (strs' _)
          · exact h.no.elim
        · exact h.no.elim
      · exact h.no.elim
  · exact h.no.elim
end

/-! ### zip(t, u) of tuples -/
def iZipT (fa : E (List D)) : E Src := fun en S => (fa en S).bind fun l S1 => match l with
  | [.tup a, .tup b] => .ok ⟨none, (a.zip b).map fun p => .tup [p.1, p.2]⟩ S1
  | _ => .bad
theorem ri_zipT {cm : Cm} {X : Cx} {e e2 : Expr} {fa : E (List D)} {p pos tpos : Pos} {elts : List Expr} {kk : Nat} (hg : Gl X "zip") (hm : X.mg "zip" = none) (ha : RA cm X [e, e2] fa)
    (hs : starEach [e, e2] X.env = (false, eval e X.env) :: starEach [e2] X.env := by rfl) (hpl : (backTo pos (starEach [e2] X.env)).any (·.1) = false := by rfl) :
    RI cm X (.Tuple elts kk tpos) (.Call (.Name "zip" p) [e, e2] [] pos) (iZipT fa) := fun W tk m S H σ en R C hq => by
  refine wI_of (RZ.pi_zipA hg hm pa_w hs hpl) ?_
  refine ha W tk m S H σ en _ C (PQ.bind hq fun l S1 vs m1 H1 e1 A1 R1 r1 h1 => ?_)
  split at h1
  · rename_i as bs
    obtain ⟨x, y, rfl, rx, ry⟩ := reps2 r1
    simp only [Rep] at rx ry
    obtain ⟨a, xs, rfl, q1, q2⟩ := rx
    obtain ⟨b, ys, rfl, g1, g2⟩ := ry
    refine ⟨a, b, xs, ys, rfl, .inr ⟨q1, g1, PQ.now h1 R1 ?_⟩⟩
    intro m' S' H' A' R' st
    have k1 := SqT.adv A' q1
    have k2 := SqT.adv A' g1
    have r2 := Reps.adv A' _ _ q2
    have r3 := Reps.adv A' _ _ g2
    refine ⟨fun i d ed => ?_, ⟨xs, ys, k1, k2, ?_⟩⟩
    · simp only [List.getElem?_map, Option.map_eq_some_iff] at ed
      obtain ⟨pr, e2, rfl⟩ := ed
      obtain ⟨u, v⟩ := pr
      obtain ⟨eu, ev⟩ := List.getElem?_zip_eq_some.mp e2
      obtain ⟨x1, f1, f2⟩ := r2.get eu
      obtain ⟨y1, f3, f4⟩ := r3.get ev
      refine ⟨⟨xs, ys, x1, y1, k1, k2, f1, f3⟩, fun x H2 z => ?_⟩
      obtain ⟨T, x2, y2, rfl, hT, rfl, z1, z2⟩ := z
      have w1 := z1 xs k1
      have w2 := z2 ys k2
      rw [f1] at w1
      rw [f3] at w2
      cases w1
      cases w2
      refine ⟨grow_upd hT, ?_⟩
      simp only [Rep]
      exact ⟨T, _, rfl, .inl (.inl upd_same), Reps.cons (Rep.adv (Adv.new hT) _ _ f2) (Reps.cons (Rep.adv (Adv.new hT) _ _ f4) Reps.nil)⟩
    · show xs.length ≤ ((as.zip bs).map _).length ∨ ys.length ≤ ((as.zip bs).map _).length
      rw [List.length_map, List.length_zip, q2.length, g2.length]
      omega
  · exact h1.elim

/-! ### enumerate(t) of a tuple -/
set_option maxHeartbeats 4000000 in
theorem meets_enum1B {v : Value} {o : Obj} {H : Heap → Prop} (B : Begins v o H) :
    Meets (Builtin.«enumerate.__new__» ⟨[.type "enumerate", v], []⟩) (fun _ R s => H s.heap ∧
      R (.ok (.ret (.ref (s.heap.push o).objs.size))) { s with heap := (s.heap.push o).push { cls := .type "enumerate", data := .fields #[.none, .bool false, .ref s.heap.objs.size, rawInt 0, .none, .none] } }) :=
  .of_wp fun prog w A R s h => by
    obtain ⟨hp, g, d, tk, os⟩ := s; obtain ⟨h1, h⟩ := h
    have hsub := sub_enumerate
    have q1 : ∀ {A' : Around} {E : Value → Shared → Prop} {Q : Value → Shared → Prop}, Q (.ref hp.objs.size) ⟨hp.push o, g, d, tk, os⟩ → wpAny (model prog w) A' (pyIter v) Q E ⟨hp, g, d, tk, os⟩ :=
      fun q => B.iter prog w _ _ ⟨hp, g, d, tk, os⟩ _ h1 q
    wp_walk using q1
    refine wpAny_stack_any fun st => wpAny_pure ?_
    split
    · rename_i c _ _ _ _ _
      cases (c == Value.type "enumerate")
      · wp_walk using q1
        exact ⟨_, rfl, h⟩
      · wp_walk using q1
        exact ⟨_, rfl, h⟩
    · wp_walk using q1
      exact ⟨_, rfl, h⟩
theorem enum1_begins {prog : Program} {w : World} {A : Around} {E : Value → Shared → Prop} {s : Shared} {v : Value} {o : Obj} {H : Heap → Prop} {Q : Value → Shared → Prop} (B : Begins v o H) (h1 : H s.heap)
    (h : ∀ h', IsEnum h' (s.heap.objs.size + 1) s.heap.objs.size 0 .none → h'.get? s.heap.objs.size = some o → h'.objs.size = s.heap.objs.size + 2 →
      (∀ b o, s.heap.get? b = some o → h'.get? b = some o) → Q (.ref (s.heap.objs.size + 1)) { s with heap := h' }) :
    wpAny (model prog w) A (call (.type "enumerate") [v]) Q E s := by
  refine callType_new F.called_enumerate (by decide) (F.typeCall_enumerate_1 _) (F.newCall_enumerate_1 _) (fun obj => F.args_object_init_2 obj _) F.entry_enumerate_new (meets_enum1B B) ⟨h1, ?_⟩
  have hz : (s.heap.push o).objs.size = s.heap.objs.size + 1 := Heap.size_push ..
  show _ ∧ _
  rw [hz]
  have he : IsEnum ((s.heap.push o).push { cls := .type "enumerate", data := .fields #[.none, .bool false, .ref s.heap.objs.size, rawInt 0, .none, .none] }) (s.heap.objs.size + 1) s.heap.objs.size 0 .none := by
    have := Heap.get?_push_size (s.heap.push o) (o := { cls := .type "enumerate", data := .fields #[.none, .bool false, .ref s.heap.objs.size, rawInt 0, .none, .none] }) rfl
    rw [hz] at this; exact this
  refine ⟨⟨_, he, rfl⟩, h _ he (Heap.get?_push_of_some _ (Heap.get?_push_size _ B.free)) (by rw [Heap.size_push, hz]) fun b o x => Heap.get?_push_of_some _ (Heap.get?_push_of_some _ x)⟩
/-- the tuple at a, each item in a new pair with its place -/
def IteT (K : PySem.W.Frag) (a : Addr) : It :=
  ⟨fun i H => ∃ (xs : List V) (x : V), SqT K H a xs ∧ xs[i]? = some x, fun i H v H' => ∃ T x, v = .ref T ∧ H T = none ∧ H' = upd H T (.tup [.int (i : Nat), x]) ∧ ∀ xs, SqT K H a xs → xs[i]? = some x, fun i H => ∃ xs : List V, SqT K H a xs ∧ xs.length ≤ i⟩
theorem turn_enumT {P : Program} {w : World} {K : PySem.W.Frag} {elts : List Expr} {kk : Nat} {tpos : Pos} (a e it : Addr) :
    Turn P w K (.Tuple elts kk tpos) (IteT K a) [e, it] e (fun i h => (∃ old, IsEnum h e it ((i : Nat) : Int) old) ∧ h.IsTupleIter it a i ∧ e ≠ it ∧ a ≠ it ∧ e ≠ a) where
  mem := by simp
  obj := fun i h st b hb => by
    obtain ⟨⟨old, he⟩, ⟨o, ho, hc, hd⟩, _⟩ := st
    have e' : b = e ∨ b = it := by simpa using hb
    rcases e' with z | z
    · rw [z]; exact ⟨_, he, fun v q => nomatch q⟩
    · rw [z]; exact ⟨o, ho, fun v q => by rw [hd] at q; cases q⟩
  keep := fun i h h' st k => let ⟨⟨old, he⟩, hi, hne⟩ := st; ⟨⟨old, k e (by simp) _ he⟩, hi.at fun o q => k it (by simp) o q, hne⟩
  item := by
    intro X hP hw hK hc i pins s σ H E I hf st hg
    subst hP hw hK
    obtain ⟨⟨old, he⟩, hit, hne, hai, hea⟩ := st
    obtain ⟨xs, x, hq, hx⟩ := hg
    obtain ⟨its, rv, p, hz⟩ := I.tuple hq
    obtain ⟨u, hu, ru⟩ := rv.get hx
    have hel : e < s.heap.objs.size := Heap.lt_size he
    have hil : it < s.heap.objs.size := by obtain ⟨_, q, _⟩ := hit; exact Heap.lt_size q
    have hlt : i < its.toArray.size := by
      have := (List.getElem?_eq_some_iff.mp hu).1
      simpa using this
    refine wpAny_pyNext_enum_itemD (n := its.toArray.size) (Draws.tuple (A := X.A.in1) (prog := X.prog) (w := X.w) (show X.A.in1.handled = none from I.ok.hd hc) it a hai its.toArray) he ⟨hit, p⟩ hlt hne (by simp [hne, hea]) fun x' h' tk hP ho hst' hT hsz hk => ?_
    obtain rfl : u = x' := by
      have : its.toArray[i]? = some u := by simpa using hu
      rw [this] at hP
      exact Option.some.inj hP
    refine ⟨_, rfl, wpAny_letOwnedTupleGo_enum (s := { s with heap := h', toks := tk + 1 }) ho fun h'' he' sb => ?_⟩
    have hT2 : h''.get? s.heap.objs.size = some { cls := .type "tuple", data := .seq #[.int i tk, u] } := (sb.2 _ (Nat.ne_of_gt hel)).trans hT
    have new : ObjOk X.prog X.w (upd H s.heap.objs.size (.tup [.int (i : Nat), x])) h'' s.heap.objs.size (.tup [.int (i : Nat), x]) :=
      ⟨by show 2 ≤ sizeLine; decide, [.int i tk, u], .cons ⟨_, rfl⟩ (.cons ru .nil), ⟨_, hT2, rfl, _, rfl⟩⟩
    have I1 : Inv X pins σ (upd H s.heap.objs.size (.tup [.int (i : Nat), x])) { s with heap := h'', toks := tk + 1 } :=
      I.turnedNew (ch := [e, it]) (fun b ob hb q => (sb.2 b (fun z => hb (by simp [z]))).trans (hk b ob (fun z => hb (by simp [z])) (fun z => hb (by simp [z])) q)) hf (Nat.le_refl _) new
    refine ⟨.ref s.heap.objs.size, _, I1, rfl, ⟨_, x, rfl, I.hok.fresh (Nat.le_refl _), rfl, fun ys hy => by rw [I.tuple_inj hy hq]; exact hx⟩, ⟨⟨u, ?_⟩, hst'.1.at fun o q => (sb.2 it (Ne.symm hne)).trans q, hne, hai, hea⟩, fun b hb => ?_⟩
    · have e1 : ((i + 1 : Nat) : Int) = (i : Int) + 1 := by omega
      rw [e1]; exact he'
    · have hb' : b < s.heap.objs.size := by
        have e' : b = e ∨ b = it := by simpa using hb
        rcases e' with z | z
        · rw [z]; exact hel
        · rw [z]; exact hil
      rw [upd_ne (Nat.ne_of_lt hb')]
      exact (hf b hb).1
  done := by
    intro X hP hw hK hc i pins s σ H E I hf st hg
    subst hP hw hK
    obtain ⟨⟨old, he⟩, hit, hne, hai, hea⟩ := st
    obtain ⟨xs, hq, hx⟩ := hg
    obtain ⟨its, rv, p, hz⟩ := I.tuple hq
    have hl := rv.length
    obtain ⟨f0, f1, f2, f3, f4, f5⟩ := hf it (by simp)
    have hT : s.TypeIs (.ref e) "enumerate" := ⟨_, he, rfl⟩
    unfold pyNext
    refine wpAny_bind (wpAny_attempt (wpAny_callSpecial?_slot (name := Str.ofString "__next__") hT F.slot_enumerate_next
      (wpAny_call_entry F.slot_enumerate_next hT F.entry_enumerate_next ?_ (F.args_enumerate_next_1 _))))
    show wpAny _ _ (field (.ref e) 2 >>= _) _ _ _
    refine wpAny_bind (wpAny_field he rfl (x := .ref it) rfl ?_)
    refine wpAny_bind (wpAny_nextOf_tuple_end (I.ok.hd hc) hit p (by simp; omega) fun h' x he' hx' => ?_)
    obtain ⟨o, ho, hc'⟩ := hx'
    refine wpAny_bind (wpAny_isInstance (T := "StopIteration") (b := true) ⟨o, ho, hc'⟩ isSubtype_stop ?_)
    exact wpAny_pure ⟨rfl, I.turned (t' := s.toks) (fun b o hb q => he' b o hb q) f0 f1 f3 f4 f5⟩
  self := fun A i s Q E st h => let ⟨⟨_, he⟩, _⟩ := st; wpAny_pyIter_enum he h
def iEnumT (K : PySem.W.Frag) (ta : TA) : TI := fun σ H R => ta σ H fun vs H1 => ∃ a xs, vs = [.ref a] ∧ SqT K H1 a xs ∧ R (IteT K a) H1
theorem pi_enumT {X : Cx} {e : Expr} {ta : TA} {p pos tpos : Pos} {elts : List Expr} {kk : Nat} (hg : Gl X "enumerate") (hm : X.mg "enumerate" = none) (ha : PA X [e] ta) (hs : starEach [e] X.env = [(false, eval e X.env)] := by rfl) :
    PI X (.Tuple elts kk tpos) (.Call (.Name "enumerate" p) [e] [] pos) (iEnumT X.K ta) := by
  refine ⟨fun pins s σ H R I h => ?_⟩
  refine Call_ (ld_blt I hg hm boot_enumerate (PyProof.Rows.callWith_type1 (thn (ha.run pos pins s σ H _ I h) fun us s1 hh => ?_) hs rfl))
  obtain ⟨vs, H1, I1, r1, a, xs, ex, hq, q⟩ := hh
  subst ex
  cases r1 with
  | cons r rr =>
    cases rr
    cases r
    obtain ⟨its, rv, p', hz⟩ := I1.tuple hq
    have hal : a < s1.heap.objs.size := by obtain ⟨_, q, _⟩ := p'; exact Heap.lt_size q
    refine enum1_begins (begins_tuple a its.toArray) p' fun h' he hit hsz hk => wpAny_pyIter_enum he ?_
    have I2 : Inv X pins σ H1 { s1 with heap := h' } := I1.kept (t' := s1.toks) hk
    refine ⟨s1.heap.objs.size + 1, [s1.heap.objs.size + 1, s1.heap.objs.size], _, _, H1, rfl, I2, turn_enumT a (s1.heap.objs.size + 1) s1.heap.objs.size, ⟨⟨.none, he⟩, ⟨_, hit, rfl, rfl⟩, Nat.succ_ne_self _, Nat.ne_of_lt hal, Nat.ne_of_gt (Nat.lt_succ_of_lt hal)⟩, fun b hb => ?_, q⟩
    have e' : b = s1.heap.objs.size + 1 ∨ b = s1.heap.objs.size := by simpa using hb
    have hle : s1.heap.objs.size ≤ b := by
      rcases e' with z | z
      · rw [z]; exact Nat.le_add_right _ _
      · rw [z]; exact Nat.le_refl _
    exact I1.fpOk hle (I1.hok.fresh hle)
def enumD (i : Nat) : List D → List D
  | [] => []
  | d :: l => .tup [.int i, d] :: enumD (i + 1) l
theorem enumD_get : ∀ {l : List D} {k i : Nat} {d : D}, (enumD k l)[i]? = some d → ∃ x, l[i]? = some x ∧ d = .tup [.int ((k + i : Nat) : Int), x]
  | [], k, i, d, h => by simp [enumD] at h
  | x :: l, k, 0, d, h => by
    simp only [enumD, List.getElem?_cons_zero, Option.some.injEq] at h
    exact ⟨x, rfl, h.symm⟩
  | x :: l, k, i + 1, d, h => by
    simp only [enumD, List.getElem?_cons_succ] at h ⊢
    obtain ⟨y, e1, e2⟩ := enumD_get h
    exact ⟨y, e1, by rw [e2, show k + 1 + i = k + (i + 1) by omega]⟩
theorem enumD_len : ∀ {l : List D} {k : Nat}, (enumD k l).length = l.length
  | [], _ => rfl
  | x :: l, k => by simp only [enumD, List.length_cons, enumD_len]
def iEnT (fa : E (List D)) : E Src := fun en S => (fa en S).bind fun l S1 => match l with
  | [.tup a] => .ok ⟨none, enumD 0 a⟩ S1
  | _ => .bad
theorem ri_enumT {cm : Cm} {X : Cx} {e : Expr} {fa : E (List D)} {p pos tpos : Pos} {elts : List Expr} {kk : Nat} (hg : Gl X "enumerate") (hm : X.mg "enumerate" = none) (ha : RA cm X [e] fa)
    (hs : starEach [e] X.env = [(false, eval e X.env)] := by rfl) : RI cm X (.Tuple elts kk tpos) (.Call (.Name "enumerate" p) [e] [] pos) (iEnT fa) := fun W tk m S H σ en R C hq => by
  refine wI_of (pi_enumT hg hm pa_w hs) ?_
  refine ha W tk m S H σ en _ C (PQ.bind hq fun l S1 vs m1 H1 e1 A1 R1 r1 h1 => ?_)
  split at h1
  · rename_i as
    obtain ⟨x, rfl, rx⟩ := reps1 r1
    simp only [Rep] at rx
    obtain ⟨a, xs, rfl, q1, q2⟩ := rx
    refine ⟨a, xs, rfl, q1, PQ.now h1 R1 ?_⟩
    intro m' S' H' A' R' st
    have k1 := SqT.adv A' q1
    have r2 := Reps.adv A' _ _ q2
    refine ⟨fun i d ed => ?_, ⟨xs, k1, by rw [enumD_len, q2.length]; exact Nat.le_refl _⟩⟩
    obtain ⟨y, ey, rfl⟩ := enumD_get ed
    obtain ⟨x1, f1, f2⟩ := r2.get ey
    refine ⟨⟨xs, x1, k1, f1⟩, fun x H2 z => ?_⟩
    obtain ⟨T, x2, rfl, hT, rfl, z1⟩ := z
    have w1 := z1 xs k1
    rw [f1] at w1
    cases w1
    refine ⟨grow_upd hT, ?_⟩
    simp only [Rep]
    refine ⟨T, _, rfl, .inl (.inl upd_same), Reps.cons (by simp only [Rep, Nat.zero_add]) (Reps.cons (Rep.adv (Adv.new hT) _ _ f2) Reps.nil)⟩
  · exact h1.elim

/-! ### a tuple of texts that is the module's -/
def GTup (K : PySem.W.Frag) (mg : Str → Option Value) (x : Str) (xs : List Str) : Prop := ∃ (a : Addr) (o : Obj) (its : Array Value) (n : Nat), mg x = some (.ref a) ∧ K.lookup a = some o ∧ o.cls = .type "tuple" ∧ o.data = .seq its n ∧ its.size ≤ sizeLine ∧ Vals (xs.map V.str) its.toList
theorem re_gtup {cm : Cm} {X : Cx} {x : Str} {xs : List Str} {pos : Pos} (hg : Gl X x) (h : GTup X.K X.mg x xs) (hd : (x == ("__debug__" : Str)) = false := by decide) : RE cm X (.Name x pos) (mC (.tup (xs.map D.str))) := fun W tk m S H σ en Q C hq => by
  obtain ⟨a, o, its, n, hm, h1, h2, h3, h4, h5⟩ := h
  refine wE_of (pe_glob (v := .ref a) hg hm rfl hd) (PQ.now hq C.rel ?_)
  simp only [Rep]
  exact ⟨a, _, rfl, .inr ⟨o, its, n, h1, h2, h3, h4, h5⟩, reps_map (fun a => by simp only [Rep]) xs⟩
end Mi

/-! MiF: what a text must hold of classes, raising and trying, in short. -/
namespace Mi
open PySem PySem.Spec PyProof.Rows L2

/-! ### long argument lists -/
def noStar : Expr → Bool
  | .Starred _ _ => false
  | _ => true
theorem star_c {e : Expr} {es : List Expr} {env : Env} (h : noStar e = true) : starEach (e :: es) env = (false, eval e env) :: starEach es env := by
  cases e <;> first | rfl | exact nomatch h
theorem ra_c {cm : Cm} {X : Cx} {e : Expr} {es : List Expr} {f : E D} {g : E (List D)} (h1 : RE cm X e f) (h2 : RA cm X es g) (hs : noStar e = true := by rfl) : RA cm X (e :: es) (aCons f g) := ra_cons h1 h2 (star_c hs)

/-! ### methods -/
def MFnd (K : PySem.W.Frag) (cm : Cm) (n name qual : Str) (st : Stmt) (ps : List Str) : Prop := ∃ C f fd, cm.cls n = some C ∧ OwnC K C ∧ PySem.W.findIn K (.ref C) name = some (some (.ref f)) ∧ PySem.W.isFn K (.ref f) = true ∧ Fun K name qual st f fd ∧ Binds K fd ps []
def MakeFnd (K : PySem.W.Frag) (mg : Str → Option Value) (cm : Cm) (x qual : Str) (st : Stmt) (ps : List Str) (n : Nat) (ks : List Str) (G : List D → List D → List D) : Prop := ∃ C f fd dvs kws, cm.cls x = some C ∧ mg x = some (.ref C) ∧ Mk K C f ∧
  FunD K "__init__" qual (defArgs st) (defBody st) (defScope st) dvs kws f fd ∧ MkB K ⟨K, cm.cls, cm.exc⟩ fd ps n ks G
section
variable {P : Program} {w : World} {K : PySem.W.Frag} {mg : Str → Option Value} {base : Heap} {cm : Cm}
theorem MethM.of {n name qual : Str} {st : Stmt} {N ps : List Str} {k : Nat} {g : T} (F : MFnd K cm n name qual st ps) (S : FnScope N ps (defScope st))
    (hb : ∀ (f : Addr) (cdv : Value) (A : Around) (outer : List Env) (s : Shared) (H : Hp) (E : XK), Room k (A.deeper (envOfC qual (defScope st) s.heap.objs.size f cdv)) →
      RSs cm (cxOf (L2.CX P w) P w K mg base N qual (defScope st) f cdv A outer s H E) (defBody st) g) : MethM P w K mg base cm (k + 1) n name (bodyM N.length ps.length g) := by
  obtain ⟨C, f, fd, h1, h2, h3, h4, b, c⟩ := F
  exact ⟨C, f, fd, ps, h1, h2, h3, h4, fnm_of b S hb, c, fun ds S' h => by unfold bodyM; rw [if_neg h], b.kp⟩
theorem fnm_ofD {x qual : Str} {params : Arguments} {body : List Stmt} {scope : Scope} {dvs : List V} {kws : List (Str × V)} {f : Addr} {fd : FuncData} {N ps : List Str} {k : Nat} {g : T} (b : FunD K x qual params body scope dvs kws f fd) (S : FnScope N ps scope)
    (hb : ∀ (f : Addr) (cdv : Value) (A : Around) (outer : List Env) (s : Shared) (H : Hp) (E : XK), Room k (A.deeper (envOfC qual scope s.heap.objs.size f cdv)) →
      RSs cm (cxOf (L2.CX P w) P w K mg base N qual scope f cdv A outer s H E) body g) : FnOk P w K mg base (L2.CX P w) (k + 1) f fd ps (spF ⟨K, cm.cls, cm.exc⟩ ps.length (bodyM N.length ps.length g)) := by
  refine b.ok S (fun _ _ _ _ h => h.1) (fun cdv A outer s H vs Q E hr hsp => ?_)
  obtain ⟨hl, m, S1, ds, R, rs, h⟩ := hsp
  refine ⟨_, pss_w, ?_⟩
  have hl2 : ds.length = ps.length := by rw [← hl]; exact rs.length
  unfold bodyM at h
  rw [if_pos hl2] at h
  refine hb f cdv A outer s H E hr (fun cls d _ H => E cls d H) (takes_of rfl rfl rfl rfl) m S1 H _ (ds.map some ++ List.replicate (N.length - ps.length) none) _ (by rw [← hl2]; exact cond_start R rs) ?_
  revert h
  cases g (ds.map some ++ List.replicate (N.length - ps.length) none) S1 with
  | bad => exact fun h => h.elim
  | err x en' S' => exact fun h cls dd m' σ' H' A' C' X' => h cls dd m' H' A' C'.rel X'
  | ok fl S' =>
    cases fl with
    | nx en' => exact fun h m' σ' H' A' C' => h .non m' H' A' C'.rel (by simp only [Rep])
    | rt d => exact fun h v m' H' A' R' r' => h v m' H' A' R' r'
    | bk _ => exact fun h => h.elim
    | ct _ => exact fun h => h.elim
theorem MakeM.of {x qual : Str} {st : Stmt} {N ps : List Str} {k n : Nat} {ks : List Str} {G : List D → List D → List D} {g : T} (F : MakeFnd K mg cm x qual st ps n ks G) (S : FnScope N ps (defScope st))
    (hb : ∀ (f : Addr) (cdv : Value) (A : Around) (outer : List Env) (s : Shared) (H : Hp) (E : XK), Room k (A.deeper (envOfC qual (defScope st) s.heap.objs.size f cdv)) →
      RSs cm (cxOf (L2.CX P w) P w K mg base N qual (defScope st) f cdv A outer s H E) (defBody st) g) : MakeM P w K mg base cm (k + 1) x (bodyM N.length ps.length g) n ks G := by
  obtain ⟨C, f, fd, dvs, kws, h1, h2, h3, h4, h5⟩ := F
  exact ⟨C, f, fd, ps, h1, h2, h3, fnm_ofD h4 S hb, fun ds S' h => by unfold bodyM; rw [if_neg h], h5⟩
end

/-! ### what the module names -/
theorem re_gintE {cm : Cm} {X : Cx} {x : Str} {i : Int} {pos : Pos} (hg : Gl X x) (hm : ∃ t, X.mg x = some (.int i t)) (hd : (x == ("__debug__" : Str)) = false := by decide) : RE cm X (.Name x pos) (mC (.int i)) := let ⟨_, h⟩ := hm; re_gint hg h hd
theorem re_gstrE {cm : Cm} {X : Cx} {x y : Str} {pos : Pos} (hg : Gl X x) (hm : ∃ t, X.mg x = some (.str y t)) (hd : (x == ("__debug__" : Str)) = false := by decide) : RE cm X (.Name x pos) (mC (.str y)) := let ⟨_, h⟩ := hm; re_gstr hg h hd

/-! ### raising -/
def Rs1 (K : PySem.W.Frag) (mg : Str → Option Value) (cm : Cm) (x : Str) (bmB : List Value) (newId : String) : Prop := ∃ C, cm.exc x = some C ∧ mg x = some (.ref C) ∧ PySem.W.keepIn K (.ref C) = true ∧ PySem.W.excIn K C bmB newId = true ∧
  PySem.W.subIn K (.ref C) (.type "BaseException") = some true ∧ PySem.W.typeIn K (.ref C) = some (.type "type")
section
variable {cm : Cm} {X : Cx} {x : Str} {k : Nat} {e : Expr} {fe : E D} {p p2 pos pos' : Pos} {B newId initId : String} {bmB : List Value}
theorem rs_raise1o {t : Str} {j} (F : ExcBaseFacts B newId initId bmB) (h : Rs1 X.K X.mg cm x bmB newId) (hc : X.calm = true) (hg : Gl X x) (hdb : (x == ("__debug__" : Str)) = false := by decide) :
    RS cm X (.Raise (some (.Call (.Name x p) [.Constant (.str t) j p2] [] pos)) none pos') (sRs1 x) := by
  obtain ⟨C, h1, h2, h3, h4, h5, h6⟩ := h
  exact rs_raise1 hc F h4 h2 h3 (raises_own h5 h6) h1 hg hdb
theorem rs_raiseFo {f : Str} (F : XB newId initId bmB) (h : MkF X.prog X.w X.K X.mg X.base cm k x f bmB newId) (hr : Room (k + 1) X.A) (hc : X.calm = true) (hg : Gl X x) (he' : RE cm X e fe)
    (hdb : (x == ("__debug__" : Str)) = false := by decide) (he : starEach [e] X.env = (false, eval e X.env) :: starEach [] X.env := by rfl) (hpl : (backTo pos (starEach [] X.env)).any (·.1) = false := by rfl) :
    RS cm X (.Raise (some (.Call (.Name x p) [e] [] pos)) none pos') (sRsF x f (aCons fe aNil)) := by
  obtain ⟨C, fI, fd, ps, T, h1, h2, h3, h4, h5, h6, h7⟩ := h
  exact rs_raiseF hc F T h1 h2 h3 h4 hr h5 h6 hg h7 he' hdb he hpl
end

/-! ### trying -/
def Exm (K : PySem.W.Frag) (mg : Str → Option Value) (cm : Cm) (x : Str) (g : Str → Bool) : Prop := ∃ C, mg x = some (.ref C) ∧ ∀ n D, cm.exc n = some D → PySem.W.exmOne K (.ref D) (.ref C) = some (g n)
def TryJ (cm : Cm) (X : Cx) (hs : List ExceptHandler) (cs : List Ch) : Prop := ∃ l, ClsOk X hs l ∧ CJs cm X l cs
section
variable {cm : Cm} {X : Cx} {x n f t : Str} {g : Str → Bool} {i k j : Nat} {p p' p1 p2 p3 p4 p5 pos : Pos} {b : Stmt} {st body : List Stmt} {h0 : ExceptHandler} {hs : List ExceptHandler} {cs : List Ch} {ft fb : T}
theorem tj_nil : TryJ cm X [] [] := ⟨[], .nil, .nil⟩
theorem tj_plain (h : Exm X.K X.mg cm x g) (hg : Gl X x) (hst : ∀ a pn, RSs cm (X.suite a pn) (b :: st) ft) (r : TryJ cm X hs cs) (hdb : (x == ("__debug__" : Str)) = false := by decide) :
    TryJ cm X (.ExceptHandler (some (.Name x p)) none (b :: st) p' :: hs) (⟨g, fun _ => ft⟩ :: cs) := by
  obtain ⟨C, hC, hT⟩ := h
  obtain ⟨l, r1, r2⟩ := r
  exact ⟨_, .plain (c := .ref C) ⟨hg, hdb, .inl hC⟩ suite_of r1, .cons (cj_plain hT hst) r2⟩
theorem tj_ret (h : Exm X.K X.mg cm x g) (hX : NoX X.K cm f) (hg : Gl X x) (nd : X.N.Nodup) (hi : X.N[i]? = some n) (hl : X.env.kindOf n = some .local) (r : TryJ cm X hs cs) (hdb : (x == ("__debug__" : Str)) = false := by decide) (hd : (n == ("__debug__" : Str)) = false := by decide) (hcd : (n == ("__classdict__" : Str)) = false := by decide)
    (hb : attributeBase (.Name n p2) f X.env (eval (.Name n p2) X.env) = eval (.Name n p2) X.env := by rfl)
    (hs1 : ∀ a pn, starEach [.Constant (.str t) j p1, .Attribute (.Name n p2) f p3] (X.suite a pn).env = (false, eval (.Constant (.str t) j p1) (X.suite a pn).env) :: starEach [.Attribute (.Name n p2) f p3] (X.suite a pn).env := by intros; rfl)
    (hs2 : ∀ a pn, starEach [.Attribute (.Name n p2) f p3] (X.suite a pn).env = (false, eval (.Attribute (.Name n p2) f p3) (X.suite a pn).env) :: starEach [] (X.suite a pn).env := by intros; rfl) :
    TryJ cm X (.ExceptHandler (some (.Name x p)) (some n) [.Return (some (.Tuple [.Constant (.str t) j p1, .Attribute (.Name n p2) f p3] k p4)) p5] p' :: hs) (⟨g, sHret i t f⟩ :: cs) := by
  obtain ⟨C, hC, hT⟩ := h
  obtain ⟨l, r1, r2⟩ := r
  exact ⟨_, .named (i := i) (c := .ref C) nd hi hl ⟨hg, hdb, .inl hC⟩ suite_of r1, .cons (cj_ret hT (fun n C e => (hX n C e).1) (fun n C e => (hX n C e).2) hi hl hd hcd hb hs1 hs2) r2⟩
theorem rs_tryJ (hst : X.stack = X.env :: X.outer) (hf : X.env.frame = some X.env.locals) (hb : ∀ pn xe, RSs cm (X.tr pn xe) body fb) (h : TryJ cm X (h0 :: hs) cs) : RS cm X (.Try body (h0 :: hs) [] [] pos) (sTry fb cs) := by
  obtain ⟨l, h1, h2⟩ := h
  exact rs_try hst hf hb h1 h2
end
end Mi

/-! MiN: own != (no own __ne__), own == with a value of any kind on the right. -/
namespace Mi
open PySem PySem.Spec PyProof.Rows L2
section
variable {prog : Program} {w : World} {A : Around} {E : Value → Shared → Prop} {s : Shared} {K : PySem.W.Frag} {x C L f : Addr} {h₀ : Heap} {m : Str → Option Value} {ox : Obj} {od : Option Obj} {name : Str} {b tb : Value}
theorem ifBound_b {M : Model} {id : String} {as : List Value} {Q : Option Value → Shared → Prop} (X : K.In s.heap) (I : PySem.W.InstAt s.heap x ox C od) (S : Slot "object" name id) (hs : PySem.W.findIn K (.ref C) name = some (some (.builtin id)))
    (hq : wpAny M A (call (.builtin id) (Value.ref x :: as)) (fun v s1 => Q (some v) s1) E s) : wpAny M A (callSpecialIfBound? (.ref x) name as) Q E s := by
  unfold callSpecialIfBound? bindSpecialIfBound?
  refine wpAny_holding <| wpAny_bind <| wpAny_bind <| wpAny_bind <| I.type.here <| (PySem.W.looks_findIn X hs).here ?_
  have z : wpAny M A (call (.builtin id) ([Value.ref x] ++ as) >>= fun v => pure (some v)) Q E s := wpAny_bind (wpAny_mono hq (fun _ _ k => wpAny_pure k) fun _ _ k => k)
  simp only [S.bind]
  refine wpAny_bind <| wpAny_askSetting <| wpAny_ite ?_
  split
  · exact wpAny_bind <| wpAny_pure <| wpAny_pure z
  · refine wpAny_tryCatch ?_
    exact wpAny_bind <| wpAny_pure <| wpAny_pure z
theorem ne_own {Q : Value → Shared → Prop} (hu : A.units + 1 < cLine) (X : K.In s.heap) (I : PySem.W.InstAt s.heap x ox C od) (hb : PySem.W.Looks (model prog w) s.heap (typeOf b) tb) (hn : PySem.W.notFirst K C tb = true)
    (hne : PySem.W.findIn K (.ref C) "__ne__" = some (some (.builtin "object.__ne__"))) (hm : PySem.W.mroIn K C (.type "object") = some true)
    (hs : PySem.W.findIn K (.ref C) "__eq__" = some (some (.ref f))) (hf : PySem.W.isFn K (.ref f) = true)
    (h : wpAny (model prog w) A.in1 (call (.ref f) [.ref x, b]) (fun v s' => ∃ r, v = .bool r ∧ Q (.bool (!r)) s') E s) : wpAny (model prog w) A (richCompare .NotEq (.ref x) b) Q E s := by
  have one : wpAny (model prog w) A (tryCompare (.ref x) "__ne__" b) (fun r s' => ∃ v, r = some v ∧ Q v s') E s := by
    unfold tryCompare
    refine wpAny_bind (ifBound_b X I PySem.F.cmp_object.ne hne (wpAny_call (codeAny_call_builtin PySem.F.cmp_object.ne.plain PySem.F.cmpEntry_ne ?_)))
    have LI : PySem.W.Looks (model prog w) s.heap (isInstance (.ref x) (.type "object")) true := I.type.andThen (PySem.W.looks_subIn X hm)
    refine @PySem.W.check_slot (model prog w) _ _ s "object.__ne__" "object" "__ne__" (.ref x) [b] [] _ (by decide +kernel) (by decide +kernel) LI (PySem.F.cmpArgs_ne _ _) ?_
    unfold Builtin.«object.__ne__»
    repeat (first
      | with_reducible refine wpAny_cRoomFor (A := A.in1) (by show A.in1.units < cLine; exact hu) ?_
      | (refine wpAny_bind (m := callSpecialIfBound? (.ref x) (Str.ofString "__eq__") [b]) (PySem.W.ifBound_K X I hs hf (wpAny_mono h (fun v s' z => by
          obtain ⟨r, rfl, q⟩ := z
          repeat (first | exact ⟨_, rfl, q⟩ | (refine wpAny_bind (m := truthy (.bool _)) (wpAny_truthy_bool ?_)) | wp_step)) fun _ _ e => e)))
      | wp_step)
  unfold richCompare
  simp only [oneThing_ref]
  refine wpAny_holding <| wpAny_bind <| wpAny_cRoomFor (Nat.lt_of_succ_lt hu) ?_
  refine wpAny_bind <| I.type.here <| wpAny_bind <| hb.here ?_
  have tl : ∀ c : Bool, c = false → wpAny (model prog w) A (do
      if c then
        if let some v ← tryCompare b "__ne__" (.ref x) then rule "compare.subclass-reflected-first"; return v
      if let some v ← tryCompare (.ref x) "__ne__" b then return v
      if !c then
        if let some v ← tryCompare b "__ne__" (.ref x) then return v
      rule "compare.ne-identity"
      return .bool (!(← isSame (.ref x) b))) Q E s := fun c hc => by
    subst hc
    simp only [Bool.false_eq_true, if_false]
    refine wpAny_bind (wpAny_mono one (fun r s' z => ?_) fun _ _ e => e)
    obtain ⟨v, rfl, q⟩ := z
    exact wpAny_pure q
  split
  · rename_i q
    have e : PySem.W.subIn K tb (.ref C) = some false := by
      rcases Bool.or_eq_true_iff.mp hn with e | e
      · rw [beq_iff_eq.mp e] at q; simp at q
      · exact beq_iff_eq.mp e
    exact wpAny_bind <| (PySem.W.looks_subIn X e).here (tl _ rfl)
  · exact wpAny_bind <| wpAny_pure (tl _ rfl)
end
/-- no built-in type is below the class -/
def NotSub (K : PySem.W.Frag) (C : Addr) : Prop := ∀ T : Ty, PySem.W.subIn K (.type T.name) (.ref C) = some false
/-- the class has no own __ne__ -/
def NoNe (K : PySem.W.Frag) (C : Addr) : Prop := PySem.W.findIn K (.ref C) "__ne__" = some (some (.builtin "object.__ne__"))
section
variable {cm : Cm} {X : Cx} {k : Nat} {n : Str} {F : Fm}
/-- the class of what stands on the right -/
theorem right_of {m : Am} {S : So} {H : Hp} {C : Addr} {pins : List (Addr × Obj)} {σ : St} {s : Shared} {b : D} {y : V} {u : Value} (I : Inv X pins σ H s) (R : RelS (ct X cm) m S H) (rb : Rep (ct X cm) m S H b y) (ru : RelV y u) (hc : cm.cls n = some C) (ns : NotSub X.K C)
    (h : isOwn b S = some n ∨ (tyD b S).isSome = true) : ∃ tb, PySem.W.Looks (model X.prog X.w) s.heap (typeOf u) tb ∧ PySem.W.notFirst X.K C tb = true := by
  rcases h with o | o
  · obtain ⟨bb, C2, dy, gs, rfl, hc3, h3⟩ := own_v R rb o
    obtain rfl : C = C2 := Option.some.inj (hc.symm.trans hc3)
    obtain rfl : u = Value.ref bb := ru
    obtain ⟨mB, Om2, _, _, _, _⟩ := ins_get I.hok h3
    obtain ⟨od2, J2, _⟩ := Om2.look
    exact ⟨_, J2.type, by simp [PySem.W.notFirst]⟩
  · obtain ⟨T, eT⟩ := Option.isSome_iff_exists.mp o
    obtain ⟨P, kx, hp, _⟩ := kit_of I ru (tyD_v R rb eT)
    exact ⟨_, kx.ty _ _ I.kIn hp, by simp [PySem.W.notFirst, ns T]⟩
/-- a == b, a of class n or of built-in kinds both -/
def dEqA (n : Str) (F : Fm) : Op2 := fun a b S => if isOwn a S = some n then (if isOwn b S = some n ∨ (tyD b S).isSome = true then oneOf (F [a, b] S) else none) else dEq a b S
theorem od_eqA (M : MethM X.prog X.w X.K X.mg X.base cm k n "__eq__" F) (ns : ∀ C, cm.cls n = some C → NotSub X.K C) (hr : Room k X.A) (hu : X.A.units + 64 < cLine) : OpD cm X (compareOp .Eq) (dEqA n F) := fun m S H a b x y Q R ra rb h => by
  unfold dEqA at h
  split at h
  · rename_i oa
    split at h
    · rename_i ob
      obtain ⟨C1, f, fd, ps, hc, ho1, hm, hk, hF, hbd, hbad, hkp⟩ := M
      obtain ⟨aa, C2, dx, fs, rfl, hc2, h1⟩ := own_v R ra oa
      obtain rfl : C1 = C2 := Option.some.inj (hc.symm.trans hc2)
      intro pins s σ v u I rv ru
      obtain ⟨tb, l, nf⟩ := right_of I R rb ru hc (ns _ hc) ob
      obtain rfl : v = Value.ref aa := rv
      obtain ⟨mA, Om, _, _, _, _⟩ := ins_get I.hok h1
      obtain ⟨od, J, _⟩ := Om.look
      obtain ⟨mm, hFr⟩ := I.fr
      have hp := pd_of h
      show wpAny (model X.prog X.w) X.A (richCompare .Eq (.ref aa) u) _ _ _
      refine PySem.W.cmp_K (op := .Eq) hr.units0 hFr I.ok.mod.kin J l nf hm hk (wpAny_mono (run_no (vs := [.ref aa, y]) (Q := Q) hF hr hbd I (.cons rfl (.cons ru .nil)) ⟨?_, m, S, [a, b], R, Reps.cons ra (Reps.cons rb Reps.nil), hp⟩) (fun v s' z => ret_back z) fun _ _ z => z)
      show 2 = ps.length
      by_cases e : [a, b].length = ps.length
      · exact e
      · rw [hbad _ S e] at hp
        exact hp.elim
    · exact h.no.elim
  · exact od_eq hu m S H a b x y Q R ra rb h
/-- a != b -/
def dNeA (n : Str) (F : Fm) : Op2 := fun a b S => if isOwn a S = some n then (if isOwn b S = some n ∨ (tyD b S).isSome = true then (match oneOf (F [a, b] S) with
    | some (.bl r, S') => some (.bl (!r), S')
    | _ => none) else none) else dNe a b S
theorem od_neA (M : MethM X.prog X.w X.K X.mg X.base cm k n "__eq__" F) (ns : ∀ C, cm.cls n = some C → NotSub X.K C ∧ NoNe X.K C) (hr : Room (k + 1) X.A) (hu : X.A.units + 64 < cLine) : OpD cm X (compareOp .NotEq) (dNeA n F) := fun m S H a b x y Q R ra rb h => by
  unfold dNeA at h
  split at h
  · rename_i oa
    split at h
    · rename_i ob
      split at h
      · rename_i r S' eo
        obtain ⟨C1, f, fd, ps, hc, ho1, hm, hk, hF, hbd, hbad, hkp⟩ := M
        obtain ⟨aa, C2, dx, fs, rfl, hc2, h1⟩ := own_v R ra oa
        obtain rfl : C1 = C2 := Option.some.inj (hc.symm.trans hc2)
        intro pins s σ v u I rv ru
        obtain ⟨tb, l, nf⟩ := right_of I R rb ru hc (ns _ hc).1 ob
        obtain rfl : v = Value.ref aa := rv
        obtain ⟨mA, Om, _, _, _, _⟩ := ins_get I.hok h1
        obtain ⟨od, J, _⟩ := Om.look
        have hp : PD (ct X cm) m S H (F [a, b] S) (fun v H' => v = .bl r ∧ Q (.bl (!r)) H') fun _ _ _ => False := by
          revert eo
          cases F [a, b] S with
          | ok d' S2 =>
            intro eo v m' H' A R' r'
            simp only [oneOf, Option.some.injEq, Prod.mk.injEq] at eo
            obtain ⟨e1, e2⟩ := eo
            subst e1 e2
            have r2 := r'
            simp only [Rep] at r2
            exact ⟨r2, POk.at h A R' (by simp only [Rep])⟩
          | err _ _ _ => intro eo; cases eo
          | bad => intro eo; cases eo
        show wpAny (model X.prog X.w) X.A (richCompare .NotEq (.ref aa) u) _ _ _
        refine ne_own (by have := hr.units; omega) I.kIn J l nf (ns _ hc).2 ho1.hm hm hk (wpAny_mono (run_in1 (vs := [.ref aa, y]) hF hr hbd I (.cons rfl (.cons ru .nil)) ⟨?_, m, S, [a, b], R, Reps.cons ra (Reps.cons rb Reps.nil), hp⟩) (fun v s' z => ?_) fun _ _ z => z)
        · show 2 = ps.length
          by_cases e : [a, b].length = ps.length
          · exact e
          · rw [hbad _ S e] at hp
            exact hp.elim
        · obtain ⟨v', H', I', rv', ev, q⟩ := z
          subst ev
          exact ⟨r, rv', .bl (!r), H', I', rfl, q⟩
      · exact h.no.elim
    · exact h.no.elim
  · exact od_ne hu m S H a b x y Q R ra rb h
end
end Mi

/-! MiG: str(x) of texts, ints, own instances; f-strings. -/
namespace Mi
open PySem PySem.Spec PyProof.Rows L2
section
variable {cm : Cm} {X : Cx} {k : Nat} {n : Str} {F : Fm} {f : Addr} {fd : FuncData} {ps : List Str} {sp : Sp}
theorem run_in2 {pins : List (Addr × Obj)} {σ : St} {H : Hp} {s : Shared} {Q : VK} {us : List Value} {vs : List V} {E' : Value → Shared → Prop} (G : FnOk X.prog X.w X.K X.mg X.base (L2.CX X.prog X.w) k f fd ps sp) (hr : Room (k + 2) X.A) (hb : Binds X.K fd ps [])
    (I : Inv X pins σ H s) (r : Vals vs us) (h : sp vs H Q fun _ _ _ => False) : wpAny (model X.prog X.w) X.A.in1.in1 (call (.ref f) us) (EP X pins σ Q) E' s := by
  have l : us.length = ps.length := r.length.symm.trans (G.len _ _ _ _ h)
  have b := hb s us I.kIn (by rw [List.append_nil]; exact l)
  rw [List.append_nil] at b
  have h2 : Room k X.A.in1.in1 := (show Room (k + 1) X.A.in1 from hr.in1).in1
  refine wpAny_call (codeAny_mono (G.run X.A.in1.in1 X.stack s H ⟨us, []⟩ us vs Q _ h2 I.env0.in1.in1 b r h) fun z s' q => ?_)
  match z, q with
  | .error _, q =>
    obtain ⟨_, _, _, _, _, _, _, _, _, _, _, _, y⟩ := q
    exact y.elim
  | .ok (.ret u), q => exact I.after q
  | .ok .next, q => exact q.elim
  | .ok .brk, q => exact q.elim
  | .ok .cont, q => exact q.elim
/-- str(x) -/
def bStrA (n : Str) (F : Fm) : OpL := fun l S => match l with
  | [d] => if isOwn d S = some n then (match oneOf (F [d] S) with
      | some (.str y, S') => some (.str y, S')
      | _ => none)
    else (match d with
      | .int i => if i.natAbs.log2 < 1920 then some (.str (toString i), S) else none
      | .str y => some (.str y, S)
      | _ => none)
  | _ => none
theorem cd_strA (M : MethM X.prog X.w X.K X.mg X.base cm k n "__str__" F) (hr : Room (k + 2) X.A) : CallD cm X (.type "str") (bStrA n F) := fun m S H ds vs Q R r h => by
  obtain ⟨C1, f, fd, ps, hc, ho1, hm, hk, hF, hbd, hbad, hkp⟩ := M
  unfold bStrA at h
  split at h
  · rename_i d
    obtain ⟨x, rfl, rx⟩ := reps1 r
    intro pins s σ us I rv
    obtain ⟨u, rfl, ru⟩ := vals1 rv
    split at h
    · rename_i ho
      split at h
      · rename_i y S' eo
        obtain ⟨a, C2, dx, fs, rfl, hc2, h1⟩ := own_v R rx ho
        obtain rfl : C1 = C2 := Option.some.inj (hc.symm.trans hc2)
        cases ru
        obtain ⟨mA, Om, _, _, _, _⟩ := ins_get I.hok h1
        obtain ⟨od, J, _⟩ := Om.look
        have hp : PD (ct X cm) m S H (F [d] S) (fun v H' => v = .str y ∧ Q v H') fun _ _ _ => False := by
          revert eo
          cases F [d] S with
          | ok d' S2 =>
            intro eo v m' H' A R' r'
            simp only [oneOf, Option.some.injEq, Prod.mk.injEq] at eo
            obtain ⟨e1, e2⟩ := eo
            subst e1 e2
            have r2 := r'
            simp only [Rep] at r2
            exact ⟨r2, POk.at h A R' r'⟩
          | err _ _ _ => intro eo; cases eo
          | bad => intro eo; cases eo
        refine PySem.W.kso_call (by have := (show Room (k + 1) X.A.in1 from hr.in1).in1.units0; exact this) I.kIn J hm hk (wpAny_mono (run_in2 (vs := [.ref a]) hF hr hbd I (.cons rfl .nil) ⟨?_, m, S, [d], R, Reps.cons rx Reps.nil, hp⟩) (fun v s' z => ?_) fun _ _ z => z)
        · show 1 = ps.length
          by_cases e : [d].length = ps.length
          · exact e
          · rw [hbad _ S e] at hp
            exact hp.elim
        · obtain ⟨v', H', I', rv', ev, q⟩ := z
          subst ev
          obtain ⟨t, rfl⟩ := rv'
          exact ⟨.str y, H', I', ⟨t, rfl⟩, q⟩
      · exact h.no.elim
    · split at h
      · rename_i i _
        split at h
        · rename_i hi
          simp only [Rep] at rx
          subst rx
          obtain ⟨t, rfl⟩ := ru
          exact PySem.P.str_of_int hi ⟨.str (toString i), H, I.tok _, ⟨_, rfl⟩, h.now R (by simp only [Rep])⟩
        · exact h.no.elim
      · rename_i y _
        simp only [Rep] at rx
        subst rx
        obtain ⟨t, rfl⟩ := ru
        exact PySem.P.str_of_str ⟨.str y, H, I, ⟨_, rfl⟩, h.now R (by simp only [Rep])⟩
      · exact h.no.elim
  · exact h.no.elim
end
/-! ### f-strings -/
def mFmt (fe : E D) : E D := fun en S => (fe en S).bind fun d S1 => match d with
  | .str y => if y.length ≤ sizeLine then .ok (.str y) S1 else .bad
  | .int i => if i.natAbs.log2 < 1920 then .ok (.str (toString i)) S1 else .bad
  | _ => .bad
def mJs : List (E D) → Str → E D
  | [], acc => fun _ S => .ok (.str acc) S
  | f :: fs, acc => fun en S => (f en S).bind fun d S1 => match d with
    | .str y => if (acc ++ y).length ≤ sizeLine then mJs fs (acc ++ y) en S1 else .bad
    | _ => .bad
inductive RJ (cm : Cm) (X : Cx) : List Expr → List (E D) → Prop where
  | nil : RJ cm X [] []
  | cons {e : Expr} {f : E D} {es : List Expr} {fs : List (E D)} (h : RE cm X e f) (r : RJ cm X es fs) : RJ cm X (e :: es) (f :: fs)
section
variable {cm : Cm} {X : Cx} {pos : Pos}
theorem re_fmt {e : Expr} {fe : E D} (he : RE cm X e fe) : RE cm X (.FormattedValue e (-1) none pos) (mFmt fe) := fun W tk m S H σ en Q C h => by
  refine wE_of (pe_fmt pe_w) (he W tk m S H σ en _ C (PQ.bind h fun d S1 x m1 H1 e1 A1 R1 r1 h1 => ?_))
  split at h1
  · rename_i y
    split at h1
    · rename_i hz
      simp only [Rep] at r1
      exact .inl ⟨y, r1, hz, h1.now R1 (by simp only [Rep])⟩
    · exact h1.elim
  · rename_i i
    split at h1
    · rename_i hz
      simp only [Rep] at r1
      exact .inr ⟨i, r1, hz, h1.now R1 (by simp only [Rep])⟩
    · exact h1.elim
  · exact h1.elim
theorem pj_w : ∀ es : List Expr, PJ X es (es.map fun e => wE X e)
  | [] => .nil
  | _ :: es => .cons pe_w (pj_w es)
theorem js_ok {es : List Expr} {fs : List (E D)} (r : RJ cm X es fs) : ∀ (acc : Str) W, Takes X W → ∀ m S H σ en Q, Cond (ct X cm) m S H σ en → PQ (Rep (ct X cm)) (ct X cm) m S H σ W (mJs fs acc en S) Q → tJs (es.map fun e => wE X e) acc σ H fun out H1 => Q (.str out) H1 := by
  induction r with
  | nil => exact fun acc W tk m S H σ en Q C h => h.now C.rel (by simp only [Rep])
  | cons he _ ih =>
    intro acc W tk m S H σ en Q C h
    refine he W tk m S H σ en _ C (PQ.bind h fun d S1 x m1 H1 e1 A1 R1 r1 h1 => ?_)
    split at h1
    · rename_i y
      split at h1
      · rename_i hz
        simp only [Rep] at r1
        exact ⟨y, r1, hz, ih _ W tk m1 S1 H1 σ en Q (C.adv A1 R1) h1⟩
      · exact h1.elim
    · exact h1.elim
theorem re_joined {v1 v2 : Expr} {rest : List Expr} {fs : List (E D)} (r : RJ cm X (v1 :: v2 :: rest) fs) : RE cm X (.JoinedStr (v1 :: v2 :: rest) pos) (mJs fs Str.empty) := fun W tk m S H σ en Q C h =>
  wE_of (pe_joined (pj_w _)) (js_ok r _ W tk m S H σ en Q C h)
end
end Mi

/-! MiS: sorted(set(t)), t a tuple of texts. -/
namespace Mi
open PySem PySem.Spec PyProof.Rows L2
/-- the set at a holds the texts l, laid as the model lays it -/
def SetX (P : Program) (w : World) (a : Addr) (l : List Str) (h : Heap) : Prop := ∃ D : PySem.Froz.SD, h.get? a = some (PySem.Froz.sObj "set" D) ∧ PySem.Froz.TxOk P w D l ∧ Ris D.2.2.place.toList ∧ (w.params.followText "set-order" = true ∨ D.2.2.led = true)
def ins1 (l : List Str) (x : Str) : List Str := if x ∈ l then l else x :: l
def uniq (xs : List Str) : List Str := xs.foldl ins1 []
theorem ins1_mem {l : List Str} {x k : Str} : k ∈ ins1 l x ↔ k ∈ l ∨ k = x := by
  unfold ins1
  split
  · rename_i h
    exact ⟨.inl, fun z => z.elim id fun e => e ▸ h⟩
  · rw [List.mem_cons]
    exact Or.comm
theorem ins1_len {l : List Str} {x : Str} : (ins1 l x).length ≤ l.length + 1 := by
  unfold ins1
  split
  · omega
  · rw [List.length_cons]; omega
theorem ins1_nd {l : List Str} {x : Str} (h : l.Nodup) : (ins1 l x).Nodup := by
  unfold ins1
  split
  · exact h
  · rename_i q
    exact List.nodup_cons.mpr ⟨q, h⟩
theorem fold_all : ∀ (xs l : List Str), l.Nodup → (xs.foldl ins1 l).Nodup ∧ (xs.foldl ins1 l).length ≤ l.length + xs.length ∧ ∀ k, k ∈ xs.foldl ins1 l ↔ k ∈ l ∨ k ∈ xs
  | [], l, h => ⟨h, by simp, fun k => by simp⟩
  | x :: xs, l, h => by
    obtain ⟨a, b, c⟩ := fold_all xs (ins1 l x) (ins1_nd h)
    refine ⟨a, ?_, fun k => ?_⟩
    · have := ins1_len (l := l) (x := x)
      rw [List.length_cons]
      show (List.foldl ins1 (ins1 l x) xs).length ≤ _
      omega
    · show k ∈ List.foldl ins1 (ins1 l x) xs ↔ _
      rw [c k, ins1_mem, List.mem_cons, or_assoc]
theorem uniq_nd (xs : List Str) : (uniq xs).Nodup := (fold_all xs [] List.nodup_nil).1
theorem uniq_len (xs : List Str) : (uniq xs).length ≤ xs.length := by
  have := (fold_all xs [] List.nodup_nil).2.1
  rw [List.length_nil, Nat.zero_add] at this
  exact this
theorem uniq_mem (xs : List Str) (k : Str) : k ∈ uniq xs ↔ k ∈ xs := by
  rw [show uniq xs = xs.foldl ins1 [] from rfl, (fold_all xs [] List.nodup_nil).2.2 k]
  simp
theorem uniq_add (xs : List Str) {i : Nat} {x : Str} (h : xs[i]? = some x) : uniq (xs.take (i + 1)) = ins1 (uniq (xs.take i)) x := by
  unfold uniq
  rw [List.take_add_one, h, List.foldl_append]
  rfl
/-! ### the set grows -/
theorem tail_ris {ep : Nat} {es1 : Array (Int × Value)} {t2 : SetTable} {b : Bool} (r : Ris t2.place.toList) : Ris (PySem.Froz.tailTx ep es1 t2 b).2.2.place.toList ∧ (PySem.Froz.tailTx ep es1 t2 b).2.2.led = t2.led := by
  unfold PySem.Froz.tailTx
  split
  · exact ⟨relayAll_ris _ _ _, relayAll_led _ _ _⟩
  · exact ⟨r, rfl⟩
theorem add_ris {h : Int} {v : Value} {D : PySem.Froz.SD} (r : Ris D.2.2.place.toList) : Ris (PySem.Froz.addTx h v D).2.2.place.toList ∧ (PySem.Froz.addTx h v D).2.2.led = D.2.2.led := by
  have r1 := layNew_ris D.2.2 D.1 h v r
  have l1 := layNew_led D.2.2 D.1 h v
  unfold PySem.Froz.addTx
  split
  · obtain ⟨a, b⟩ := tail_ris (ep := D.2.1) (es1 := (layNew D.2.2 D.1 h v).1) (t2 := { (layNew D.2.2 D.1 h v).2.1 with plain := false }) (b := (layNew D.2.2 D.1 h v).2.2.1) r1
    exact ⟨a, b.trans l1⟩
  · obtain ⟨a, b⟩ := tail_ris (ep := D.2.1) (es1 := (layNew D.2.2 D.1 h v).1) (t2 := (layNew D.2.2 D.1 h v).2.1) (b := (layNew D.2.2 D.1 h v).2.2.1) r1
    exact ⟨a, b.trans l1⟩
section
variable {P : Program} {w : World} {A : Around} {E : Value → Shared → Prop} {z : Shared} {a : Addr} {l : List Str}
theorem SetX.at {h h' : Heap} (R : SetX P w a l h) (k : ∀ o, h.get? a = some o → h'.get? a = some o) : SetX P w a l h' := by
  obtain ⟨D, e, r⟩ := R
  exact ⟨D, k _ e, r⟩
/-- a text that it has -/
theorem again_x {D : PySem.Froz.SD} {k : Str} {u : Tok} {Q : Bool → Shared → Prop} (ho : z.heap.get? a = some (PySem.Froz.sObj "set" D)) (F : PySem.Froz.TxOk P w D l) (hk : k ∈ l) (hb : l.length < scanBound)
    (q : Q false z) : wpAny (model P w) A (setAddHashed a (.str k u) (hashStr w k)) Q E z := by
  have hd : (PySem.Froz.sObj "set" D).data = .set D.1 D.2.1 D.2.2 := rfl
  have hz : D.1.size < scanBound := by rw [F.sz]; exact hb
  have hkey : (strKind P w).is k (.str k u) = true := PySem.Froz.is_str k u
  unfold setAddHashed setAddHashedIn
  refine wpAny_holding (wpAny_bind (wpAny_setState_of ho hd F.fit ?_))
  dsimp only
  rw [byScan_of (x := Value.str k u) rfl hz F.el]
  simp only [↓reduceIte]
  unfold setAddByScan
  refine wpAny_bind <| wpAny_bind <| wpAny_rule <| wpAny_bind <| wpAny_setScan_of (knd := strKind P w) (k := k) hkey ho hd F.fit F.el ?_
  cases e : List.findIdx? (fun e => (strKind P w).is k e.2) D.1.toList with
  | some j =>
    dsimp only
    exact wpAny_pure (wpAny_pure q)
  | none =>
    obtain ⟨x, hx, y⟩ := (F.mem k).mp hk
    have c := List.findIdx?_eq_none_iff.mp e x hx
    rw [y] at c
    cases c
theorem setX_add {k : Str} {u : Tok} {Q : Bool → Shared → Prop} (R : SetX P w a l z.heap) (room : l.length + 1 < scanBound)
    (q : ∀ b h', Heap.SameBut a z.heap h' → SetX P w a (ins1 l k) h' → Q b { z with heap := h' }) : wpAny (model P w) A (setAddHashed a (.str k u) (hashStr w k)) Q E z := by
  obtain ⟨D, ho, F, r, hl⟩ := R
  by_cases hk : k ∈ l
  · refine again_x ho F hk (by omega) (q false z.heap (Heap.SameBut.refl a z.heap) ⟨D, ho, ?_, r, hl⟩)
    unfold ins1
    rw [if_pos hk]
    exact F
  · refine PySem.Froz.add_x ho F hk room (q true _ ⟨Heap.size_after_update .., fun b hb => Heap.get?_update_other _ _ (Ne.symm hb)⟩ ⟨_, PySem.Froz.get_upd _ ho rfl, ?_, (add_ris r).1, hl.imp id fun y => by rw [(add_ris r).2]; exact y⟩)
    unfold ins1
    rw [if_neg hk]
    exact PySem.Froz.add_ok u F
/-- set.update, text by text -/
theorem set_update_texts {I : Addr} {fp wr : List Addr} {G : Array GenState → Array GenState → Prop} {n : Nat} {Pv : Nat → Value → Prop} {St : Nat → Shared → Prop} {R : Result → Shared → Prop}
    (W : WalksS P w A.in1 I fp wr G n Pv St) (S : Addr) (hSf : S ∉ fp) (xs : List Str) (hn : n = xs.length) (hb : xs.length + 1 < scanBound) (hval : ∀ i v, Pv i v → ∃ k t, xs[i]? = some k ∧ v = .str k t) :
    ∀ (k i : Nat) (z : Shared), n - i = k → i ≤ n → St i z → SetX P w S (uniq (xs.take i)) z.heap →
      (∀ z', Moved (S :: wr) G z z' → SetX P w S (uniq xs) z'.heap → R (.ok (.ret .none)) z') → codeAny (model P w) A (.builtin "set.update.loop" ⟨[.ref S, .ref I], []⟩) R z := by
  have hSw : S ∉ wr := fun y => hSf (W.sub _ y)
  have hsub : ∀ b ∈ wr, b ∈ S :: wr := fun b y => List.mem_cons_of_mem _ y
  intro k
  induction k with
  | zero =>
    intro i z hk' hi hst hS hR
    have hin : i = n := by omega
    subst hin
    refine codeAny_builtin F.entry_set_update_loop ?_
    rw [Around.under_plainId F.plain_set_update_loop _]
    show wpAny _ A.in1 (pyNext (.ref I) >>= _) _ _ z
    refine wpAny_bind (W.done z _ _ hst fun z' hm => ?_)
    show wpAny _ A.in1 (ret Value.none) _ _ z'
    rw [show xs.take i = xs from List.take_of_length_le (by omega)] at hS
    exact wpAny_pure (hR z' (hm.mono hsub) (hS.at fun o e => hm.heap S o hSw e))
  | succ k ih =>
    intro i z hk' hi hst hS hR
    have hlt : i < n := by omega
    refine codeAny_builtin F.entry_set_update_loop ?_
    rw [Around.under_plainId F.plain_set_update_loop _]
    show wpAny _ A.in1 (pyNext (.ref I) >>= _) _ _ z
    refine wpAny_bind (W.item i z _ _ hlt hst fun v z' hP hst' hm => ?_)
    obtain ⟨x, t, hx, rfl⟩ := hval i v hP
    have hS' : SetX P w S (uniq (xs.take i)) z'.heap := hS.at fun o e => hm.heap S o hSw e
    show wpAny _ A.in1 (holding [Value.str x t] (setAdd S (.str x t)) >>= _) _ _ z'
    refine wpAny_bind (wpAny_holding ?_)
    unfold setAdd
    refine wpAny_holding ?_
    refine wpAny_bind ((strKind P w).pyHash (k := x) (PySem.Froz.is_str _ _) ?_)
    have hlen : (uniq (xs.take i)).length + 1 < scanBound := by
      have y := uniq_len (xs.take i)
      rw [List.length_take] at y
      omega
    refine setX_add (z := { z' with toks := z'.toks + 1 }) hS' hlen fun b h' hsb hS2 => ?_
    rw [← uniq_add xs hx] at hS2
    refine wpAny_pure ⟨plainId_quiet F.plain_set_update_loop _, ih (i + 1) _ (by omega) hlt (W.frame _ z' _ _ hst' (Nat.le_succ _) fun b hb o e => ?_) hS2 fun z'' hm'' hS'' => ?_⟩
    · rw [hsb.2 b (fun y : b = S => hSf (by rw [← y]; exact hb))]; exact e
    · refine hR z'' (Moved.trans W.gtrans ((hm.mono hsub).then_heap (Nat.le_succ _) fun b o hb e => ?_) hm'') hS''
      rw [hsb.2 b (fun y : b = S => hb (by rw [y]; exact List.mem_cons_self))]; exact e
theorem setX_new {h : Heap} (ho : h.get? a = some { cls := .type "set", dict := none, data := .set #[] 0 (.fresh 0 0 (!w.params.followText "set-order")) }) : SetX P w a [] h :=
  ⟨(#[], 0, .fresh 0 0 (!w.params.followText "set-order")), ho, PySem.Froz.TxOk.nil (by rfl), List.Pairwise.nil, by
    show _ ∨ (!w.params.followText "set-order") = true
    cases w.params.followText "set-order"
    · exact .inr rfl
    · exact .inl rfl⟩
end
section
variable {P : Program} {w : World} {A : Around} {E : Value → Shared → Prop} {z : Shared}
theorem str_in : ∀ {us : List Value} {xs : List Str}, StrsAre us xs → ∀ {i : Nat} {v : Value}, us[i]? = some v → ∃ k t, xs[i]? = some k ∧ v = .str k t
  | _, _, .nil, i, v, e => by simp at e
  | _, _, .cons k t r, 0, v, e => by
    simp only [List.getElem?_cons_zero, Option.some.injEq] at e
    exact ⟨k, t, rfl, e.symm⟩
  | _, _, .cons k t r, i + 1, v, e => by
    simp only [List.getElem?_cons_succ] at e ⊢
    exact str_in r e
set_option maxRecDepth 100000 in
set_option maxHeartbeats 3200000 in
/-- set(t), t a tuple of texts -/
theorem call_set_texts {t : Addr} {its : Array Value} (xs : List Str) {Q : Value → Shared → Prop} (hh : A.handled = none) (ht : z.heap.IsTuple t its) (hv : StrsAre its.toList xs) (hb : xs.length + 1 < scanBound)
    (q : ∀ (h' : Heap) (tk : Nat), SetX P w z.heap.objs.size (uniq xs) h' → (∀ b o, z.heap.get? b = some o → h'.get? b = some o) → Q (.ref z.heap.objs.size) { z with heap := h', toks := tk }) :
    wpAny (model P w) A (call (.type "set") [.ref t]) Q E z := by
  have hz : its.size = xs.length := by rw [← StrsAre.len_eq hv, Array.length_toList]
  obtain ⟨c0, tl0, w1⟩ := F.called_set.mro
  have w2 := F.called_set.made
  have w3 := F.called_set.sub
  refine wpAny_call (codeAny_of_tree ?_)
  show wpAny _ _ (callAny (.type "set") _) _ _ _
  refine wpAny_pure ⟨Code.quiet_builtin _ (by decide +kernel), codeAny_builtin F.entry_type_call ?_⟩
  rw [Around.under_plain (weight_type_call_type "set" [.ref t] []) rfl]
  have w4 := F.called_set.notType
  have w5 := F.called_set.canCreate
  have w6 := F.typeCall_set_1 (.ref t)
  repeat (any_goals (first | assumption | wp_step))
  refine codeAny_mono (code_set_led1 (.ref t) (E := E) (Q₁ := fun obj s₁ => obj = .ref z.heap.objs.size ∧ s₁ = { z with heap := z.heap.push { cls := .type "set", dict := none, data := .set #[] 0 (.fresh 0 0 (!w.params.followText "set-order")) } }) ⟨rfl, rfl⟩) fun r s₁ hr => ?_
  cases r with
  | error e => exact hr
  | ok fl =>
    cases fl with
    | ret obj =>
      obtain ⟨rfl, rfl⟩ := hr
      have hS : (z.heap.push { cls := .type "set", dict := none, data := .set #[] 0 (.fresh 0 0 (!w.params.followText "set-order")) }).get? z.heap.objs.size = some { cls := .type "set", dict := none, data := .set #[] 0 (.fresh 0 0 (!w.params.followText "set-order")) } := Heap.get?_push_size _ rfl
      have hT : Shared.TypeIs { z with heap := z.heap.push { cls := .type "set", dict := none, data := .set #[] 0 (.fresh 0 0 (!w.params.followText "set-order")) } } (.ref z.heap.objs.size) "set" := ⟨_, hS, rfl⟩
      have w7 := F.called_set.init.lookup
      have w8 := F.called_set.init.bind (.ref z.heap.objs.size)
      repeat (any_goals (first | assumption | wp_step))
      refine codeAny_mono (codeAny_call_builtin (R := wants (fun r s₂ => r = .none ∧ ∃ h' tk, s₂ = { z with heap := h', toks := tk } ∧ SetX P w z.heap.objs.size (uniq xs) h' ∧
          (∀ b o, z.heap.get? b = some o → h'.get? b = some o)) E) F.called_set.init.plain F.entry_set_init (check_set_init_1 hT ?_)) fun r₂ s₂ hr₂ => ?_
      · obtain ⟨ol, hol, hcl, nl, hdl⟩ := ht
        obtain ⟨oc, odd, oda, osl⟩ := ol
        simp only at hcl hdl
        subst hcl; subst hdl
        have hol' : (z.heap.push { cls := .type "set", dict := none, data := .set #[] 0 (.fresh 0 0 (!w.params.followText "set-order")) }).get? t = some { cls := .type "tuple", dict := odd, data := .seq its nl, slots := osl } := Heap.get?_push_of_some _ hol
        have w9 := F.sub_tuple_set
        have w10 := F.sub_tuple_frozenset
        have w11 : (Value.type "tuple" == Value.type "dict") = false := by decide
        have hl1 : (z.heap.push { cls := .type "set", dict := none, data := .set #[] 0 (.fresh 0 0 (!w.params.followText "set-order")) }).IsTuple t its := ⟨_, hol', rfl, nl, rfl⟩
        unfold Builtin.«set.__init__» noKeywords Builtin.Frozenset.updateFrom
        generalize hPI : pyIter = PI
        wp_walk
        subst hPI
        refine wpAny_pyIter_tuple hl1 (wpAny_bind (wpAny_runValue ?_))
        have tlt : t < z.heap.objs.size := Heap.lt_size hol
        have hh3 : A.in1.in1.in1.handled = none := by simp [hh]
        have hneI : t ≠ (z.heap.push { cls := .type "set", dict := none, data := .set #[] 0 (.fresh 0 0 (!w.params.followText "set-order")) }).objs.size := by
          rw [Heap.size_push]; exact Nat.ne_of_lt (Nat.lt_succ_of_lt tlt)
        have hSf : z.heap.objs.size ∉ [(z.heap.push { cls := .type "set", dict := none, data := .set #[] 0 (.fresh 0 0 (!w.params.followText "set-order")) }).objs.size, t] := by
          rw [Heap.size_push]
          intro y
          rcases List.mem_cons.mp y with y | y
          · exact absurd y (Nat.ne_of_lt (Nat.lt_succ_self _))
          · exact absurd (List.mem_singleton.mp y) (Nat.ne_of_gt tlt)
        refine set_update_texts ((Walks.tuple hh3 _ t hneI its).toS) z.heap.objs.size hSf xs hz hb (fun i v e => str_in hv (by rw [Array.getElem?_toList]; exact e)) (its.size - 0) 0 _ (by omega) (Nat.zero_le _)
          ⟨⟨_, Heap.get?_push_size _ rfl, rfl, rfl⟩, (hl1.push _)⟩ ?hS0 ?hR
        case hS0 => exact setX_new (Heap.get?_push_of_some _ hS)
        case hR =>
          intro z' hm hS'
          obtain ⟨h', g2, d', tk', os'⟩ := z'
          have eg : g2 = z.gens := hm.gens
          have ed : d' = z.drawn := hm.drawn
          have eo : os' = z.os := hm.os
          subst eg; subst ed; subst eo
          show wpAny _ _ _ _ _ _
          refine wpAny_pure ?_
          show wpAny _ _ (ret Value.none) _ _ _
          refine wpAny_pure ⟨rfl, h', tk', rfl, hS', fun b o e => ?_⟩
          have b0 : b < z.heap.objs.size := Heap.lt_size e
          refine hm.heap b o (fun y => ?_) (Heap.get?_push_of_some _ (Heap.get?_push_of_some _ e))
          rcases List.mem_cons.mp y with y | y
          · exact absurd y (Nat.ne_of_lt b0)
          · have y2 := List.mem_singleton.mp y
            rw [Heap.size_push] at y2
            exact absurd b0 (by rw [y2]; exact Nat.not_lt_of_le (Nat.le_succ _))
      · cases r₂ with
        | error e => exact hr₂
        | ok fl₂ =>
          cases fl₂ with
          | ret r =>
            obtain ⟨rfl, h', tk, rfl, hS', hk'⟩ := hr₂
            repeat (any_goals (first | assumption | wp_step))
            exact q _ _ hS' hk'
          | _ => exact hr₂.elim
    | _ => exact hr.elim
/-! ### sorted -/
theorem perm_len : ∀ {l ks : List Str}, l.Nodup → (∀ k, k ∈ l → k ∈ ks) → ks.length = l.length → ks.Perm l
  | [], ks, _, _, e => by
    rw [List.length_nil] at e
    rw [List.length_eq_zero_iff.mp e]
  | x :: l, ks, nd, h, e => by
    obtain ⟨n1, n2⟩ := List.nodup_cons.mp nd
    have hx : x ∈ ks := h x (List.mem_cons_self ..)
    have p1 := List.perm_cons_erase hx
    have p2 := perm_len (l := l) (ks := ks.erase x) n2 (fun k hk => (List.mem_erase_of_ne (fun z : k = x => n1 (z ▸ hk))).mpr (h k (List.mem_cons_of_mem _ hk))) (by
      rw [List.length_erase_of_mem hx, e, List.length_cons]
      omega)
    exact p1.trans (p2.cons x)
theorem shape_of {e : Int × Value} {es : List (Int × Value)} (g : ElemsOf (strKind P w) es) (he : e ∈ es) : ∃ k t, e.2 = .str k t := by
  obtain ⟨⟨k, hk, _⟩, _⟩ := g e he
  obtain ⟨t, q⟩ := Value.isStrOf_shape hk
  exact ⟨k, t, q⟩
theorem list_strs : ∀ (vs : List Value), (∀ v ∈ vs, ∃ k t, v = Value.str k t) → ∃ ks, StrsAre vs ks ∧ ∀ k, (∃ t, Value.str k t ∈ vs) → k ∈ ks
  | [], _ => ⟨[], .nil, fun k ⟨t, h⟩ => by cases h⟩
  | v :: vs, h => by
    obtain ⟨k, t, rfl⟩ := h v (List.mem_cons_self ..)
    obtain ⟨ks, h1, h2⟩ := list_strs vs fun u hu => h u (List.mem_cons_of_mem _ hu)
    refine ⟨k :: ks, .cons k t h1, fun j ⟨u, hu⟩ => ?_⟩
    rcases List.mem_cons.mp hu with e | e
    · cases e
      exact List.mem_cons_self ..
    · exact List.mem_cons_of_mem _ (h2 j ⟨u, e⟩)
/-- sorted(s), s such a set -/
theorem sorted_setX {a : Addr} {l : List Str} {Q : Value → Shared → Prop} (R : SetX P w a l z.heap) (nd : l.Nodup) (hh : A.handled = none) (h64 : l.length < 64)
    (q : ∀ z' p (out : Array Value) (c : Nat) (ks : List Str), (∀ b o, z.heap.get? b = some o → z'.heap.get? b = some o) → z'.gens = z.gens → z'.os = z.os → z.heap.objs.size ≤ p →
      z'.heap.get? p = some (seqObj "list" out c) → StrsAre out.toList ks → ks.Perm l → sortedS ks = true → Q (.ref p) z') :
    wpAny (model P w) A (call (.builtin "sorted") [.ref a]) Q E z := by
  obtain ⟨D, ho, F, r, hl⟩ := R
  have hb : D.1.size < scanBound := by rw [F.sz]; unfold scanBound; omega
  refine Calls.call_function_entry kind_sorted plain_sorted entry_sorted (args_sorted1 _) ?_
  unfold Builtin.«sorted»
  refine wpAny_bind (m := checkCount "sorted" 1 1 _) (wpAny_pure ?_)
  refine wpAny_bind (collect_set (A := A.in1) hh ⟨_, ho, rfl, rfl⟩ F.fit hb r hl fun s1 vs k1 hz g1 o1 pm => ?_)
  have hvl : vs.length = l.length := by rw [pm.length_eq, List.length_map, Array.length_toList]; exact F.sz
  obtain ⟨ks, hS, hin⟩ := list_strs vs fun v hv => by
    obtain ⟨e, he, y⟩ := List.mem_map.mp (pm.mem_iff.mp hv)
    rw [← y]
    exact shape_of F.el he
  have pk : ks.Perm l := perm_len nd (fun k hk => by
    obtain ⟨e, he, y⟩ := (F.mem k).mp hk
    obtain ⟨t, et⟩ := Value.isStrOf_shape y
    refine hin k ⟨t, pm.mem_iff.mpr ?_⟩
    rw [← et]
    exact List.mem_map_of_mem he) (by rw [← StrsAre.len_eq hS]; exact hvl)
  refine wpAny_bind (wpAny_newList ?_ (by rw [hvl, sizeLine_eq]; omega))
  have hoL : (s1.heap.push (seqObj "list" vs.toArray 0)).get? s1.heap.objs.size = some (seqObj "list" vs.toArray 0) := Heap.get?_push_size _ rfl
  refine wpAny_bind (wpAny_holding (wpAny_call_entry slot_list_sort ⟨_, hoL, rfl⟩ entry_list_sort (list_sort_treeK strKind_oneLt hoL hS.keysOf (fun v₁ v₂ rest e => keyKind_strs (by rw [← e]; exact hS)) (by rw [hvl]; exact h64) fun st' hp hs => ⟨_, rfl, ?_⟩) (args_list_sort _)))
  obtain ⟨ss', a1, a2, a3⟩ := sorted_out_str hS hp hs
  obtain ⟨c, hc⟩ := sortedHeap_at (vs := vs) (out := (arrOf st').map (·.2)) hoL
  refine wpAny_pure ⟨_, rfl, q _ s1.heap.objs.size _ c ss' (fun b u e => ?_) g1 o1 hz hc a1 (a2.trans pk) a3⟩
  have y := k1 b u e
  have lt := Heap.lt_size y
  show (sortedHeap (s1.heap.push (seqObj "list" vs.toArray 0)) s1.heap.objs.size vs _).get? b = some u
  rw [sortedHeap_old (Nat.ne_of_lt lt) (by rw [size_push']; exact Nat.lt_succ_of_lt lt)]
  exact Heap.get?_push_of_some _ y
end
/-! ### sorted(set(e)), as one expression -/
def tSortSet (K : PySem.W.Frag) (ta : TE) : TE := fun σ H Q => ta σ H fun x H1 => ∃ t xs, x = V.ref t ∧ SqT K H1 t (xs.map V.str) ∧ xs.length < 64 ∧ ∀ (ys : List Str) (p : Addr), ys.Perm (uniq xs) → sortedS ys = true → H1 p = none → Q (.ref p) (upd H1 p (.lst (ys.map V.str)))
section
variable {X : Cx} {cm : Cm}
theorem pe_sortSet {a : Expr} {ta : TE} {p p2 q pos : Pos} (hc : X.calm = true) (hg : Gl X "sorted") (hm : X.mg "sorted" = none) (hg2 : Gl X "set") (hm2 : X.mg "set" = none) (ha : PE X a ta)
    (na : starEach [a] X.env = (false, eval a X.env) :: starEach [] X.env := by rfl) : PE X (.Call (.Name "sorted" p) [.Call (.Name "set" p2) [a] [] q] [] pos) (tSortSet X.K ta) := by
  refine ⟨fun pins s σ H Q I h => ?_⟩
  refine Call_ (ld_blt I hg hm PyProof.Rows.boot_sorted ?_)
  refine PyProof.Rows.callWith_builtin1 (PyProof.Rows.args_cons ?_ rfl) rfl rfl
  refine Call_ (ld_blt I hg2 hm2 boot_set ?_)
  refine PyProof.Rows.callWith_type1 (PyProof.Rows.args_cons (thn (ha.run pins s σ H _ I h) fun v s1 ⟨x, H1, I1, r1, q1⟩ => PyProof.Rows.args_nil ?_) na) na rfl
  obtain ⟨t, xs, rfl, hs, h64, q1⟩ := q1
  cases r1
  obtain ⟨its, r, pl, hz⟩ := I1.tuple hs
  have hv : StrsAre its.toArray.toList xs := by simpa using r.strs
  refine call_set_texts xs (I1.ok.hd hc) pl hv (by unfold scanBound; omega) fun h' tk hS hk => ?_
  have I2 : Inv X pins σ H1 { s1 with heap := h', toks := tk } := I1.kept hk
  have hS2 : SetX X.prog X.w s1.heap.objs.size (uniq xs) ({ s1 with heap := h', toks := tk } : Shared).heap := hS
  generalize ({ s1 with heap := h', toks := tk } : Shared) = s2 at hS2 I2 ⊢
  refine PyProof.Rows.args_nil ?_
  refine sorted_setX hS2 (uniq_nd xs) (I2.ok.hd hc) (by have := uniq_len xs; omega) fun s' p out c ks k g o hp hgt hst pm so => ?_
  have hn : H1 p = none := I2.hok.fresh hp
  have hlen : (ks.map V.str).length ≤ sizeLine := by
    rw [List.length_map, pm.length_eq, sizeLine_eq]
    have := uniq_len xs
    omega
  have J : Inv X pins σ (upd H1 p (.lst (ks.map V.str))) { s2 with heap := s'.heap, gens := s'.gens, drawn := s'.drawn, toks := s'.toks } :=
    I2.call (ch := []) (Un.laid k hp hn) (I2.hok.laid k hp ⟨hlen, out.toList, c, vals_of_strs hst, hgt⟩) (by rw [g]; exact I2.bare) (fun _ y => nomatch y)
  have e : s' = { s2 with heap := s'.heap, gens := s'.gens, drawn := s'.drawn, toks := s'.toks } := by
    cases s'
    cases s2
    cases o
    rfl
  rw [e]
  exact ⟨.ref p, _, J, rfl, q1 ks p pm so hn⟩
/-- sorted(set(t)) -/
def mSortSet (fa : E D) : E D := fun en S => (fa en S).bind fun d S1 => match d with
  | .tup l => match strsOf l with
    | some xs => if xs.length < 64 then .ok (.lst ((srtS (uniq xs)).map D.str)) S1 else .bad
    | none => .bad
  | _ => .bad
theorem re_sortSet {e : Expr} {fe : E D} {p p2 q pos : Pos} (hc : X.calm = true) (hg : Gl X "sorted") (hm : X.mg "sorted" = none) (hg2 : Gl X "set") (hm2 : X.mg "set" = none) (he : RE cm X e fe)
    (na : starEach [e] X.env = (false, eval e X.env) :: starEach [] X.env := by rfl) : RE cm X (.Call (.Name "sorted" p) [.Call (.Name "set" p2) [e] [] q] [] pos) (mSortSet fe) := fun W tk m S H σ en Q C h => by
  refine wE_of (pe_sortSet hc hg hm hg2 hm2 pe_w na) (he W tk m S H σ en _ C (PQ.bind h fun d S1 x m1 H1 e1 A1 R1 r1 h1 => ?_))
  split at h1
  · rename_i l
    split at h1
    · rename_i xs ex
      split at h1
      · rename_i hz
        simp only [Rep] at r1
        obtain ⟨t, vs, rfl, hs, hv⟩ := r1
        have := reps_strs ex hv
        subst this
        refine ⟨t, xs, rfl, hs, hz, fun ys p hp hso hn => ?_⟩
        rw [srtS_eq hp hso]
        refine h1 _ _ _ (Adv.new hn) (R1.grow (grow_upd hn)) ?_
        simp only [Rep]
        exact ⟨p, _, rfl, upd_same, R1.free_new hn, reps_map (fun a => by simp only [Rep]) _⟩
      · exact h1.elim
    · exact h1.elim
  · exact h1.elim
end
end Mi

/-! MiK: t[::-1] of a tuple; dict(pairs) that is changed later. -/
namespace Mi
open PySem PySem.Spec PyProof.Rows L2
theorem fm_congr {α β : Type} {f g : α → Option β} : ∀ {l : List α}, (∀ m ∈ l, f m = g m) → l.filterMap f = l.filterMap g
  | [], _ => rfl
  | m :: l, h => by
    rw [List.filterMap_cons, List.filterMap_cons, h m (List.mem_cons_self ..), fm_congr fun k hk => h k (List.mem_cons_of_mem _ hk)]
theorem pick_rev (xs : Array Value) : ((List.range xs.size).filterMap fun (m : Nat) => xs[(((xs.size : Int) - 1) + (m : Int) * (-1)).toNat]?).toArray = xs.toList.reverse.toArray := by
  have e : ((List.range xs.size).filterMap fun (m : Nat) => xs[(((xs.size : Int) - 1) + (m : Int) * (-1)).toNat]?) = ((List.range xs.size).map fun k => xs.size - 1 - k).filterMap (xs[·]?) := by
    rw [List.filterMap_map]
    refine fm_congr fun m hm => ?_
    have := List.mem_range.mp hm
    show _ = xs[xs.size - 1 - m]?
    rw [show (((xs.size : Int) - 1) + (m : Int) * (-1)).toNat = xs.size - 1 - m by omega]
  rw [e, PySem.W.krv_range, List.filterMap_reverse, PySem.W.krv_all]
section
variable {prog : Program} {w : World} {A : Around} {E : Value → Shared → Prop} {z : Shared}
theorem applied_rev {sl : Addr} {vl vu vs : Value} {n : Nat} {Q : Int × Int × Nat → Shared → Prop} (hs : z.heap.IsSliceOf sl vl vu vs) (pl : IsPart vl none) (pu : IsPart vu none) (ps : IsPart vs (some (-1)))
    (q : Q ((n : Int) - 1, -1, n) z) : wpAny (model prog w) A (Builtin.Slice.sliceApplied (.ref sl) (pure (n : Int))) Q E z := by
  obtain ⟨os, hos, hcs, hds⟩ := id hs
  unfold Builtin.Slice.sliceApplied Builtin.Slice.sliceFields
  refine wpAny_bind <| wpAny_bind <| wpAny_field hos hds (x := vl) rfl <| wpAny_bind <| wpAny_field hos hds (x := vu) rfl <| wpAny_bind <| wpAny_field hos hds (x := vs) rfl <| wpAny_pure ?_
  refine wpAny_bind (HT.slicePart_ ps ?_)
  show wpAny _ _ (if ((-1 : Int) == 0) = true then _ else _) _ _ z
  rw [if_neg (by decide)]
  refine wpAny_bind <| HT.slicePart_ pl <| wpAny_bind <| HT.slicePart_ pu <| wpAny_bind <| wpAny_pure ?_
  show wpAny _ _ (match Builtin.Slice.sliceAdjust none none (-1) (n : Int) with | (lo, hi) => pure (lo, (-1 : Int), Builtin.Slice.slicePlaces lo hi (-1))) _ _ z
  have e : Builtin.Slice.sliceAdjust none none (-1) (n : Int) = ((n : Int) - 1, -1) := by
    unfold Builtin.Slice.sliceAdjust
    first | rfl | simp
  rw [e]
  show wpAny _ _ (pure ((n : Int) - 1, (-1 : Int), Builtin.Slice.slicePlaces ((n : Int) - 1) (-1) (-1))) _ _ z
  have e2 : Builtin.Slice.slicePlaces ((n : Int) - 1) (-1) (-1) = n := by
    unfold Builtin.Slice.slicePlaces
    have h1 : ¬ ((-1 : Int) > 0) := by decide
    simp only [h1, if_false]
    split <;> first | omega | (simp; done) | (simp; omega)
  rw [e2]
  exact wpAny_pure q
theorem getItem_tuple_rev {t sl : Addr} {its : Array Value} {vl vu vs : Value} {Q : Value → Shared → Prop} (ht : IsTup z.heap t its) (hs : z.heap.IsSliceOf sl vl vu vs) (pl : IsPart vl none) (pu : IsPart vu none) (ps : IsPart vs (some (-1)))
    (q : Q (.ref z.heap.objs.size) { z with heap := z.heap.push { cls := .type "tuple", data := .seq its.toList.reverse.toArray } }) (hsz : its.size ≤ sizeLine) : wpAny (model prog w) A (getItem (.ref t) (.ref sl)) Q E z := by
  have hk : sizeOk (.seq its.toList.reverse.toArray) := by
    show its.toList.reverse.toArray.size ≤ sizeLine
    rw [List.size_toArray, List.length_reverse, Array.length_toList]
    exact hsz
  obtain ⟨os, hos, hcs, hds⟩ := id hs
  have hT : z.TypeIs (.ref sl) "slice" := ⟨os, hos, hcs⟩
  unfold getItem
  try with_reducible refine wpAny_holding ?_
  first | refine wpAny_bind (wpAny_pure ?_) | skip
  refine wpAny_bind <| wpAny_sequenceKey ht.typeIs (by decide) ?_
  refine wpAny_bind <| wpAny_callSpecial?_slot (name := Str.ofString "__getitem__") ht.typeIs PyProof.Rows.slot_tuple_getitem <| wpAny_call_entry PyProof.Rows.slot_tuple_getitem ht.typeIs entry_tuple_getitem ?_ (args_tuple_getitem _ _)
  show wpAny _ _ (Builtin.Tuple.tupleItemsOf (.ref t) >>= _) _ _ z
  refine wpAny_bind <| tupleItemsOf_ ht <| wpAny_bind <| wpAny_typeOf hT ?_
  rw [if_pos (by decide)]
  refine wpAny_bind (applied_rev hs pl pu ps ?_)
  have hno : ¬ ((((its.size : Int) - 1) == 0 && (-1 : Int) == 1 && its.size == its.size) = true) := by simp
  show wpAny _ _ (if (((its.size : Int) - 1) == 0 && (-1 : Int) == 1 && its.size == its.size) = true then _ else _) _ _ z
  rw [if_neg hno, pick_rev]
  first
    | exact wpAny_bind (m := Builtin.Tuple.tupleExact _) (wpAny_newObj_type (wpAny_pure ⟨_, rfl, wpAny_pure q⟩) hk)
    | exact wpAny_bind (m := Builtin.Tuple.tupleExact _) (wpAny_newObj_type (wpAny_bind (wpAny_pure (wpAny_pure ⟨_, rfl, wpAny_pure q⟩))) hk)
    | exact wpAny_bind (wpAny_bind (m := Builtin.Tuple.tupleExact _) (wpAny_newObj_type (wpAny_pure (wpAny_pure ⟨_, rfl, wpAny_pure q⟩)) hk))
    | exact wpAny_bind (wpAny_bind (m := Builtin.Tuple.tupleExact _) (wpAny_newObj_type (wpAny_pure ⟨_, rfl, wpAny_pure q⟩) hk))
end
section
variable {X : Cx}
/-- t[::-1] -/
def tRevT (K : PySem.W.Frag) (te : TE) : TE := fun σ H Q => te σ H fun x H1 => ∃ a xs, x = .ref a ∧ SqT K H1 a xs ∧ ∀ p, H1 p = none → Q (.ref p) (upd H1 p (.tup xs.reverse))
theorem pe_revT {e : Expr} {te : TE} {k : Nat} {p1 p2 p3 pos : Pos} (he : PE X e te) : PE X (.Subscript e (.Slice none none (some (.UnaryOp .USub (.Constant (.int 1) k p1) p2)) p3) pos) (tRevT X.K te) := by
  refine ⟨fun pins s σ H Q I h => ?_⟩
  refine Subscript_ (thn (he.run pins s σ H _ I h) fun v s1 ⟨x, H1, I1, r1, a, xs, ex, hx, q⟩ => ?_)
  subst ex
  cases r1
  have hst : PO X (some (.UnaryOp .USub (.Constant (.int 1) k p1) p2)) (tPart (tUn (rU fun i => .int (-i)) (tC (.int 1)))) := po_some (pe_un un_neg pe_int)
  refine wpAny_Slice (thn (po_none.run pins s1 σ H1 (fun o H2 => o = none ∧ H2 = H1) I1 ⟨rfl, rfl⟩) fun vl s2 ⟨l, H2, I2, pl, el, e2⟩ => ?_)
  subst el e2
  refine thn (po_none.run pins s2 σ H2 (fun o H3 => o = none ∧ H3 = H2) I2 ⟨rfl, rfl⟩) fun vu s3 ⟨u, H3, I3, pu, eu, e3⟩ => ?_
  subst eu e3
  refine thn (hst.run pins s3 σ H3 (fun o H4 => o = some (-1) ∧ H4 = H3) I3 ⟨1, rfl, -1, rfl, rfl, rfl⟩) fun vs s4 ⟨o, H4, I4, ps, eo, e4⟩ => ?_
  subst eo e4
  have I5 : Inv X pins σ H4 { s4 with heap := s4.heap.push { cls := .type "slice", data := .fields #[vl, vu, vs] } } := I4.kept (t' := s4.toks) fun b ob y => Heap.get?_push_of_some _ y
  obtain ⟨its, r, ht, hz⟩ := I5.tuple hx
  have hl := r.length
  show wpAny (model X.prog X.w) X.A (subscriptTail e (.Slice none none (some (.UnaryOp .USub (.Constant (.int 1) k p1) p2)) p3) (.ref a) (.ref s4.heap.objs.size)) (EP X pins σ Q) X.xe { s4 with heap := s4.heap.push { cls := .type "slice", data := .fields #[vl, vu, vs] } }
  refine tail_any (ops := [.ref a, .ref s4.heap.objs.size]) ht.typeIs PyProof.Rows.slot_tuple_getitem.lookup ?_ (by with_unfolding_all rfl)
  refine getItem_tuple_rev ht (Heap.IsSliceOf.new _ vl vu vs) pl pu ps ?_ (by rw [List.size_toArray]; omega)
  refine ⟨.ref _, _, I5.laid (t' := s4.toks) (o := .tup xs.reverse) (fun b ob y => Heap.get?_push_of_some _ y) (Nat.le_refl _) ?_, rfl, q _ (I5.hok.fresh (Nat.le_refl _))⟩
  exact ⟨by rw [List.length_reverse]; exact hz, _, r.reverse, IsTup.new _ _⟩
end
/-- t[::-1] -/
def mRevT (fe : E D) : E D := fun en S => (fe en S).bind fun d S1 => match d with
  | .tup l => .ok (.tup l.reverse) S1
  | _ => .bad
theorem Reps.rev {cm : Ct} {m : Am} {S : So} {H : Hp} : ∀ {ds : List D} {vs : List V}, Reps cm m S H ds vs → Reps cm m S H ds.reverse vs.reverse
  | [], vs, r => by
    simp only [Reps] at r
    subst r
    exact Reps.nil
  | d :: ds, vs, r => by
    simp only [Reps] at r
    obtain ⟨v, r', rfl, h1, h2⟩ := r
    rw [List.reverse_cons, List.reverse_cons]
    exact (Reps.rev h2).append (Reps.cons h1 Reps.nil)
section
variable {X : Cx} {cm : Cm}
theorem re_revT {e : Expr} {fe : E D} {k : Nat} {p1 p2 p3 pos : Pos} (he : RE cm X e fe) : RE cm X (.Subscript e (.Slice none none (some (.UnaryOp .USub (.Constant (.int 1) k p1) p2)) p3) pos) (mRevT fe) := fun W tk m S H σ en Q C h => by
  refine wE_of (pe_revT pe_w) (he W tk m S H σ en _ C (PQ.bind h fun d S1 x m1 H1 e1 A1 R1 r1 h1 => ?_))
  split at h1
  · simp only [Rep] at r1
    obtain ⟨a, vs, rfl, hs, hv⟩ := r1
    refine ⟨a, vs, rfl, hs, fun p hn => h1 _ _ _ (Adv.new hn) (R1.grow (grow_upd hn)) ?_⟩
    simp only [Rep]
    exact ⟨p, _, rfl, .inl (.inl upd_same), Reps.adv (Adv.new hn) _ _ (Reps.rev hv)⟩
  · exact h1.elim
/-- dict(pairs) that is changed later -/
def bDictN : OpL := fun l S => match l with
  | [d] => match lstOf d S with
    | some l => match pairsD l with
      | some kds => some (.ref S.length, S ++ [some (.dct (mergeKD ([], []) kds).1 (mergeKD ([], []) kds).2)])
      | none => none
    | none => none
  | _ => none
theorem cd_dictN (hc : X.calm = true) : CallD cm X (.type "dict") bDictN := fun m S H ds vs Q R r h => by
  unfold bDictN at h
  split at h
  · split at h
    · rename_i l el
      split at h
      · rename_i kds ek
        obtain ⟨x, rfl, rx⟩ := reps1 r
        obtain ⟨a, ws, rfl, h1, h2⟩ := lst_at R rx el
        obtain ⟨ps, kvs, g1, g2, g3, g4⟩ := pairsD_v ek h2
        subst g1
        refine rW_of (call_dictP hc) ⟨a, ps, kvs, rfl, .inl (.inl h1), g2, fun p hp => ?_⟩
        obtain ⟨m1', m2'⟩ := mergeKD_v (kvs0 := []) (ks := []) (l := []) g3 g4 rfl Reps.nil List.nodup_nil
        exact h.cell R hp fun m' S' H' A e => ⟨_, e, m1', Reps.adv A _ _ m2'⟩
      · exact h.no.elim
    · exact h.no.elim
  · exact h.no.elim
end
end Mi

namespace K01
open PySem PySem.Spec PyProof.Rows L2 Mi
/-- the classes below x -/
def isSub (x c : Str) : Bool := match ([(("PushError" : Str), (["PushError", "InvalidTape", "InvalidOperation"] : List Str)), (("InvalidTape" : Str), (["InvalidTape"] : List Str)), (("InvalidOperation" : Str), (["InvalidOperation"] : List Str)), (("UnknownIndex" : Str), (["UnknownIndex"] : List Str)), (("InvalidNumber" : Str), (["InvalidNumber"] : List Str))] : List (Str × List Str)).lookup x with
  | some l => l.contains c
  | none => false
/-- the arguments of Tape as they come to __init__ -/
def G4 (ds _ : List D) : List D := ds ++ [.non]
def G3 (ds _ : List D) : List D := ds ++ [.tup [], .non]
noncomputable def m_law_copied : Nat → Fm
  | 0 => fBad
  | n + 1 => bodyM 3 1 (sSeq (sIf (tTru (mIs .dct (mV 0))) (sRet (mB bDict (aCons (mComp (iKeysV (mV 0)) (gN 2) tT (mTup (aCons (mV 2) (aCons (mCall (m_law_copied n) (aCons (m2 dIx (mV 0) (mV 2)) aNil)) aNil))) [2]) aNil))) sNil)
    (sSeq (sIf (tTru (mIs .lst (mV 0))) (sRet (mComp (iSeq (mV 0)) (gN 1) tT (mCall (m_law_copied n) (aCons (mV 1) aNil)) [1])) sNil)
    (sSeq (sIf (tTru (mIs .tup (mV 0))) (sRet (mB bTup (aCons (mComp (iSeq (mV 0)) (gN 1) tT (mCall (m_law_copied n) (aCons (mV 1) aNil)) [1]) aNil))) sNil)
    (sRet (mV 0)))))
noncomputable def m_law_throw : Fm := bodyM 6 2 (sSeq (sIf (tB' (m2 dGt (m2 dIx (mV 0) (mC (.int 0))) (mC (.int 0)))) (sSeq (sSet 5 (m2 dMod (mB bInt (aCons (m2 dIx (mV 0) (mC (.int 0))) aNil)) (mV 1)))
    (sSeq (sPut (m2 dDiv (m2 dIx (mV 0) (mC (.int 0))) (mV 1)) (mV 0) (mC (.int 0)))
    (sRet (mV 5)))) sNil)
    (sSeq (sPut (m2 dAdd (m2 dIx (mV 0) (mC (.int 2))) (mC (.int 1))) (mV 0) (mC (.int 2)))
    (sSeq (sSet 2 (m2 dMod (mB bInt (aCons (m2 dAdd (m2 dIx (mV 0) (mC (.int 1))) (m2 dMul (mC (.int 1000003)) (m2 dIx (mV 0) (mC (.int 2))))) aNil)) (mC (.int 2305843009213693951))))
    (sSeq (sSet 3 (m2 dMod (mB bInt (aCons (m2 dAdd (m2 dMul (mV 2) (mV 2)) (m2 dMul (mC (.int 12347)) (m2 dIx (mV 0) (mC (.int 2))))) aNil)) (mC (.int 2305843009213693921))))
    (sSeq (sSet 4 (m2 dMod (mB bInt (aCons (m2 dAdd (m2 dMul (mV 3) (mV 2)) (mC (.int 777767777))) aNil)) (mC (.int 2305843009213693951))))
    (sRet (m2 dMod (mB bInt (aCons (m2 dDiv (mV 4) (mC (.int 4096))) aNil)) (mV 1))))))))
noncomputable def m_law_letters : Fm := bodyM 5 2 (sSeq (sSet 2 (mB bLstS (aCons (mC (.str ("abcdefghijklmnopqrstuvwxyz" : Str))) aNil)))
    (sSeq (sIf (tAnd' (tB' (m2 dLe (mV 1) (mC (.int 4)))) (tB' (m2 dGt (mCall m_law_throw (aCons (mV 0) (aCons (mC (.int 3)) aNil))) (mC (.int 0))))) (sSet 2 (mB bLstS (aCons (mC (.str ("abcd" : Str))) aNil))) sNil)
    (sSeq (sSet 3 (m2 dAdd (mC (.int 1)) (mCall m_law_throw (aCons (mV 0) (aCons (mV 1) aNil)))))
    (sRet (mB bTup (aCons (mB bSorted (aCons (mComp (iRg1 (aCons (mV 3) aNil)) (gN 4) tT (mM "list" mPopAt (mV 2) (aCons (mCall m_law_throw (aCons (mV 0) (aCons (mB bLen (aCons (mV 2) aNil)) aNil))) aNil)) [4]) aNil)) aNil))))))
noncomputable def m_law_pick : Fm := bodyM 2 2 (sRet (m2 dIx (mV 1) (mCall m_law_throw (aCons (mV 0) (aCons (mB bLen (aCons (mV 1) aNil)) aNil)))))
noncomputable def m_law_words : Fm := bodyM 1 0 (sSeq (sSet 0 (mLst (aC ((["after", "again", "at", "busy", "changes", "else", "every", "first", "fold", "it", "late", "never", "one"] : List Str).map D.str))))
    (sRet (m2 dAdd (mV 0) (mLst (aC ((["only", "pairs", "pick", "quiet", "source", "spaced", "switch", "then", "told", "until"] : List Str).map D.str))))))
noncomputable def m_law_name : Fm := bodyM 8 2 (sSeq (sSet 2 (mC (.str ("abcdefghijklmnopqrstuvwxyz" : Str))))
    (sSeq (sSet 3 (mCall m_law_pick (aCons (mV 0) (aCons (mLst (aCons (mV 2) (aCons (mC (.str ("ab" : Str))) (aCons (mC (.str ("st" : Str))) aNil)))) aNil))))
    (sSeq (sSet 4 (mM "str" mJoin (mC (.str ("" : Str))) (aCons (mComp (iRg1 (aCons (m2 dAdd (mC (.int 1)) (mCall m_law_throw (aCons (mV 0) (aCons (mC (.int 8)) aNil)))) aNil)) (gN 6) tT (mCall m_law_pick (aCons (mV 0) (aCons (mV 3) aNil))) [6]) aNil)))
    (sSeq (sFor (iSeq (m2 dAdd (mLst (aCons (mV 4) aNil)) (mComp (iTxt (mV 2)) (gN 7) tT (m2 dAdd (mSl dSl (mV 4) pNo (pSo (mC (.int 7)))) (mV 7)) [7]))) (gN 5) (sIf (tAnd' (tB' (m2 dNotIn (mV 5) (mV 1))) (tB' (m2 dNotIn (mV 5) (mCall m_law_words aNil)))) (sRet (mV 5)) sNil))
    (sRet (mC (.str ("zzz" : Str))))))))
noncomputable def m_law_layout : Fm := bodyM 6 3 (sSeq (sSet 3 mDctN)
    (sSeq (sFor (iRg1 (aCons (m2 dAdd (mC (.int 1)) (mCall m_law_throw (aCons (mV 0) (aCons (mV 1) aNil)))) aNil)) (gN 4) (sSeq (sSet 5 (mCall m_law_name (aCons (mV 0) (aCons (mB bSorted (aCons (mV 3) aNil)) aNil))))
    (sPut (mCall m_law_letters (aCons (mV 0) (aCons (mV 2) aNil))) (mV 3) (mV 5))))
    (sRet (mFrz (mV 3)))))
noncomputable def m_law_letter : Fm := bodyM 1 1 (sRet (mCall m_law_pick (aCons (mV 0) (aCons (mCall m_law_pick (aCons (mV 0) (aCons (mLst (aCons (mC (.str ("ab" : Str))) (aCons (mC (.str ("abc" : Str))) (aCons (mC (.str ("abcdefghijklmnopqrstuvwxyz" : Str))) aNil)))) aNil))) aNil))))
noncomputable def m_is_integer : Fm := bodyM 1 1 (sRet (mAnd (mIs .int (mV 0)) (mAnd (mNot (mIs .bl (mV 0))) (mChain dLe dLe (m1 dNeg (mC (.int 999999999999999999999999999999999999999999999999999999999999))) (mV 0) (mC (.int 999999999999999999999999999999999999999999999999999999999999))))))
noncomputable def m_is_letter : Fm := bodyM 1 1 (sRet (mAnd (mIs .str (mV 0)) (mAnd (m2 dEq (mB bLen (aCons (mV 0) aNil)) (mC (.int 1))) (m2 dIn (mV 0) (mC (.str ("abcdefghijklmnopqrstuvwxyz" : Str)))))))
noncomputable def m_is_name : Fm := bodyM 2 1 (sSeq (sIf (tOr' (tNot' (tTru (mIs .str (mV 0)))) (tNot' (tB' (mChain dLe dLe (mC (.int 1)) (mB bLen (aCons (mV 0) aNil)) (mC (.int 8)))))) (sRet (mC (.bl false))) sNil)
    (sSeq (sFor (iTxt (mV 0)) (gN 1) (sIf (tB' (m2 dNotIn (mV 1) (mC (.str ("abcdefghijklmnopqrstuvwxyz" : Str))))) (sRet (mC (.bl false))) sNil))
    (sRet (m2 dNotIn (mV 0) (mC (.tup ((["after", "again", "at", "busy", "changes", "else", "every", "first", "fold", "it", "late", "never", "one", "only", "pairs", "pick", "quiet", "source", "spaced", "switch", "then", "told", "until"] : List Str).map D.str)))))))
noncomputable def m_is_time : Fm := bodyM 1 1 (sRet (mAnd (mCall m_is_integer (aCons (mV 0) aNil)) (m2 dGe (mV 0) (mC (.int 0)))))
noncomputable def m_is_event : Fm := bodyM 1 1 (sSeq (sIf (tOr' (tNot' (tTru (mIs .tup (mV 0)))) (tB' (m2 dNe (mB bLen (aCons (mV 0) aNil)) (mC (.int 4))))) (sRet (mC (.bl false))) sNil)
    (sRet (mAnd (mCall m_is_time (aCons (m2 dIx (mV 0) (mC (.int 0))) aNil)) (mAnd (mCall m_is_name (aCons (m2 dIx (mV 0) (mC (.int 1))) aNil)) (mAnd (mCall m_is_letter (aCons (m2 dIx (mV 0) (mC (.int 2))) aNil)) (mCall m_is_integer (aCons (m2 dIx (mV 0) (mC (.int 3))) aNil)))))))
noncomputable def m_are_events : Fm := bodyM 3 1 (sSeq (sIf (tOr' (tNot' (tTru (mIs .tup (mV 0)))) (tNot' (tTru (mB bAll (aCons (mComp (iSeq (mV 0)) (gN 1) tT (mCall m_is_event (aCons (mV 1) aNil)) [1]) aNil))))) (sRet (mC (.bl false))) sNil)
    (sSeq (sFor (iZipT (aCons (mV 0) (aCons (mSl dSl (mV 0) (pSo (mC (.int 1))) pNo) aNil))) (gT 2 (gsCons (gN 1) (gsCons (gN 2) gsNil))) (sIf (tB' (m2 dGt (m2 dIx (mV 1) (mC (.int 0))) (m2 dIx (mV 2) (mC (.int 0))))) (sRet (mC (.bl false))) sNil))
    (sRet (mC (.bl true)))))
noncomputable def m_last_time : Fm := bodyM 1 1 (sRet (mIf (tTru (mV 0)) (m2 dIx (m2 dIx (mV 0) (m1 dNeg (mC (.int 1)))) (mC (.int 0))) (mC (.int 0))))
noncomputable def m_Tape_init : Fm := bodyM 3 3 (sSeq (sIf (tNot' (tTru (mCall m_are_events (aCons (mV 1) aNil)))) (sRs1 ("InvalidTape" : Str)) sNil)
    (sSeq (sIf (tB' (m2 dIsN (mV 2) (mC .non))) (sSet 2 (mCall m_last_time (aCons (mV 1) aNil))) sNil)
    (sSeq (sIf (tOr' (tNot' (tTru (mCall m_is_integer (aCons (mV 2) aNil)))) (tB' (m2 dLt (mV 2) (mCall m_last_time (aCons (mV 1) aNil))))) (sRs1 ("InvalidTape" : Str)) sNil)
    (sSeq (sFput ("own_events" : Str) (mV 1) (mV 0))
    (sFput ("own_last" : Str) (mV 2) (mV 0))))))
noncomputable def m_law_odd : Fm := bodyM 3 1 (sSeq (sSet 1 (mCall m_law_pick (aCons (mV 0) (aCons (mLst (aCons (m2 dPow (mC (.int 10)) (mC (.int 60))) (aCons (m2 dSub (m2 dPow (mC (.int 10)) (mC (.int 60))) (mC (.int 1))) (aCons (mC (.int 0)) (aCons (mC (.int 1)) (aCons (m2 dMul (m2 dPow (mC (.int 10)) (mC (.int 60))) (m2 dPow (mC (.int 10)) (mC (.int 39)))) aNil)))))) aNil))))
    (sSeq (sSet 2 (mLst (aCons (mC .non) (aCons (mC (.bl true)) (aCons (mC (.bl false)) (aCons (mV 1) (aCons (m1 dNeg (mV 1)) (aCons (mC (.str ("" : Str))) (aCons (mC (.str ("end" : Str))) (aCons (mC (.str ("A" : Str))) (aCons (mC (.str ("a1" : Str))) (aCons (mC (.str ("nine letter" : Str))) (aCons (mC (.str ("longnames" : Str))) (aCons (mTup aNil) (aCons (mLst aNil) (aCons mDct0 (aCons (mTup (aCons (mC (.str ("a" : Str))) aNil)) aNil)))))))))))))))))
    (sSeq (sSet 2 (m2 dAdd (mV 2) (mLst (aCons (mLst (aCons (mC (.str ("a" : Str))) aNil)) (aCons (mDct [((mC (.str ("a" : Str))), (mC (.str ("b" : Str))))]) (aCons (mDct [((mC (.str ("s" : Str))), (mTup (aCons (mC (.str ("a" : Str))) (aCons (mC (.str ("b" : Str))) aNil))))]) (aCons (mTup (aCons (mC .non) aNil)) (aCons (mTup (aCons (mC (.int 0)) (aCons (mC (.str ("s" : Str))) (aCons (mC (.str ("a" : Str))) (aCons (mC (.int 1)) aNil))))) (aCons (mTup (aCons (mC (.str ("a" : Str))) (aCons (mTup aNil) aNil))) (aCons (mTup (aCons (mC (.str ("end" : Str))) aNil)) (aCons (mC (.str ("told" : Str))) aNil)))))))))))
    (sRet (mCall m_law_pick (aCons (mV 0) (aCons (m2 dAdd (mV 2) (mLst (aCons (mCall m_law_throw (aCons (mV 0) (aCons (m2 dPow (mC (.int 10)) (mC (.int 61))) aNil))) (aCons (mMake "Tape" m_Tape_init G3 0 0 aNil aNil) (aCons (mMake "Tape" m_Tape_init G4 1 0 (aCons (mTup (aCons (mTup (aCons (mC (.int 2)) (aCons (mC (.str ("s" : Str))) (aCons (mC (.str ("a" : Str))) (aCons (mC (.int 1)) aNil))))) aNil)) aNil) aNil) aNil))))) aNil)))))))
noncomputable def m_law_value : Fm := bodyM 2 1 (sSeq (sSet 1 (mCall m_law_throw (aCons (mV 0) (aCons (mC (.int 8)) aNil))))
    (sSeq (sIf (tB' (m2 dLt (mV 1) (mC (.int 5)))) (sRet (mCall m_law_throw (aCons (mV 0) (aCons (mC (.int 3)) aNil)))) sNil)
    (sSeq (sIf (tB' (m2 dEq (mV 1) (mC (.int 5)))) (sRet (m2 dSub (m1 dNeg (mC (.int 1))) (mCall m_law_throw (aCons (mV 0) (aCons (mC (.int 3)) aNil))))) sNil)
    (sRet (m2 dMul (mCall m_law_throw (aCons (mV 0) (aCons (m2 dPow (mC (.int 10)) (mC (.int 60))) aNil))) (m2 dSub (mC (.int 13)) (m2 dMul (mC (.int 2)) (mV 1))))))))
noncomputable def m_law_good : Fm := bodyM 6 2 (sSeq (sIf (tB' (m2 dLt (mV 1) (mC (.int 2)))) (sRet (mCall m_law_pick (aCons (mV 0) (aCons (mLst (aCons (mCall m_law_letter (aCons (mV 0) aNil)) (aCons (mCall m_law_name (aCons (mV 0) (aCons (mLst aNil) aNil))) (aCons (mC (.str ("end" : Str))) (aCons (mCall m_law_pick (aCons (mV 0) (aCons (mCall m_law_words aNil) aNil))) aNil))))) aNil)))) sNil)
    (sSeq (sIf (tB' (m2 dEq (mV 1) (mC (.int 2)))) (sRet (mCall m_law_layout (aCons (mV 0) (aCons (m2 dAdd (mC (.int 4)) (mB bInt (aCons (m2 dEq (mCall m_law_throw (aCons (mV 0) (aCons (mC (.int 4)) aNil))) (mC (.int 0))) aNil))) (aCons (m2 dAdd (mC (.int 4)) (mB bInt (aCons (m2 dEq (mCall m_law_throw (aCons (mV 0) (aCons (mC (.int 8)) aNil))) (mC (.int 0))) aNil))) aNil))))) sNil)
    (sSeq (sIf (tB' (m2 dEq (mV 1) (mC (.int 3)))) (sRet (mTup (aCons (mCall m_law_throw (aCons (mV 0) (aCons (m2 dPow (mC (.int 10)) (mC (.int 60))) aNil))) (aCons (mCall m_law_name (aCons (mV 0) (aCons (mLst aNil) aNil))) (aCons (mCall m_law_letter (aCons (mV 0) aNil)) (aCons (mCall m_law_value (aCons (mV 0) aNil)) aNil)))))) sNil)
    (sSeq (sIf (tB' (m2 dEq (mV 1) (mC (.int 6)))) (sRet (mCall m_law_odd (aCons (mV 0) aNil))) sNil)
    (sSeq (sSet 2 (mLstN aNil))
    (sSeq (sFor (iRg1 (aCons (m2 dAdd (mC (.int 1)) (mCall m_law_throw (aCons (mV 0) (aCons (mCall m_law_pick (aCons (mV 0) (aCons (mLst (aCons (mC (.int 3)) (aCons (mC (.int 3)) (aCons (mC (.int 3)) (aCons (mC (.int 20)) aNil))))) aNil))) aNil)))) aNil)) (gN 3) (sSeq (sSet 4 (mB bTup (aCons (mComp (iRg1 (aCons (mCall m_law_throw (aCons (mV 0) (aCons (mC (.int 6)) aNil))) aNil)) (gN 5) tT (mCall m_law_value (aCons (mV 0) aNil)) [5]) aNil)))
    (sEx (mM "list" mApp (mV 2) (aCons (mTup (aCons (mCall m_law_letter (aCons (mV 0) aNil)) (aCons (mV 4) aNil))) aNil)))))
    (sRet (mIf (tB' (m2 dEq (mV 1) (mC (.int 4)))) (m2 dIx (mV 2) (mC (.int 0))) (mB bTup (aCons (m2 dAdd (mV 2) (m2 dMul (mLst (aCons (mC (.str ("end" : Str))) aNil)) (mCall m_law_throw (aCons (mV 0) (aCons (mC (.int 2)) aNil))))) aNil))))))))))
noncomputable def m_law_is_integer : Fm := bodyM 1 1 (sRet (mAnd (mIs .int (mV 0)) (mAnd (mNot (mIs .bl (mV 0))) (m2 dLt (mB bAbs (aCons (mV 0) aNil)) (m2 dPow (mC (.int 10)) (mC (.int 60)))))))
noncomputable def m_law_is_letter : Fm := bodyM 1 1 (sRet (mAnd (mIs .str (mV 0)) (mAnd (m2 dEq (mB bLen (aCons (mV 0) aNil)) (mC (.int 1))) (mAnd (m2 dLe (mC (.str ("a" : Str))) (mV 0)) (m2 dLe (mV 0) (mC (.str ("z" : Str))))))))
noncomputable def m_law_is_name : Fm := bodyM 2 1 (sSeq (sIf (tOr' (tNot' (tTru (mIs .str (mV 0)))) (tOr' (tB' (m2 dEq (mB bLen (aCons (mV 0) aNil)) (mC (.int 0)))) (tOr' (tB' (m2 dGt (mB bLen (aCons (mV 0) aNil)) (mC (.int 8)))) (tB' (m2 dIn (mV 0) (mCall m_law_words aNil)))))) (sRet (mC (.bl false))) sNil)
    (sRet (m2 dEq (mB bLen (aCons (mComp (iTxt (mV 0)) (gN 1) (tNot' (tTru (mCall m_law_is_letter (aCons (mV 1) aNil)))) (mV 1) [1]) aNil)) (mC (.int 0)))))
noncomputable def m_law_is_event : Fm := bodyM 1 1 (sSeq (sIf (tOr' (tNot' (tTru (mIs .tup (mV 0)))) (tOr' (tB' (m2 dNe (mB bLen (aCons (mV 0) aNil)) (mC (.int 4)))) (tOr' (tNot' (tTru (mCall m_law_is_integer (aCons (m2 dIx (mV 0) (mC (.int 0))) aNil)))) (tB' (m2 dLt (m2 dIx (mV 0) (mC (.int 0))) (mC (.int 0))))))) (sRet (mC (.bl false))) sNil)
    (sRet (mAnd (mCall m_law_is_name (aCons (m2 dIx (mV 0) (mC (.int 1))) aNil)) (mAnd (mCall m_law_is_letter (aCons (m2 dIx (mV 0) (mC (.int 2))) aNil)) (mCall m_law_is_integer (aCons (m2 dIx (mV 0) (mC (.int 3))) aNil))))))
noncomputable def m_law_is_layout : Fm := bodyM 4 1 (sSeq (sIf (tOr' (tNot' (tTru (mIs .dct (mV 0)))) (tOr' (tB' (m2 dEq (mB bLen (aCons (mV 0) aNil)) (mC (.int 0)))) (tB' (m2 dGt (mB bLen (aCons (mV 0) aNil)) (mC (.int 4)))))) (sRet (mC (.bl false))) sNil)
    (sSeq (sFor (iKeysV (mV 0)) (gN 1) (sSeq (sSet 2 (m2 dIx (mV 0) (mV 1)))
    (sSeq (sIf (tOr' (tNot' (tTru (mCall m_law_is_name (aCons (mV 1) aNil)))) (tOr' (tNot' (tTru (mIs .tup (mV 2)))) (tOr' (tB' (m2 dEq (mB bLen (aCons (mV 2) aNil)) (mC (.int 0)))) (tB' (m2 dGt (mB bLen (aCons (mV 2) aNil)) (mC (.int 4))))))) (sRet (mC (.bl false))) sNil)
    (sSeq (sIf (tB' (m2 dGt (mB bLen (aCons (mComp (iSeq (mV 2)) (gN 3) (tNot' (tTru (mCall m_law_is_letter (aCons (mV 3) aNil)))) (mV 3) [3]) aNil)) (mC (.int 0)))) (sRet (mC (.bl false))) sNil)
    (sIf (tB' (m2 dNe (mB bLst (aCons (mV 2) aNil)) (mSortSet (mV 2)))) (sRet (mC (.bl false))) sNil)))))
    (sRet (mC (.bl true)))))
noncomputable def m_law_is_output : Fm := bodyM 2 1 (sSeq (sIf (tOr' (tNot' (tTru (mIs .tup (mV 0)))) (tOr' (tB' (m2 dNe (mB bLen (aCons (mV 0) aNil)) (mC (.int 2)))) (tOr' (tNot' (tTru (mIs .tup (m2 dIx (mV 0) (mC (.int 1)))))) (tB' (m2 dGt (mB bLen (aCons (m2 dIx (mV 0) (mC (.int 1))) aNil)) (mC (.int 4))))))) (sRet (mC (.bl false))) sNil)
    (sRet (mAnd (mCall m_law_is_letter (aCons (m2 dIx (mV 0) (mC (.int 0))) aNil)) (mB bAll (aCons (mComp (iSeq (m2 dIx (mV 0) (mC (.int 1)))) (gN 1) tT (mCall m_law_is_integer (aCons (mV 1) aNil)) [1]) aNil)))))
noncomputable def m_law_is_list : Fm := bodyM 3 1 (sSeq (sIf (tNot' (tTru (mIs .tup (mV 0)))) (sRet (mC (.bl false))) sNil)
    (sSeq (sFor (iRg1 (aCons (mB bLen (aCons (mV 0) aNil)) aNil)) (gN 1) (sSeq (sSet 2 (mAnd (mIs .str (m2 dIx (mV 0) (mV 1))) (mAnd (m2 dEq (m2 dIx (mV 0) (mV 1)) (mC (.str ("end" : Str)))) (m2 dEq (mV 1) (m2 dSub (mB bLen (aCons (mV 0) aNil)) (mC (.int 1)))))))
    (sIf (tAnd' (tNot' (tTru (mV 2))) (tNot' (tTru (mCall m_law_is_output (aCons (m2 dIx (mV 0) (mV 1)) aNil))))) (sRet (mC (.bl false))) sNil)))
    (sRet (mC (.bl true)))))
noncomputable def m_Tape_eq : Fm := bodyM 2 2 (sRet (mAnd (mIsO "Tape" (mV 1)) (mAnd (m2 dEq (mFld ("own_events" : Str) (mV 0)) (mFld ("own_events" : Str) (mV 1))) (m2 dEq (mFld ("own_last" : Str) (mV 0)) (mFld ("own_last" : Str) (mV 1))))))
noncomputable def m_law_same : Nat → Fm
  | 0 => fBad
  | n + 1 => bodyM 4 2 (sSeq (sIf (tOr' (tTru (mIs .dct (mV 0))) (tTru (mIs .dct (mV 1)))) (sSeq (sIf (tOr' (tNot' (tTru (mIs .dct (mV 0)))) (tOr' (tNot' (tTru (mIs .dct (mV 1)))) (tB' (m2 (dNeA "Tape" m_Tape_eq) (mB bSorted (aCons (mV 0) aNil)) (mB bSorted (aCons (mV 1) aNil)))))) (sRet (mC (.bl false))) sNil)
    (sRet (mB bAll (aCons (mComp (iKeysV (mV 0)) (gN 2) tT (mCall (m_law_same n) (aCons (m2 dIx (mV 0) (mV 2)) (aCons (m2 dIx (mV 1) (mV 2)) aNil))) [2]) aNil)))) sNil)
    (sSeq (sIf (tOr' (tTru (mIs2 .tup .lst (mV 0))) (tTru (mIs2 .tup .lst (mV 1)))) (sSeq (sIf (tOr' (tB' (m2 (dNeA "Tape" m_Tape_eq) (mIs .tup (mV 0)) (mIs .tup (mV 1)))) (tB' (m2 (dNeA "Tape" m_Tape_eq) (mIs .lst (mV 0)) (mIs .lst (mV 1))))) (sRet (mC (.bl false))) sNil)
    (sRet (mAnd (m2 (dEqA "Tape" m_Tape_eq) (mB bLen (aCons (mV 0) aNil)) (mB bLen (aCons (mV 1) aNil))) (mB bAll (aCons (mComp (iRg1 (aCons (mB bLen (aCons (mV 0) aNil)) aNil)) (gN 3) tT (mCall (m_law_same n) (aCons (m2 dIx (mV 0) (mV 3)) (aCons (m2 dIx (mV 1) (mV 3)) aNil))) [3]) aNil))))) sNil)
    (sSeq (sIf (tOr' (tB' (m2 dIsN (mV 0) (mC .non))) (tB' (m2 dIsN (mV 1) (mC .non)))) (sRet (mAnd (m2 dIsN (mV 0) (mC .non)) (m2 dIsN (mV 1) (mC .non)))) sNil)
    (sRet (mAnd (m2 (dEqA "Tape" m_Tape_eq) (mIs .bl (mV 0)) (mIs .bl (mV 1))) (m2 (dEqA "Tape" m_Tape_eq) (mV 0) (mV 1)))))))
noncomputable def m_law_spoiled : Nat → Fm
  | 0 => fBad
  | n + 1 => bodyM 12 2 (sSeq (sSet 2 (mCall m_law_throw (aCons (mV 0) (aCons (mC (.int 6)) aNil))))
    (sSeq (sIf (tTru (mIs .str (mV 1))) (sSeq (sSet 3 (mC (.str ("abcdefghijklmnopqrstuvwxyz ABCXYZ019_-.,:;+*/()[]{}<>=!?&@#$^`|~'" : Str))))
    (sSeq (sSet 4 (mCall m_law_throw (aCons (mV 0) (aCons (m2 dAdd (mB bLen (aCons (mV 1) aNil)) (mC (.int 1))) aNil))))
    (sSeq (sSet 5 (m2 dIx (mLst (aCons (mCall m_law_pick (aCons (mV 0) (aCons (mV 3) aNil))) (aCons (mC (.str ("" : Str))) (aCons (mCall m_law_pick (aCons (mV 0) (aCons (mV 3) aNil))) aNil)))) (m2 dMod (mB bInt (aCons (mV 2) aNil)) (mC (.int 3)))))
    (sSeq (sSet 6 (m2 dAdd (m2 dAdd (mV 4) (m2 dDiv (mV 2) (mC (.int 3)))) (mB bInt (aCons (m2 dEq (mV 5) (mC (.str ("" : Str)))) aNil))))
    (sRet (m2 dAdd (m2 dAdd (mSl dSl (mV 1) pNo (pSo (mV 4))) (mV 5)) (mSl dSl (mV 1) (pSo (mV 6)) pNo))))))) sNil)
    (sSeq (sIf (tAnd' (tTru (mIs .tup (mV 1))) (tAnd' (tTru (mV 1)) (tB' (m2 dLt (mV 2) (mC (.int 4)))))) (sSeq (sSet 4 (mCall m_law_throw (aCons (mV 0) (aCons (mB bLen (aCons (mV 1) aNil)) aNil))))
    (sSeq (sSet 7 (mTup (aCons (mCall (m_law_spoiled n) (aCons (mV 0) (aCons (m2 dIx (mV 1) (mV 4)) aNil))) aNil)))
    (sSeq (sSet 7 (m2 dIx (mLst (aCons (mV 7) (aCons (mTup aNil) (aCons (mTup (aCons (m2 dIx (mV 1) (mV 4)) (aCons (m2 dIx (mV 1) (mV 4)) aNil))) (aCons (mV 7) aNil))))) (mV 2)))
    (sRet (m2 dAdd (m2 dAdd (mSl dSl (mV 1) pNo (pSo (mV 4))) (mV 7)) (mSl dSl (mV 1) (pSo (m2 dAdd (mV 4) (mC (.int 1)))) pNo)))))) sNil)
    (sSeq (sIf (tAnd' (tTru (mIs .tup (mV 1))) (tTru (mV 1))) (sRet (mIf (tB' (m2 dEq (mV 2) (mC (.int 4)))) (mB bLst (aCons (mV 1) aNil)) (mRevT (mV 1)))) sNil)
    (sSeq (sIf (tAnd' (tTru (mIs .dct (mV 1))) (tTru (mV 1))) (sSeq (sSet 8 (mCall m_law_pick (aCons (mV 0) (aCons (mB bSorted (aCons (mV 1) aNil)) aNil))))
    (sSeq (sSet 9 (mCall (m_law_spoiled n) (aCons (mV 0) (aCons (mV 8) aNil))))
    (sSeq (sSet 7 (mCall (m_law_spoiled n) (aCons (mV 0) (aCons (m2 dIx (mV 1) (mV 8)) aNil))))
    (sSeq (sSet 10 (mB bDictN (aCons (mComp (iKeysV (mV 1)) (gN 11) (tOr' (tB' (m2 dNe (mV 11) (mV 8))) (tB' (m2 dNotIn (mV 2) (mTup (aCons (mC (.int 0)) (aCons (mC (.int 1)) (aCons (mC (.int 4)) aNil))))))) (mTup (aCons (mV 11) (aCons (m2 dIx (mV 1) (mV 11)) aNil))) [11]) aNil)))
    (sSeq (sIf (tB' (m2 dNe (mV 2) (mC (.int 4)))) (sPut (m2 dIx (mLst (aCons (m2 dIx (mV 1) (mV 8)) (aCons (mV 7) aNil))) (m2 dMod (mB bInt (aCons (m2 dDiv (mV 2) (mC (.int 2))) aNil)) (mC (.int 2)))) (mV 10) (m2 dIx (mLst (aCons (mV 9) (aCons (mV 9) (aCons (mV 8) (aCons (mV 8) (aCons (mV 8) (aCons (mV 9) aNil))))))) (mV 2))) sNil)
    (sRet (mFrz (mV 10)))))))) sNil)
    (sRet (mCall m_law_odd (aCons (mV 0) aNil))))))))
noncomputable def m_law_start : Fm := bodyM 5 2 (sSeq (sSet 2 (mIf (tB' (m2 dLt (mV 1) (mB bLen (aCons (mV 0) aNil)))) (m2 dIx (mV 0) (mV 1)) (m2 dAdd (m2 dMul (mC (.int 53)) (mV 1)) (mC (.int 7)))))
    (sSeq (sSet 3 (m2 dMod (mB bInt (aCons (mB bAbs (aCons (mV 2) aNil)) aNil)) (m2 dPow (m2 dPow (mC (.int 10)) (mC (.int 60))) (mC (.int 10)))))
    (sSeq (sSet 4 (m2 dAdd (m2 dMul (m2 dMod (mB bInt (aCons (mV 3) aNil)) (mC (.int 2305843009213693921))) (mC (.int 3))) (mB bInt (aCons (m2 dLt (mV 2) (mC (.int 0))) aNil))))
    (sRet (mLstN (aCons (mB bMax (aCons (mC (.int 0)) (aCons (m2 dSub (mV 3) (m2 dPow (mC (.int 10)) (mC (.int 18)))) aNil))) (aCons (m2 dMod (mB bInt (aCons (m2 dAdd (m2 dAdd (m2 dMul (mV 4) (mC (.int 40009))) (m2 dMul (mC (.int 7919)) (mV 1))) (mC (.int 17))) aNil)) (mC (.int 2305843009213693951))) (aCons (mC (.int 0)) aNil))))))))
noncomputable def m_is_letters : Fm := bodyM 4 1 (sSeq (sIf (tOr' (tNot' (tTru (mIs .tup (mV 0)))) (tB' (m2 dEq (mB bLen (aCons (mV 0) aNil)) (mC (.int 0))))) (sRet (mC (.bl false))) sNil)
    (sSeq (sFor (iSeq (mV 0)) (gN 1) (sIf (tNot' (tTru (mCall m_is_letter (aCons (mV 1) aNil)))) (sRet (mC (.bl false))) sNil))
    (sSeq (sFor (iZipT (aCons (mV 0) (aCons (mSl dSl (mV 0) (pSo (mC (.int 1))) pNo) aNil))) (gT 2 (gsCons (gN 2) (gsCons (gN 3) gsNil))) (sIf (tB' (m2 dGe (mV 2) (mV 3))) (sRet (mC (.bl false))) sNil))
    (sRet (mC (.bl true))))))
noncomputable def m_is_layout : Fm := bodyM 3 1 (sSeq (sIf (tOr' (tNot' (tTru (mIs .dct (mV 0)))) (tNot' (tB' (mChain dLe dLe (mC (.int 1)) (mB bLen (aCons (mV 0) aNil)) (mC (.int 4)))))) (sRet (mC (.bl false))) sNil)
    (sSeq (sFor (iItemsV (mV 0)) (gT 2 (gsCons (gN 1) (gsCons (gN 2) gsNil))) (sIf (tOr' (tNot' (tTru (mCall m_is_name (aCons (mV 1) aNil)))) (tOr' (tNot' (tTru (mCall m_is_letters (aCons (mV 2) aNil)))) (tB' (m2 dGt (mB bLen (aCons (mV 2) aNil)) (mC (.int 4)))))) (sRet (mC (.bl false))) sNil))
    (sRet (mC (.bl true)))))
noncomputable def m_is_end : Fm := bodyM 1 1 (sRet (mAnd (mIs .str (mV 0)) (m2 dEq (mV 0) (mC (.str ("end" : Str))))))
noncomputable def m_is_output : Fm := bodyM 3 1 (sSeq (sIf (tOr' (tNot' (tTru (mIs .tup (mV 0)))) (tOr' (tB' (m2 dNe (mB bLen (aCons (mV 0) aNil)) (mC (.int 2)))) (tNot' (tTru (mCall m_is_letter (aCons (m2 dIx (mV 0) (mC (.int 0))) aNil)))))) (sRet (mC (.bl false))) sNil)
    (sSeq (sSet 1 (m2 dIx (mV 0) (mC (.int 1))))
    (sSeq (sIf (tOr' (tNot' (tTru (mIs .tup (mV 1)))) (tB' (m2 dGt (mB bLen (aCons (mV 1) aNil)) (mC (.int 4))))) (sRet (mC (.bl false))) sNil)
    (sRet (mB bAll (aCons (mComp (iSeq (mV 1)) (gN 2) tT (mCall m_is_integer (aCons (mV 2) aNil)) [2]) aNil))))))
noncomputable def m_is_list : Fm := bodyM 3 1 (sSeq (sIf (tNot' (tTru (mIs .tup (mV 0)))) (sRet (mC (.bl false))) sNil)
    (sSeq (sSet 1 (mV 0))
    (sSeq (sIf (tAnd' (tTru (mV 0)) (tTru (mCall m_is_end (aCons (m2 dIx (mV 0) (m1 dNeg (mC (.int 1)))) aNil)))) (sSet 1 (mSl dSl (mV 0) pNo (pSo (m1 dNeg (mC (.int 1)))))) sNil)
    (sRet (mB bAll (aCons (mComp (iSeq (mV 1)) (gN 2) tT (mCall m_is_output (aCons (mV 2) aNil)) [2]) aNil))))))
noncomputable def m_law : Fm := bodyM 10 1 (sSeq (sFor (iRg1 (aCons (mB bMax (aCons (mC (.int 1)) (aCons (mB bLen (aCons (mV 0) aNil)) aNil))) aNil)) (gN 1) (sSeq (sSet 2 (mCall m_law_start (aCons (mV 0) (aCons (mV 1) aNil))))
    (sSeq (sSet 3 (m2 dSub (mCall m_law_throw (aCons (mV 2) (aCons (mC (.int 4)) aNil))) (mC (.int 1))))
    (sSeq (sSet 4 (mCall m_law_good (aCons (mV 2) (aCons (mCall m_law_throw (aCons (mV 2) (aCons (mC (.int 7)) aNil))) aNil))))
    (sSeq (sFor (iRg1 (aCons (mV 3) aNil)) (gN 5) (sSet 4 (mCall (m_law_spoiled 8) (aCons (mV 2) (aCons (mV 4) aNil)))))
    (sSeq (sSet 6 (mLst (aCons (mCall m_law_is_letter (aCons (mV 4) aNil)) (aCons (mCall m_law_is_name (aCons (mV 4) aNil)) (aCons (mCall m_law_is_layout (aCons (mV 4) aNil)) (aCons (mCall m_law_is_event (aCons (mV 4) aNil)) aNil))))))
    (sSeq (sSet 6 (m2 dAdd (mV 6) (mLst (aCons (mCall m_law_is_output (aCons (mV 4) aNil)) (aCons (mCall m_law_is_list (aCons (mV 4) aNil)) aNil)))))
    (sSeq (sSet 7 (mCall (m_law_copied 9) (aCons (mV 4) aNil)))
    (sSeq (sSet 8 (mLst (aCons (mCall m_is_letter (aCons (mV 4) aNil)) (aCons (mCall m_is_name (aCons (mV 4) aNil)) (aCons (mCall m_is_layout (aCons (mV 4) aNil)) (aCons (mCall m_is_event (aCons (mV 4) aNil)) aNil))))))
    (sSeq (sSet 8 (m2 dAdd (mV 8) (mLst (aCons (mCall m_is_output (aCons (mV 4) aNil)) (aCons (mCall m_is_list (aCons (mV 4) aNil)) aNil)))))
    (sIf (tOr' (tNot' (tTru (mB bAll (aCons (mComp (iSeq (mV 8)) (gN 9) tT (mIs .bl (mV 9)) [9]) aNil)))) (tOr' (tB' (m2 dNe (mV 8) (mV 6))) (tNot' (tTru (mCall (m_law_same 9) (aCons (mV 4) (aCons (mV 7) aNil))))))) (sRet (mC (.bl false))) sNil)))))))))))
    (sRet (mC (.bl true))))
end K01

namespace K01
open PySem PySem.Spec PyProof.Rows L2 Mi
def top (i : Nat) : Stmt := PySem.Challenge.pw_pushalike_k01_words.main.body.getD i (.Pass ⟨0, 0, 0, 0⟩)
def stAt (l : List Stmt) (i : Nat) : Stmt := l.getD i (.Pass ⟨0, 0, 0, 0⟩)
def forBody : Stmt → List Stmt
  | .For _ _ b _ _ => b
  | _ => []
def ifBody : Stmt → List Stmt
  | .If _ b _ _ => b
  | _ => []
def ifElse : Stmt → List Stmt
  | .If _ _ b _ => b
  | _ => []
abbrev s_law_copied : Stmt := top 49
theorem sc_law_copied : FnScope ["value", "one", "key"] ["value"] (defScope s_law_copied) := ⟨rfl, rfl, rfl, by decide +kernel, rfl, by decide +kernel, by decide +kernel⟩
abbrev s_law_throw : Stmt := top 33
theorem sc_law_throw : FnScope ["bag", "total", "one", "two", "three", "found"] ["bag", "total"] (defScope s_law_throw) := ⟨rfl, rfl, rfl, by decide +kernel, rfl, by decide +kernel, by decide +kernel⟩
abbrev s_law_letters : Stmt := top 36
theorem sc_law_letters : FnScope ["bag", "most", "signs", "size", "turn"] ["bag", "most"] (defScope s_law_letters) := ⟨rfl, rfl, rfl, by decide +kernel, rfl, by decide +kernel, by decide +kernel⟩
abbrev s_law_pick : Stmt := top 34
theorem sc_law_pick : FnScope ["bag", "items"] ["bag", "items"] (defScope s_law_pick) := ⟨rfl, rfl, rfl, by decide +kernel, rfl, by decide +kernel, by decide +kernel⟩
abbrev s_law_words : Stmt := top 37
theorem sc_law_words : FnScope ["words"] [] (defScope s_law_words) := ⟨rfl, rfl, rfl, by decide +kernel, rfl, by decide +kernel, by decide +kernel⟩
abbrev s_law_name : Stmt := top 38
theorem sc_law_name : FnScope ["bag", "known", "alphabet", "signs", "text", "name", "turn", "sign"] ["bag", "known"] (defScope s_law_name) := ⟨rfl, rfl, rfl, by decide +kernel, rfl, by decide +kernel, by decide +kernel⟩
abbrev s_law_layout : Stmt := top 39
theorem sc_law_layout : FnScope ["bag", "sources", "letters", "found", "turn", "name"] ["bag", "sources", "letters"] (defScope s_law_layout) := ⟨rfl, rfl, rfl, by decide +kernel, rfl, by decide +kernel, by decide +kernel⟩
abbrev s_law_letter : Stmt := top 35
theorem sc_law_letter : FnScope ["bag"] ["bag"] (defScope s_law_letter) := ⟨rfl, rfl, rfl, by decide +kernel, rfl, by decide +kernel, by decide +kernel⟩
abbrev s_is_integer : Stmt := top 10
theorem sc_is_integer : FnScope ["value"] ["value"] (defScope s_is_integer) := ⟨rfl, rfl, rfl, by decide +kernel, rfl, by decide +kernel, by decide +kernel⟩
abbrev s_is_letter : Stmt := top 12
theorem sc_is_letter : FnScope ["value"] ["value"] (defScope s_is_letter) := ⟨rfl, rfl, rfl, by decide +kernel, rfl, by decide +kernel, by decide +kernel⟩
abbrev s_is_name : Stmt := top 14
theorem sc_is_name : FnScope ["value", "sign"] ["value"] (defScope s_is_name) := ⟨rfl, rfl, rfl, by decide +kernel, rfl, by decide +kernel, by decide +kernel⟩
abbrev s_is_time : Stmt := top 11
theorem sc_is_time : FnScope ["value"] ["value"] (defScope s_is_time) := ⟨rfl, rfl, rfl, by decide +kernel, rfl, by decide +kernel, by decide +kernel⟩
abbrev s_is_event : Stmt := top 16
theorem sc_is_event : FnScope ["value"] ["value"] (defScope s_is_event) := ⟨rfl, rfl, rfl, by decide +kernel, rfl, by decide +kernel, by decide +kernel⟩
abbrev s_are_events : Stmt := top 27
theorem sc_are_events : FnScope ["value", "one", "other"] ["value"] (defScope s_are_events) := ⟨rfl, rfl, rfl, by decide +kernel, rfl, by decide +kernel, by decide +kernel⟩
abbrev s_last_time : Stmt := top 28
theorem sc_last_time : FnScope ["events"] ["events"] (defScope s_last_time) := ⟨rfl, rfl, rfl, by decide +kernel, rfl, by decide +kernel, by decide +kernel⟩
abbrev s_Tape_init : Stmt := inClass (top 30) 0
theorem sc_Tape_init : FnScope ["self", "events", "last"] ["self", "events", "last"] (defScope s_Tape_init) := ⟨rfl, rfl, rfl, by decide +kernel, rfl, by decide +kernel, by decide +kernel⟩
abbrev s_law_odd : Stmt := top 50
theorem sc_law_odd : FnScope ["bag", "edge", "some"] ["bag"] (defScope s_law_odd) := ⟨rfl, rfl, rfl, by decide +kernel, rfl, by decide +kernel, by decide +kernel⟩
abbrev s_law_value : Stmt := top 40
theorem sc_law_value : FnScope ["bag", "way"] ["bag"] (defScope s_law_value) := ⟨rfl, rfl, rfl, by decide +kernel, rfl, by decide +kernel, by decide +kernel⟩
abbrev s_law_good : Stmt := top 52
theorem sc_law_good : FnScope ["bag", "way", "outputs", "turn", "values", "one"] ["bag", "way"] (defScope s_law_good) := ⟨rfl, rfl, rfl, by decide +kernel, rfl, by decide +kernel, by decide +kernel⟩
abbrev s_law_is_integer : Stmt := top 42
theorem sc_law_is_integer : FnScope ["value"] ["value"] (defScope s_law_is_integer) := ⟨rfl, rfl, rfl, by decide +kernel, rfl, by decide +kernel, by decide +kernel⟩
abbrev s_law_is_letter : Stmt := top 43
theorem sc_law_is_letter : FnScope ["value"] ["value"] (defScope s_law_is_letter) := ⟨rfl, rfl, rfl, by decide +kernel, rfl, by decide +kernel, by decide +kernel⟩
abbrev s_law_is_name : Stmt := top 44
theorem sc_law_is_name : FnScope ["value", "sign"] ["value"] (defScope s_law_is_name) := ⟨rfl, rfl, rfl, by decide +kernel, rfl, by decide +kernel, by decide +kernel⟩
abbrev s_law_is_event : Stmt := top 46
theorem sc_law_is_event : FnScope ["value"] ["value"] (defScope s_law_is_event) := ⟨rfl, rfl, rfl, by decide +kernel, rfl, by decide +kernel, by decide +kernel⟩
abbrev s_law_is_layout : Stmt := top 45
theorem sc_law_is_layout : FnScope ["value", "name", "letters", "one"] ["value"] (defScope s_law_is_layout) := ⟨rfl, rfl, rfl, by decide +kernel, rfl, by decide +kernel, by decide +kernel⟩
abbrev s_law_is_output : Stmt := top 47
theorem sc_law_is_output : FnScope ["value", "one"] ["value"] (defScope s_law_is_output) := ⟨rfl, rfl, rfl, by decide +kernel, rfl, by decide +kernel, by decide +kernel⟩
abbrev s_law_is_list : Stmt := top 48
theorem sc_law_is_list : FnScope ["value", "k", "ends"] ["value"] (defScope s_law_is_list) := ⟨rfl, rfl, rfl, by decide +kernel, rfl, by decide +kernel, by decide +kernel⟩
abbrev s_Tape_eq : Stmt := inClass (top 30) 5
theorem sc_Tape_eq : FnScope ["self", "other"] ["self", "other"] (defScope s_Tape_eq) := ⟨rfl, rfl, rfl, by decide +kernel, rfl, by decide +kernel, by decide +kernel⟩
abbrev s_law_same : Stmt := top 41
theorem sc_law_same : FnScope ["one", "other", "key", "k"] ["one", "other"] (defScope s_law_same) := ⟨rfl, rfl, rfl, by decide +kernel, rfl, by decide +kernel, by decide +kernel⟩
abbrev s_law_spoiled : Stmt := top 51
theorem sc_law_spoiled : FnScope ["bag", "value", "way", "signs", "place", "put", "behind", "inner", "key", "other", "found", "one"] ["bag", "value"] (defScope s_law_spoiled) := ⟨rfl, rfl, rfl, by decide +kernel, rfl, by decide +kernel, by decide +kernel⟩
abbrev s_law_start : Stmt := top 32
theorem sc_law_start : FnScope ["script", "at", "cell", "great", "mixed"] ["script", "at"] (defScope s_law_start) := ⟨rfl, rfl, rfl, by decide +kernel, rfl, by decide +kernel, by decide +kernel⟩
abbrev s_is_letters : Stmt := top 13
theorem sc_is_letters : FnScope ["value", "letter", "one", "other"] ["value"] (defScope s_is_letters) := ⟨rfl, rfl, rfl, by decide +kernel, rfl, by decide +kernel, by decide +kernel⟩
abbrev s_is_layout : Stmt := top 15
theorem sc_is_layout : FnScope ["value", "name", "letters"] ["value"] (defScope s_is_layout) := ⟨rfl, rfl, rfl, by decide +kernel, rfl, by decide +kernel, by decide +kernel⟩
abbrev s_is_end : Stmt := top 18
theorem sc_is_end : FnScope ["value"] ["value"] (defScope s_is_end) := ⟨rfl, rfl, rfl, by decide +kernel, rfl, by decide +kernel, by decide +kernel⟩
abbrev s_is_output : Stmt := top 17
theorem sc_is_output : FnScope ["value", "values", "one"] ["value"] (defScope s_is_output) := ⟨rfl, rfl, rfl, by decide +kernel, rfl, by decide +kernel, by decide +kernel⟩
abbrev s_is_list : Stmt := top 19
theorem sc_is_list : FnScope ["value", "outputs", "one"] ["value"] (defScope s_is_list) := ⟨rfl, rfl, rfl, by decide +kernel, rfl, by decide +kernel, by decide +kernel⟩
abbrev s_law : Stmt := top 53
theorem sc_law : FnScope ["script", "at", "bag", "spoils", "value", "turn", "due", "copied", "told", "one"] ["script"] (defScope s_law) := ⟨rfl, rfl, rfl, by decide +kernel, rfl, by decide +kernel, by decide +kernel⟩
structure Txt (K : PySem.W.Frag) (mg : Str → Option Value) (cm : Cm) : Prop where
  z_abs : mg "abs" = none
  z_all : mg "all" = none
  z_bool : mg "bool" = none
  z_dict : mg "dict" = none
  z_int : mg "int" = none
  z_isinstance : mg "isinstance" = none
  z_len : mg "len" = none
  z_list : mg "list" = none
  z_max : mg "max" = none
  z_range : mg "range" = none
  z_set : mg "set" = none
  z_sorted : mg "sorted" = none
  z_str : mg "str" = none
  z_tuple : mg "tuple" = none
  z_zip : mg "zip" = none
  g_MAX_NAME : ∃ t, mg "MAX_NAME" = some (.int 8 t)
  g_MAX_SOURCES : ∃ t, mg "MAX_SOURCES" = some (.int 4 t)
  g_MAX_SOURCE_LETTERS : ∃ t, mg "MAX_SOURCE_LETTERS" = some (.int 4 t)
  g_MAX_VALUE : ∃ t, mg "MAX_VALUE" = some (.int 999999999999999999999999999999999999999999999999999999999999 t)
  g_MAX_VALUES : ∃ t, mg "MAX_VALUES" = some (.int 4 t)
  g_END : ∃ t, mg "END" = some (.str ("end" : Str) t)
  g_LETTERS : ∃ t, mg "LETTERS" = some (.str ("abcdefghijklmnopqrstuvwxyz" : Str) t)
  g_WORDS : GTup K mg "WORDS" ["after", "again", "at", "busy", "changes", "else", "every", "first", "fold", "it", "late", "never", "one", "only", "pairs", "pick", "quiet", "source", "spaced", "switch", "then", "told", "until"]
  f_law_copied : Fnd K mg "_law_copied" "_law_copied" s_law_copied ["value"]
  f_law_throw : Fnd K mg "_law_throw" "_law_throw" s_law_throw ["bag", "total"]
  f_law_letters : Fnd K mg "_law_letters" "_law_letters" s_law_letters ["bag", "most"]
  f_law_pick : Fnd K mg "_law_pick" "_law_pick" s_law_pick ["bag", "items"]
  f_law_words : Fnd K mg "_law_words" "_law_words" s_law_words []
  f_law_name : Fnd K mg "_law_name" "_law_name" s_law_name ["bag", "known"]
  f_law_layout : Fnd K mg "_law_layout" "_law_layout" s_law_layout ["bag", "sources", "letters"]
  f_law_letter : Fnd K mg "_law_letter" "_law_letter" s_law_letter ["bag"]
  f_is_integer : Fnd K mg "is_integer" "is_integer" s_is_integer ["value"]
  f_is_letter : Fnd K mg "is_letter" "is_letter" s_is_letter ["value"]
  f_is_name : Fnd K mg "is_name" "is_name" s_is_name ["value"]
  f_is_time : Fnd K mg "is_time" "is_time" s_is_time ["value"]
  f_is_event : Fnd K mg "is_event" "is_event" s_is_event ["value"]
  f_are_events : Fnd K mg "are_events" "are_events" s_are_events ["value"]
  f_last_time : Fnd K mg "last_time" "last_time" s_last_time ["events"]
  k_Tape_G3 : MakeFnd K mg cm "Tape" "Tape.__init__" s_Tape_init ["self", "events", "last"] 0 [] G3
  k_Tape_G4 : MakeFnd K mg cm "Tape" "Tape.__init__" s_Tape_init ["self", "events", "last"] 1 [] G4
  f_law_odd : Fnd K mg "_law_odd" "_law_odd" s_law_odd ["bag"]
  f_law_value : Fnd K mg "_law_value" "_law_value" s_law_value ["bag"]
  f_law_good : Fnd K mg "_law_good" "_law_good" s_law_good ["bag", "way"]
  f_law_is_integer : Fnd K mg "_law_is_integer" "_law_is_integer" s_law_is_integer ["value"]
  f_law_is_letter : Fnd K mg "_law_is_letter" "_law_is_letter" s_law_is_letter ["value"]
  f_law_is_name : Fnd K mg "_law_is_name" "_law_is_name" s_law_is_name ["value"]
  f_law_is_event : Fnd K mg "_law_is_event" "_law_is_event" s_law_is_event ["value"]
  f_law_is_layout : Fnd K mg "_law_is_layout" "_law_is_layout" s_law_is_layout ["value"]
  f_law_is_output : Fnd K mg "_law_is_output" "_law_is_output" s_law_is_output ["value"]
  f_law_is_list : Fnd K mg "_law_is_list" "_law_is_list" s_law_is_list ["value"]
  f_Tape_eq : MFnd K cm "Tape" "__eq__" "Tape.__eq__" s_Tape_eq ["self", "other"]
  f_law_same : Fnd K mg "_law_same" "_law_same" s_law_same ["one", "other"]
  f_law_spoiled : Fnd K mg "_law_spoiled" "_law_spoiled" s_law_spoiled ["bag", "value"]
  f_law_start : Fnd K mg "_law_start" "_law_start" s_law_start ["script", "at"]
  f_is_letters : Fnd K mg "is_letters" "is_letters" s_is_letters ["value"]
  f_is_layout : Fnd K mg "is_layout" "is_layout" s_is_layout ["value"]
  f_is_end : Fnd K mg "is_end" "is_end" s_is_end ["value"]
  f_is_output : Fnd K mg "is_output" "is_output" s_is_output ["value"]
  f_is_list : Fnd K mg "is_list" "is_list" s_is_list ["value"]
  f_law : Fnd K mg "law" "law" s_law ["script"]
  own : OwnAll K cm
  ns_Tape : ∀ C, cm.cls "Tape" = some C → NotSub K C
  nn_Tape : ∀ C, cm.cls "Tape" = some C → NotSub K C ∧ NoNe K C
  na_own_events : NoAt K cm "own_events"
  na_own_last : NoAt K cm "own_last"
  io_Tape : IsOwn K mg cm "Tape"
  rs_InvalidTape : Rs1 K mg cm "InvalidTape" [Value.type "ValueError", Value.type "Exception", Value.type "BaseException", Value.type "object"] "ValueError.__new__"
section
variable {P : Program} {w : World} {K : PySem.W.Frag} {mg : Str → Option Value} {base : Heap} {cm : Cm}
theorem d_law_copied (T : Txt K mg cm) : ∀ n, DefM P w K mg base cm (2 + n) "_law_copied" (m_law_copied n)
  | 0 => (DefM.zero T.f_law_copied).mono (Nat.zero_le _)
  | n + 1 => DefM.of (N := ["value", "one", "key"]) (ps := ["value"]) (k := 2 + n) T.f_law_copied sc_law_copied fun f cdv A outer s H E hr => by
    have dn := d_law_copied T n
    exact (by refine rss_cons ?_ ?_; exact (rs_if (rt_tru (re_is .dct T.own rfl T.z_isinstance rfl T.z_dict (by decide +kernel) (re_v 0))) (rss_one (rs_ret (re_ty (cd_dict rfl) rfl T.z_dict (by decide +kernel) (ra_c (re_comp (own := [(("key" : Str), 2)]) rfl sc_law_copied.nd (ri_keysV (re_v 0)) (blk_of (by kernel_rfl)) (fun _ _ _ _ _ => (rg_n 2 sc_law_copied.nd rfl (by first | exact .inl rfl | exact .inr rfl))) (fun _ _ _ _ _ => rts_nil) (fun _ _ _ _ _ => (re_tup (ra_c (re_v 2) (ra_c (re_call dn (hr.mono (by omega)) rfl (ra_c (re_ix (u1 hr) (re_v 0) (re_v 2) (fun _ _ => rfl)) ra_nil)) ra_nil))))) ra_nil)))) rss_nil); exact (by refine rss_cons ?_ ?_; exact (rs_if (rt_tru (re_is .lst T.own rfl T.z_isinstance rfl T.z_list (by decide +kernel) (re_v 0))) (rss_one (rs_ret (re_comp (own := [(("one" : Str), 1)]) rfl sc_law_copied.nd (ri_seq (re_v 0)) (blk_of (by kernel_rfl)) (fun _ _ _ _ _ => (rg_n 1 sc_law_copied.nd rfl (by first | exact .inl rfl | exact .inr rfl))) (fun _ _ _ _ _ => rts_nil) (fun _ _ _ _ _ => (re_call dn (hr.mono (by omega)) rfl (ra_c (re_v 1) ra_nil)))))) rss_nil); exact (by refine rss_cons ?_ ?_; exact (rs_if (rt_tru (re_is .tup T.own rfl T.z_isinstance rfl T.z_tuple (by decide +kernel) (re_v 0))) (rss_one (rs_ret (re_ty cd_tup rfl T.z_tuple (by decide +kernel) (ra_c (re_comp (own := [(("one" : Str), 1)]) rfl sc_law_copied.nd (ri_seq (re_v 0)) (blk_of (by kernel_rfl)) (fun _ _ _ _ _ => (rg_n 1 sc_law_copied.nd rfl (by first | exact .inl rfl | exact .inr rfl))) (fun _ _ _ _ _ => rts_nil) (fun _ _ _ _ _ => (re_call dn (hr.mono (by omega)) rfl (ra_c (re_v 1) ra_nil)))) ra_nil)))) rss_nil); exact (rss_one (rs_ret (re_v 0))))))
theorem d_law_throw (T : Txt K mg cm) : DefM P w K mg base cm 3 "_law_throw" m_law_throw :=
  DefM.of (N := ["bag", "total", "one", "two", "three", "found"]) (ps := ["bag", "total"]) (k := 2) T.f_law_throw sc_law_throw fun f cdv A outer s H E hr =>
    (by refine rss_cons ?_ ?_; exact (rs_if (rt_cmp od_gt (re_ix (u1 hr) (re_v 0) re_int (fun _ _ => rfl)) re_int rfl) (by refine rss_cons ?_ ?_; exact (by refine rs_set 5 ?_ ?_ ?_ ?_ ?_ ?_; exact sc_law_throw.nd; exact rfl; exact (by first | exact .inl rfl | exact .inr rfl); exact (re_op od_mod (re_ty cd_int rfl T.z_int (by decide +kernel) (ra_c (re_ix (u1 hr) (re_v 0) re_int (fun _ _ => rfl)) ra_nil)) (re_v 1)); exact rfl; exact (by first | exact .inl rfl | exact .inr rfl)); exact (by refine rss_cons ?_ ?_; exact (rs_put (u1 hr) (re_op od_div (re_ix (u1 hr) (re_v 0) re_int (fun _ _ => rfl)) (re_v 1)) (re_v 0) re_int); exact (rss_one (rs_ret (re_v 5))))) rss_nil); exact (by refine rss_cons ?_ ?_; exact (rs_put (u1 hr) (re_op od_add (re_ix (u1 hr) (re_v 0) re_int (fun _ _ => rfl)) re_int) (re_v 0) re_int); exact (by refine rss_cons ?_ ?_; exact (by refine rs_set 2 ?_ ?_ ?_ ?_ ?_ ?_; exact sc_law_throw.nd; exact rfl; exact (by first | exact .inl rfl | exact .inr rfl); exact (re_op od_mod (re_ty cd_int rfl T.z_int (by decide +kernel) (ra_c (re_op od_add (re_ix (u1 hr) (re_v 0) re_int (fun _ _ => rfl)) (re_op od_mul re_int (re_ix (u1 hr) (re_v 0) re_int (fun _ _ => rfl)))) ra_nil)) re_int); exact rfl; exact (by first | exact .inl rfl | exact .inr rfl)); exact (by refine rss_cons ?_ ?_; exact (by refine rs_set 3 ?_ ?_ ?_ ?_ ?_ ?_; exact sc_law_throw.nd; exact rfl; exact (by first | exact .inl rfl | exact .inr rfl); exact (re_op od_mod (re_ty cd_int rfl T.z_int (by decide +kernel) (ra_c (re_op od_add (re_op od_mul (re_v 2) (re_v 2)) (re_op od_mul re_int (re_ix (u1 hr) (re_v 0) re_int (fun _ _ => rfl)))) ra_nil)) re_int); exact rfl; exact (by first | exact .inl rfl | exact .inr rfl)); exact (by refine rss_cons ?_ ?_; exact (by refine rs_set 4 ?_ ?_ ?_ ?_ ?_ ?_; exact sc_law_throw.nd; exact rfl; exact (by first | exact .inl rfl | exact .inr rfl); exact (re_op od_mod (re_ty cd_int rfl T.z_int (by decide +kernel) (ra_c (re_op od_add (re_op od_mul (re_v 3) (re_v 2)) re_int) ra_nil)) re_int); exact rfl; exact (by first | exact .inl rfl | exact .inr rfl)); exact (rss_one (rs_ret (re_op od_mod (re_ty cd_int rfl T.z_int (by decide +kernel) (ra_c (re_op od_div (re_v 4) re_int) ra_nil)) (re_v 1)))))))))
theorem d_law_letters (T : Txt K mg cm) : DefM P w K mg base cm 5 "_law_letters" m_law_letters :=
  DefM.of (N := ["bag", "most", "signs", "size", "turn"]) (ps := ["bag", "most"]) (k := 4) T.f_law_letters sc_law_letters fun f cdv A outer s H E hr =>
    (by refine rss_cons ?_ ?_; exact (by refine rs_set 2 ?_ ?_ ?_ ?_ ?_ ?_; exact sc_law_letters.nd; exact rfl; exact (by first | exact .inl rfl | exact .inr rfl); exact (re_ty (cd_lstS rfl) rfl T.z_list (by decide +kernel) (ra_c re_str ra_nil)); exact rfl; exact (by first | exact .inl rfl | exact .inr rfl)); exact (by refine rss_cons ?_ ?_; exact (rs_if (rt_w (rw_and (rt_cmp od_le (re_v 1) re_int rfl) (rw_and1 (rt_cmp od_gt (re_call (d_law_throw T) (hr.mono (by omega)) rfl (ra_c (re_v 0) (ra_c re_int ra_nil))) re_int rfl)))) (rss_one (by refine rs_set 2 ?_ ?_ ?_ ?_ ?_ ?_; exact sc_law_letters.nd; exact rfl; exact (by first | exact .inl rfl | exact .inr rfl); exact (re_ty (cd_lstS rfl) rfl T.z_list (by decide +kernel) (ra_c re_str ra_nil)); exact rfl; exact (by first | exact .inl rfl | exact .inr rfl))) rss_nil); exact (by refine rss_cons ?_ ?_; exact (by refine rs_set 3 ?_ ?_ ?_ ?_ ?_ ?_; exact sc_law_letters.nd; exact rfl; exact (by first | exact .inl rfl | exact .inr rfl); exact (re_op od_add re_int (re_call (d_law_throw T) (hr.mono (by omega)) rfl (ra_c (re_v 0) (ra_c (re_v 1) ra_nil)))); exact rfl; exact (by first | exact .inl rfl | exact .inr rfl)); exact (rss_one (rs_ret (re_ty cd_tup rfl T.z_tuple (by decide +kernel) (ra_c (re_b (cd_sorted rfl) rfl T.z_sorted (by decide +kernel) (ra_c (re_comp (own := [(("turn" : Str), 4)]) rfl sc_law_letters.nd (ri_rg1 rfl T.z_range (ra_c (re_v 3) ra_nil)) (blk_of (by kernel_rfl)) (fun _ _ _ _ _ => (rg_n 4 sc_law_letters.nd rfl (by first | exact .inl rfl | exact .inr rfl))) (fun _ _ _ _ _ => rts_nil) (fun _ _ _ _ _ => (re_m PySem.F.plainAttrs_list PySem.F.slot_list_pop PySem.F.type_list_pop md_popAt (re_v 2) (ra_c (re_call (d_law_throw T) (hr.mono (by omega)) rfl (ra_c (re_v 0) (ra_c (re_b cd_len rfl T.z_len (by decide +kernel) (ra_c (re_v 2) ra_nil)) ra_nil))) ra_nil)))) ra_nil)) ra_nil)))))))
theorem d_law_pick (T : Txt K mg cm) : DefM P w K mg base cm 5 "_law_pick" m_law_pick :=
  DefM.of (N := ["bag", "items"]) (ps := ["bag", "items"]) (k := 4) T.f_law_pick sc_law_pick fun f cdv A outer s H E hr =>
    (rss_one (rs_ret (re_ix (u1 hr) (re_v 1) (re_call (d_law_throw T) (hr.mono (by omega)) rfl (ra_c (re_v 0) (ra_c (re_b cd_len rfl T.z_len (by decide +kernel) (ra_c (re_v 1) ra_nil)) ra_nil))) (fun _ _ => rfl))))
theorem d_law_words (T : Txt K mg cm) : DefM P w K mg base cm 3 "_law_words" m_law_words :=
  DefM.of (N := ["words"]) (ps := []) (k := 2) T.f_law_words sc_law_words fun f cdv A outer s H E hr =>
    (by refine rss_cons ?_ ?_; exact (by refine rs_set 0 ?_ ?_ ?_ ?_ ?_ ?_; exact sc_law_words.nd; exact rfl; exact (by first | exact .inl rfl | exact .inr rfl); exact (by refine re_lst ?_; exact (by refine ra_strs (xs := ["after", "again", "at", "busy", "changes", "else", "every", "first", "fold", "it", "late", "never", "one"]) ?_; kernel_rfl)); exact rfl; exact (by first | exact .inl rfl | exact .inr rfl)); exact (rss_one (rs_ret (re_op od_add (re_v 0) (by refine re_lst ?_; exact (by refine ra_strs (xs := ["only", "pairs", "pick", "quiet", "source", "spaced", "switch", "then", "told", "until"]) ?_; kernel_rfl))))))
theorem d_law_name (T : Txt K mg cm) : DefM P w K mg base cm 7 "_law_name" m_law_name :=
  DefM.of (N := ["bag", "known", "alphabet", "signs", "text", "name", "turn", "sign"]) (ps := ["bag", "known"]) (k := 6) T.f_law_name sc_law_name fun f cdv A outer s H E hr =>
    (by refine rss_cons ?_ ?_; exact (by refine rs_set 2 ?_ ?_ ?_ ?_ ?_ ?_; exact sc_law_name.nd; exact rfl; exact (by first | exact .inl rfl | exact .inr rfl); exact re_str; exact rfl; exact (by first | exact .inl rfl | exact .inr rfl)); exact (by refine rss_cons ?_ ?_; exact (by refine rs_set 3 ?_ ?_ ?_ ?_ ?_ ?_; exact sc_law_name.nd; exact rfl; exact (by first | exact .inl rfl | exact .inr rfl); exact (re_call (d_law_pick T) (hr.mono (by omega)) rfl (ra_c (re_v 0) (ra_c (re_lst (ra_c (re_v 2) (ra_c re_str (ra_c re_str ra_nil)))) ra_nil))); exact rfl; exact (by first | exact .inl rfl | exact .inr rfl)); exact (by refine rss_cons ?_ ?_; exact (by refine rs_set 4 ?_ ?_ ?_ ?_ ?_ ?_; exact sc_law_name.nd; exact rfl; exact (by first | exact .inl rfl | exact .inr rfl); exact (re_m PySem.F.plainAttrs_str PySem.F.slot_str_join PySem.F.type_str_join md_join re_str (ra_c (re_comp (own := [(("turn" : Str), 6)]) rfl sc_law_name.nd (ri_rg1 rfl T.z_range (ra_c (re_op od_add re_int (re_call (d_law_throw T) (hr.mono (by omega)) rfl (ra_c (re_v 0) (ra_c re_int ra_nil)))) ra_nil)) (blk_of (by kernel_rfl)) (fun _ _ _ _ _ => (rg_n 6 sc_law_name.nd rfl (by first | exact .inl rfl | exact .inr rfl))) (fun _ _ _ _ _ => rts_nil) (fun _ _ _ _ _ => (re_call (d_law_pick T) (hr.mono (by omega)) rfl (ra_c (re_v 0) (ra_c (re_v 3) ra_nil))))) ra_nil)); exact rfl; exact (by first | exact .inl rfl | exact .inr rfl)); exact (by refine rss_cons ?_ ?_; exact (rs_for (passes_of rfl) rfl (ri_seq (re_op od_add (re_lst (ra_c (re_v 4) ra_nil)) (re_comp (own := [(("sign" : Str), 7)]) rfl sc_law_name.nd (ri_str (re_v 2)) (blk_of (by kernel_rfl)) (fun _ _ _ _ _ => (rg_n 7 sc_law_name.nd rfl (by first | exact .inl rfl | exact .inr rfl))) (fun _ _ _ _ _ => rts_nil) (fun _ _ _ _ _ => (re_op od_add (re_sl sd_sl (re_v 4) ro_none (ro_some re_int)) (re_v 7)))))) (rg_n 5 sc_law_name.nd rfl (by first | exact .inl rfl | exact .inr rfl)) (rss_one (rs_if (rt_w (rw_and (rt_cmp (od_notIn (u65 hr)) (re_v 5) (re_v 1) rfl) (rw_and1 (rt_cmp (od_notIn (u65 hr)) (re_v 5) (re_call0 (d_law_words T) (hr.mono (by omega)) rfl) rfl)))) (rss_one (rs_ret (re_v 5))) rss_nil))); exact (rss_one (rs_ret re_str))))))
theorem d_law_layout (T : Txt K mg cm) : DefM P w K mg base cm 9 "_law_layout" m_law_layout :=
  DefM.of (N := ["bag", "sources", "letters", "found", "turn", "name"]) (ps := ["bag", "sources", "letters"]) (k := 8) T.f_law_layout sc_law_layout fun f cdv A outer s H E hr =>
    (by refine rss_cons ?_ ?_; exact (by refine rs_set 3 ?_ ?_ ?_ ?_ ?_ ?_; exact sc_law_layout.nd; exact rfl; exact (by first | exact .inl rfl | exact .inr rfl); exact re_dctN; exact rfl; exact (by first | exact .inl rfl | exact .inr rfl)); exact (by refine rss_cons ?_ ?_; exact (rs_for (passes_of rfl) rfl (ri_rg1 rfl T.z_range (ra_c (re_op od_add re_int (re_call (d_law_throw T) (hr.mono (by omega)) rfl (ra_c (re_v 0) (ra_c (re_v 1) ra_nil)))) ra_nil)) (rg_n 4 sc_law_layout.nd rfl (by first | exact .inl rfl | exact .inr rfl)) (by refine rss_cons ?_ ?_; exact (by refine rs_set 5 ?_ ?_ ?_ ?_ ?_ ?_; exact sc_law_layout.nd; exact rfl; exact (by first | exact .inl rfl | exact .inr rfl); exact (re_call (d_law_name T) (hr.mono (by omega)) rfl (ra_c (re_v 0) (ra_c (re_b (cd_sorted rfl) rfl T.z_sorted (by decide +kernel) (ra_c (re_v 3) ra_nil)) ra_nil))); exact rfl; exact (by first | exact .inl rfl | exact .inr rfl)); exact (rss_one (rs_put (u1 hr) (re_call (d_law_letters T) (hr.mono (by omega)) rfl (ra_c (re_v 0) (ra_c (re_v 2) ra_nil))) (re_v 3) (re_v 5))))); exact (rss_one (rs_ret (re_frz (re_v 3))))))
theorem d_law_letter (T : Txt K mg cm) : DefM P w K mg base cm 7 "_law_letter" m_law_letter :=
  DefM.of (N := ["bag"]) (ps := ["bag"]) (k := 6) T.f_law_letter sc_law_letter fun f cdv A outer s H E hr =>
    (rss_one (rs_ret (re_call (d_law_pick T) (hr.mono (by omega)) rfl (ra_c (re_v 0) (ra_c (re_call (d_law_pick T) (hr.mono (by omega)) rfl (ra_c (re_v 0) (ra_c (re_lst (ra_c re_str (ra_c re_str (ra_c re_str ra_nil)))) ra_nil))) ra_nil)))))
theorem d_is_integer (T : Txt K mg cm) : DefM P w K mg base cm 3 "is_integer" m_is_integer :=
  DefM.of (N := ["value"]) (ps := ["value"]) (k := 2) T.f_is_integer sc_is_integer fun f cdv A outer s H E hr =>
    (rss_one (rs_ret (re_and (re_is .int T.own rfl T.z_isinstance rfl T.z_int (by decide +kernel) (re_v 0)) (re_and (re_not (re_is .bl T.own rfl T.z_isinstance rfl T.z_bool (by decide +kernel) (re_v 0))) (re_one (re_chain od_le od_le (re_un ud_neg (re_gintE rfl T.g_MAX_VALUE)) (re_v 0) (re_gintE rfl T.g_MAX_VALUE)))))))
theorem d_is_letter (T : Txt K mg cm) : DefM P w K mg base cm 3 "is_letter" m_is_letter :=
  DefM.of (N := ["value"]) (ps := ["value"]) (k := 2) T.f_is_letter sc_is_letter fun f cdv A outer s H E hr =>
    (rss_one (rs_ret (re_and (re_is .str T.own rfl T.z_isinstance rfl T.z_str (by decide +kernel) (re_v 0)) (re_and (re_cmp (od_eq (u64 hr)) (re_b cd_len rfl T.z_len (by decide +kernel) (ra_c (re_v 0) ra_nil)) re_int rfl) (re_one (re_cmp (od_in (u65 hr)) (re_v 0) (re_gstrE rfl T.g_LETTERS) rfl))))))
theorem d_is_name (T : Txt K mg cm) : DefM P w K mg base cm 3 "is_name" m_is_name :=
  DefM.of (N := ["value", "sign"]) (ps := ["value"]) (k := 2) T.f_is_name sc_is_name fun f cdv A outer s H E hr =>
    (by refine rss_cons ?_ ?_; exact (rs_if (rt_w (rw_or (rt_not (rt_tru (re_is .str T.own rfl T.z_isinstance rfl T.z_str (by decide +kernel) (re_v 0)))) (rw_or1 (rt_not (rt_chain od_le od_le re_int (re_b cd_len rfl T.z_len (by decide +kernel) (ra_c (re_v 0) ra_nil)) (re_gintE rfl T.g_MAX_NAME)))))) (rss_one (rs_ret re_bl)) rss_nil); exact (by refine rss_cons ?_ ?_; exact (rs_for (passes_of rfl) rfl (ri_str (re_v 0)) (rg_n 1 sc_is_name.nd rfl (by first | exact .inl rfl | exact .inr rfl)) (rss_one (rs_if (rt_cmp (od_notIn (u65 hr)) (re_v 1) (re_gstrE rfl T.g_LETTERS) rfl) (rss_one (rs_ret re_bl)) rss_nil))); exact (rss_one (rs_ret (re_cmp (od_notIn (u65 hr)) (re_v 0) (re_gtup rfl T.g_WORDS) rfl)))))
theorem d_is_time (T : Txt K mg cm) : DefM P w K mg base cm 5 "is_time" m_is_time :=
  DefM.of (N := ["value"]) (ps := ["value"]) (k := 4) T.f_is_time sc_is_time fun f cdv A outer s H E hr =>
    (rss_one (rs_ret (re_and (re_call (d_is_integer T) (hr.mono (by omega)) rfl (ra_c (re_v 0) ra_nil)) (re_one (re_cmp od_ge (re_v 0) re_int rfl)))))
theorem d_is_event (T : Txt K mg cm) : DefM P w K mg base cm 7 "is_event" m_is_event :=
  DefM.of (N := ["value"]) (ps := ["value"]) (k := 6) T.f_is_event sc_is_event fun f cdv A outer s H E hr =>
    (by refine rss_cons ?_ ?_; exact (rs_if (rt_w (rw_or (rt_not (rt_tru (re_is .tup T.own rfl T.z_isinstance rfl T.z_tuple (by decide +kernel) (re_v 0)))) (rw_or1 (rt_cmp (od_ne (u64 hr)) (re_b cd_len rfl T.z_len (by decide +kernel) (ra_c (re_v 0) ra_nil)) re_int rfl)))) (rss_one (rs_ret re_bl)) rss_nil); exact (rss_one (rs_ret (re_and (re_call (d_is_time T) (hr.mono (by omega)) rfl (ra_c (re_ix (u1 hr) (re_v 0) re_int (fun _ _ => rfl)) ra_nil)) (re_and (re_call (d_is_name T) (hr.mono (by omega)) rfl (ra_c (re_ix (u1 hr) (re_v 0) re_int (fun _ _ => rfl)) ra_nil)) (re_and (re_call (d_is_letter T) (hr.mono (by omega)) rfl (ra_c (re_ix (u1 hr) (re_v 0) re_int (fun _ _ => rfl)) ra_nil)) (re_one (re_call (d_is_integer T) (hr.mono (by omega)) rfl (ra_c (re_ix (u1 hr) (re_v 0) re_int (fun _ _ => rfl)) ra_nil)))))))))
theorem d_are_events (T : Txt K mg cm) : DefM P w K mg base cm 9 "are_events" m_are_events :=
  DefM.of (N := ["value", "one", "other"]) (ps := ["value"]) (k := 8) T.f_are_events sc_are_events fun f cdv A outer s H E hr =>
    (by refine rss_cons ?_ ?_; exact (rs_if (rt_w (rw_or (rt_not (rt_tru (re_is .tup T.own rfl T.z_isinstance rfl T.z_tuple (by decide +kernel) (re_v 0)))) (rw_or1 (rt_not (rt_tru (re_b (cd_all rfl) rfl T.z_all (by decide +kernel) (ra_c (re_comp (own := [(("one" : Str), 1)]) rfl sc_are_events.nd (ri_seq (re_v 0)) (blk_of (by kernel_rfl)) (fun _ _ _ _ _ => (rg_n 1 sc_are_events.nd rfl (by first | exact .inl rfl | exact .inr rfl))) (fun _ _ _ _ _ => rts_nil) (fun _ _ _ _ _ => (re_call (d_is_event T) (hr.mono (by omega)) rfl (ra_c (re_v 1) ra_nil)))) ra_nil))))))) (rss_one (rs_ret re_bl)) rss_nil); exact (by refine rss_cons ?_ ?_; exact (rs_for (passes_of rfl) rfl (ri_zipT rfl T.z_zip (ra_c (re_v 0) (ra_c (re_sl sd_sl (re_v 0) (ro_some re_int) ro_none) ra_nil))) (rg_t rfl (rgs_cons (rg_n 1 sc_are_events.nd rfl (by first | exact .inl rfl | exact .inr rfl)) (rgs_cons (rg_n 2 sc_are_events.nd rfl (by first | exact .inl rfl | exact .inr rfl)) rgs_nil))) (rss_one (rs_if (rt_cmp od_gt (re_ix (u1 hr) (re_v 1) re_int (fun _ _ => rfl)) (re_ix (u1 hr) (re_v 2) re_int (fun _ _ => rfl)) rfl) (rss_one (rs_ret re_bl)) rss_nil))); exact (rss_one (rs_ret re_bl))))
theorem d_last_time (T : Txt K mg cm) : DefM P w K mg base cm 3 "last_time" m_last_time :=
  DefM.of (N := ["events"]) (ps := ["events"]) (k := 2) T.f_last_time sc_last_time fun f cdv A outer s H E hr =>
    (rss_one (rs_ret (re_if (rt_tru (re_v 0)) (re_ix (u1 hr) (re_ix (u1 hr) (re_v 0) (re_un ud_neg re_int) (fun _ _ => rfl)) re_int (fun _ _ => rfl)) re_int)))
theorem b_Tape_init (T : Txt K mg cm) (f : Addr) (cdv : Value) (A : Around) (outer : List Env) (s : Shared) (H : Hp) (E : XK) (hr : Room 10 (A.deeper (envOfC "Tape.__init__" (defScope s_Tape_init) s.heap.objs.size f cdv))) : RSs cm (cxOf (L2.CX P w) P w K mg base ["self", "events", "last"] "Tape.__init__" (defScope s_Tape_init) f cdv A outer s H E) (defBody s_Tape_init) ((sSeq (sIf (tNot' (tTru (mCall m_are_events (aCons (mV 1) aNil)))) (sRs1 ("InvalidTape" : Str)) sNil)
    (sSeq (sIf (tB' (m2 dIsN (mV 2) (mC .non))) (sSet 2 (mCall m_last_time (aCons (mV 1) aNil))) sNil)
    (sSeq (sIf (tOr' (tNot' (tTru (mCall m_is_integer (aCons (mV 2) aNil)))) (tB' (m2 dLt (mV 2) (mCall m_last_time (aCons (mV 1) aNil))))) (sRs1 ("InvalidTape" : Str)) sNil)
    (sSeq (sFput ("own_events" : Str) (mV 1) (mV 0))
    (sFput ("own_last" : Str) (mV 2) (mV 0))))))) :=
    (by refine rss_cons ?_ ?_; exact (rs_if (rt_not (rt_tru (re_call (d_are_events T) (hr.mono (by omega)) rfl (ra_c (re_v 1) ra_nil)))) (rss_one (rs_raise1o PySem.F.excBase_ValueError T.rs_InvalidTape rfl rfl)) rss_nil); exact (by refine rss_cons ?_ ?_; exact (rs_if (rt_cmp od_isN (re_v 2) re_non rfl) (rss_one (by refine rs_set 2 ?_ ?_ ?_ ?_ ?_ ?_; exact sc_Tape_init.nd; exact rfl; exact (by first | exact .inl rfl | exact .inr rfl); exact (re_call (d_last_time T) (hr.mono (by omega)) rfl (ra_c (re_v 1) ra_nil)); exact rfl; exact (by first | exact .inl rfl | exact .inr rfl))) rss_nil); exact (by refine rss_cons ?_ ?_; exact (rs_if (rt_w (rw_or (rt_not (rt_tru (re_call (d_is_integer T) (hr.mono (by omega)) rfl (ra_c (re_v 2) ra_nil)))) (rw_or1 (rt_cmp od_lt (re_v 2) (re_call (d_last_time T) (hr.mono (by omega)) rfl (ra_c (re_v 1) ra_nil)) rfl)))) (rss_one (rs_raise1o PySem.F.excBase_ValueError T.rs_InvalidTape rfl rfl)) rss_nil); exact (by refine rss_cons ?_ ?_; exact (rs_fput T.na_own_events (re_v 1) (re_v 0)); exact (rss_one (rs_fput T.na_own_last (re_v 2) (re_v 0)))))))
theorem d_Tape_init_G3 (T : Txt K mg cm) : MakeM P w K mg base cm 11 "Tape" m_Tape_init 0 [] G3 :=
  MakeM.of (N := ["self", "events", "last"]) (ps := ["self", "events", "last"]) (k := 10) T.k_Tape_G3 sc_Tape_init (b_Tape_init T)
theorem d_Tape_init_G4 (T : Txt K mg cm) : MakeM P w K mg base cm 11 "Tape" m_Tape_init 1 [] G4 :=
  MakeM.of (N := ["self", "events", "last"]) (ps := ["self", "events", "last"]) (k := 10) T.k_Tape_G4 sc_Tape_init (b_Tape_init T)
theorem d_law_odd (T : Txt K mg cm) : DefM P w K mg base cm 13 "_law_odd" m_law_odd :=
  DefM.of (N := ["bag", "edge", "some"]) (ps := ["bag"]) (k := 12) T.f_law_odd sc_law_odd fun f cdv A outer s H E hr =>
    (by refine rss_cons ?_ ?_; exact (by refine rs_set 1 ?_ ?_ ?_ ?_ ?_ ?_; exact sc_law_odd.nd; exact rfl; exact (by first | exact .inl rfl | exact .inr rfl); exact (re_call (d_law_pick T) (hr.mono (by omega)) rfl (ra_c (re_v 0) (ra_c (by refine re_lst ?_; refine ra_c ?_ ?_; exact (re_op od_pow re_int re_int); refine ra_c ?_ ?_; exact (re_op od_sub (re_op od_pow re_int re_int) re_int); refine ra_c ?_ ?_; exact re_int; refine ra_c ?_ ?_; exact re_int; refine ra_c ?_ ?_; exact (re_op od_mul (re_op od_pow re_int re_int) (re_op od_pow re_int re_int)); exact ra_nil) ra_nil))); exact rfl; exact (by first | exact .inl rfl | exact .inr rfl)); exact (by refine rss_cons ?_ ?_; exact (by refine rs_set 2 ?_ ?_ ?_ ?_ ?_ ?_; exact sc_law_odd.nd; exact rfl; exact (by first | exact .inl rfl | exact .inr rfl); exact (by refine re_lst ?_; refine ra_c ?_ ?_; exact re_non; refine ra_c ?_ ?_; exact re_bl; refine ra_c ?_ ?_; exact re_bl; refine ra_c ?_ ?_; exact (re_v 1); refine ra_c ?_ ?_; exact (re_un ud_neg (re_v 1)); refine ra_c ?_ ?_; exact re_str; refine ra_c ?_ ?_; exact re_str; refine ra_c ?_ ?_; exact re_str; refine ra_c ?_ ?_; exact re_str; refine ra_c ?_ ?_; exact re_str; refine ra_c ?_ ?_; exact re_str; refine ra_c ?_ ?_; exact (re_tup ra_nil); refine ra_c ?_ ?_; exact (re_lst ra_nil); refine ra_c ?_ ?_; exact re_dct0; refine ra_c ?_ ?_; exact (re_tup (ra_c re_str ra_nil)); exact ra_nil); exact rfl; exact (by first | exact .inl rfl | exact .inr rfl)); exact (by refine rss_cons ?_ ?_; exact (by refine rs_set 2 ?_ ?_ ?_ ?_ ?_ ?_; exact sc_law_odd.nd; exact rfl; exact (by first | exact .inl rfl | exact .inr rfl); exact (re_op od_add (re_v 2) (by refine re_lst ?_; refine ra_c ?_ ?_; exact (re_lst (ra_c re_str ra_nil)); refine ra_c ?_ ?_; exact (re_dct (rds_cons re_str re_str rds_nil)); refine ra_c ?_ ?_; exact (re_dct (rds_cons re_str (re_tup (ra_c re_str (ra_c re_str ra_nil))) rds_nil)); refine ra_c ?_ ?_; exact (re_tup (ra_c re_non ra_nil)); refine ra_c ?_ ?_; exact (re_tup (ra_c re_int (ra_c re_str (ra_c re_str (ra_c re_int ra_nil))))); refine ra_c ?_ ?_; exact (re_tup (ra_c re_str (ra_c (re_tup ra_nil) ra_nil))); refine ra_c ?_ ?_; exact (re_tup (ra_c re_str ra_nil)); refine ra_c ?_ ?_; exact re_str; exact ra_nil)); exact rfl; exact (by first | exact .inl rfl | exact .inr rfl)); exact (rss_one (rs_ret (re_call (d_law_pick T) (hr.mono (by omega)) rfl (ra_c (re_v 0) (ra_c (re_op od_add (re_v 2) (re_lst (ra_c (re_call (d_law_throw T) (hr.mono (by omega)) rfl (ra_c (re_v 0) (ra_c (re_op od_pow re_int re_int) ra_nil))) (ra_c (re_make0 (d_Tape_init_G3 T) (hr.mono (by omega)) rfl) (ra_c (re_make (d_Tape_init_G4 T) (hr.mono (by omega)) rfl (ra_c (re_tup (ra_c (re_tup (ra_c re_int (ra_c re_str (ra_c re_str (ra_c re_int ra_nil))))) ra_nil)) ra_nil) rk_nil) ra_nil))))) ra_nil))))))))
theorem d_law_value (T : Txt K mg cm) : DefM P w K mg base cm 5 "_law_value" m_law_value :=
  DefM.of (N := ["bag", "way"]) (ps := ["bag"]) (k := 4) T.f_law_value sc_law_value fun f cdv A outer s H E hr =>
    (by refine rss_cons ?_ ?_; exact (by refine rs_set 1 ?_ ?_ ?_ ?_ ?_ ?_; exact sc_law_value.nd; exact rfl; exact (by first | exact .inl rfl | exact .inr rfl); exact (re_call (d_law_throw T) (hr.mono (by omega)) rfl (ra_c (re_v 0) (ra_c re_int ra_nil))); exact rfl; exact (by first | exact .inl rfl | exact .inr rfl)); exact (by refine rss_cons ?_ ?_; exact (rs_if (rt_cmp od_lt (re_v 1) re_int rfl) (rss_one (rs_ret (re_call (d_law_throw T) (hr.mono (by omega)) rfl (ra_c (re_v 0) (ra_c re_int ra_nil))))) rss_nil); exact (by refine rss_cons ?_ ?_; exact (rs_if (rt_cmp (od_eq (u64 hr)) (re_v 1) re_int rfl) (rss_one (rs_ret (re_op od_sub (re_un ud_neg re_int) (re_call (d_law_throw T) (hr.mono (by omega)) rfl (ra_c (re_v 0) (ra_c re_int ra_nil)))))) rss_nil); exact (rss_one (rs_ret (re_op od_mul (re_call (d_law_throw T) (hr.mono (by omega)) rfl (ra_c (re_v 0) (ra_c (re_op od_pow re_int re_int) ra_nil))) (re_op od_sub re_int (re_op od_mul re_int (re_v 1)))))))))
theorem d_law_good (T : Txt K mg cm) : DefM P w K mg base cm 15 "_law_good" m_law_good :=
  DefM.of (N := ["bag", "way", "outputs", "turn", "values", "one"]) (ps := ["bag", "way"]) (k := 14) T.f_law_good sc_law_good fun f cdv A outer s H E hr =>
    (by refine rss_cons ?_ ?_; exact (rs_if (rt_cmp od_lt (re_v 1) re_int rfl) (rss_one (rs_ret (re_call (d_law_pick T) (hr.mono (by omega)) rfl (ra_c (re_v 0) (ra_c (by refine re_lst ?_; refine ra_c ?_ ?_; exact (re_call (d_law_letter T) (hr.mono (by omega)) rfl (ra_c (re_v 0) ra_nil)); refine ra_c ?_ ?_; exact (re_call (d_law_name T) (hr.mono (by omega)) rfl (ra_c (re_v 0) (ra_c (re_lst ra_nil) ra_nil))); refine ra_c ?_ ?_; exact re_str; refine ra_c ?_ ?_; exact (re_call (d_law_pick T) (hr.mono (by omega)) rfl (ra_c (re_v 0) (ra_c (re_call0 (d_law_words T) (hr.mono (by omega)) rfl) ra_nil))); exact ra_nil) ra_nil))))) rss_nil); exact (by refine rss_cons ?_ ?_; exact (rs_if (rt_cmp (od_eq (u64 hr)) (re_v 1) re_int rfl) (rss_one (rs_ret (re_call (d_law_layout T) (hr.mono (by omega)) rfl (ra_c (re_v 0) (ra_c (re_op od_add re_int (re_ty cd_int rfl T.z_int (by decide +kernel) (ra_c (re_cmp (od_eq (u64 hr)) (re_call (d_law_throw T) (hr.mono (by omega)) rfl (ra_c (re_v 0) (ra_c re_int ra_nil))) re_int rfl) ra_nil))) (ra_c (re_op od_add re_int (re_ty cd_int rfl T.z_int (by decide +kernel) (ra_c (re_cmp (od_eq (u64 hr)) (re_call (d_law_throw T) (hr.mono (by omega)) rfl (ra_c (re_v 0) (ra_c re_int ra_nil))) re_int rfl) ra_nil))) ra_nil)))))) rss_nil); exact (by refine rss_cons ?_ ?_; exact (rs_if (rt_cmp (od_eq (u64 hr)) (re_v 1) re_int rfl) (rss_one (rs_ret (re_tup (ra_c (re_call (d_law_throw T) (hr.mono (by omega)) rfl (ra_c (re_v 0) (ra_c (re_op od_pow re_int re_int) ra_nil))) (ra_c (re_call (d_law_name T) (hr.mono (by omega)) rfl (ra_c (re_v 0) (ra_c (re_lst ra_nil) ra_nil))) (ra_c (re_call (d_law_letter T) (hr.mono (by omega)) rfl (ra_c (re_v 0) ra_nil)) (ra_c (re_call (d_law_value T) (hr.mono (by omega)) rfl (ra_c (re_v 0) ra_nil)) ra_nil))))))) rss_nil); exact (by refine rss_cons ?_ ?_; exact (rs_if (rt_cmp (od_eq (u64 hr)) (re_v 1) re_int rfl) (rss_one (rs_ret (re_call (d_law_odd T) (hr.mono (by omega)) rfl (ra_c (re_v 0) ra_nil)))) rss_nil); exact (by refine rss_cons ?_ ?_; exact (by refine rs_set 2 ?_ ?_ ?_ ?_ ?_ ?_; exact sc_law_good.nd; exact rfl; exact (by first | exact .inl rfl | exact .inr rfl); exact (re_lstN ra_nil); exact rfl; exact (by first | exact .inl rfl | exact .inr rfl)); exact (by refine rss_cons ?_ ?_; exact (rs_for (passes_of rfl) rfl (ri_rg1 rfl T.z_range (ra_c (re_op od_add re_int (re_call (d_law_throw T) (hr.mono (by omega)) rfl (ra_c (re_v 0) (ra_c (re_call (d_law_pick T) (hr.mono (by omega)) rfl (ra_c (re_v 0) (ra_c (by refine re_lst ?_; refine ra_c ?_ ?_; exact re_int; refine ra_c ?_ ?_; exact re_int; refine ra_c ?_ ?_; exact re_int; refine ra_c ?_ ?_; exact re_int; exact ra_nil) ra_nil))) ra_nil)))) ra_nil)) (rg_n 3 sc_law_good.nd rfl (by first | exact .inl rfl | exact .inr rfl)) (by refine rss_cons ?_ ?_; exact (by refine rs_set 4 ?_ ?_ ?_ ?_ ?_ ?_; exact sc_law_good.nd; exact rfl; exact (by first | exact .inl rfl | exact .inr rfl); exact (re_ty cd_tup rfl T.z_tuple (by decide +kernel) (ra_c (re_comp (own := [(("one" : Str), 5)]) rfl sc_law_good.nd (ri_rg1 rfl T.z_range (ra_c (re_call (d_law_throw T) (hr.mono (by omega)) rfl (ra_c (re_v 0) (ra_c re_int ra_nil))) ra_nil)) (blk_of (by kernel_rfl)) (fun _ _ _ _ _ => (rg_n 5 sc_law_good.nd rfl (by first | exact .inl rfl | exact .inr rfl))) (fun _ _ _ _ _ => rts_nil) (fun _ _ _ _ _ => (re_call (d_law_value T) (hr.mono (by omega)) rfl (ra_c (re_v 0) ra_nil)))) ra_nil)); exact rfl; exact (by first | exact .inl rfl | exact .inr rfl)); exact (rss_one (rs_ex (re_m PySem.F.plainAttrs_list PySem.F.slot_list_append PySem.F.type_list_append md_app (re_v 2) (ra_c (re_tup (ra_c (re_call (d_law_letter T) (hr.mono (by omega)) rfl (ra_c (re_v 0) ra_nil)) (ra_c (re_v 4) ra_nil))) ra_nil)))))); exact (rss_one (rs_ret (re_if (rt_cmp (od_eq (u64 hr)) (re_v 1) re_int rfl) (re_ix (u1 hr) (re_v 2) re_int (fun _ _ => rfl)) (re_ty cd_tup rfl T.z_tuple (by decide +kernel) (ra_c (re_op od_add (re_v 2) (re_op od_mul (re_lst (ra_c re_str ra_nil)) (re_call (d_law_throw T) (hr.mono (by omega)) rfl (ra_c (re_v 0) (ra_c re_int ra_nil))))) ra_nil)))))))))))
theorem d_law_is_integer (T : Txt K mg cm) : DefM P w K mg base cm 3 "_law_is_integer" m_law_is_integer :=
  DefM.of (N := ["value"]) (ps := ["value"]) (k := 2) T.f_law_is_integer sc_law_is_integer fun f cdv A outer s H E hr =>
    (rss_one (rs_ret (re_and (re_is .int T.own rfl T.z_isinstance rfl T.z_int (by decide +kernel) (re_v 0)) (re_and (re_not (re_is .bl T.own rfl T.z_isinstance rfl T.z_bool (by decide +kernel) (re_v 0))) (re_one (re_cmp od_lt (re_b cd_abs rfl T.z_abs (by decide +kernel) (ra_c (re_v 0) ra_nil)) (re_op od_pow re_int re_int) rfl))))))
theorem d_law_is_letter (T : Txt K mg cm) : DefM P w K mg base cm 3 "_law_is_letter" m_law_is_letter :=
  DefM.of (N := ["value"]) (ps := ["value"]) (k := 2) T.f_law_is_letter sc_law_is_letter fun f cdv A outer s H E hr =>
    (rss_one (rs_ret (re_and (re_is .str T.own rfl T.z_isinstance rfl T.z_str (by decide +kernel) (re_v 0)) (re_and (re_cmp (od_eq (u64 hr)) (re_b cd_len rfl T.z_len (by decide +kernel) (ra_c (re_v 0) ra_nil)) re_int rfl) (re_and (re_cmp od_le re_str (re_v 0) rfl) (re_one (re_cmp od_le (re_v 0) re_str rfl)))))))
theorem d_law_is_name (T : Txt K mg cm) : DefM P w K mg base cm 5 "_law_is_name" m_law_is_name :=
  DefM.of (N := ["value", "sign"]) (ps := ["value"]) (k := 4) T.f_law_is_name sc_law_is_name fun f cdv A outer s H E hr =>
    (by refine rss_cons ?_ ?_; exact (rs_if (rt_w (rw_or (rt_not (rt_tru (re_is .str T.own rfl T.z_isinstance rfl T.z_str (by decide +kernel) (re_v 0)))) (rw_or (rt_cmp (od_eq (u64 hr)) (re_b cd_len rfl T.z_len (by decide +kernel) (ra_c (re_v 0) ra_nil)) re_int rfl) (rw_or (rt_cmp od_gt (re_b cd_len rfl T.z_len (by decide +kernel) (ra_c (re_v 0) ra_nil)) re_int rfl) (rw_or1 (rt_cmp (od_in (u65 hr)) (re_v 0) (re_call0 (d_law_words T) (hr.mono (by omega)) rfl) rfl)))))) (rss_one (rs_ret re_bl)) rss_nil); exact (rss_one (rs_ret (re_cmp (od_eq (u64 hr)) (re_b cd_len rfl T.z_len (by decide +kernel) (ra_c (re_comp (own := [(("sign" : Str), 1)]) rfl sc_law_is_name.nd (ri_str (re_v 0)) (blk_of (by kernel_rfl)) (fun _ _ _ _ _ => (rg_n 1 sc_law_is_name.nd rfl (by first | exact .inl rfl | exact .inr rfl))) (fun _ _ _ _ _ => (rts_one (rt_not (rt_tru (re_call (d_law_is_letter T) (hr.mono (by omega)) rfl (ra_c (re_v 1) ra_nil)))))) (fun _ _ _ _ _ => (re_v 1))) ra_nil)) re_int rfl))))
theorem d_law_is_event (T : Txt K mg cm) : DefM P w K mg base cm 7 "_law_is_event" m_law_is_event :=
  DefM.of (N := ["value"]) (ps := ["value"]) (k := 6) T.f_law_is_event sc_law_is_event fun f cdv A outer s H E hr =>
    (by refine rss_cons ?_ ?_; exact (rs_if (rt_w (rw_or (rt_not (rt_tru (re_is .tup T.own rfl T.z_isinstance rfl T.z_tuple (by decide +kernel) (re_v 0)))) (rw_or (rt_cmp (od_ne (u64 hr)) (re_b cd_len rfl T.z_len (by decide +kernel) (ra_c (re_v 0) ra_nil)) re_int rfl) (rw_or (rt_not (rt_tru (re_call (d_law_is_integer T) (hr.mono (by omega)) rfl (ra_c (re_ix (u1 hr) (re_v 0) re_int (fun _ _ => rfl)) ra_nil)))) (rw_or1 (rt_cmp od_lt (re_ix (u1 hr) (re_v 0) re_int (fun _ _ => rfl)) re_int rfl)))))) (rss_one (rs_ret re_bl)) rss_nil); exact (rss_one (rs_ret (re_and (re_call (d_law_is_name T) (hr.mono (by omega)) rfl (ra_c (re_ix (u1 hr) (re_v 0) re_int (fun _ _ => rfl)) ra_nil)) (re_and (re_call (d_law_is_letter T) (hr.mono (by omega)) rfl (ra_c (re_ix (u1 hr) (re_v 0) re_int (fun _ _ => rfl)) ra_nil)) (re_one (re_call (d_law_is_integer T) (hr.mono (by omega)) rfl (ra_c (re_ix (u1 hr) (re_v 0) re_int (fun _ _ => rfl)) ra_nil))))))))
theorem d_law_is_layout (T : Txt K mg cm) : DefM P w K mg base cm 7 "_law_is_layout" m_law_is_layout :=
  DefM.of (N := ["value", "name", "letters", "one"]) (ps := ["value"]) (k := 6) T.f_law_is_layout sc_law_is_layout fun f cdv A outer s H E hr =>
    (by refine rss_cons ?_ ?_; exact (rs_if (rt_w (rw_or (rt_not (rt_tru (re_is .dct T.own rfl T.z_isinstance rfl T.z_dict (by decide +kernel) (re_v 0)))) (rw_or (rt_cmp (od_eq (u64 hr)) (re_b cd_len rfl T.z_len (by decide +kernel) (ra_c (re_v 0) ra_nil)) re_int rfl) (rw_or1 (rt_cmp od_gt (re_b cd_len rfl T.z_len (by decide +kernel) (ra_c (re_v 0) ra_nil)) re_int rfl))))) (rss_one (rs_ret re_bl)) rss_nil); exact (by refine rss_cons ?_ ?_; exact (rs_for (passes_of rfl) rfl (ri_keysV (re_v 0)) (rg_n 1 sc_law_is_layout.nd rfl (by first | exact .inl rfl | exact .inr rfl)) (by refine rss_cons ?_ ?_; exact (by refine rs_set 2 ?_ ?_ ?_ ?_ ?_ ?_; exact sc_law_is_layout.nd; exact rfl; exact (by first | exact .inl rfl | exact .inr rfl); exact (re_ix (u1 hr) (re_v 0) (re_v 1) (fun _ _ => rfl)); exact rfl; exact (by first | exact .inl rfl | exact .inr rfl)); exact (by refine rss_cons ?_ ?_; exact (rs_if (rt_w (rw_or (rt_not (rt_tru (re_call (d_law_is_name T) (hr.mono (by omega)) rfl (ra_c (re_v 1) ra_nil)))) (rw_or (rt_not (rt_tru (re_is .tup T.own rfl T.z_isinstance rfl T.z_tuple (by decide +kernel) (re_v 2)))) (rw_or (rt_cmp (od_eq (u64 hr)) (re_b cd_len rfl T.z_len (by decide +kernel) (ra_c (re_v 2) ra_nil)) re_int rfl) (rw_or1 (rt_cmp od_gt (re_b cd_len rfl T.z_len (by decide +kernel) (ra_c (re_v 2) ra_nil)) re_int rfl)))))) (rss_one (rs_ret re_bl)) rss_nil); exact (by refine rss_cons ?_ ?_; exact (rs_if (rt_cmp od_gt (re_b cd_len rfl T.z_len (by decide +kernel) (ra_c (re_comp (own := [(("one" : Str), 3)]) rfl sc_law_is_layout.nd (ri_seq (re_v 2)) (blk_of (by kernel_rfl)) (fun _ _ _ _ _ => (rg_n 3 sc_law_is_layout.nd rfl (by first | exact .inl rfl | exact .inr rfl))) (fun _ _ _ _ _ => (rts_one (rt_not (rt_tru (re_call (d_law_is_letter T) (hr.mono (by omega)) rfl (ra_c (re_v 3) ra_nil)))))) (fun _ _ _ _ _ => (re_v 3))) ra_nil)) re_int rfl) (rss_one (rs_ret re_bl)) rss_nil); exact (rss_one (rs_if (rt_cmp (od_ne (u64 hr)) (re_ty cd_lst rfl T.z_list (by decide +kernel) (ra_c (re_v 2) ra_nil)) (re_sortSet rfl rfl T.z_sorted rfl T.z_set (re_v 2)) rfl) (rss_one (rs_ret re_bl)) rss_nil)))))); exact (rss_one (rs_ret re_bl))))
theorem d_law_is_output (T : Txt K mg cm) : DefM P w K mg base cm 5 "_law_is_output" m_law_is_output :=
  DefM.of (N := ["value", "one"]) (ps := ["value"]) (k := 4) T.f_law_is_output sc_law_is_output fun f cdv A outer s H E hr =>
    (by refine rss_cons ?_ ?_; exact (rs_if (rt_w (rw_or (rt_not (rt_tru (re_is .tup T.own rfl T.z_isinstance rfl T.z_tuple (by decide +kernel) (re_v 0)))) (rw_or (rt_cmp (od_ne (u64 hr)) (re_b cd_len rfl T.z_len (by decide +kernel) (ra_c (re_v 0) ra_nil)) re_int rfl) (rw_or (rt_not (rt_tru (re_is .tup T.own rfl T.z_isinstance rfl T.z_tuple (by decide +kernel) (re_ix (u1 hr) (re_v 0) re_int (fun _ _ => rfl))))) (rw_or1 (rt_cmp od_gt (re_b cd_len rfl T.z_len (by decide +kernel) (ra_c (re_ix (u1 hr) (re_v 0) re_int (fun _ _ => rfl)) ra_nil)) re_int rfl)))))) (rss_one (rs_ret re_bl)) rss_nil); exact (rss_one (rs_ret (re_and (re_call (d_law_is_letter T) (hr.mono (by omega)) rfl (ra_c (re_ix (u1 hr) (re_v 0) re_int (fun _ _ => rfl)) ra_nil)) (re_one (re_b (cd_all rfl) rfl T.z_all (by decide +kernel) (ra_c (re_comp (own := [(("one" : Str), 1)]) rfl sc_law_is_output.nd (ri_seq (re_ix (u1 hr) (re_v 0) re_int (fun _ _ => rfl))) (blk_of (by kernel_rfl)) (fun _ _ _ _ _ => (rg_n 1 sc_law_is_output.nd rfl (by first | exact .inl rfl | exact .inr rfl))) (fun _ _ _ _ _ => rts_nil) (fun _ _ _ _ _ => (re_call (d_law_is_integer T) (hr.mono (by omega)) rfl (ra_c (re_v 1) ra_nil)))) ra_nil)))))))
theorem d_law_is_list (T : Txt K mg cm) : DefM P w K mg base cm 7 "_law_is_list" m_law_is_list :=
  DefM.of (N := ["value", "k", "ends"]) (ps := ["value"]) (k := 6) T.f_law_is_list sc_law_is_list fun f cdv A outer s H E hr =>
    (by refine rss_cons ?_ ?_; exact (rs_if (rt_not (rt_tru (re_is .tup T.own rfl T.z_isinstance rfl T.z_tuple (by decide +kernel) (re_v 0)))) (rss_one (rs_ret re_bl)) rss_nil); exact (by refine rss_cons ?_ ?_; exact (rs_for (passes_of rfl) rfl (ri_rg1 rfl T.z_range (ra_c (re_b cd_len rfl T.z_len (by decide +kernel) (ra_c (re_v 0) ra_nil)) ra_nil)) (rg_n 1 sc_law_is_list.nd rfl (by first | exact .inl rfl | exact .inr rfl)) (by refine rss_cons ?_ ?_; exact (by refine rs_set 2 ?_ ?_ ?_ ?_ ?_ ?_; exact sc_law_is_list.nd; exact rfl; exact (by first | exact .inl rfl | exact .inr rfl); exact (re_and (re_is .str T.own rfl T.z_isinstance rfl T.z_str (by decide +kernel) (re_ix (u1 hr) (re_v 0) (re_v 1) (fun _ _ => rfl))) (re_and (re_cmp (od_eq (u64 hr)) (re_ix (u1 hr) (re_v 0) (re_v 1) (fun _ _ => rfl)) re_str rfl) (re_one (re_cmp (od_eq (u64 hr)) (re_v 1) (re_op od_sub (re_b cd_len rfl T.z_len (by decide +kernel) (ra_c (re_v 0) ra_nil)) re_int) rfl)))); exact rfl; exact (by first | exact .inl rfl | exact .inr rfl)); exact (rss_one (rs_if (rt_w (rw_and (rt_not (rt_tru (re_v 2))) (rw_and1 (rt_not (rt_tru (re_call (d_law_is_output T) (hr.mono (by omega)) rfl (ra_c (re_ix (u1 hr) (re_v 0) (re_v 1) (fun _ _ => rfl)) ra_nil))))))) (rss_one (rs_ret re_bl)) rss_nil)))); exact (rss_one (rs_ret re_bl))))
theorem d_Tape_eq (T : Txt K mg cm) : MethM P w K mg base cm 3 "Tape" "__eq__" m_Tape_eq :=
  MethM.of (N := ["self", "other"]) (ps := ["self", "other"]) (k := 2) T.f_Tape_eq sc_Tape_eq fun f cdv A outer s H E hr =>
    (rss_one (rs_ret (re_and (re_isO T.io_Tape rfl T.z_isinstance rfl (re_v 1)) (re_and (re_cmp (od_eq (u64 hr)) (re_fld T.na_own_events (re_v 0)) (re_fld T.na_own_events (re_v 1)) rfl) (re_one (re_cmp (od_eq (u64 hr)) (re_fld T.na_own_last (re_v 0)) (re_fld T.na_own_last (re_v 1)) rfl))))))
theorem d_law_same (T : Txt K mg cm) : ∀ n, DefM P w K mg base cm (4 + n) "_law_same" (m_law_same n)
  | 0 => (DefM.zero T.f_law_same).mono (Nat.zero_le _)
  | n + 1 => DefM.of (N := ["one", "other", "key", "k"]) (ps := ["one", "other"]) (k := 4 + n) T.f_law_same sc_law_same fun f cdv A outer s H E hr => by
    have dn := d_law_same T n
    exact (by refine rss_cons ?_ ?_; exact (rs_if (rt_w (rw_or (rt_tru (re_is .dct T.own rfl T.z_isinstance rfl T.z_dict (by decide +kernel) (re_v 0))) (rw_or1 (rt_tru (re_is .dct T.own rfl T.z_isinstance rfl T.z_dict (by decide +kernel) (re_v 1)))))) (by refine rss_cons ?_ ?_; exact (rs_if (rt_w (rw_or (rt_not (rt_tru (re_is .dct T.own rfl T.z_isinstance rfl T.z_dict (by decide +kernel) (re_v 0)))) (rw_or (rt_not (rt_tru (re_is .dct T.own rfl T.z_isinstance rfl T.z_dict (by decide +kernel) (re_v 1)))) (rw_or1 (rt_cmp (od_neA (d_Tape_eq T) T.nn_Tape (hr.mono (by omega)) (u64 hr)) (re_b (cd_sorted rfl) rfl T.z_sorted (by decide +kernel) (ra_c (re_v 0) ra_nil)) (re_b (cd_sorted rfl) rfl T.z_sorted (by decide +kernel) (ra_c (re_v 1) ra_nil)) rfl))))) (rss_one (rs_ret re_bl)) rss_nil); exact (rss_one (rs_ret (re_b (cd_all rfl) rfl T.z_all (by decide +kernel) (ra_c (re_comp (own := [(("key" : Str), 2)]) rfl sc_law_same.nd (ri_keysV (re_v 0)) (blk_of (by kernel_rfl)) (fun _ _ _ _ _ => (rg_n 2 sc_law_same.nd rfl (by first | exact .inl rfl | exact .inr rfl))) (fun _ _ _ _ _ => rts_nil) (fun _ _ _ _ _ => (re_call dn (hr.mono (by omega)) rfl (ra_c (re_ix (u1 hr) (re_v 0) (re_v 2) (fun _ _ => rfl)) (ra_c (re_ix (u1 hr) (re_v 1) (re_v 2) (fun _ _ => rfl)) ra_nil))))) ra_nil))))) rss_nil); exact (by refine rss_cons ?_ ?_; exact (rs_if (rt_w (rw_or (rt_tru (re_is2 .tup .lst T.own rfl T.z_isinstance rfl T.z_tuple (by decide +kernel) rfl T.z_list (by decide +kernel) (re_v 0))) (rw_or1 (rt_tru (re_is2 .tup .lst T.own rfl T.z_isinstance rfl T.z_tuple (by decide +kernel) rfl T.z_list (by decide +kernel) (re_v 1)))))) (by refine rss_cons ?_ ?_; exact (rs_if (rt_w (rw_or (rt_cmp (od_neA (d_Tape_eq T) T.nn_Tape (hr.mono (by omega)) (u64 hr)) (re_is .tup T.own rfl T.z_isinstance rfl T.z_tuple (by decide +kernel) (re_v 0)) (re_is .tup T.own rfl T.z_isinstance rfl T.z_tuple (by decide +kernel) (re_v 1)) rfl) (rw_or1 (rt_cmp (od_neA (d_Tape_eq T) T.nn_Tape (hr.mono (by omega)) (u64 hr)) (re_is .lst T.own rfl T.z_isinstance rfl T.z_list (by decide +kernel) (re_v 0)) (re_is .lst T.own rfl T.z_isinstance rfl T.z_list (by decide +kernel) (re_v 1)) rfl)))) (rss_one (rs_ret re_bl)) rss_nil); exact (rss_one (rs_ret (re_and (re_cmp (od_eqA (d_Tape_eq T) T.ns_Tape (hr.mono (by omega)) (u64 hr)) (re_b cd_len rfl T.z_len (by decide +kernel) (ra_c (re_v 0) ra_nil)) (re_b cd_len rfl T.z_len (by decide +kernel) (ra_c (re_v 1) ra_nil)) rfl) (re_one (re_b (cd_all rfl) rfl T.z_all (by decide +kernel) (ra_c (re_comp (own := [(("k" : Str), 3)]) rfl sc_law_same.nd (ri_rg1 rfl T.z_range (ra_c (re_b cd_len rfl T.z_len (by decide +kernel) (ra_c (re_v 0) ra_nil)) ra_nil)) (blk_of (by kernel_rfl)) (fun _ _ _ _ _ => (rg_n 3 sc_law_same.nd rfl (by first | exact .inl rfl | exact .inr rfl))) (fun _ _ _ _ _ => rts_nil) (fun _ _ _ _ _ => (re_call dn (hr.mono (by omega)) rfl (ra_c (re_ix (u1 hr) (re_v 0) (re_v 3) (fun _ _ => rfl)) (ra_c (re_ix (u1 hr) (re_v 1) (re_v 3) (fun _ _ => rfl)) ra_nil))))) ra_nil))))))) rss_nil); exact (by refine rss_cons ?_ ?_; exact (rs_if (rt_w (rw_or (rt_cmp od_isN (re_v 0) re_non rfl) (rw_or1 (rt_cmp od_isN (re_v 1) re_non rfl)))) (rss_one (rs_ret (re_and (re_cmp od_isN (re_v 0) re_non rfl) (re_one (re_cmp od_isN (re_v 1) re_non rfl))))) rss_nil); exact (rss_one (rs_ret (re_and (re_cmp (od_eqA (d_Tape_eq T) T.ns_Tape (hr.mono (by omega)) (u64 hr)) (re_is .bl T.own rfl T.z_isinstance rfl T.z_bool (by decide +kernel) (re_v 0)) (re_is .bl T.own rfl T.z_isinstance rfl T.z_bool (by decide +kernel) (re_v 1)) rfl) (re_one (re_cmp (od_eqA (d_Tape_eq T) T.ns_Tape (hr.mono (by omega)) (u64 hr)) (re_v 0) (re_v 1) rfl))))))))
theorem d_law_spoiled (T : Txt K mg cm) : ∀ n, DefM P w K mg base cm (14 + n) "_law_spoiled" (m_law_spoiled n)
  | 0 => (DefM.zero T.f_law_spoiled).mono (Nat.zero_le _)
  | n + 1 => DefM.of (N := ["bag", "value", "way", "signs", "place", "put", "behind", "inner", "key", "other", "found", "one"]) (ps := ["bag", "value"]) (k := 14 + n) T.f_law_spoiled sc_law_spoiled fun f cdv A outer s H E hr => by
    have dn := d_law_spoiled T n
    exact (by refine rss_cons ?_ ?_; exact (by refine rs_set 2 ?_ ?_ ?_ ?_ ?_ ?_; exact sc_law_spoiled.nd; exact rfl; exact (by first | exact .inl rfl | exact .inr rfl); exact (re_call (d_law_throw T) (hr.mono (by omega)) rfl (ra_c (re_v 0) (ra_c re_int ra_nil))); exact rfl; exact (by first | exact .inl rfl | exact .inr rfl)); exact (by refine rss_cons ?_ ?_; exact (rs_if (rt_tru (re_is .str T.own rfl T.z_isinstance rfl T.z_str (by decide +kernel) (re_v 1))) (by refine rss_cons ?_ ?_; exact (by refine rs_set 3 ?_ ?_ ?_ ?_ ?_ ?_; exact sc_law_spoiled.nd; exact rfl; exact (by first | exact .inl rfl | exact .inr rfl); exact re_str; exact rfl; exact (by first | exact .inl rfl | exact .inr rfl)); exact (by refine rss_cons ?_ ?_; exact (by refine rs_set 4 ?_ ?_ ?_ ?_ ?_ ?_; exact sc_law_spoiled.nd; exact rfl; exact (by first | exact .inl rfl | exact .inr rfl); exact (re_call (d_law_throw T) (hr.mono (by omega)) rfl (ra_c (re_v 0) (ra_c (re_op od_add (re_b cd_len rfl T.z_len (by decide +kernel) (ra_c (re_v 1) ra_nil)) re_int) ra_nil))); exact rfl; exact (by first | exact .inl rfl | exact .inr rfl)); exact (by refine rss_cons ?_ ?_; exact (by refine rs_set 5 ?_ ?_ ?_ ?_ ?_ ?_; exact sc_law_spoiled.nd; exact rfl; exact (by first | exact .inl rfl | exact .inr rfl); exact (re_ix (u1 hr) (re_lst (ra_c (re_call (d_law_pick T) (hr.mono (by omega)) rfl (ra_c (re_v 0) (ra_c (re_v 3) ra_nil))) (ra_c re_str (ra_c (re_call (d_law_pick T) (hr.mono (by omega)) rfl (ra_c (re_v 0) (ra_c (re_v 3) ra_nil))) ra_nil)))) (re_op od_mod (re_ty cd_int rfl T.z_int (by decide +kernel) (ra_c (re_v 2) ra_nil)) re_int) (fun _ _ => rfl)); exact rfl; exact (by first | exact .inl rfl | exact .inr rfl)); exact (by refine rss_cons ?_ ?_; exact (by refine rs_set 6 ?_ ?_ ?_ ?_ ?_ ?_; exact sc_law_spoiled.nd; exact rfl; exact (by first | exact .inl rfl | exact .inr rfl); exact (re_op od_add (re_op od_add (re_v 4) (re_op od_div (re_v 2) re_int)) (re_ty cd_int rfl T.z_int (by decide +kernel) (ra_c (re_cmp (od_eq (u64 hr)) (re_v 5) re_str rfl) ra_nil))); exact rfl; exact (by first | exact .inl rfl | exact .inr rfl)); exact (rss_one (rs_ret (re_op od_add (re_op od_add (re_sl sd_sl (re_v 1) ro_none (ro_some (re_v 4))) (re_v 5)) (re_sl sd_sl (re_v 1) (ro_some (re_v 6)) ro_none)))))))) rss_nil); exact (by refine rss_cons ?_ ?_; exact (rs_if (rt_w (rw_and (rt_tru (re_is .tup T.own rfl T.z_isinstance rfl T.z_tuple (by decide +kernel) (re_v 1))) (rw_and (rt_tru (re_v 1)) (rw_and1 (rt_cmp od_lt (re_v 2) re_int rfl))))) (by refine rss_cons ?_ ?_; exact (by refine rs_set 4 ?_ ?_ ?_ ?_ ?_ ?_; exact sc_law_spoiled.nd; exact rfl; exact (by first | exact .inl rfl | exact .inr rfl); exact (re_call (d_law_throw T) (hr.mono (by omega)) rfl (ra_c (re_v 0) (ra_c (re_b cd_len rfl T.z_len (by decide +kernel) (ra_c (re_v 1) ra_nil)) ra_nil))); exact rfl; exact (by first | exact .inl rfl | exact .inr rfl)); exact (by refine rss_cons ?_ ?_; exact (by refine rs_set 7 ?_ ?_ ?_ ?_ ?_ ?_; exact sc_law_spoiled.nd; exact rfl; exact (by first | exact .inl rfl | exact .inr rfl); exact (re_tup (ra_c (re_call dn (hr.mono (by omega)) rfl (ra_c (re_v 0) (ra_c (re_ix (u1 hr) (re_v 1) (re_v 4) (fun _ _ => rfl)) ra_nil))) ra_nil)); exact rfl; exact (by first | exact .inl rfl | exact .inr rfl)); exact (by refine rss_cons ?_ ?_; exact (by refine rs_set 7 ?_ ?_ ?_ ?_ ?_ ?_; exact sc_law_spoiled.nd; exact rfl; exact (by first | exact .inl rfl | exact .inr rfl); exact (re_ix (u1 hr) (by refine re_lst ?_; refine ra_c ?_ ?_; exact (re_v 7); refine ra_c ?_ ?_; exact (re_tup ra_nil); refine ra_c ?_ ?_; exact (re_tup (ra_c (re_ix (u1 hr) (re_v 1) (re_v 4) (fun _ _ => rfl)) (ra_c (re_ix (u1 hr) (re_v 1) (re_v 4) (fun _ _ => rfl)) ra_nil))); refine ra_c ?_ ?_; exact (re_v 7); exact ra_nil) (re_v 2) (fun _ _ => rfl)); exact rfl; exact (by first | exact .inl rfl | exact .inr rfl)); exact (rss_one (rs_ret (re_op od_add (re_op od_add (re_sl sd_sl (re_v 1) ro_none (ro_some (re_v 4))) (re_v 7)) (re_sl sd_sl (re_v 1) (ro_some (re_op od_add (re_v 4) re_int)) ro_none))))))) rss_nil); exact (by refine rss_cons ?_ ?_; exact (rs_if (rt_w (rw_and (rt_tru (re_is .tup T.own rfl T.z_isinstance rfl T.z_tuple (by decide +kernel) (re_v 1))) (rw_and1 (rt_tru (re_v 1))))) (rss_one (rs_ret (re_if (rt_cmp (od_eq (u64 hr)) (re_v 2) re_int rfl) (re_ty cd_lst rfl T.z_list (by decide +kernel) (ra_c (re_v 1) ra_nil)) (re_revT (re_v 1))))) rss_nil); exact (by refine rss_cons ?_ ?_; exact (rs_if (rt_w (rw_and (rt_tru (re_is .dct T.own rfl T.z_isinstance rfl T.z_dict (by decide +kernel) (re_v 1))) (rw_and1 (rt_tru (re_v 1))))) (by refine rss_cons ?_ ?_; exact (by refine rs_set 8 ?_ ?_ ?_ ?_ ?_ ?_; exact sc_law_spoiled.nd; exact rfl; exact (by first | exact .inl rfl | exact .inr rfl); exact (re_call (d_law_pick T) (hr.mono (by omega)) rfl (ra_c (re_v 0) (ra_c (re_b (cd_sorted rfl) rfl T.z_sorted (by decide +kernel) (ra_c (re_v 1) ra_nil)) ra_nil))); exact rfl; exact (by first | exact .inl rfl | exact .inr rfl)); exact (by refine rss_cons ?_ ?_; exact (by refine rs_set 9 ?_ ?_ ?_ ?_ ?_ ?_; exact sc_law_spoiled.nd; exact rfl; exact (by first | exact .inl rfl | exact .inr rfl); exact (re_call dn (hr.mono (by omega)) rfl (ra_c (re_v 0) (ra_c (re_v 8) ra_nil))); exact rfl; exact (by first | exact .inl rfl | exact .inr rfl)); exact (by refine rss_cons ?_ ?_; exact (by refine rs_set 7 ?_ ?_ ?_ ?_ ?_ ?_; exact sc_law_spoiled.nd; exact rfl; exact (by first | exact .inl rfl | exact .inr rfl); exact (re_call dn (hr.mono (by omega)) rfl (ra_c (re_v 0) (ra_c (re_ix (u1 hr) (re_v 1) (re_v 8) (fun _ _ => rfl)) ra_nil))); exact rfl; exact (by first | exact .inl rfl | exact .inr rfl)); exact (by refine rss_cons ?_ ?_; exact (by refine rs_set 10 ?_ ?_ ?_ ?_ ?_ ?_; exact sc_law_spoiled.nd; exact rfl; exact (by first | exact .inl rfl | exact .inr rfl); exact (re_ty (cd_dictN rfl) rfl T.z_dict (by decide +kernel) (ra_c (re_comp (own := [(("one" : Str), 11)]) rfl sc_law_spoiled.nd (ri_keysV (re_v 1)) (blk_of (by kernel_rfl)) (fun _ _ _ _ _ => (rg_n 11 sc_law_spoiled.nd rfl (by first | exact .inl rfl | exact .inr rfl))) (fun _ _ _ _ _ => (rts_one (rt_w (rw_or (rt_cmp (od_ne (u64 hr)) (re_v 11) (re_v 8) rfl) (rw_or1 (rt_cmp (od_notIn (u65 hr)) (re_v 2) (re_tup (ra_c re_int (ra_c re_int (ra_c re_int ra_nil)))) rfl)))))) (fun _ _ _ _ _ => (re_tup (ra_c (re_v 11) (ra_c (re_ix (u1 hr) (re_v 1) (re_v 11) (fun _ _ => rfl)) ra_nil))))) ra_nil)); exact rfl; exact (by first | exact .inl rfl | exact .inr rfl)); exact (by refine rss_cons ?_ ?_; exact (rs_if (rt_cmp (od_ne (u64 hr)) (re_v 2) re_int rfl) (rss_one (rs_put (u1 hr) (re_ix (u1 hr) (re_lst (ra_c (re_ix (u1 hr) (re_v 1) (re_v 8) (fun _ _ => rfl)) (ra_c (re_v 7) ra_nil))) (re_op od_mod (re_ty cd_int rfl T.z_int (by decide +kernel) (ra_c (re_op od_div (re_v 2) re_int) ra_nil)) re_int) (fun _ _ => rfl)) (re_v 10) (re_ix (u1 hr) (by refine re_lst ?_; refine ra_c ?_ ?_; exact (re_v 9); refine ra_c ?_ ?_; exact (re_v 9); refine ra_c ?_ ?_; exact (re_v 8); refine ra_c ?_ ?_; exact (re_v 8); refine ra_c ?_ ?_; exact (re_v 8); refine ra_c ?_ ?_; exact (re_v 9); exact ra_nil) (re_v 2) (fun _ _ => rfl)))) rss_nil); exact (rss_one (rs_ret (re_frz (re_v 10))))))))) rss_nil); exact (rss_one (rs_ret (re_call (d_law_odd T) (hr.mono (by omega)) rfl (ra_c (re_v 0) ra_nil)))))))))
theorem d_law_start (T : Txt K mg cm) : DefM P w K mg base cm 3 "_law_start" m_law_start :=
  DefM.of (N := ["script", "at", "cell", "great", "mixed"]) (ps := ["script", "at"]) (k := 2) T.f_law_start sc_law_start fun f cdv A outer s H E hr =>
    (by refine rss_cons ?_ ?_; exact (by refine rs_set 2 ?_ ?_ ?_ ?_ ?_ ?_; exact sc_law_start.nd; exact rfl; exact (by first | exact .inl rfl | exact .inr rfl); exact (re_if (rt_cmp od_lt (re_v 1) (re_b cd_len rfl T.z_len (by decide +kernel) (ra_c (re_v 0) ra_nil)) rfl) (re_ix (u1 hr) (re_v 0) (re_v 1) (fun _ _ => rfl)) (re_op od_add (re_op od_mul re_int (re_v 1)) re_int)); exact rfl; exact (by first | exact .inl rfl | exact .inr rfl)); exact (by refine rss_cons ?_ ?_; exact (by refine rs_set 3 ?_ ?_ ?_ ?_ ?_ ?_; exact sc_law_start.nd; exact rfl; exact (by first | exact .inl rfl | exact .inr rfl); exact (re_op od_mod (re_ty cd_int rfl T.z_int (by decide +kernel) (ra_c (re_b cd_abs rfl T.z_abs (by decide +kernel) (ra_c (re_v 2) ra_nil)) ra_nil)) (re_op od_pow (re_op od_pow re_int re_int) re_int)); exact rfl; exact (by first | exact .inl rfl | exact .inr rfl)); exact (by refine rss_cons ?_ ?_; exact (by refine rs_set 4 ?_ ?_ ?_ ?_ ?_ ?_; exact sc_law_start.nd; exact rfl; exact (by first | exact .inl rfl | exact .inr rfl); exact (re_op od_add (re_op od_mul (re_op od_mod (re_ty cd_int rfl T.z_int (by decide +kernel) (ra_c (re_v 3) ra_nil)) re_int) re_int) (re_ty cd_int rfl T.z_int (by decide +kernel) (ra_c (re_cmp od_lt (re_v 2) re_int rfl) ra_nil))); exact rfl; exact (by first | exact .inl rfl | exact .inr rfl)); exact (rss_one (rs_ret (re_lstN (ra_c (re_b (cd_max rfl) rfl T.z_max (by decide +kernel) (ra_c re_int (ra_c (re_op od_sub (re_v 3) (re_op od_pow re_int re_int)) ra_nil))) (ra_c (re_op od_mod (re_ty cd_int rfl T.z_int (by decide +kernel) (ra_c (re_op od_add (re_op od_add (re_op od_mul (re_v 4) re_int) (re_op od_mul re_int (re_v 1))) re_int) ra_nil)) re_int) (ra_c re_int ra_nil)))))))))
theorem d_is_letters (T : Txt K mg cm) : DefM P w K mg base cm 5 "is_letters" m_is_letters :=
  DefM.of (N := ["value", "letter", "one", "other"]) (ps := ["value"]) (k := 4) T.f_is_letters sc_is_letters fun f cdv A outer s H E hr =>
    (by refine rss_cons ?_ ?_; exact (rs_if (rt_w (rw_or (rt_not (rt_tru (re_is .tup T.own rfl T.z_isinstance rfl T.z_tuple (by decide +kernel) (re_v 0)))) (rw_or1 (rt_cmp (od_eq (u64 hr)) (re_b cd_len rfl T.z_len (by decide +kernel) (ra_c (re_v 0) ra_nil)) re_int rfl)))) (rss_one (rs_ret re_bl)) rss_nil); exact (by refine rss_cons ?_ ?_; exact (rs_for (passes_of rfl) rfl (ri_seq (re_v 0)) (rg_n 1 sc_is_letters.nd rfl (by first | exact .inl rfl | exact .inr rfl)) (rss_one (rs_if (rt_not (rt_tru (re_call (d_is_letter T) (hr.mono (by omega)) rfl (ra_c (re_v 1) ra_nil)))) (rss_one (rs_ret re_bl)) rss_nil))); exact (by refine rss_cons ?_ ?_; exact (rs_for (passes_of rfl) rfl (ri_zipT rfl T.z_zip (ra_c (re_v 0) (ra_c (re_sl sd_sl (re_v 0) (ro_some re_int) ro_none) ra_nil))) (rg_t rfl (rgs_cons (rg_n 2 sc_is_letters.nd rfl (by first | exact .inl rfl | exact .inr rfl)) (rgs_cons (rg_n 3 sc_is_letters.nd rfl (by first | exact .inl rfl | exact .inr rfl)) rgs_nil))) (rss_one (rs_if (rt_cmp od_ge (re_v 2) (re_v 3) rfl) (rss_one (rs_ret re_bl)) rss_nil))); exact (rss_one (rs_ret re_bl)))))
theorem d_is_layout (T : Txt K mg cm) : DefM P w K mg base cm 7 "is_layout" m_is_layout :=
  DefM.of (N := ["value", "name", "letters"]) (ps := ["value"]) (k := 6) T.f_is_layout sc_is_layout fun f cdv A outer s H E hr =>
    (by refine rss_cons ?_ ?_; exact (rs_if (rt_w (rw_or (rt_not (rt_tru (re_is .dct T.own rfl T.z_isinstance rfl T.z_dict (by decide +kernel) (re_v 0)))) (rw_or1 (rt_not (rt_chain od_le od_le re_int (re_b cd_len rfl T.z_len (by decide +kernel) (ra_c (re_v 0) ra_nil)) (re_gintE rfl T.g_MAX_SOURCES)))))) (rss_one (rs_ret re_bl)) rss_nil); exact (by refine rss_cons ?_ ?_; exact (rs_for (passes_of rfl) rfl (ri_itemsV (re_v 0)) (rg_t rfl (rgs_cons (rg_n 1 sc_is_layout.nd rfl (by first | exact .inl rfl | exact .inr rfl)) (rgs_cons (rg_n 2 sc_is_layout.nd rfl (by first | exact .inl rfl | exact .inr rfl)) rgs_nil))) (rss_one (rs_if (rt_w (rw_or (rt_not (rt_tru (re_call (d_is_name T) (hr.mono (by omega)) rfl (ra_c (re_v 1) ra_nil)))) (rw_or (rt_not (rt_tru (re_call (d_is_letters T) (hr.mono (by omega)) rfl (ra_c (re_v 2) ra_nil)))) (rw_or1 (rt_cmp od_gt (re_b cd_len rfl T.z_len (by decide +kernel) (ra_c (re_v 2) ra_nil)) (re_gintE rfl T.g_MAX_SOURCE_LETTERS) rfl))))) (rss_one (rs_ret re_bl)) rss_nil))); exact (rss_one (rs_ret re_bl))))
theorem d_is_end (T : Txt K mg cm) : DefM P w K mg base cm 3 "is_end" m_is_end :=
  DefM.of (N := ["value"]) (ps := ["value"]) (k := 2) T.f_is_end sc_is_end fun f cdv A outer s H E hr =>
    (rss_one (rs_ret (re_and (re_is .str T.own rfl T.z_isinstance rfl T.z_str (by decide +kernel) (re_v 0)) (re_one (re_cmp (od_eq (u64 hr)) (re_v 0) (re_gstrE rfl T.g_END) rfl)))))
theorem d_is_output (T : Txt K mg cm) : DefM P w K mg base cm 5 "is_output" m_is_output :=
  DefM.of (N := ["value", "values", "one"]) (ps := ["value"]) (k := 4) T.f_is_output sc_is_output fun f cdv A outer s H E hr =>
    (by refine rss_cons ?_ ?_; exact (rs_if (rt_w (rw_or (rt_not (rt_tru (re_is .tup T.own rfl T.z_isinstance rfl T.z_tuple (by decide +kernel) (re_v 0)))) (rw_or (rt_cmp (od_ne (u64 hr)) (re_b cd_len rfl T.z_len (by decide +kernel) (ra_c (re_v 0) ra_nil)) re_int rfl) (rw_or1 (rt_not (rt_tru (re_call (d_is_letter T) (hr.mono (by omega)) rfl (ra_c (re_ix (u1 hr) (re_v 0) re_int (fun _ _ => rfl)) ra_nil)))))))) (rss_one (rs_ret re_bl)) rss_nil); exact (by refine rss_cons ?_ ?_; exact (by refine rs_set 1 ?_ ?_ ?_ ?_ ?_ ?_; exact sc_is_output.nd; exact rfl; exact (by first | exact .inl rfl | exact .inr rfl); exact (re_ix (u1 hr) (re_v 0) re_int (fun _ _ => rfl)); exact rfl; exact (by first | exact .inl rfl | exact .inr rfl)); exact (by refine rss_cons ?_ ?_; exact (rs_if (rt_w (rw_or (rt_not (rt_tru (re_is .tup T.own rfl T.z_isinstance rfl T.z_tuple (by decide +kernel) (re_v 1)))) (rw_or1 (rt_cmp od_gt (re_b cd_len rfl T.z_len (by decide +kernel) (ra_c (re_v 1) ra_nil)) (re_gintE rfl T.g_MAX_VALUES) rfl)))) (rss_one (rs_ret re_bl)) rss_nil); exact (rss_one (rs_ret (re_b (cd_all rfl) rfl T.z_all (by decide +kernel) (ra_c (re_comp (own := [(("one" : Str), 2)]) rfl sc_is_output.nd (ri_seq (re_v 1)) (blk_of (by kernel_rfl)) (fun _ _ _ _ _ => (rg_n 2 sc_is_output.nd rfl (by first | exact .inl rfl | exact .inr rfl))) (fun _ _ _ _ _ => rts_nil) (fun _ _ _ _ _ => (re_call (d_is_integer T) (hr.mono (by omega)) rfl (ra_c (re_v 2) ra_nil)))) ra_nil)))))))
theorem d_is_list (T : Txt K mg cm) : DefM P w K mg base cm 7 "is_list" m_is_list :=
  DefM.of (N := ["value", "outputs", "one"]) (ps := ["value"]) (k := 6) T.f_is_list sc_is_list fun f cdv A outer s H E hr =>
    (by refine rss_cons ?_ ?_; exact (rs_if (rt_not (rt_tru (re_is .tup T.own rfl T.z_isinstance rfl T.z_tuple (by decide +kernel) (re_v 0)))) (rss_one (rs_ret re_bl)) rss_nil); exact (by refine rss_cons ?_ ?_; exact (by refine rs_set 1 ?_ ?_ ?_ ?_ ?_ ?_; exact sc_is_list.nd; exact rfl; exact (by first | exact .inl rfl | exact .inr rfl); exact (re_v 0); exact rfl; exact (by first | exact .inl rfl | exact .inr rfl)); exact (by refine rss_cons ?_ ?_; exact (rs_if (rt_w (rw_and (rt_tru (re_v 0)) (rw_and1 (rt_tru (re_call (d_is_end T) (hr.mono (by omega)) rfl (ra_c (re_ix (u1 hr) (re_v 0) (re_un ud_neg re_int) (fun _ _ => rfl)) ra_nil)))))) (rss_one (by refine rs_set 1 ?_ ?_ ?_ ?_ ?_ ?_; exact sc_is_list.nd; exact rfl; exact (by first | exact .inl rfl | exact .inr rfl); exact (re_sl sd_sl (re_v 0) ro_none (ro_some (re_un ud_neg re_int))); exact rfl; exact (by first | exact .inl rfl | exact .inr rfl))) rss_nil); exact (rss_one (rs_ret (re_b (cd_all rfl) rfl T.z_all (by decide +kernel) (ra_c (re_comp (own := [(("one" : Str), 2)]) rfl sc_is_list.nd (ri_seq (re_v 1)) (blk_of (by kernel_rfl)) (fun _ _ _ _ _ => (rg_n 2 sc_is_list.nd rfl (by first | exact .inl rfl | exact .inr rfl))) (fun _ _ _ _ _ => rts_nil) (fun _ _ _ _ _ => (re_call (d_is_output T) (hr.mono (by omega)) rfl (ra_c (re_v 2) ra_nil)))) ra_nil)))))))
theorem law_p0 (T : Txt K mg cm) {f : Addr} {cdv : Value} {A : Around} {outer : List Env} {s : Shared} {H : Hp} {E : XK} (hr : Room 23 (A.deeper (envOfC "law" (defScope s_law) s.heap.objs.size f cdv))) : RS cm (cxOf (L2.CX P w) P w K mg base ["script", "at", "bag", "spoils", "value", "turn", "due", "copied", "told", "one"] "law" (defScope s_law) f cdv A outer s H E) (stAt (forBody (stAt (defBody s_law) 0)) 0) (sSet 2 (mCall m_law_start (aCons (mV 0) (aCons (mV 1) aNil)))) :=
  (by refine rs_set 2 ?_ ?_ ?_ ?_ ?_ ?_; exact sc_law.nd; exact rfl; exact (by first | exact .inl rfl | exact .inr rfl); exact (re_call (d_law_start T) (hr.mono (by omega)) rfl (ra_c (re_v 0) (ra_c (re_v 1) ra_nil))); exact rfl; exact (by first | exact .inl rfl | exact .inr rfl))
theorem law_p1 (T : Txt K mg cm) {f : Addr} {cdv : Value} {A : Around} {outer : List Env} {s : Shared} {H : Hp} {E : XK} (hr : Room 23 (A.deeper (envOfC "law" (defScope s_law) s.heap.objs.size f cdv))) : RS cm (cxOf (L2.CX P w) P w K mg base ["script", "at", "bag", "spoils", "value", "turn", "due", "copied", "told", "one"] "law" (defScope s_law) f cdv A outer s H E) (stAt (forBody (stAt (defBody s_law) 0)) 1) (sSet 3 (m2 dSub (mCall m_law_throw (aCons (mV 2) (aCons (mC (.int 4)) aNil))) (mC (.int 1)))) :=
  (by refine rs_set 3 ?_ ?_ ?_ ?_ ?_ ?_; exact sc_law.nd; exact rfl; exact (by first | exact .inl rfl | exact .inr rfl); exact (re_op od_sub (re_call (d_law_throw T) (hr.mono (by omega)) rfl (ra_c (re_v 2) (ra_c re_int ra_nil))) re_int); exact rfl; exact (by first | exact .inl rfl | exact .inr rfl))
theorem law_p2 (T : Txt K mg cm) {f : Addr} {cdv : Value} {A : Around} {outer : List Env} {s : Shared} {H : Hp} {E : XK} (hr : Room 23 (A.deeper (envOfC "law" (defScope s_law) s.heap.objs.size f cdv))) : RS cm (cxOf (L2.CX P w) P w K mg base ["script", "at", "bag", "spoils", "value", "turn", "due", "copied", "told", "one"] "law" (defScope s_law) f cdv A outer s H E) (stAt (forBody (stAt (defBody s_law) 0)) 2) (sSet 4 (mCall m_law_good (aCons (mV 2) (aCons (mCall m_law_throw (aCons (mV 2) (aCons (mC (.int 7)) aNil))) aNil)))) :=
  (by refine rs_set 4 ?_ ?_ ?_ ?_ ?_ ?_; exact sc_law.nd; exact rfl; exact (by first | exact .inl rfl | exact .inr rfl); exact (re_call (d_law_good T) (hr.mono (by omega)) rfl (ra_c (re_v 2) (ra_c (re_call (d_law_throw T) (hr.mono (by omega)) rfl (ra_c (re_v 2) (ra_c re_int ra_nil))) ra_nil))); exact rfl; exact (by first | exact .inl rfl | exact .inr rfl))
theorem law_p3 (T : Txt K mg cm) {f : Addr} {cdv : Value} {A : Around} {outer : List Env} {s : Shared} {H : Hp} {E : XK} (hr : Room 23 (A.deeper (envOfC "law" (defScope s_law) s.heap.objs.size f cdv))) : RS cm (cxOf (L2.CX P w) P w K mg base ["script", "at", "bag", "spoils", "value", "turn", "due", "copied", "told", "one"] "law" (defScope s_law) f cdv A outer s H E) (stAt (forBody (stAt (forBody (stAt (defBody s_law) 0)) 3)) 0) (sSet 4 (mCall (m_law_spoiled 8) (aCons (mV 2) (aCons (mV 4) aNil)))) :=
  (by refine rs_set 4 ?_ ?_ ?_ ?_ ?_ ?_; exact sc_law.nd; exact rfl; exact (by first | exact .inl rfl | exact .inr rfl); exact (re_call (d_law_spoiled T 8) (hr.mono (by omega)) rfl (ra_c (re_v 2) (ra_c (re_v 4) ra_nil))); exact rfl; exact (by first | exact .inl rfl | exact .inr rfl))
theorem law_p4 (T : Txt K mg cm) {f : Addr} {cdv : Value} {A : Around} {outer : List Env} {s : Shared} {H : Hp} {E : XK} (hr : Room 23 (A.deeper (envOfC "law" (defScope s_law) s.heap.objs.size f cdv))) : RS cm (cxOf (L2.CX P w) P w K mg base ["script", "at", "bag", "spoils", "value", "turn", "due", "copied", "told", "one"] "law" (defScope s_law) f cdv A outer s H E) (stAt (forBody (stAt (defBody s_law) 0)) 4) (sSet 6 (mLst (aCons (mCall m_law_is_letter (aCons (mV 4) aNil)) (aCons (mCall m_law_is_name (aCons (mV 4) aNil)) (aCons (mCall m_law_is_layout (aCons (mV 4) aNil)) (aCons (mCall m_law_is_event (aCons (mV 4) aNil)) aNil)))))) :=
  (by refine rs_set 6 ?_ ?_ ?_ ?_ ?_ ?_; exact sc_law.nd; exact rfl; exact (by first | exact .inl rfl | exact .inr rfl); exact (by refine re_lst ?_; refine ra_c ?_ ?_; exact (re_call (d_law_is_letter T) (hr.mono (by omega)) rfl (ra_c (re_v 4) ra_nil)); refine ra_c ?_ ?_; exact (re_call (d_law_is_name T) (hr.mono (by omega)) rfl (ra_c (re_v 4) ra_nil)); refine ra_c ?_ ?_; exact (re_call (d_law_is_layout T) (hr.mono (by omega)) rfl (ra_c (re_v 4) ra_nil)); refine ra_c ?_ ?_; exact (re_call (d_law_is_event T) (hr.mono (by omega)) rfl (ra_c (re_v 4) ra_nil)); exact ra_nil); exact rfl; exact (by first | exact .inl rfl | exact .inr rfl))
theorem law_p5 (T : Txt K mg cm) {f : Addr} {cdv : Value} {A : Around} {outer : List Env} {s : Shared} {H : Hp} {E : XK} (hr : Room 23 (A.deeper (envOfC "law" (defScope s_law) s.heap.objs.size f cdv))) : RS cm (cxOf (L2.CX P w) P w K mg base ["script", "at", "bag", "spoils", "value", "turn", "due", "copied", "told", "one"] "law" (defScope s_law) f cdv A outer s H E) (stAt (forBody (stAt (defBody s_law) 0)) 5) (sSet 6 (m2 dAdd (mV 6) (mLst (aCons (mCall m_law_is_output (aCons (mV 4) aNil)) (aCons (mCall m_law_is_list (aCons (mV 4) aNil)) aNil))))) :=
  (by refine rs_set 6 ?_ ?_ ?_ ?_ ?_ ?_; exact sc_law.nd; exact rfl; exact (by first | exact .inl rfl | exact .inr rfl); exact (re_op od_add (re_v 6) (re_lst (ra_c (re_call (d_law_is_output T) (hr.mono (by omega)) rfl (ra_c (re_v 4) ra_nil)) (ra_c (re_call (d_law_is_list T) (hr.mono (by omega)) rfl (ra_c (re_v 4) ra_nil)) ra_nil)))); exact rfl; exact (by first | exact .inl rfl | exact .inr rfl))
theorem law_p6 (T : Txt K mg cm) {f : Addr} {cdv : Value} {A : Around} {outer : List Env} {s : Shared} {H : Hp} {E : XK} (hr : Room 23 (A.deeper (envOfC "law" (defScope s_law) s.heap.objs.size f cdv))) : RS cm (cxOf (L2.CX P w) P w K mg base ["script", "at", "bag", "spoils", "value", "turn", "due", "copied", "told", "one"] "law" (defScope s_law) f cdv A outer s H E) (stAt (forBody (stAt (defBody s_law) 0)) 6) (sSet 7 (mCall (m_law_copied 9) (aCons (mV 4) aNil))) :=
  (by refine rs_set 7 ?_ ?_ ?_ ?_ ?_ ?_; exact sc_law.nd; exact rfl; exact (by first | exact .inl rfl | exact .inr rfl); exact (re_call (d_law_copied T 9) (hr.mono (by omega)) rfl (ra_c (re_v 4) ra_nil)); exact rfl; exact (by first | exact .inl rfl | exact .inr rfl))
theorem law_p7 (T : Txt K mg cm) {f : Addr} {cdv : Value} {A : Around} {outer : List Env} {s : Shared} {H : Hp} {E : XK} (hr : Room 23 (A.deeper (envOfC "law" (defScope s_law) s.heap.objs.size f cdv))) : RS cm (cxOf (L2.CX P w) P w K mg base ["script", "at", "bag", "spoils", "value", "turn", "due", "copied", "told", "one"] "law" (defScope s_law) f cdv A outer s H E) (stAt (forBody (stAt (defBody s_law) 0)) 7) (sSet 8 (mLst (aCons (mCall m_is_letter (aCons (mV 4) aNil)) (aCons (mCall m_is_name (aCons (mV 4) aNil)) (aCons (mCall m_is_layout (aCons (mV 4) aNil)) (aCons (mCall m_is_event (aCons (mV 4) aNil)) aNil)))))) :=
  (by refine rs_set 8 ?_ ?_ ?_ ?_ ?_ ?_; exact sc_law.nd; exact rfl; exact (by first | exact .inl rfl | exact .inr rfl); exact (by refine re_lst ?_; refine ra_c ?_ ?_; exact (re_call (d_is_letter T) (hr.mono (by omega)) rfl (ra_c (re_v 4) ra_nil)); refine ra_c ?_ ?_; exact (re_call (d_is_name T) (hr.mono (by omega)) rfl (ra_c (re_v 4) ra_nil)); refine ra_c ?_ ?_; exact (re_call (d_is_layout T) (hr.mono (by omega)) rfl (ra_c (re_v 4) ra_nil)); refine ra_c ?_ ?_; exact (re_call (d_is_event T) (hr.mono (by omega)) rfl (ra_c (re_v 4) ra_nil)); exact ra_nil); exact rfl; exact (by first | exact .inl rfl | exact .inr rfl))
theorem law_p8 (T : Txt K mg cm) {f : Addr} {cdv : Value} {A : Around} {outer : List Env} {s : Shared} {H : Hp} {E : XK} (hr : Room 23 (A.deeper (envOfC "law" (defScope s_law) s.heap.objs.size f cdv))) : RS cm (cxOf (L2.CX P w) P w K mg base ["script", "at", "bag", "spoils", "value", "turn", "due", "copied", "told", "one"] "law" (defScope s_law) f cdv A outer s H E) (stAt (forBody (stAt (defBody s_law) 0)) 8) (sSet 8 (m2 dAdd (mV 8) (mLst (aCons (mCall m_is_output (aCons (mV 4) aNil)) (aCons (mCall m_is_list (aCons (mV 4) aNil)) aNil))))) :=
  (by refine rs_set 8 ?_ ?_ ?_ ?_ ?_ ?_; exact sc_law.nd; exact rfl; exact (by first | exact .inl rfl | exact .inr rfl); exact (re_op od_add (re_v 8) (re_lst (ra_c (re_call (d_is_output T) (hr.mono (by omega)) rfl (ra_c (re_v 4) ra_nil)) (ra_c (re_call (d_is_list T) (hr.mono (by omega)) rfl (ra_c (re_v 4) ra_nil)) ra_nil)))); exact rfl; exact (by first | exact .inl rfl | exact .inr rfl))
theorem law_p9 (T : Txt K mg cm) {f : Addr} {cdv : Value} {A : Around} {outer : List Env} {s : Shared} {H : Hp} {E : XK} (hr : Room 23 (A.deeper (envOfC "law" (defScope s_law) s.heap.objs.size f cdv))) : RS cm (cxOf (L2.CX P w) P w K mg base ["script", "at", "bag", "spoils", "value", "turn", "due", "copied", "told", "one"] "law" (defScope s_law) f cdv A outer s H E) (stAt (forBody (stAt (defBody s_law) 0)) 9) (sIf (tOr' (tNot' (tTru (mB bAll (aCons (mComp (iSeq (mV 8)) (gN 9) tT (mIs .bl (mV 9)) [9]) aNil)))) (tOr' (tB' (m2 dNe (mV 8) (mV 6))) (tNot' (tTru (mCall (m_law_same 9) (aCons (mV 4) (aCons (mV 7) aNil))))))) (sRet (mC (.bl false))) sNil) :=
  (rs_if (rt_w (rw_or (rt_not (rt_tru (re_b (cd_all rfl) rfl T.z_all (by decide +kernel) (ra_c (re_comp (own := [(("one" : Str), 9)]) rfl sc_law.nd (ri_seq (re_v 8)) (blk_of (by kernel_rfl)) (fun _ _ _ _ _ => (rg_n 9 sc_law.nd rfl (by first | exact .inl rfl | exact .inr rfl))) (fun _ _ _ _ _ => rts_nil) (fun _ _ _ _ _ => (re_is .bl T.own rfl T.z_isinstance rfl T.z_bool (by decide +kernel) (re_v 9)))) ra_nil)))) (rw_or (rt_cmp (od_ne (u64 hr)) (re_v 8) (re_v 6) rfl) (rw_or1 (rt_not (rt_tru (re_call (d_law_same T 9) (hr.mono (by omega)) rfl (ra_c (re_v 4) (ra_c (re_v 7) ra_nil))))))))) (rss_one (rs_ret re_bl)) rss_nil)
theorem law_p10 (T : Txt K mg cm) {f : Addr} {cdv : Value} {A : Around} {outer : List Env} {s : Shared} {H : Hp} {E : XK} (hr : Room 23 (A.deeper (envOfC "law" (defScope s_law) s.heap.objs.size f cdv))) : RS cm (cxOf (L2.CX P w) P w K mg base ["script", "at", "bag", "spoils", "value", "turn", "due", "copied", "told", "one"] "law" (defScope s_law) f cdv A outer s H E) (stAt (defBody s_law) 1) (sRet (mC (.bl true))) :=
  (rs_ret re_bl)
theorem d_law (T : Txt K mg cm) {f : Addr} {fd : FuncData} (b : Fun K "law" "law" s_law f fd) : FnOk P w K mg base (L2.CX P w) 24 f fd ["script"] (spF ⟨K, cm.cls, cm.exc⟩ 1 m_law) :=
  fnm_of (N := ["script", "at", "bag", "spoils", "value", "turn", "due", "copied", "told", "one"]) (ps := ["script"]) (k := 23) b sc_law fun f cdv A outer s H E hr =>
    (by refine rss_cons ?_ ?_; exact (rs_for (passes_of rfl) rfl (ri_rg1 rfl T.z_range (ra_c (re_b (cd_max rfl) rfl T.z_max (by decide +kernel) (ra_c re_int (ra_c (re_b cd_len rfl T.z_len (by decide +kernel) (ra_c (re_v 0) ra_nil)) ra_nil))) ra_nil)) (rg_n 1 sc_law.nd rfl (by first | exact .inl rfl | exact .inr rfl)) (by refine rss_cons ?_ ?_; exact (law_p0 T hr); exact (by refine rss_cons ?_ ?_; exact (law_p1 T hr); exact (by refine rss_cons ?_ ?_; exact (law_p2 T hr); exact (by refine rss_cons ?_ ?_; exact (rs_for (passes_of rfl) rfl (ri_rg1 rfl T.z_range (ra_c (re_v 3) ra_nil)) (rg_n 5 sc_law.nd rfl (by first | exact .inl rfl | exact .inr rfl)) (rss_one (law_p3 T hr))); exact (by refine rss_cons ?_ ?_; exact (law_p4 T hr); exact (by refine rss_cons ?_ ?_; exact (law_p5 T hr); exact (by refine rss_cons ?_ ?_; exact (law_p6 T hr); exact (by refine rss_cons ?_ ?_; exact (law_p7 T hr); exact (by refine rss_cons ?_ ?_; exact (law_p8 T hr); exact (rss_one (law_p9 T hr)))))))))))); exact (rss_one (law_p10 T hr)))
end
end K01

namespace K01
open PySem PySem.Spec PyProof.Rows L2 Mi
/-! ### how mirrors run -/
theorem body_rt {n k : Nat} {f : T} {ds : List D} {S S' : So} {d : D} (hl : ds.length = k) (h : f (ds.map some ++ List.replicate (n - k) none) S = .ok (.rt d) S') : bodyM n k f ds S = .ok d S' := by
  unfold bodyM
  rw [if_pos hl, h]
  rfl
theorem body_nx {n k : Nat} {f : T} {ds : List D} {S S' : So} {en : En} (hl : ds.length = k) (h : f (ds.map some ++ List.replicate (n - k) none) S = .ok (.nx en) S') : bodyM n k f ds S = .ok .non S' := by
  unfold bodyM
  rw [if_pos hl, h]
  rfl
theorem body_err {n k : Nat} {f : T} {ds : List D} {S S' : So} {en : En} {x : Ex} (hl : ds.length = k) (h : f (ds.map some ++ List.replicate (n - k) none) S = .err x en S') : bodyM n k f ds S = .err x [] S' := by
  unfold bodyM
  rw [if_pos hl, h]
  rfl
theorem seq_rt {f g : T} {en : En} {S S' : So} {d : D} (h : f en S = .ok (.rt d) S') : sSeq f g en S = .ok (.rt d) S' := by
  unfold sSeq
  rw [h]
  rfl
theorem seq_err {f g : T} {en en' : En} {S S' : So} {x : Ex} (h : f en S = .err x en' S') : sSeq f g en S = .err x en' S' := by
  unfold sSeq
  rw [h]
  rfl
theorem seq_nx {f g : T} {en en1 : En} {S S1 : So} {r : R Fl} (h : f en S = .ok (.nx en1) S1) (k : g en1 S1 = r) : sSeq f g en S = r := by
  unfold sSeq
  rw [h]
  exact k
theorem if_t {t : E Bool} {f g : T} {en : En} {S S1 : So} {r : R Fl} (h : t en S = .ok true S1) (k : f en S1 = r) : sIf t f g en S = r := by
  unfold sIf
  rw [h]
  exact k
theorem if_f {t : E Bool} {f g : T} {en : En} {S S1 : So} {r : R Fl} (h : t en S = .ok false S1) (k : g en S1 = r) : sIf t f g en S = r := by
  unfold sIf
  rw [h]
  exact k
theorem ife_t {t : E Bool} {f g : E D} {en : En} {S S1 : So} {r : R D} (h : t en S = .ok true S1) (k : f en S1 = r) : mIf t f g en S = r := by
  unfold mIf
  rw [h]
  exact k
theorem ife_f {t : E Bool} {f g : E D} {en : En} {S S1 : So} {r : R D} (h : t en S = .ok false S1) (k : g en S1 = r) : mIf t f g en S = r := by
  unfold mIf
  rw [h]
  exact k
theorem set_ok {i : Nat} {f : E D} {en : En} {S S1 : So} {d : D} (h : f en S = .ok d S1) : sSet i f en S = .ok (.nx (en.set i (some d))) S1 := by
  unfold sSet
  rw [h]
  rfl
theorem ret_ok {f : E D} {en : En} {S S1 : So} {d : D} (h : f en S = .ok d S1) : sRet f en S = .ok (.rt d) S1 := by
  unfold sRet
  rw [h]
  rfl
theorem ret_err {f : E D} {en en' : En} {S S1 : So} {x : Ex} (h : f en S = .err x en' S1) : sRet f en S = .err x en' S1 := by
  unfold sRet
  rw [h]
  rfl
theorem ex_ok {f : E D} {en : En} {S S1 : So} {d : D} (h : f en S = .ok d S1) : sEx f en S = .ok (.nx en) S1 := by
  unfold sEx
  rw [h]
  rfl
theorem par_ok {i j : Nat} {f : E (List D)} {en : En} {S S1 : So} {a b : D} (h : f en S = .ok [a, b] S1) : sPar i j f en S = .ok (.nx ((en.set i (some a)).set j (some b))) S1 := by
  unfold sPar
  rw [h]
  rfl
theorem lst_ok {g : E (List D)} {en : En} {S S1 : So} {l : List D} (h : g en S = .ok l S1) (hz : l.length ≤ sizeLine) : mLst g en S = .ok (.lst l) S1 := by
  unfold mLst
  rw [h]
  exact if_pos hz
theorem tup_ok {g : E (List D)} {en : En} {S S1 : So} {l : List D} (h : g en S = .ok l S1) (hz : l.length ≤ sizeLine) : mTup g en S = .ok (.tup l) S1 := by
  unfold mTup
  rw [h]
  exact if_pos hz
theorem m2_ok {o : Op2} {f g : E D} {en : En} {S S1 S2 S3 : So} {a b d : D} (h : f en S = .ok a S1) (k : g en S1 = .ok b S2) (e : o a b S2 = some (d, S3)) : m2 o f g en S = .ok d S3 := by
  unfold m2
  rw [h, R.bind_ok, k, R.bind_ok, e]
  rfl
theorem m1_ok {o : Op1} {f : E D} {en : En} {S S1 S3 : So} {a d : D} (h : f en S = .ok a S1) (e : o a S1 = some (d, S3)) : m1 o f en S = .ok d S3 := by
  unfold m1
  rw [h, R.bind_ok, e]
  rfl
theorem cons_ok {f : E D} {g : E (List D)} {en : En} {S S1 S2 : So} {d : D} {l : List D} (h : f en S = .ok d S1) (k : g en S1 = .ok l S2) : aCons f g en S = .ok (d :: l) S2 := by
  unfold aCons
  rw [h, R.bind_ok, k]
  rfl
theorem nil_ok {en : En} {S : So} : aNil en S = .ok [] S := rfl
theorem one_ok {f : E D} {en : En} {S S1 : So} {d : D} (h : f en S = .ok d S1) : aCons f aNil en S = .ok [d] S1 := cons_ok h rfl
theorem call_ok {F : Fm} {fa : E (List D)} {en : En} {S S1 S2 : So} {l : List D} {d : D} (h : fa en S = .ok l S1) (k : F l S1 = .ok d S2) : mCall F fa en S = .ok d S2 := by
  unfold mCall
  rw [h, R.bind_ok, k]
  rfl
theorem b_ok {o : OpL} {fa : E (List D)} {en : En} {S S1 S2 : So} {l : List D} {d : D} (h : fa en S = .ok l S1) (k : o l S1 = some (d, S2)) : mB o fa en S = .ok d S2 := by
  unfold mB
  rw [h, R.bind_ok, k]
  rfl
theorem tst_ok {f : E D} {en : En} {S S1 : So} {b : Bool} (h : f en S = .ok (.bl b) S1) : tB' f en S = .ok b S1 := by
  unfold tB'
  rw [h]
  rfl
theorem tru_bl {f : E D} {en : En} {S S1 : So} {b : Bool} (h : f en S = .ok (.bl b) S1) : tTru f en S = .ok b S1 := by
  unfold tTru
  rw [h]
  rfl
theorem tru_ok {f : E D} {en : En} {S S1 : So} {d : D} {b : Bool} (h : f en S = .ok d S1) (e : truD d S1 = some b) : tTru f en S = .ok b S1 := by
  unfold tTru
  rw [h, R.bind_ok, e]
theorem tnot {t : E Bool} {en : En} {S S1 : So} {b : Bool} (h : t en S = .ok b S1) : tNot' t en S = .ok (!b) S1 := by
  unfold tNot'
  rw [h]
  rfl
theorem tnot_t {t : E Bool} {en : En} {S S1 : So} (h : t en S = .ok true S1) : tNot' t en S = .ok false S1 := tnot h
theorem tnot_f {t : E Bool} {en : En} {S S1 : So} (h : t en S = .ok false S1) : tNot' t en S = .ok true S1 := tnot h
theorem tand_f {s t : E Bool} {en : En} {S S1 : So} (h : s en S = .ok false S1) : tAnd' s t en S = .ok false S1 := by
  unfold tAnd'
  rw [h]
  rfl
theorem tand_t {s t : E Bool} {en : En} {S S1 : So} {r : R Bool} (h : s en S = .ok true S1) (k : t en S1 = r) : tAnd' s t en S = r := by
  unfold tAnd'
  rw [h]
  exact k
theorem tor_t {s t : E Bool} {en : En} {S S1 : So} (h : s en S = .ok true S1) : tOr' s t en S = .ok true S1 := by
  unfold tOr'
  rw [h]
  rfl
theorem tor_f {s t : E Bool} {en : En} {S S1 : So} {r : R Bool} (h : s en S = .ok false S1) (k : t en S1 = r) : tOr' s t en S = r := by
  unfold tOr'
  rw [h]
  exact k
theorem and_f {f g : E D} {en : En} {S S1 : So} (h : f en S = .ok (.bl false) S1) : mAnd f g en S = .ok (.bl false) S1 := by
  unfold mAnd
  rw [h]
  rfl
theorem and_t {f g : E D} {en : En} {S S1 : So} {r : R D} (h : f en S = .ok (.bl true) S1) (k : g en S1 = r) : mAnd f g en S = r := by
  unfold mAnd
  rw [h]
  exact k
theorem not_ok {f : E D} {en : En} {S S1 : So} {b : Bool} (h : f en S = .ok (.bl b) S1) : mNot f en S = .ok (.bl (!b)) S1 := by
  unfold mNot
  rw [h]
  rfl
theorem is_ok {T : Ty} {f : E D} {en : En} {S S1 : So} {d : D} {b : Bool} (h : f en S = .ok d S1) (e : isD T d S1 = some b) : mIs T f en S = .ok (.bl b) S1 := by
  unfold mIs
  rw [h, R.bind_ok, e]
theorem fld_ok {f : Str} {e : E D} {en : En} {S S1 : So} {d v : D} (h : e en S = .ok d S1) (k : fldD f d S1 = some v) : mFld f e en S = .ok v S1 := by
  unfold mFld
  rw [h, R.bind_ok, k]
theorem own_ok {n : Str} {F : Fm} {f g : E D} {en : En} {S S1 S2 S3 : So} {a b d : D} (h : f en S = .ok a S1) (k : g en S1 = .ok b S2) (c : isOwn a S2 = some n ∧ ((tyD b S2).isSome = true ∨ isOwn b S2 = some n)) (e : F [a, b] S2 = .ok d S3) : mOwn n F f g en S = .ok d S3 := by
  unfold mOwn
  rw [h, R.bind_ok, k, R.bind_ok, if_pos c, e]
  rfl
theorem own_err {n : Str} {F : Fm} {f g : E D} {en en' : En} {S S1 S2 S3 : So} {a b : D} {x : Ex} (h : f en S = .ok a S1) (k : g en S1 = .ok b S2) (c : isOwn a S2 = some n ∧ ((tyD b S2).isSome = true ∨ isOwn b S2 = some n)) (e : F [a, b] S2 = .err x en' S3) : mOwn n F f g en S = .err x en S3 := by
  unfold mOwn
  rw [h, R.bind_ok, k, R.bind_ok, if_pos c, e]
  rfl
theorem meth_ok {n nm : Str} {F : Fm} {f : E D} {g : E (List D)} {en : En} {S S1 S2 S3 : So} {a d : D} {l l' : List D} {ks : List Str} (h : f en S = .ok a S1) (c : insOf a S1 = some (n, ks, l')) (hk : ks.contains nm = false) (k : g en S1 = .ok l S2) (e : F (a :: l) S2 = .ok d S3) : mMeth n nm F f g en S = .ok d S3 := by
  unfold mMeth
  rw [h, R.bind_ok, c]
  dsimp only
  rw [if_pos ⟨rfl, hk⟩, k, R.bind_ok, e]
  rfl
theorem meth_err {n nm : Str} {F : Fm} {f : E D} {g : E (List D)} {en en' : En} {S S1 S2 S3 : So} {a : D} {x : Ex} {l l' : List D} {ks : List Str} (h : f en S = .ok a S1) (c : insOf a S1 = some (n, ks, l')) (hk : ks.contains nm = false) (k : g en S1 = .ok l S2) (e : F (a :: l) S2 = .err x en' S3) : mMeth n nm F f g en S = .err x en S3 := by
  unfold mMeth
  rw [h, R.bind_ok, c]
  dsimp only
  rw [if_pos ⟨rfl, hk⟩, k, R.bind_ok, e]
  rfl
/-! ### small laws of operators -/
theorem pow_ok {i j : Int} {S : So} (h0 : 0 ≤ j) (h : (Builtin.Int.intBits i : Int) * j ≤ 2 ^ 27) : dPow (.int i) (.int j) S = some (.int (i ^ j.toNat), S) := if_pos ⟨h0, h⟩
theorem mod_ok {i j : Int} {S : So} (h : 0 < j ∧ j.natAbs.log2 < 9000 := by decide) : dMod (.int i) (.int j) S = some (.int (i % j), S) := by
  first
    | exact if_pos h
    | exact if_pos h.1
theorem mul_small {i j : Int} {S : So} (h : small64i j = true) : dMul (.int i) (.int j) S = some (.int (i * j), S) := if_pos (by rw [h, Bool.or_true])
theorem mul_smallL {i j : Int} {S : So} (h : small64i i = true) : dMul (.int i) (.int j) S = some (.int (i * j), S) := if_pos (by rw [h, Bool.true_or])
theorem eq_int {S : So} (i j : Int) : dEq (.int i) (.int j) S = some (.bl (i == j), S) := by
  simp [dEq, dEqP, toPt, toP, SeqAt.shaped, PyData.canLay0, PyData.depth, PyData.eqv]
theorem eq_bl {S : So} (i j : Bool) : dEq (.bl i) (.bl j) S = some (.bl (i == j), S) := by
  simp [dEq, dEqP, toPt, toP, SeqAt.shaped, PyData.canLay0, PyData.depth, PyData.eqv]
theorem ne_int {S : So} (i j : Int) : dNe (.int i) (.int j) S = some (.bl (!(i == j)), S) := by
  simp [dNe, dEqP, toPt, toP, SeqAt.shaped, PyData.canLay0, PyData.depth, PyData.eqv]
theorem ne_bl {S : So} (i j : Bool) : dNe (.bl i) (.bl j) S = some (.bl (!(i == j)), S) := by
  simp [dNe, dEqP, toPt, toP, SeqAt.shaped, PyData.canLay0, PyData.depth, PyData.eqv]
def Ok7 (x : Str) : Prop := ∀ c ∈ x.cps.toList, c < 0x110000
theorem Ok7.ok {x : Str} (h : Ok7 x) : PyData.strOk x = true := by
  unfold PyData.strOk
  rw [← Array.all_toList, List.all_eq_true]
  intro c hc
  exact decide_eq_true (h c hc)
theorem eq_str {S : So} {x : Str} (h : Ok7 x) : dEq (.str x) (.str x) S = some (.bl true, S) := by
  simp [dEq, dEqP, toPt, toP, SeqAt.shaped, PyData.canLay0, PyData.depth, PyData.eqv, h.ok]
theorem add_lst {l k : List D} {S : So} (h : l.length + k.length ≤ sizeLine) : dAdd (.lst l) (.lst k) S = some (.lst (l ++ k), S) := if_pos h
theorem add_tup {l k : List D} {S : So} (h : l.length + k.length ≤ sizeLine) : dAdd (.tup l) (.tup k) S = some (.tup (l ++ k), S) := if_pos h
theorem atI_of {α : Type} {l : List α} {r : Int} (h0 : 0 ≤ r) (h1 : r < l.length) : ∃ d, atI l r = some d ∧ d ∈ l := by
  have hr : r.toNat < l.length := by omega
  refine ⟨l[r.toNat], ?_, List.getElem_mem hr⟩
  unfold atI ixN
  rw [if_pos h0, if_pos h1]
  simp [List.getElem?_eq_getElem hr]
theorem ix_tup {l : List D} {i : Int} {d : D} {S : So} (h : atI l i = some d) : dIx (.tup l) (.int i) S = some (d, S) := by
  show (atI l i).map (fun d => (d, S)) = _
  rw [h]
  rfl
theorem ix_lst {l : List D} {i : Int} {d : D} {S : So} (h : atI l i = some d) : dIx (.lst l) (.int i) S = some (d, S) := by
  show (atI l i).map (fun d => (d, S)) = _
  rw [h]
  rfl
theorem size_le {n : Nat} (h : n ≤ 16777216) : n ≤ sizeLine := by rw [sizeLine_eq]; exact h
/-! ### loops -/
theorem comp_ok {hold : Option Nat} {S0 : So} {I : So → Prop} {P : D → Prop} {g : TgD} {f : E D} {enw : En} (hst : ∀ S, I S → still hold S0 S = true) : ∀ (l acc : List D) (S : So), (∀ d ∈ l, ∀ S, I S → ∃ en1 y S', g d enw S = some en1 ∧ f en1 S = .ok y S' ∧ P y ∧ I S') → I S → acc.length + l.length ≤ sizeLine →
    ∃ ys S', compM hold S0 g tT f enw l acc S = .ok (acc ++ ys) S' ∧ I S' ∧ ys.length = l.length ∧ ∀ y ∈ ys, P y
  | [], acc, S, _, hI, _ => ⟨[], S, by unfold compM; simp, hI, rfl, by simp⟩
  | d :: l, acc, S, h, hI, hz => by
    obtain ⟨en1, y, S', e1, e2, hP, hI'⟩ := h d (by simp) S hI
    simp only [List.length_cons] at hz
    obtain ⟨ys, S2, e3, hI2, hl, hP2⟩ := comp_ok hst l (acc ++ [y]) S' (fun d' hd => h d' (by simp [hd])) hI' (by simp; omega)
    refine ⟨y :: ys, S2, ?_, hI2, by simp [hl], by simpa using ⟨hP, hP2⟩⟩
    unfold compM
    simp only [e1, tT, e2]
    rw [if_pos ⟨by omega, hst S' hI'⟩, e3]
    simp
/-- a list that only reads -/
theorem comp_map {hold : Option Nat} {S0 S : So} {φ : D → D} {g : TgD} {f : E D} {enw : En} (hst : still hold S0 S = true) : ∀ (l acc : List D), (∀ d ∈ l, ∃ en1, g d enw S = some en1 ∧ f en1 S = .ok (φ d) S) → acc.length + l.length ≤ sizeLine →
    compM hold S0 g tT f enw l acc S = .ok (acc ++ l.map φ) S
  | [], acc, _, _ => by unfold compM; simp
  | d :: l, acc, h, hz => by
    obtain ⟨en1, e1, e2⟩ := h d (by simp)
    simp only [List.length_cons] at hz
    have e3 := comp_map hst l (acc ++ [φ d]) (fun d' hd => h d' (by simp [hd])) (by simp; omega)
    unfold compM
    simp only [e1, tT, e2]
    rw [if_pos ⟨by omega, hst⟩, e3]
    simp
/-- .. over items of a kind: α -/
theorem comp_mapα {α : Type} {hold : Option Nat} {S0 S : So} {ι φ : α → D} {g : TgD} {f : E D} {enw : En} (hst : still hold S0 S = true) : ∀ (l : List α) (acc : List D), (∀ a ∈ l, ∃ en1, g (ι a) enw S = some en1 ∧ f en1 S = .ok (φ a) S) → acc.length + l.length ≤ sizeLine →
    compM hold S0 g tT f enw (l.map ι) acc S = .ok (acc ++ l.map φ) S
  | [], acc, _, _ => by unfold compM; simp
  | a :: l, acc, h, hz => by
    obtain ⟨en1, e1, e2⟩ := h a (by simp)
    simp only [List.length_cons] at hz
    have e3 := comp_mapα hst l (acc ++ [φ a]) (fun d' hd => h d' (by simp [hd])) (by simp; omega)
    rw [List.map_cons]
    unfold compM
    simp only [e1, tT, e2]
    rw [if_pos ⟨by omega, hst⟩, e3]
    simp
/-- .. with a test -/
theorem comp_fltα {α : Type} {hold : Option Nat} {S0 S : So} {ι φ : α → D} {p : α → Bool} {g : TgD} {t : E Bool} {f : E D} {enw : En} (hst : still hold S0 S = true) : ∀ (l : List α) (acc : List D), (∀ a ∈ l, ∃ en1, g (ι a) enw S = some en1 ∧ t en1 S = .ok (p a) S ∧ f en1 S = .ok (φ a) S) → acc.length + l.length ≤ sizeLine →
    compM hold S0 g t f enw (l.map ι) acc S = .ok (acc ++ (l.filter p).map φ) S
  | [], acc, _, _ => by unfold compM; simp
  | a :: l, acc, h, hz => by
    obtain ⟨en1, e1, e2, e4⟩ := h a (by simp)
    simp only [List.length_cons] at hz
    rw [List.map_cons]
    unfold compM
    simp only [e1, e2]
    cases c : p a with
    | true =>
      have e3 := comp_fltα (t := t) (p := p) hst l (acc ++ [φ a]) (fun d' hd => h d' (by simp [hd])) (by simp; omega)
      simp only [e4]
      rw [if_pos ⟨by omega, hst⟩, e3]
      simp [c]
    | false =>
      have e3 := comp_fltα (t := t) (p := p) hst l acc (fun d' hd => h d' (by simp [hd])) (by omega)
      simp only
      rw [if_pos hst, e3]
      simp [c]
theorem cmp_of {fi : E Src} {g : TgD} {t : E Bool} {f : E D} {vs : List Nat} {en : En} {S S1 S2 : So} {src : Src} {l : List D} (h : fi en S = .ok src S1) (k : compM src.hold S1 g t f (wipeE en vs) src.items [] S1 = .ok l S2) : mComp fi g t f vs en S = .ok (.lst l) S2 := by
  unfold mComp
  rw [h, R.bind_ok, k]
  rfl
theorem seq_src {f : E D} {en : En} {S S1 : So} {d : D} {s : Src} (h : f en S = .ok d S1) (e : srcOf d S1 = some s) : iSeq f en S = .ok s S1 := by
  unfold iSeq
  rw [h, R.bind_ok, e]
theorem rg1_ok {g : E (List D)} {en : En} {S S1 : So} {j : Int} (h : g en S = .ok [.int j] S1) (h0 : -1000000 ≤ j) (h1 : j < 1000000) : iRg1 g en S = .ok ⟨none, rngL 0 j.toNat⟩ S1 := by
  unfold iRg1
  rw [h, R.bind_ok]
  have q1 : -(2 ^ 62 : Int) ≤ j := by omega
  have q2 : j < (2 ^ 62 : Int) := by omega
  show (if -(2 ^ 62) ≤ j ∧ j < 2 ^ 62 then _ else _) = _
  rw [if_pos ⟨q1, q2⟩]
theorem rg_len {l : List D} {S : So} {en : En} {g : E (List D)} (hz : l.length < 1000000) (e : g en S = .ok [.int l.length] S) : iRg1 g en S = .ok ⟨none, rngL 0 l.length⟩ S := by
  have := rg1_ok e (by omega) (by omega)
  rwa [Int.toNat_natCast] at this
theorem for_of {fi : E Src} {g : TgD} {b : T} {en : En} {S S1 : So} {src : Src} {r : R Fl} (h : fi en S = .ok src S1) (k : Mi.forM src.hold S1 g b src.items en S1 = r) : sFor fi g b en S = r := by
  unfold sFor
  rw [h]
  exact k
/-- a loop that keeps I -/
theorem for_inv {S0 : So} {g : TgD} {body : T} {J : En → So → Prop} : ∀ (l : List D) (en : En) (S : So), (∀ d ∈ l, ∀ en S, J en S → ∃ en1 en2 S2, g d en S = some en1 ∧ body en1 S = .ok (.nx en2) S2 ∧ J en2 S2) → J en S → ∃ en' S', Mi.forM none S0 g body l en S = .ok (.nx en') S' ∧ J en' S'
  | [], en, S, _, hJ => ⟨en, S, by unfold Mi.forM; rfl, hJ⟩
  | d :: l, en, S, h, hJ => by
    obtain ⟨en1, en2, S2, e1, e2, hJ2⟩ := h d (by simp) en S hJ
    unfold Mi.forM
    simp only [e1, e2, R.bind_ok, still_none, if_true]
    exact for_inv l en2 S2 (fun d' hd => h d' (by simp [hd])) hJ2
/-- a loop that may return -/
theorem for_find {S S0 : So} {g : TgD} {body : T} {P : D → Prop} {J : En → Prop} : ∀ (l : List D) (en : En), (∀ d ∈ l, ∀ en, J en → ∃ en1, g d en S = some en1 ∧ ((∃ x, body en1 S = .ok (.rt x) S ∧ P x) ∨ ∃ en2, body en1 S = .ok (.nx en2) S ∧ J en2)) → J en →
    (∃ x, Mi.forM none S0 g body l en S = .ok (.rt x) S ∧ P x) ∨ ∃ en', Mi.forM none S0 g body l en S = .ok (.nx en') S ∧ J en'
  | [], en, _, hJ => .inr ⟨en, by unfold Mi.forM; rfl, hJ⟩
  | d :: l, en, h, hJ => by
    obtain ⟨en1, e1, h1⟩ := h d (by simp) en hJ
    unfold Mi.forM
    simp only [e1]
    rcases h1 with ⟨x, e2, hP⟩ | ⟨en2, e2, hJ2⟩
    · exact .inl ⟨x, by simp [e2], hP⟩
    · simp only [e2, R.bind_ok, still_none, if_true]
      exact for_find l en2 (fun d' hd => h d' (by simp [hd])) hJ2
/-! ### the bag -/
def Bag (S : So) (b : Nat) : Prop := ∃ x y z : Int, S[b]? = some (some (.lst [.int x, .int y, .int z]))
/-- only the bag's cell and new ones differ -/
def Ch (b : Nat) (S S' : So) : Prop := S.length ≤ S'.length ∧ ∀ n, n < S.length → n ≠ b → S'[n]? = S[n]?
theorem Ch.refl {b : Nat} {S : So} : Ch b S S := ⟨Nat.le_refl _, fun _ _ _ => rfl⟩
theorem Ch.trans {b : Nat} {S S1 S2 : So} (h : Ch b S S1) (k : Ch b S1 S2) : Ch b S S2 := ⟨Nat.le_trans h.1 k.1, fun n hn nb => (k.2 n (Nat.lt_of_lt_of_le hn h.1) nb).trans (h.2 n hn nb)⟩
theorem Ch.app {b : Nat} {S T : So} : Ch b S (S ++ T) := ⟨by simp, fun n hn _ => List.getElem?_append_left hn⟩
theorem Ch.set {b : Nat} {S : So} {x : Option Ob} : Ch b S (S.set b x) := ⟨by simp, fun n _ nb => List.getElem?_set_ne (Ne.symm nb)⟩
theorem Bag.app {S T : So} {b : Nat} (h : Bag S b) : Bag (S ++ T) b := by
  obtain ⟨x, y, z, e⟩ := h
  exact ⟨x, y, z, by rw [List.getElem?_append_left (List.getElem?_eq_some_iff.mp e).1]; exact e⟩
theorem Bag.lt {S : So} {b : Nat} (h : Bag S b) : b < S.length := let ⟨_, _, _, e⟩ := h; (List.getElem?_eq_some_iff.mp e).1
theorem bag_set {S : So} {b : Nat} {x y z : Int} (h : Bag S b) : (S.set b (some (.lst [.int x, .int y, .int z])))[b]? = some (some (.lst [.int x, .int y, .int z])) := by
  obtain ⟨_, _, _, e⟩ := h
  exact List.getElem?_set_self (List.getElem?_eq_some_iff.mp e).1
theorem throw_ok {S : So} {b : Nat} {t : Int} (h : Bag S b) (ht : 0 < t) (hl : t.natAbs.log2 < 9000) :
    ∃ r x y z, m_law_throw [.ref b, .int t] S = .ok (.int r) (S.set b (some (.lst [.int x, .int y, .int z]))) ∧ 0 ≤ r ∧ r < t := by
  have h' := h
  obtain ⟨x, y, z, e⟩ := h
  have hb := (List.getElem?_eq_some_iff.mp e).1
  have hs : ∀ X : Option Ob, (S.set b X)[b]? = some X := fun X => List.getElem?_set_self hb
  by_cases hx : 0 < x
  · refine ⟨x % t, x / t, y, z, ?_, Int.emod_nonneg _ (by omega), Int.emod_lt_of_pos _ ht⟩
    simp [m_law_throw, bodyM, bodyR, sSeq, sIf, sSet, sPut, sRet, tB', asB, m2, mV, mC, mB, aCons, aNil, dIx, dctOf, seqOf, e, dGt, dCmp, R.of, R.bind, hx, bInt, dMod, dDiv, ht, hl, putD, atI, ixN]
  · obtain ⟨one, h1⟩ : ∃ one, one = (y + 1000003 * (z + 1)) % 2305843009213693951 := ⟨_, rfl⟩
    obtain ⟨two, h2⟩ : ∃ two, two = (one * one + 12347 * (z + 1)) % 2305843009213693921 := ⟨_, rfl⟩
    have s1 : small64i one = true := by
      have a := Int.emod_nonneg (y + 1000003 * (z + 1)) (b := 2305843009213693951) (by decide)
      have b := Int.emod_lt_of_pos (y + 1000003 * (z + 1)) (b := 2305843009213693951) (by decide)
      rw [← h1] at a b
      simp only [small64i, Bool.and_eq_true, decide_eq_true_eq]
      omega
    have s2 : small64i two = true := by
      have a := Int.emod_nonneg (one * one + 12347 * (z + 1)) (b := 2305843009213693921) (by decide)
      have b := Int.emod_lt_of_pos (one * one + 12347 * (z + 1)) (b := 2305843009213693921) (by decide)
      rw [← h2] at a b
      simp only [small64i, Bool.and_eq_true, decide_eq_true_eq]
      omega
    have c1 : small64i 1000003 = true := by decide
    have c2 : small64i 12347 = true := by decide
    have c3 : Nat.log2 4096 < 9000 := by decide
    refine ⟨(two * one + 777767777) % 2305843009213693951 / 4096 % t, x, y, z + 1, ?_, Int.emod_nonneg _ (by omega), Int.emod_lt_of_pos _ ht⟩
    simp [m_law_throw, bodyM, bodyR, sSeq, sIf, sSet, sPut, sRet, sNil, tB', asB, m2, mV, mC, mB, aCons, aNil, dIx, dctOf, seqOf, e, dGt, dCmp, R.of, R.bind, hx, bInt, dMod, dDiv, dMul, dAdd, ht, hl, putD, atI, ixN, hs, c1, c2, c3, ← h1, s1, ← h2, s2]
theorem throw_bag {S : So} {b : Nat} {t : Int} (h : Bag S b) (ht : 0 < t) (hl : t.natAbs.log2 < 9000) : ∃ r S', m_law_throw [.ref b, .int t] S = .ok (.int r) S' ∧ Bag S' b ∧ Ch b S S' ∧ 0 ≤ r ∧ r < t := by
  obtain ⟨r, x, y, z, e, h1, h2⟩ := throw_ok h ht hl
  exact ⟨r, _, e, ⟨x, y, z, bag_set h⟩, Ch.set, h1, h2⟩
theorem log_small {n : Nat} (h : n < 2 ^ 9000) : n.log2 < 9000 := by
  by_cases h0 : n = 0
  · subst h0; decide
  · exact (Nat.log2_lt h0).mpr h
theorem log_int {t : Int} (h0 : 0 ≤ t) (h : t < 10 ^ 61) : t.natAbs.log2 < 9000 := by
  refine log_small ?_
  have e : (10 : Int) ^ 61 < 2 ^ 300 := by decide
  have e2 : (2 : Nat) ^ 300 < 2 ^ 9000 := Nat.pow_lt_pow_right (by decide) (by decide)
  have e3 : ((2 : Nat) ^ 300 : Int) = (2 : Int) ^ 300 := by norm_cast
  omega
/-- a pick from a list or a tuple -/
theorem pick_seq {S : So} {b : Nat} {d0 : D} {l : List D} (hd : d0 = .lst l ∨ d0 = .tup l) (h : Bag S b) (h0 : l ≠ []) (hz : l.length < 1000000) : ∃ d S', m_law_pick [.ref b, d0] S = .ok d S' ∧ Bag S' b ∧ Ch b S S' ∧ d ∈ l := by
  have hp : (0 : Int) < l.length := by have := List.length_pos_iff.mpr h0; omega
  obtain ⟨r, S', e, hB, hC, h1, h2⟩ := throw_bag h hp (log_int (by omega) (by
    have e : (1000000 : Int) < 10 ^ 61 := by decide
    omega))
  obtain ⟨d, e2, hm⟩ := atI_of h1 h2
  refine ⟨d, S', ?_, hB, hC, hm⟩
  rcases hd with rfl | rfl
  · exact body_rt rfl (ret_ok (m2_ok rfl (call_ok (cons_ok rfl (cons_ok (b_ok (cons_ok rfl rfl) rfl) rfl)) e) (ix_lst e2)))
  · exact body_rt rfl (ret_ok (m2_ok rfl (call_ok (cons_ok rfl (cons_ok (b_ok (cons_ok rfl rfl) rfl) rfl)) e) (ix_tup e2)))
/-- a pick from a text -/
theorem pick_str {S : So} {b : Nat} {x : Str} (h : Bag S b) (h0 : 0 < x.cps.size) (hz : x.length ≤ 1000) : ∃ c S', m_law_pick [.ref b, .str x] S = .ok (.str ⟨#[c]⟩) S' ∧ Bag S' b ∧ Ch b S S' ∧ c ∈ x.cps.toList := by
  have hl : x.length = x.cps.size := rfl
  have hp : (0 : Int) < x.length := by rw [hl]; omega
  have hs : sizeLine = 16777216 := sizeLine_eq
  have hz' : x.length ≤ sizeLine := by omega
  obtain ⟨r, S', e, hB, hC, h1, h2⟩ := throw_bag h hp (log_int (by omega) (by
    have e : (1000 : Int) < 10 ^ 61 := by decide
    omega))
  obtain ⟨d, e2, hd⟩ := atI_of (l := x.cps.toList) h1 (by simpa [hl] using h2)
  refine ⟨d, S', ?_, hB, hC, hd⟩
  simp [m_law_pick, bodyM, bodyR, sRet, m2, mV, mB, aCons, aNil, R.of, R.bind, mCall, R.at, bLen, hz', seqOf, e, dIx, dctOf, e2]
end K01

namespace K01
open PySem PySem.Spec PyProof.Rows L2 Mi
/-! ### events -/
abbrev one (c : Nat) : Str := ⟨#[c]⟩
def alpha : Str := "abcdefghijklmnopqrstuvwxyz"
def WL : List Str := ["after", "again", "at", "busy", "changes", "else", "every", "first", "fold", "it", "late", "never", "one", "only", "pairs", "pick", "quiet", "source", "spaced", "switch", "then", "told", "until"]
structure Ev where
  t : Int
  n : Str
  l : Str
  v : Int
def ev (e : Ev) : D := .tup [.int e.t, .str e.n, .str e.l, .int e.v]
def tapeD (es : List Ev) (last : Int) : D := .ins "Tape" ["own_events", "own_last"] [.tup (es.map ev), .int last]
def plainD (es : List Ev) (last : Int) : D := .tup [.tup (es.map ev), .int last]
def inR (v : Int) : Bool := decide (-999999999999999999999999999999999999999999999999999999999999 ≤ v) && decide (v ≤ 999999999999999999999999999999999999999999999999999999999999)
def NameOk (x : Str) : Prop := 1 ≤ x.length ∧ x.length ≤ 8 ∧ (∀ c ∈ x.cps.toList, c ∈ alpha.cps.toList) ∧ ((WL.map PyData.str).any fun q => PyData.eqv q (.str x)) = false
def LetOk (x : Str) : Prop := ∃ c, c ∈ alpha.cps.toList ∧ x = one c
theorem alpha_ok : ∀ c ∈ alpha.cps.toList, c < 0x110000 := by decide +kernel
theorem NameOk.ok7 {x : Str} (h : NameOk x) : Ok7 x := fun c hc => alpha_ok c (h.2.2.1 c hc)
theorem LetOk.ok7 {x : Str} (h : LetOk x) : Ok7 x := by
  obtain ⟨c, hc, rfl⟩ := h
  intro d hd
  have : d = c := by simpa using hd
  rw [this]
  exact alpha_ok c hc
def EvS (e : Ev) : Prop := NameOk e.n ∧ LetOk e.l
def good (e : Ev) : Bool := inR e.t && decide (0 ≤ e.t) && inR e.v
theorem alpha_in : ∀ c ∈ alpha.cps.toList, strIn (one c) alpha = true := by decide +kernel
theorem is_integer_ok (v : Int) (S : So) : m_is_integer [.int v] S = .ok (.bl (inR v)) S := by
  unfold inR
  by_cases h : -999999999999999999999999999999999999999999999999999999999999 ≤ v
  · simp [m_is_integer, bodyM, bodyR, sRet, mAnd, mNot, mIs, isD, tyD, isT, mV, mC, m1, dNeg, mChain, dLe, dCmp, R.of, R.bind, h]
  · simp [m_is_integer, bodyM, bodyR, sRet, mAnd, mNot, mIs, isD, tyD, isT, mV, mC, m1, dNeg, mChain, dLe, dCmp, R.of, R.bind, h]
/-- what is no integer -/
def NoInt (d : D) (S : So) : Prop := isD .int d S = some false ∨ ∃ b, d = .bl b
theorem is_integer_no {d : D} {S : So} (h : NoInt d S) : m_is_integer [d] S = .ok (.bl false) S := by
  rcases h with h | ⟨b, rfl⟩
  · exact body_rt rfl (ret_ok (and_f (is_ok rfl h)))
  · simp [m_is_integer, bodyM, bodyR, sRet, mAnd, mNot, mIs, isD, tyD, isT, mV, R.bind]
theorem is_time_ok (v : Int) (S : So) : m_is_time [.int v] S = .ok (.bl (inR v && decide (0 ≤ v))) S := by
  have h := is_integer_ok v S
  cases c : inR v with
  | true =>
    rw [c] at h
    exact body_rt rfl (ret_ok (and_t (call_ok (one_ok rfl) h) (m2_ok rfl rfl rfl)))
  | false =>
    rw [c] at h
    exact body_rt rfl (ret_ok (and_f (call_ok (one_ok rfl) h)))
theorem is_time_no {d : D} {S : So} (h : NoInt d S) : m_is_time [d] S = .ok (.bl false) S := body_rt rfl (ret_ok (and_f (call_ok (one_ok rfl) (is_integer_no h))))
theorem is_letter_ok {x : Str} (h : LetOk x) (S : So) : m_is_letter [.str x] S = .ok (.bl true) S := by
  obtain ⟨c, hc, rfl⟩ := h
  have hs : sizeLine = 16777216 := sizeLine_eq
  have e1 : bLen [.str (one c)] S = some (.int 1, S) := by
    unfold bLen
    dsimp only
    rw [if_pos (show (one c).length ≤ sizeLine from (show (1 : Nat) ≤ sizeLine by omega))]
    rfl
  have e2 : dIn (.str (one c)) (.str "abcdefghijklmnopqrstuvwxyz") S = some (.bl true, S) := by
    show ((some (strIn (one c) alpha)).map fun k => (D.bl k, S)) = _
    rw [alpha_in c hc]
    rfl
  exact body_rt rfl (ret_ok (and_t (is_ok rfl rfl) (and_t (m2_ok (b_ok (one_ok rfl) e1) rfl (eq_int 1 1)) (m2_ok rfl rfl e2))))
theorem toPs_strs : ∀ l : List Str, toPs (l.map D.str) = some (l.map PyData.str)
  | [] => by simp [toPs]
  | x :: l => by simp [toPs, toP, toPs_strs l]
theorem words_sh : SeqAt.shaped (.tuple (WL.map PyData.str)) = true := by decide +kernel
theorem words_shL : SeqAt.shaped (.list (WL.map PyData.str)) = true := by decide +kernel
theorem str_sh {x : Str} (h : Ok7 x) : SeqAt.shaped (.str x) = true := by
  unfold SeqAt.shaped
  simp [PyData.canLay0, PyData.depth, h.ok]
theorem notIn_words {x : Str} (h : NameOk x) (S : So) : dNotIn (.str x) (.tup (WL.map D.str)) S = some (.bl true, S) := by
  have hx := str_sh h.ok7
  unfold dNotIn dInB
  simp only [dctOf, toPt, toP, toPs_strs, hx, words_sh, Bool.and_self, if_true, Option.map_some, h.2.2.2, Bool.not_false]
theorem is_name_ok {x : Str} (h : NameOk x) (S : So) : m_is_name [.str x] S = .ok (.bl true) S := by
  have hs : sizeLine = 16777216 := sizeLine_eq
  obtain ⟨h1, h8, hc, _⟩ := id h
  have e1 : bLen [.str x] S = some (.int x.length, S) := if_pos (show x.length ≤ sizeLine by omega)
  have hl : dLe (.int 1) (.int x.length) S = some (.bl true, S) := by
    show some (D.bl (decide ((1 : Int) ≤ (x.length : Int))), S) = _
    rw [decide_eq_true (by omega)]
  have hl8 : dLe (.int x.length) (.int 8) S = some (.bl true, S) := by
    show some (D.bl (decide ((x.length : Int) ≤ 8)), S) = _
    rw [decide_eq_true (by omega)]
  have ch : mChain dLe dLe (mC (.int 1)) (mB bLen (aCons (mV 0) aNil)) (mC (.int 8)) [some (.str x), none] S = .ok (.bl true) S := by
    unfold mChain
    rw [show mC (.int 1) [some (.str x), none] S = .ok (.int 1) S from rfl, R.bind_ok, b_ok (o := bLen) (l := [.str x]) rfl e1, R.bind_ok, hl]
    dsimp only
    rw [show mC (.int 8) [some (.str x), none] S = .ok (.int 8) S from rfl, R.bind_ok, hl8]
    rfl
  obtain ⟨en', S', ef, o, rfl, rfl⟩ := for_inv (S0 := S) (g := gN 1) (body := sIf (tB' (m2 dNotIn (mV 1) (mC (.str ("abcdefghijklmnopqrstuvwxyz" : Str))))) (sRet (mC (.bl false))) sNil)
    (J := fun en S' => ∃ o, en = [some (.str x), o] ∧ S' = S) (sgns x) [some (.str x), none] S (fun d hd en S' hJ => by
      obtain ⟨o, rfl, rfl⟩ := hJ
      obtain ⟨c, hc', rfl⟩ := List.mem_map.mp hd
      refine ⟨_, [some (.str x), some (.str (one c))], S', rfl, ?_, _, rfl, rfl⟩
      have e2 : dNotIn (.str (one c)) (.str "abcdefghijklmnopqrstuvwxyz") S' = some (.bl false, S') := by
        show ((some (strIn (one c) alpha)).map fun k => (D.bl (!k), S')) = _
        rw [alpha_in c (hc c hc')]
        rfl
      exact if_f (tst_ok (m2_ok rfl rfl e2)) rfl) ⟨_, rfl, rfl⟩
  refine body_rt rfl (seq_nx (if_f (tor_f (tnot_t (tru_bl (is_ok rfl rfl))) (tnot_t (tst_ok ch))) rfl) (seq_nx (en1 := [some (.str x), o]) (for_of (src := ⟨none, sgns x⟩) rfl ef) (ret_ok (m2_ok rfl rfl (notIn_words h S')))))
theorem is_event_ok {e : Ev} (h : EvS e) (S : So) : m_is_event [ev e] S = .ok (.bl (good e)) S := by
  have hl : bLen [ev e] S = some (.int 4, S) := rfl
  have e0 : isD .tup (ev e) S = some true := rfl
  have i0 : dIx (ev e) (.int 0) S = some (.int e.t, S) := ix_tup rfl
  have i1 : dIx (ev e) (.int 1) S = some (.str e.n, S) := ix_tup rfl
  have i2 : dIx (ev e) (.int 2) S = some (.str e.l, S) := ix_tup rfl
  have i3 : dIx (ev e) (.int 3) S = some (.int e.v, S) := ix_tup rfl
  refine body_rt rfl (seq_nx (if_f (tor_f (tnot_t (tru_bl (is_ok rfl e0))) (tst_ok (m2_ok (b_ok (one_ok rfl) hl) rfl (ne_int 4 4)))) rfl) (ret_ok ?_))
  unfold good
  have t := is_time_ok e.t S
  cases c : (inR e.t && decide (0 ≤ e.t)) with
  | false =>
    rw [c] at t
    exact and_f (call_ok (one_ok (m2_ok rfl rfl i0)) t)
  | true =>
    rw [c] at t
    exact and_t (call_ok (one_ok (m2_ok rfl rfl i0)) t) (and_t (call_ok (one_ok (m2_ok rfl rfl i1)) (is_name_ok h.1 S)) (and_t (call_ok (one_ok (m2_ok rfl rfl i2)) (is_letter_ok h.2 S)) (call_ok (one_ok (m2_ok rfl rfl i3)) (is_integer_ok e.v S))))
/-! ### rows of events -/
def srtB : List Ev → Bool
  | a :: b :: l => decide (a.t ≤ b.t) && srtB (b :: l)
  | _ => true
def lastT (es : List Ev) : Int := match es.getLast? with
  | some e => e.t
  | none => 0
theorem bls_map {α : Type} (p : α → Bool) : ∀ l : List α, blsOf (l.map fun a => D.bl (p a)) = some (l.map p)
  | [] => rfl
  | a :: l => by simp [blsOf, bls_map p l]
theorem all_of {α : Type} (p : α → Bool) (l : List α) (S : So) : bAll [.lst (l.map fun a => D.bl (p a))] S = some (.bl (l.all p), S) := by
  unfold bAll
  simp only [lstOf, bls_map, Option.map_some]
  rw [List.all_map]
  rfl
theorem cut1 (l : List D) : Mi.cutD l (some 1) none = l.drop 1 := by
  unfold Mi.cutD
  rw [HT.sIx_none, show (some (1 : Int)) = some ((1 : Nat) : Int) from rfl, HT.sIx_nat]
  cases l with
  | nil => rfl
  | cons a l =>
    have : min 1 (a :: l).length = 1 := by simp
    rw [this]
    simp
theorem zipTail : ∀ es : List Ev, ((es.map ev).zip ((es.map ev).drop 1)).map (fun p => D.tup [p.1, p.2]) = (es.zip (es.drop 1)).map fun p => D.tup [ev p.1, ev p.2] := fun es => by
  rw [← List.map_drop, List.zip_map, List.map_map]
  rfl
theorem srt_for (S0 S : So) (a : D) : ∀ (es : List Ev) (o1 o2 : Option D), (srtB es = true ∧ ∃ o3 o4, Mi.forM none S0 (gT 2 (gsCons (gN 1) (gsCons (gN 2) gsNil))) (sIf (tB' (m2 dGt (m2 dIx (mV 1) (mC (.int 0))) (m2 dIx (mV 2) (mC (.int 0))))) (sRet (mC (.bl false))) sNil) ((es.zip (es.drop 1)).map fun p => D.tup [ev p.1, ev p.2]) [some a, o1, o2] S = .ok (.nx [some a, o3, o4]) S) ∨
    (srtB es = false ∧ Mi.forM none S0 (gT 2 (gsCons (gN 1) (gsCons (gN 2) gsNil))) (sIf (tB' (m2 dGt (m2 dIx (mV 1) (mC (.int 0))) (m2 dIx (mV 2) (mC (.int 0))))) (sRet (mC (.bl false))) sNil) ((es.zip (es.drop 1)).map fun p => D.tup [ev p.1, ev p.2]) [some a, o1, o2] S = .ok (.rt (.bl false)) S)
  | [], o1, o2 => .inl ⟨rfl, o1, o2, by simp [Mi.forM]⟩
  | [e], o1, o2 => .inl ⟨rfl, o1, o2, by simp [Mi.forM]⟩
  | e :: f :: l, o1, o2 => by
    have ih := srt_for S0 S a (f :: l) (some (ev e)) (some (ev f))
    have i0 : dIx (ev e) (.int 0) S = some (.int e.t, S) := ix_tup rfl
    have i1 : dIx (ev f) (.int 0) S = some (.int f.t, S) := ix_tup rfl
    have tst : tB' (m2 dGt (m2 dIx (mV 1) (mC (.int 0))) (m2 dIx (mV 2) (mC (.int 0)))) [some a, some (ev e), some (ev f)] S = .ok (decide (f.t < e.t)) S := tst_ok (m2_ok (m2_ok rfl rfl i0) (m2_ok rfl rfl i1) rfl)
    simp only [List.drop_succ_cons, List.drop_zero] at ih ⊢
    rw [show ((e :: f :: l).zip (f :: l)) = (e, f) :: ((f :: l).zip l) from rfl, List.map_cons]
    unfold Mi.forM
    have g1 : gT 2 (gsCons (gN 1) (gsCons (gN 2) gsNil)) (D.tup [ev e, ev f]) [some a, o1, o2] S = some [some a, some (ev e), some (ev f)] := rfl
    simp only [g1]
    by_cases c : f.t < e.t
    · right
      rw [decide_eq_true c] at tst
      refine ⟨by simp only [srtB]; rw [decide_eq_false (by omega)]; rfl, ?_⟩
      rw [if_t tst rfl]
      rfl
    · rw [decide_eq_false c] at tst
      have b1 : (sIf (tB' (m2 dGt (m2 dIx (mV 1) (mC (.int 0))) (m2 dIx (mV 2) (mC (.int 0))))) (sRet (mC (.bl false))) sNil) [some a, some (ev e), some (ev f)] S = .ok (.nx [some a, some (ev e), some (ev f)]) S := if_f tst rfl
      have hsr : srtB (e :: f :: l) = srtB (f :: l) := by
        show (decide (e.t ≤ f.t) && srtB (f :: l)) = _
        rw [decide_eq_true (by omega)]
        rfl
      rw [hsr, b1]
      exact ih
theorem are_events_ok {es : List Ev} (h : ∀ e ∈ es, EvS e) (hz : es.length ≤ 1000000) (S : So) : m_are_events [.tup (es.map ev)] S = .ok (.bl (es.all good && srtB es)) S := by
  have hs : sizeLine = 16777216 := sizeLine_eq
  have e1 : compM none S (gN 1) tT (mCall m_is_event (aCons (mV 1) aNil)) [some (.tup (es.map ev)), none, none] (es.map ev) [] S = .ok ([] ++ es.map fun e => .bl (good e)) S :=
    comp_mapα rfl es [] (fun e he => ⟨_, rfl, call_ok (one_ok rfl) (is_event_ok (h e he) S)⟩) (by simp; omega)
  have e2 : mComp (iSeq (mV 0)) (gN 1) tT (mCall m_is_event (aCons (mV 1) aNil)) [1] [some (.tup (es.map ev)), none, none] S = .ok (.lst (es.map fun e => .bl (good e))) S := cmp_of (seq_src rfl rfl) e1
  have e3 : mB bAll (aCons (mComp (iSeq (mV 0)) (gN 1) tT (mCall m_is_event (aCons (mV 1) aNil)) [1]) aNil) [some (.tup (es.map ev)), none, none] S = .ok (.bl (es.all good)) S := b_ok (one_ok e2) (all_of good es S)
  cases c : es.all good with
  | false =>
    rw [c] at e3
    exact body_rt rfl (seq_rt (if_t (tor_f (tnot_t (tru_bl (is_ok rfl rfl))) (tnot_f (tru_bl e3))) rfl))
  | true =>
    rw [c] at e3
    have z : iZipT (aCons (mV 0) (aCons (mSl dSl (mV 0) (pSo (mC (.int 1))) pNo) aNil)) [some (.tup (es.map ev)), none, none] S = .ok ⟨none, (es.zip (es.drop 1)).map fun p => D.tup [ev p.1, ev p.2]⟩ S := by
      have a1 : mSl dSl (mV 0) (pSo (mC (.int 1))) pNo [some (.tup (es.map ev)), none, none] S = .ok (.tup ((es.map ev).drop 1)) S := by
        show R.of (some (D.tup (Mi.cutD (es.map ev) (some 1) none), S)) = _
        rw [cut1]
        rfl
      unfold iZipT
      rw [cons_ok (rfl : mV 0 _ S = .ok (.tup (es.map ev)) S) (one_ok a1), R.bind_ok]
      dsimp only
      rw [zipTail]
    refine body_rt rfl (seq_nx (if_f (tor_f (tnot_t (tru_bl (is_ok rfl rfl))) (tnot_t (tru_bl e3))) rfl) ?_)
    rcases srt_for S S (.tup (es.map ev)) es none none with ⟨q, o3, o4, q2⟩ | ⟨q, q2⟩
    · rw [q]
      exact seq_nx (for_of z q2) (ret_ok rfl)
    · rw [q]
      exact seq_rt (for_of z q2)
theorem last_atI {es : List Ev} {e : Ev} (h : es.getLast? = some e) : atI (es.map ev) (-1) = some (ev e) := by
  have hn : es ≠ [] := fun z => by rw [z] at h; cases h
  have hl := List.length_pos_iff.mpr hn
  unfold atI ixN
  rw [if_neg (by decide), if_pos (by rw [List.length_map]; omega)]
  show (es.map ev)[(-1 + ((es.map ev).length : Int)).toNat]? = _
  rw [List.length_map, show (-1 + (es.length : Int)).toNat = es.length - 1 by omega, List.getElem?_map, ← List.getLast?_eq_getElem?, h]
  rfl
theorem lastX_ok {i : Nat} {en : En} {S : So} {es : List Ev} (h : mV i en S = .ok (.tup (es.map ev)) S) : mIf (tTru (mV i)) (m2 dIx (m2 dIx (mV i) (m1 dNeg (mC (.int 1)))) (mC (.int 0))) (mC (.int 0)) en S = .ok (.int (lastT es)) S := by
  unfold lastT
  cases c : es.getLast? with
  | none =>
    have : es = [] := List.getLast?_eq_none_iff.mp c
    subst this
    exact ife_f (tru_ok h rfl) rfl
  | some e =>
    have hn : es ≠ [] := fun z => by rw [z] at c; cases c
    have tt : truD (.tup (es.map ev)) S = some true := by
      show some (!(es.map ev).isEmpty) = _
      cases es with
      | nil => exact absurd rfl hn
      | cons a l => rfl
    have i0 : dIx (ev e) (.int 0) S = some (.int e.t, S) := ix_tup rfl
    exact ife_t (tru_ok h tt) (m2_ok (m2_ok h (m1_ok rfl rfl) (ix_tup (last_atI c))) rfl i0)
theorem last_time_ok (es : List Ev) (S : So) : m_last_time [.tup (es.map ev)] S = .ok (.int (lastT es)) S := body_rt rfl (ret_ok (lastX_ok rfl))
/-! ### making a tape -/
def V (es : List Ev) (last : Int) : Bool := es.all good && srtB es && inR last && decide (lastT es ≤ last)
abbrev bad1 (x : Str) : Ex := ⟨x, [], []⟩
theorem sfput_ok {f : Str} {fv fo : E D} {en : En} {S : So} {n : Nat} {c : Str} {ks : List Str} {l : List D} {v : D} (h : fv en S = .ok v S) (k : fo en S = .ok (.ref n) S) (e : S[n]? = some (some (.ins c ks l))) (hk : ks.contains f = false ∧ ks.length < 1000) :
    sFput f fv fo en S = .ok (.nx en) (S.set n (some (.ins c (ks ++ [f]) (l ++ [v])))) := by
  unfold sFput
  rw [h, R.bind_ok, k, R.bind_ok]
  dsimp only
  rw [e]
  exact if_pos hk
theorem init_ok {es : List Ev} (h : ∀ e ∈ es, EvS e) (hz : es.length ≤ 1000000) {S : So} {n : Nat} (hn : S[n]? = some (some (.ins "Tape" [] []))) (d : D) (last : Int) (hd : d = .int last ∨ (d = .non ∧ last = lastT es)) :
    m_Tape_init [.ref n, .tup (es.map ev), d] S = if V es last = true then .ok .non (S.set n (some (.ins "Tape" ["own_events", "own_last"] [.tup (es.map ev), .int last]))) else .err (bad1 "InvalidTape") [] S := by
  have a := are_events_ok h hz S
  have nlt := (List.getElem?_eq_some_iff.mp hn).1
  unfold V
  cases c : (es.all good && srtB es) with
  | false =>
    rw [c] at a
    rw [if_neg (by simp)]
    exact body_err rfl (seq_err (if_t (tnot_f (tru_bl (call_ok (one_ok rfl) a))) rfl))
  | true =>
    rw [c] at a
    have s2 : ∃ en2, sIf (tB' (m2 dIsN (mV 2) (mC .non))) (sSet 2 (mCall m_last_time (aCons (mV 1) aNil))) sNil [some (.ref n), some (.tup (es.map ev)), some d] S = .ok (.nx en2) S ∧ en2 = [some (.ref n), some (.tup (es.map ev)), some (.int last)] := by
      rcases hd with rfl | ⟨rfl, rfl⟩
      · exact ⟨_, if_f (tst_ok (m2_ok rfl rfl rfl)) rfl, rfl⟩
      · exact ⟨_, if_t (tst_ok (m2_ok rfl rfl rfl)) (set_ok (call_ok (one_ok rfl) (last_time_ok es S))), rfl⟩
    obtain ⟨en2, s2, rfl⟩ := s2
    have i := is_integer_ok last S
    have lt : dLt (.int last) (.int (lastT es)) S = some (.bl (decide (last < lastT es)), S) := rfl
    simp only [Bool.true_and, Bool.and_eq_true]
    cases c2 : inR last with
    | false =>
      rw [c2] at i
      rw [if_neg (by simp)]
      exact body_err rfl (seq_nx (if_f (tnot_t (tru_bl (call_ok (one_ok rfl) a))) rfl) (seq_nx s2 (seq_err (if_t (tor_t (tnot_f (tru_bl (call_ok (one_ok rfl) i)))) rfl))))
    | true =>
      rw [c2] at i
      by_cases c3 : last < lastT es
      · rw [decide_eq_true c3] at lt
        rw [if_neg (by simp; omega)]
        exact body_err rfl (seq_nx (if_f (tnot_t (tru_bl (call_ok (one_ok rfl) a))) rfl) (seq_nx s2 (seq_err (if_t (tor_f (tnot_t (tru_bl (call_ok (one_ok rfl) i))) (tst_ok (m2_ok rfl (call_ok (one_ok rfl) (last_time_ok es S)) lt))) rfl))))
      · rw [decide_eq_false c3] at lt
        rw [if_pos ⟨rfl, by simp; omega⟩]
        have e2 : (S.set n (some (.ins "Tape" ["own_events"] [.tup (es.map ev)])))[n]? = some (some (.ins "Tape" ["own_events"] [.tup (es.map ev)])) := List.getElem?_set_self nlt
        have fin : sFput ("own_last" : Str) (mV 2) (mV 0) [some (.ref n), some (.tup (es.map ev)), some (.int last)] (S.set n (some (.ins "Tape" ["own_events"] [.tup (es.map ev)]))) = .ok (.nx [some (.ref n), some (.tup (es.map ev)), some (.int last)]) ((S.set n (some (.ins "Tape" ["own_events"] [.tup (es.map ev)]))).set n (some (.ins "Tape" ["own_events", "own_last"] [.tup (es.map ev), .int last]))) :=
          sfput_ok rfl rfl e2 (by decide)
        rw [List.set_set] at fin
        exact body_nx rfl (seq_nx (if_f (tnot_t (tru_bl (call_ok (one_ok rfl) a))) rfl) (seq_nx s2 (seq_nx (if_f (tor_f (tnot_t (tru_bl (call_ok (one_ok rfl) i))) (tst_ok (m2_ok rfl (call_ok (one_ok rfl) (last_time_ok es S)) lt))) rfl) (seq_nx (sfput_ok rfl rfl hn (by decide)) fin))))
theorem app_at {S : So} {x : Option Ob} : (S ++ [x])[S.length]? = some x := by simp
theorem made_ok {es : List Ev} (h : ∀ e ∈ es, EvS e) (hz : es.length ≤ 1000000) {S : So} {en : En} (d : D) (last : Int) (hd : d = .int last ∨ (d = .non ∧ last = lastT es)) :
    madeM S.length en (m_Tape_init [.ref S.length, .tup (es.map ev), d] (S ++ [some (.ins "Tape" [] [])])) = if V es last = true then .ok (tapeD es last) (S ++ [none]) else .err (bad1 "InvalidTape") en (S ++ [some (.ins "Tape" [] [])]) := by
  rw [init_ok h hz app_at d last hd]
  split
  · have e : (S ++ [some (Ob.ins "Tape" [] [])]).set S.length (some (.ins "Tape" ["own_events", "own_last"] [.tup (es.map ev), .int last])) = S ++ [some (.ins "Tape" ["own_events", "own_last"] [.tup (es.map ev), .int last])] := by
      rw [List.set_append_right _ _ (Nat.le_refl _)]
      simp
    rw [e]
    show R.ok (frz (.ref S.length) _).1 (frz (.ref S.length) _).2 = _
    have f1 : frz (.ref S.length) (S ++ [some (Ob.ins "Tape" ["own_events", "own_last"] [.tup (es.map ev), .int last])]) = (tapeD es last, S ++ [none]) := by
      unfold frz
      simp only [app_at]
      rw [List.set_append_right _ _ (Nat.le_refl _)]
      simp [tapeD]
    rw [f1]
  · rfl
theorem make0_ok {en : En} {S : So} : mMake "Tape" m_Tape_init G3 0 0 aNil aNil en S = .ok (tapeD [] 0) (S ++ [none]) := by
  unfold mMake
  rw [nil_ok, R.bind_ok, nil_ok, R.bind_ok, if_pos ⟨rfl, rfl⟩]
  have := made_ok (es := []) (by simp) (by simp) (S := S) (en := en) .non 0 (.inr ⟨rfl, rfl⟩)
  rw [if_pos (by decide +kernel)] at this
  exact this
end K01

namespace K01
open PySem PySem.Spec PyProof.Rows L2 Mi
/-! ### draws -/
theorem size4 : ∀ {n : Nat}, n ≤ 1000000 → n ≤ sizeLine := fun h => size_le (by omega)
abbrev X60 : Int := 1000000000000000000000000000000000000000000000000000000000000
theorem p60 (S : So) : dPow (.int 10) (.int 60) S = some (.int X60, S) := pow_ok (by decide) (by decide +kernel)
theorem inR_iff (v : Int) : inR v = true ↔ -X60 < v ∧ v < X60 := by
  unfold inR
  simp only [Bool.and_eq_true, decide_eq_true_eq]
  have hx : X60 = 1000000000000000000000000000000000000000000000000000000000000 := rfl
  omega

theorem comp_okN {hold : Option Nat} {S0 : So} {I : Nat → So → Prop} {P : D → Prop} {g : TgD} {f : E D} {enw : En} (hst : ∀ k S, I k S → still hold S0 S = true) : ∀ (l acc : List D) (S : So) (k : Nat), (∀ d ∈ l, ∀ k S, I (k + 1) S → ∃ en1 y S', g d enw S = some en1 ∧ f en1 S = .ok y S' ∧ P y ∧ I k S') → I (k + l.length) S → acc.length + l.length ≤ sizeLine →
    ∃ ys S', compM hold S0 g tT f enw l acc S = .ok (acc ++ ys) S' ∧ I k S' ∧ ys.length = l.length ∧ ∀ y ∈ ys, P y
  | [], acc, S, k, _, hI, _ => ⟨[], S, by unfold compM; simp, hI, rfl, by simp⟩
  | d :: l, acc, S, k, h, hI, hz => by
    obtain ⟨en1, y, S', e1, e2, hP, hI'⟩ := h d (by simp) (k + l.length) S hI
    simp only [List.length_cons] at hz
    obtain ⟨ys, S2, e3, hI2, hl, hP2⟩ := comp_okN hst l (acc ++ [y]) S' k (fun d' hd => h d' (by simp [hd])) hI' (by simp; omega)
    refine ⟨y :: ys, S2, ?_, hI2, by simp [hl], by simpa using ⟨hP, hP2⟩⟩
    unfold compM
    simp only [e1, tT, e2]
    rw [if_pos ⟨by omega, hst _ S' hI'⟩, e3]
    simp
theorem for_invN {S0 : So} {g : TgD} {body : T} {J : Nat → En → So → Prop} {n : Nat} : ∀ (l : List D) (en : En) (S : So) (i : Nat), i + l.length = n → (∀ d ∈ l, ∀ i en S, i < n → J i en S → ∃ en1 en2 S2, g d en S = some en1 ∧ body en1 S = .ok (.nx en2) S2 ∧ J (i + 1) en2 S2) → J i en S → ∃ en' S', Mi.forM none S0 g body l en S = .ok (.nx en') S' ∧ J n en' S'
  | [], en, S, i, hn, _, hJ => ⟨en, S, by unfold Mi.forM; rfl, by rw [← hn]; exact hJ⟩
  | d :: l, en, S, i, hn, h, hJ => by
    simp only [List.length_cons] at hn
    obtain ⟨en1, en2, S2, e1, e2, hJ2⟩ := h d (by simp) i en S (by omega) hJ
    obtain ⟨en', S', e3, hJ3⟩ := for_invN l en2 S2 (i + 1) (by omega) (fun d' hd => h d' (by simp [hd])) hJ2
    refine ⟨en', S', ?_, hJ3⟩
    unfold Mi.forM
    simp only [e1, e2, R.bind_ok, still_none, if_true]
    exact e3
theorem put_ok {fv fo fi : E D} {en : En} {S S1 S2 S3 S4 : So} {v o i : D} (h : fv en S = .ok v S1) (k : fo en S1 = .ok o S2) (k2 : fi en S2 = .ok i S3) (e : putD o i v S3 = some S4) : sPut fv fo fi en S = .ok (.nx en) S4 := by
  unfold sPut
  rw [h, R.bind_ok, k, R.bind_ok, k2, R.bind_ok, e]
theorem throw_n {S : So} {b : Nat} (t : Int) (h : Bag S b) (ht : 0 < t) (hl : t < 10 ^ 61) : ∃ r S', m_law_throw [.ref b, .int t] S = .ok (.int r) S' ∧ Bag S' b ∧ Ch b S S' ∧ 0 ≤ r ∧ r < t := throw_bag h ht (log_int (by omega) hl)
theorem value_ok {S : So} {b : Nat} (h : Bag S b) : ∃ r S', m_law_value [.ref b] S = .ok (.int r) S' ∧ Bag S' b ∧ Ch b S S' ∧ -X60 < r ∧ r < X60 := by
  have hx : X60 = 1000000000000000000000000000000000000000000000000000000000000 := rfl
  obtain ⟨r, S1, e1, h1, c1, r0, r1⟩ := throw_n 8 h (by decide) (by decide)
  have s1 : sSet 1 (mCall m_law_throw (aCons (mV 0) (aCons (mC (.int 8)) aNil))) [some (.ref b), none] S = .ok (.nx [some (.ref b), some (.int r)]) S1 := set_ok (call_ok (cons_ok rfl (one_ok rfl)) e1)
  have lt : tB' (m2 dLt (mV 1) (mC (.int 5))) [some (.ref b), some (.int r)] S1 = .ok (decide (r < 5)) S1 := tst_ok (m2_ok rfl rfl rfl)
  by_cases c : r < 5
  · obtain ⟨r2, S2, e2, h2, c2, q0, q1⟩ := throw_n 3 h1 (by decide) (by decide)
    rw [decide_eq_true c] at lt
    exact ⟨r2, S2, body_rt rfl (seq_nx s1 (seq_rt (if_t lt (ret_ok (call_ok (cons_ok rfl (one_ok rfl)) e2))))), h2, c1.trans c2, by omega, by omega⟩
  · rw [decide_eq_false c] at lt
    have q5 := eq_int (S := S1) r 5
    by_cases c5 : r = 5
    · obtain ⟨r2, S2, e2, h2, c2, q0, q1⟩ := throw_n 3 h1 (by decide) (by decide)
      rw [show (r == 5) = true by simp [c5]] at q5
      exact ⟨-1 - r2, S2, body_rt rfl (seq_nx s1 (seq_nx (if_f lt rfl) (seq_rt (if_t (tst_ok (m2_ok rfl rfl q5)) (ret_ok (m2_ok (m1_ok rfl rfl) (call_ok (cons_ok rfl (one_ok rfl)) e2) rfl)))))), h2, c1.trans c2, by omega, by omega⟩
    · obtain ⟨r2, S2, e2, h2, c2, q0, q1⟩ := throw_n X60 h1 (by decide) (by decide)
      rw [show (r == 5) = false by simp [c5]] at q5
      have s3 : small64i (13 - 2 * r) = true := by
        simp only [small64i, Bool.and_eq_true, decide_eq_true_eq]
        omega
      have two : dMul (.int 2) (.int r) S2 = some (.int (2 * r), S2) := mul_smallL (by decide)
      refine ⟨r2 * (13 - 2 * r), S2, body_rt rfl (seq_nx s1 (seq_nx (if_f lt rfl) (seq_nx (if_f (tst_ok (m2_ok rfl rfl q5)) rfl) (ret_ok (m2_ok (call_ok (cons_ok rfl (one_ok (m2_ok rfl rfl (p60 S1)))) e2) (m2_ok rfl (m2_ok rfl rfl two) rfl) (mul_small s3)))))), h2, c1.trans c2, ?_, ?_⟩
      · have : r = 6 ∨ r = 7 := by omega
        rcases this with rfl | rfl <;> omega
      · have : r = 6 ∨ r = 7 := by omega
        rcases this with rfl | rfl <;> omega
/-! ### letters -/
theorem ones_of {Q : Nat → Prop} : ∀ {ys : List D}, (∀ y ∈ ys, ∃ c, y = .str (one c) ∧ Q c) → ∃ cs : List Nat, ys = cs.map (fun c => .str (one c)) ∧ ∀ c ∈ cs, Q c
  | [], _ => ⟨[], rfl, by simp⟩
  | y :: ys, h => by
    obtain ⟨c, e, q⟩ := h y (by simp)
    obtain ⟨cs, e2, q2⟩ := ones_of (ys := ys) fun z hz => h z (by simp [hz])
    exact ⟨c :: cs, by simp [e, e2], by simpa using ⟨q, q2⟩⟩
theorem strs_map : ∀ l : List Str, strsOf (l.map D.str) = some l
  | [] => rfl
  | x :: l => by simp [strsOf, strs_map l]
/-- the signs that are left -/
def Sgn (S : So) (c : Nat) (k : Nat) : Prop := ∃ cs : List Nat, S[c]? = some (some (.lst (cs.map fun c => .str (one c)))) ∧ k ≤ cs.length ∧ cs.length ≤ 26 ∧ ∀ c ∈ cs, c ∈ alpha.cps.toList
theorem bLen_lst {l : List D} {c : Nat} {S : So} (h : S[c]? = some (some (.lst l))) : bLen [.ref c] S = some (.int l.length, S) := by
  unfold bLen
  simp only [seqOf, h]
theorem pop_ok {S : So} {c : Nat} {l : List D} {i : Int} (h : S[c]? = some (some (.lst l))) (h0 : 0 ≤ i) (h1 : i < l.length) (hz : l.length ≤ 26) : ∃ y, y ∈ l ∧ mPopAt (.ref c) [.int i] S = some (y, S.set c (some (.lst (l.eraseIdx i.toNat)))) := by
  have hi : i.toNat < l.length := by omega
  refine ⟨l[i.toNat], List.getElem_mem hi, ?_⟩
  unfold mPopAt
  simp only [cellL, h]
  rw [if_pos (by omega)]
  unfold ixN
  rw [if_pos h0, if_pos h1]
  simp only [List.getElem?_eq_getElem hi]
theorem sgns_alpha : sgns alpha = alpha.cps.toList.map fun c => D.str (one c) := rfl
def abcd : Str := "abcd"
theorem abcd_in : ∀ c ∈ abcd.cps.toList, c ∈ alpha.cps.toList := by decide +kernel
theorem mM_ok {T : String} {g : OpM} {fo : E D} {fa : E (List D)} {en : En} {S S1 S2 S3 : So} {d r : D} {l : List D} (h : fo en S = .ok d S1) (ty : isTyp T d S1 = true) (k : fa en S1 = .ok l S2) (e : g d l S2 = some (r, S3)) : mM T g fo fa en S = .ok r S3 := by
  unfold mM
  rw [h, R.bind_ok, if_pos ty, k, R.bind_ok, e]
  rfl
theorem erase_map {α β : Type} (f : α → β) : ∀ (l : List α) (i : Nat), (l.map f).eraseIdx i = (l.eraseIdx i).map f
  | [], i => by simp
  | a :: l, 0 => by simp
  | a :: l, i + 1 => by simp [erase_map f l i]
theorem lstS_ok {x : Str} {S : So} (h : x.length ≤ sizeLine) : bLstS [.str x] S = some (.ref S.length, S ++ [some (.lst (sgns x))]) := by
  unfold bLstS
  dsimp only
  rw [if_pos h]
theorem letters_ok {S : So} {b : Nat} (q : Nat) (hq1 : 1 ≤ q) (hq5 : q ≤ 5) (h : Bag S b) : ∃ (ls : List Str) (S' : So), m_law_letters [.ref b, .int (q : Int)] S = .ok (.tup (ls.map D.str)) S' ∧ Bag S' b ∧ Ch b S S' ∧ ls ≠ [] ∧ ls.length ≤ q ∧ ∀ x ∈ ls, LetOk x := by
  have a26 : alpha.cps.toList.length = 26 := by decide +kernel
  have a4 : abcd.cps.toList.length = 4 := by decide +kernel
  have hbl := h.lt
  have z26 : alpha.length ≤ sizeLine := size_le (by decide +kernel)
  have z4 : abcd.length ≤ sizeLine := size_le (by decide +kernel)
  have la : mB bLstS (aCons (mC (.str ("abcdefghijklmnopqrstuvwxyz" : Str))) aNil) [some (.ref b), some (.int (q : Int)), none, none, none] S = .ok (.ref S.length) (S ++ [some (.lst (sgns alpha))]) := b_ok (one_ok rfl) (lstS_ok z26)
  have h1 : Bag (S ++ [some (.lst (sgns alpha))]) b := h.app
  have lo : Sgn (S ++ [some (.lst (sgns alpha))]) S.length q := ⟨alpha.cps.toList, by rw [app_at, sgns_alpha], by omega, by omega, fun _ z => z⟩
  obtain ⟨r, S2, e2, h2, c2, r0, r3⟩ := throw_n 3 h1 (by decide) (by decide)
  have sg2 : Sgn S2 S.length q := by
    obtain ⟨cs, q1, q2⟩ := lo
    exact ⟨cs, by rw [c2.2 S.length (by simp) (by omega)]; exact q1, q2⟩
  have le : tB' (m2 dLe (mV 1) (mC (.int 4))) [some (.ref b), some (.int (q : Int)), some (.ref S.length), none, none] (S ++ [some (.lst (sgns alpha))]) = .ok (decide ((q : Int) ≤ 4)) (S ++ [some (.lst (sgns alpha))]) := tst_ok (m2_ok rfl rfl rfl)
  have gt : tB' (m2 dGt (mCall m_law_throw (aCons (mV 0) (aCons (mC (.int 3)) aNil))) (mC (.int 0))) [some (.ref b), some (.int (q : Int)), some (.ref S.length), none, none] (S ++ [some (.lst (sgns alpha))]) = .ok (decide (0 < r)) S2 := tst_ok (m2_ok (call_ok (cons_ok rfl (one_ok rfl)) e2) rfl rfl)
  have mid : ∃ c S3, sIf (tAnd' (tB' (m2 dLe (mV 1) (mC (.int 4)))) (tB' (m2 dGt (mCall m_law_throw (aCons (mV 0) (aCons (mC (.int 3)) aNil))) (mC (.int 0))))) (sSet 2 (mB bLstS (aCons (mC (.str ("abcd" : Str))) aNil))) sNil [some (.ref b), some (.int (q : Int)), some (.ref S.length), none, none] (S ++ [some (.lst (sgns alpha))]) = .ok (.nx [some (.ref b), some (.int (q : Int)), some (.ref c), none, none]) S3 ∧ Bag S3 b ∧ Ch b S S3 ∧ Sgn S3 c q ∧ S.length ≤ c := by
    by_cases q4 : (q : Int) ≤ 4
    rotate_left
    · rw [decide_eq_false q4] at le
      exact ⟨S.length, _, if_f (tand_f le) rfl, h1, Ch.app, lo, Nat.le_refl _⟩
    rw [decide_eq_true q4] at le
    by_cases c : 0 < r
    · rw [decide_eq_true c] at gt
      refine ⟨S2.length, S2 ++ [some (.lst (sgns abcd))], if_t ((tand_t le rfl).trans gt) (set_ok (b_ok (one_ok rfl) (lstS_ok (x := ("abcd" : Str)) z4))), h2.app, (Ch.app.trans c2).trans Ch.app, ⟨abcd.cps.toList, by rw [app_at]; rfl, by omega, by omega, abcd_in⟩, ?_⟩
      have := c2.1
      simp at this
      omega
    · rw [decide_eq_false c] at gt
      exact ⟨S.length, S2, if_f ((tand_t le rfl).trans gt) rfl, h2, Ch.app.trans c2, sg2, Nat.le_refl _⟩
  obtain ⟨c, S3, em, h3, c3, sg3, hc⟩ := mid
  obtain ⟨r2, S4, e4, h4, c4, q0, q3⟩ := throw_n (q : Int) h3 (by omega) (Int.lt_of_le_of_lt (b := 5) (by omega) (by decide))
  have sg4 : Sgn S4 c q := by
    obtain ⟨cs, q1, q2⟩ := sg3
    exact ⟨cs, by rw [c4.2 c (List.getElem?_eq_some_iff.mp q1).1 (by omega)]; exact q1, q2⟩
  have rl : (rngL 0 (1 + r2).toNat).length = (1 + r2).toNat := by simp [rngL]
  have hn : (1 + r2).toNat ≤ q := by omega
  obtain ⟨ys, S5, e5, ⟨h5, c5, _⟩, hl, hP⟩ := comp_okN (hold := none) (S0 := S4) (I := fun k S' => Bag S' b ∧ (S.length ≤ S'.length ∧ ∀ n, n < S.length → n ≠ b → S'[n]? = S[n]?) ∧ Sgn S' c k) (P := fun y => ∃ z, y = .str (one z) ∧ z ∈ alpha.cps.toList) (g := gN 4)
    (f := mM "list" mPopAt (mV 2) (aCons (mCall m_law_throw (aCons (mV 0) (aCons (mB bLen (aCons (mV 2) aNil)) aNil))) aNil)) (enw := [some (.ref b), some (.int (q : Int)), some (.ref c), some (.int (1 + r2)), none]) (fun _ _ _ => rfl) (rngL 0 (1 + r2).toNat) [] S4 0
    (fun d _ k S' hI => by
      obtain ⟨hB, hC, cs, q1, q2, q3, q4⟩ := hI
      have hlen : (cs.map fun c => D.str (one c)).length = cs.length := List.length_map ..
      obtain ⟨i, S6, e6, h6, c6, i0, i1⟩ := throw_n (cs.length : Int) hB (by omega) (Int.lt_of_le_of_lt (b := 26) (by omega) (by decide))
      have q1' : S6[c]? = some (some (.lst (cs.map fun c => .str (one c)))) := by
        rw [c6.2 c (List.getElem?_eq_some_iff.mp q1).1 (by omega)]
        exact q1
      obtain ⟨y, hy, ep⟩ := pop_ok q1' i0 (by rw [hlen]; exact i1) (by rw [hlen]; exact q3)
      obtain ⟨z, hz, rfl⟩ := List.mem_map.mp hy
      have bl := bLen_lst q1
      rw [hlen] at bl
      refine ⟨_, .str (one z), S6.set c (some (.lst ((cs.map fun c => D.str (one c)).eraseIdx i.toNat))), rfl, ?_, ⟨z, rfl, q4 z hz⟩, ?_, ⟨?_, fun n hn nb => ?_⟩, cs.eraseIdx i.toNat, ?_, ?_, ?_, fun w hw => q4 w (List.mem_of_mem_eraseIdx hw)⟩
      · have ty : isTyp "list" (.ref c) S' = true := by
          unfold isTyp
          simp only [lstOf, q1]
          rfl
        exact mM_ok rfl ty (one_ok (call_ok (cons_ok rfl (one_ok (b_ok (one_ok rfl) bl))) e6)) ep
      · obtain ⟨x, y, z, e⟩ := h6
        exact ⟨x, y, z, by rw [List.getElem?_set_ne (by omega)]; exact e⟩
      · rw [List.length_set]
        have := c6.1
        omega
      · rw [List.getElem?_set_ne (by omega), c6.2 n (by omega) nb]
        exact hC.2 n hn nb
      · rw [List.getElem?_set_self (List.getElem?_eq_some_iff.mp q1').1, erase_map]
      · rw [List.length_eraseIdx, if_pos (by omega)]
        omega
      · rw [List.length_eraseIdx, if_pos (by omega)]
        omega) (by
      rw [rl]
      refine ⟨h4, c3.trans c4, ?_⟩
      obtain ⟨cs, q1, q2, q3⟩ := sg4
      exact ⟨cs, q1, by omega, q3⟩) (by rw [rl, List.length_nil]; exact size4 (by omega))
  obtain ⟨cs, rfl, hcs⟩ := ones_of hP
  rw [List.nil_append] at e5
  rw [rl, List.length_map] at hl
  have e5' : mComp (iRg1 (aCons (mV 3) aNil)) (gN 4) tT (mM "list" mPopAt (mV 2) (aCons (mCall m_law_throw (aCons (mV 0) (aCons (mB bLen (aCons (mV 2) aNil)) aNil))) aNil)) [4] [some (.ref b), some (.int (q : Int)), some (.ref c), some (.int (1 + r2)), none] S4 = .ok (.lst ((cs.map one).map D.str)) S5 := by
    rw [List.map_map]
    exact cmp_of (rg1_ok (one_ok rfl) (by omega) (by omega)) e5
  have so : bSorted [.lst ((cs.map one).map D.str)] S5 = some (.lst ((srtS (cs.map one)).map D.str), S5) := by
    unfold bSorted
    simp only [dctOf, lstOf, strs_map]
    rw [if_pos (by rw [List.length_map]; omega)]
  have pm := srtS_perm (cs.map one)
  refine ⟨srtS (cs.map one), S5, body_rt rfl (seq_nx (set_ok la) (seq_nx em (seq_nx (set_ok (m2_ok rfl (call_ok (cons_ok rfl (one_ok rfl)) e4) rfl)) (ret_ok (b_ok (one_ok (b_ok (one_ok e5') so)) rfl))))), h5, c5, fun z => ?_, ?_, fun x hx => ?_⟩
  · have := pm.length_eq
    rw [z, List.length_map] at this
    simp at this
    omega
  · rw [pm.length_eq, List.length_map]
    omega
  · obtain ⟨z, hz, rfl⟩ := List.mem_map.mp (pm.mem_iff.mp hx)
    exact ⟨z, hcs z hz, rfl⟩
end K01

namespace K01
open PySem PySem.Spec PyProof.Rows L2 Mi
theorem len_def (x : Str) : x.length = x.cps.toList.length := by rw [Array.length_toList]; rfl
theorem cut_sub {x : Str} {c : Nat} (h : c ∈ (cutS x none (some 7)).cps.toList) : c ∈ x.cps.toList := by
  unfold cutS at h
  exact List.mem_of_mem_drop (List.mem_of_mem_take h)
theorem app_cps (a b : Str) : (a ++ b).cps.toList = a.cps.toList ++ b.cps.toList := by
  show (a.cps ++ b.cps).toList = _
  exact Array.toList_append
theorem app_len (a b : Str) : (a ++ b).length = a.length + b.length := by
  rw [len_def, len_def, len_def, app_cps, List.length_append]
def W1 : List Str := ["after", "again", "at", "busy", "changes", "else", "every", "first", "fold", "it", "late", "never", "one"]
def W2 : List Str := ["only", "pairs", "pick", "quiet", "source", "spaced", "switch", "then", "told", "until"]
theorem words_ok {S : So} : m_law_words [] S = .ok (.lst (WL.map D.str)) S := by
  refine body_rt rfl (seq_nx (set_ok (lst_ok rfl (size4 (Nat.le_of_ble_eq_true rfl)))) (ret_ok (m2_ok rfl (lst_ok rfl (size4 (Nat.le_of_ble_eq_true rfl))) ?_)))
  exact add_lst (size4 (Nat.le_of_ble_eq_true rfl))
theorem strs_ones : ∀ cs : List Nat, strsOf (cs.map fun c => .str (one c)) = some (cs.map one)
  | [] => rfl
  | c :: cs => by simp [strsOf, strs_ones cs]
theorem join_ones : ∀ cs : List Nat, Txt.join ("" : Str) (cs.map one) = ⟨cs.toArray⟩ := fun cs => by
  have h := SX.join_S [] (cs.map fun c => [c])
  have e1 : (cs.map fun c => [c]).map SX.S = cs.map one := by
    rw [List.map_map]
    rfl
  rw [e1] at h
  have e3 : ∀ cs : List Nat, TL.joinL [] (cs.map fun c => [c]) = cs := by
    intro cs
    induction cs with
    | nil => rfl
    | cons c cs ih =>
      cases cs with
      | nil => rfl
      | cons d cs =>
        show [c] ++ ([] ++ TL.joinL [] ((d :: cs).map fun c => [c])) = _
        rw [ih]
        rfl
  rw [e3] at h
  exact h
theorem sum_ones (cs : List Nat) : ((cs.map one).map (·.length)).sum = cs.length := by
  have : (cs.map one).map (·.length) = cs.map fun _ => 1 := by
    rw [List.map_map]
    rfl
  rw [this, List.map_const', List.sum_replicate_nat]
  omega
/-- a text that may be a name, but for the words -/
def PreOk (x : Str) : Prop := 1 ≤ x.length ∧ x.length ≤ 8 ∧ ∀ c ∈ x.cps.toList, c ∈ alpha.cps.toList
theorem PreOk.ok7 {x : Str} (h : PreOk x) : Ok7 x := fun c hc => alpha_ok c (h.2.2 c hc)
theorem can_strs {ks : List Str} (h : ∀ k ∈ ks, Ok7 k) : PyData.canLayAll0 (ks.map PyData.str) = true ∧ PyData.depthAll (ks.map PyData.str) = 0 := by
  induction ks with
  | nil => exact ⟨rfl, rfl⟩
  | cons k ks ih =>
    obtain ⟨i1, i2⟩ := ih fun x hx => h x (List.mem_cons_of_mem _ hx)
    simp only [List.map_cons, PyData.canLayAll0, PyData.depthAll, i1, i2, PyData.canLay0, PyData.depth, (h k (List.mem_cons_self ..)).ok]
    exact ⟨rfl, rfl⟩
theorem strs_sh {ks : List Str} (h : ∀ k ∈ ks, Ok7 k) : SeqAt.shaped (.list (ks.map PyData.str)) = true := by
  obtain ⟨h1, h2⟩ := can_strs h
  unfold SeqAt.shaped
  rw [show PyData.canLay0 (.list (ks.map PyData.str)) = true from h1, show PyData.depth (.list (ks.map PyData.str)) = PyData.depthAll (ks.map PyData.str) + 1 from rfl, h2]
  rfl
/-- the test of a name -/
theorem fresh_ok {x : Str} {ks : List Str} (h : PreOk x) (hk : ∀ k ∈ ks, Ok7 k) (S : So) : (∃ k, dNotIn (.str x) (.lst (ks.map D.str)) S = some (.bl k, S)) ∧ dNotIn (.str x) (.lst (WL.map D.str)) S = some (.bl (!((WL.map PyData.str).any fun q => PyData.eqv q (.str x))), S) := by
  have hx := str_sh h.ok7
  have hn := strs_sh hk
  have hw := words_shL
  refine ⟨⟨!((ks.map PyData.str).any fun q => PyData.eqv q (.str x)), ?_⟩, ?_⟩
  · unfold dNotIn dInB
    simp only [dctOf, toPt, toP, toPs_strs, hx, hn, Bool.and_self, if_true, Option.map_some]
  · unfold dNotIn dInB
    simp only [dctOf, toPt, toP, toPs_strs, hx, hw, Bool.and_self, if_true, Option.map_some]
def phi (tx : Str) (d : D) : D := match d with
  | .str y => .str (cutS tx none (some 7) ++ y)
  | d => d
theorem cut7_len (tx : Str) : (cutS tx none (some 7)).length ≤ 7 := by
  rw [len_def]
  unfold cutS
  rw [List.length_take, HT.sIx_none, show (some (7 : Int)) = some ((7 : Nat) : Int) from rfl, HT.sIx_nat]
  omega
theorem zzz_ok : NameOk "zzz" := by
  refine ⟨by decide +kernel, by decide +kernel, by decide +kernel, by decide +kernel⟩
theorem name_ok {S : So} {b : Nat} {ks : List Str} (h : Bag S b) (hk : ∀ k ∈ ks, Ok7 k) : ∃ x S', m_law_name [.ref b, .lst (ks.map D.str)] S = .ok (.str x) S' ∧ Bag S' b ∧ Ch b S S' ∧ NameOk x := by
  have hs : sizeLine = 16777216 := sizeLine_eq
  obtain ⟨kl, hkl⟩ : ∃ kl, kl = D.lst (ks.map D.str) := ⟨_, rfl⟩
  obtain ⟨d, S1, e1, h1, c1, hd⟩ := pick_seq (d0 := .lst [.str alpha, .str "ab", .str "st"]) (.inl rfl) h (by simp) (by decide)
  obtain ⟨x, rfl, hx0, hxl, hxo⟩ : ∃ x, d = .str x ∧ 0 < x.cps.size ∧ x.length ≤ 26 ∧ ∀ c ∈ x.cps.toList, c ∈ alpha.cps.toList := by
    simp only [List.mem_cons, List.not_mem_nil, or_false] at hd
    rcases hd with rfl | rfl | rfl
    · exact ⟨_, rfl, by decide +kernel, by decide +kernel, fun _ z => z⟩
    · exact ⟨_, rfl, by decide +kernel, by decide +kernel, by decide +kernel⟩
    · exact ⟨_, rfl, by decide +kernel, by decide +kernel, by decide +kernel⟩
  obtain ⟨r, S2, e2, h2, c2, r0, r8⟩ := throw_n 8 h1 (by decide) (by decide)
  have rl : (rngL 0 (1 + r).toNat).length = (1 + r).toNat := by simp [rngL]
  obtain ⟨ys, S3, e3, ⟨h3, c3⟩, hl, hP⟩ := comp_ok (hold := none) (S0 := S2) (I := fun S' => Bag S' b ∧ Ch b S S') (P := fun y => ∃ c, y = .str (one c) ∧ c ∈ x.cps.toList) (g := gN 6)
    (f := mCall m_law_pick (aCons (mV 0) (aCons (mV 3) aNil))) (enw := [some (.ref b), some kl, some (.str alpha), some (.str x), none, none, none, none]) (fun _ _ => rfl) (rngL 0 (1 + r).toNat) [] S2
    (fun d _ S' hS => by
      obtain ⟨c, S'', e, hB, hC, hc⟩ := pick_str hS.1 hx0 (by omega)
      exact ⟨_, .str (one c), S'', rfl, call_ok (cons_ok rfl (one_ok rfl)) e, ⟨c, rfl, hc⟩, hB, hS.2.trans hC⟩) ⟨h2, c1.trans c2⟩ (by rw [rl, List.length_nil]; exact size4 (by omega))
  obtain ⟨cs, rfl, hcs⟩ := ones_of hP
  rw [List.length_map, rl] at hl
  rw [List.nil_append] at e3
  have hj : mJoin (.str "") [.lst (cs.map fun c => .str (one c))] S3 = some (.str ⟨cs.toArray⟩, S3) := by
    unfold mJoin
    simp only [seqOf, strs_ones]
    rw [if_pos (by rw [sum_ones, List.length_map]; show cs.length + cs.length * 0 ≤ _; omega)]
    rw [join_ones]
  obtain ⟨tx, htx⟩ : ∃ tx : Str, tx = ⟨cs.toArray⟩ := ⟨_, rfl⟩
  rw [← htx] at hj
  have txl : tx.cps.toList = cs := by rw [htx]
  have txo : PreOk tx := ⟨by rw [len_def, txl]; omega, by rw [len_def, txl]; omega, fun c hc => hxo c (hcs c (by rw [txl] at hc; exact hc))⟩
  have j1 : mM "str" mJoin (mC (.str ("" : Str))) (aCons (mComp (iRg1 (aCons (m2 dAdd (mC (.int 1)) (mCall m_law_throw (aCons (mV 0) (aCons (mC (.int 8)) aNil)))) aNil)) (gN 6) tT (mCall m_law_pick (aCons (mV 0) (aCons (mV 3) aNil))) [6]) aNil) [some (.ref b), some kl, some (.str alpha), some (.str x), none, none, none, none] S1 = .ok (.str tx) S3 :=
    mM_ok rfl rfl (one_ok (cmp_of (rg1_ok (one_ok (m2_ok rfl (call_ok (cons_ok rfl (one_ok rfl)) e2) rfl)) (by omega) (by omega)) e3)) hj
  have e4 := comp_map (hold := none) (S0 := S3) (S := S3) (φ := phi tx) (g := gN 7)
    (f := m2 dAdd (mSl dSl (mV 4) pNo (pSo (mC (.int 7)))) (mV 7)) (enw := [some (.ref b), some kl, some (.str alpha), some (.str x), some (.str tx), none, none, none]) rfl (sgns alpha) []
    (fun d hd => by
      obtain ⟨c, _, rfl⟩ := List.mem_map.mp hd
      refine ⟨_, rfl, ?_⟩
      have h7 := cut7_len tx
      have tl : tx.length ≤ sizeLine := by have := txo.2.1; omega
      have sl : mSl dSl (mV 4) pNo (pSo (mC (.int 7))) [some (.ref b), some kl, some (.str alpha), some (.str x), some (.str tx), none, none, some (.str (one c))] S3 = .ok (.str (cutS tx none (some 7))) S3 := by
        show R.of (if tx.length ≤ sizeLine then some (D.str (cutS tx none (some 7)), S3) else none) = _
        rw [if_pos tl]
        rfl
      refine m2_ok sl rfl ?_
      show (if (cutS tx none (some 7)).length + (one c).length ≤ sizeLine then some (D.str (cutS tx none (some 7) ++ one c), S3) else none) = _
      rw [if_pos (show (cutS tx none (some 7)).length + (one c).length ≤ sizeLine from (show (cutS tx none (some 7)).length + 1 ≤ sizeLine by omega))]
      rfl) (by rw [show (sgns alpha).length = 26 by decide +kernel]; exact size4 (by decide))
  rw [List.nil_append] at e4
  obtain ⟨L, eL⟩ : ∃ L, L = ([D.str tx] ++ (sgns alpha).map (phi tx)) := ⟨_, rfl⟩
  have hL : ∀ d ∈ L, ∃ y, d = .str y ∧ PreOk y := fun d hd => by
    rw [eL] at hd
    rcases List.mem_append.mp hd with hd | hd
    · exact ⟨tx, by simpa using hd, txo⟩
    · obtain ⟨d', hd', rfl⟩ := List.mem_map.mp hd
      obtain ⟨c, hc, rfl⟩ := List.mem_map.mp hd'
      have h7 := cut7_len tx
      have h1' : (⟨#[c]⟩ : Str).length = 1 := rfl
      refine ⟨_, rfl, ?_, ?_, fun z hz => ?_⟩
      · rw [app_len]; omega
      · rw [app_len]; omega
      · rw [app_cps] at hz
        rcases List.mem_append.mp hz with hz | hz
        · exact txo.2.2 z (cut_sub hz)
        · have : z = c := by simpa using hz
          rw [this]
          exact hc
  have src : iSeq (m2 dAdd (mLst (aCons (mV 4) aNil)) (mComp (iTxt (mV 2)) (gN 7) tT (m2 dAdd (mSl dSl (mV 4) pNo (pSo (mC (.int 7)))) (mV 7)) [7])) [some (.ref b), some kl, some (.str alpha), some (.str x), some (.str tx), none, none, none] S3 = .ok ⟨none, L⟩ S3 := by
    refine seq_src (m2_ok (lst_ok (one_ok rfl) (size4 (Nat.le_of_ble_eq_true rfl))) (cmp_of (src := ⟨none, sgns alpha⟩) rfl e4) (add_lst ?_)) (by rw [eL]; rfl)
    rw [List.length_map, show (sgns alpha).length = 26 by decide +kernel]
    exact size4 (Nat.le_of_ble_eq_true rfl)
  have e5 := for_find (S := S3) (S0 := S3) (g := gN 5) (body := sIf (tAnd' (tB' (m2 dNotIn (mV 5) (mV 1))) (tB' (m2 dNotIn (mV 5) (mCall m_law_words aNil)))) (sRet (mV 5)) sNil) (P := fun d => ∃ y, d = .str y ∧ NameOk y)
    (J := fun en => ∃ o, en = [some (.ref b), some kl, some (.str alpha), some (.str x), some (.str tx), o, none, none]) L
    [some (.ref b), some kl, some (.str alpha), some (.str x), some (.str tx), none, none, none]
    (fun d hd en hJ => by
      obtain ⟨o, rfl⟩ := hJ
      obtain ⟨y, rfl, hy⟩ := hL d hd
      obtain ⟨⟨k, f1⟩, f2⟩ := fresh_ok hy hk S3
      rw [← hkl] at f1
      refine ⟨_, rfl, ?_⟩
      cases k with
      | false => exact .inr ⟨_, if_f (tand_f (tst_ok (m2_ok rfl rfl f1))) rfl, _, rfl⟩
      | true =>
        cases c : ((WL.map PyData.str).any fun q => PyData.eqv q (.str y)) with
        | true =>
          rw [c] at f2
          exact .inr ⟨_, if_f (tand_t (tst_ok (m2_ok rfl rfl f1)) (tst_ok (m2_ok rfl (call_ok rfl words_ok) f2))) rfl, _, rfl⟩
        | false =>
          rw [c] at f2
          exact .inl ⟨.str y, if_t (tand_t (tst_ok (m2_ok rfl rfl f1)) (tst_ok (m2_ok rfl (call_ok rfl words_ok) f2))) rfl, y, rfl, hy.1, hy.2.1, hy.2.2, c⟩) ⟨none, rfl⟩
  rw [← hkl]
  have p1 : mCall m_law_pick (aCons (mV 0) (aCons (mLst (aCons (mV 2) (aCons (mC (.str ("ab" : Str))) (aCons (mC (.str ("st" : Str))) aNil)))) aNil)) [some (.ref b), some kl, some (.str alpha), none, none, none, none, none] S = .ok (.str x) S1 :=
    call_ok (cons_ok rfl (one_ok (lst_ok (cons_ok rfl (cons_ok rfl (one_ok rfl))) (size4 (Nat.le_of_ble_eq_true rfl))))) e1
  rcases e5 with ⟨d, e5, y, rfl, hy⟩ | ⟨en', e5, o, rfl⟩
  · exact ⟨y, S3, body_rt rfl (seq_nx (set_ok (d := .str alpha) rfl) (seq_nx (set_ok p1) (seq_nx (set_ok j1) (seq_rt (for_of src e5))))), h3, c3, hy⟩
  · exact ⟨"zzz", S3, body_rt rfl (seq_nx (set_ok (d := .str alpha) rfl) (seq_nx (set_ok p1) (seq_nx (set_ok j1) (seq_nx (for_of src e5) (ret_ok rfl))))), h3, c3, zzz_ok⟩
/-! ### the layout -/
abbrev Lay := List (Str × List Str)
def layK (l : Lay) : List Key := l.map fun p => .inr p.1
def layV (l : Lay) : List D := l.map fun p => .tup (p.2.map D.str)
def layD (l : Lay) : D := .dct (layK l) (layV l)
def putL : Lay → Str → List Str → Lay
  | [], k, v => [(k, v)]
  | p :: r, k, v => if p.1 = k then (p.1, v) :: r else p :: putL r k v
theorem putL_ok (k : Str) (v : List Str) : ∀ l : Lay, putKD (layK l) (layV l) (.inr k) (.tup (v.map D.str)) = (layK (putL l k v), layV (putL l k v))
  | [] => rfl
  | p :: r => by
    have ih := putL_ok k v r
    unfold layK layV at ih ⊢
    simp only [List.map_cons]
    unfold putKD putL
    by_cases c : p.1 = k
    · rw [if_pos (by rw [c]), if_pos c]
      rfl
    · rw [if_neg fun z => c (Sum.inr.inj z), if_neg c]
      rw [ih]
      rfl
theorem putL_len {k : Str} {v : List Str} : ∀ {l : Lay}, (putL l k v).length ≤ l.length + 1
  | [] => Nat.le_refl _
  | p :: r => by
    unfold putL
    split
    · simp
    · have := putL_len (k := k) (v := v) (l := r)
      simp
      omega
theorem putL_ne {k : Str} {v : List Str} : ∀ {l : Lay}, putL l k v ≠ []
  | [] => by simp [putL]
  | p :: r => by
    unfold putL
    split <;> simp
theorem putL_mem {k : Str} {v : List Str} {q : Str × List Str} : ∀ {l : Lay}, q ∈ putL l k v → q ∈ l ∨ q = (k, v)
  | [], h => .inr (by simpa [putL] using h)
  | p :: r, h => by
    unfold putL at h
    split at h
    · rename_i c
      rcases List.mem_cons.mp h with e | h
      · exact .inr (by rw [e, c])
      · exact .inl (List.mem_cons_of_mem _ h)
    · rcases List.mem_cons.mp h with e | h
      · exact .inl (by rw [e]; exact List.mem_cons_self ..)
      · rcases putL_mem h with h | h
        · exact .inl (List.mem_cons_of_mem _ h)
        · exact .inr h
structure LayOk (l : Lay) : Prop where
  ok : ∀ p ∈ l, NameOk p.1 ∧ p.2 ≠ [] ∧ p.2.length ≤ 5 ∧ ∀ x ∈ p.2, LetOk x
  nd : (layK l).Nodup
theorem LayOk.put {l : Lay} {k : Str} {v : List Str} (h : LayOk l) (hk : NameOk k) (hv : v ≠ [] ∧ v.length ≤ 5 ∧ ∀ x ∈ v, LetOk x) : LayOk (putL l k v) := by
  refine ⟨fun p hp => ?_, ?_⟩
  · rcases putL_mem hp with hp | rfl
    · exact h.ok p hp
    · exact ⟨hk, hv⟩
  · have := (putKD_nodup (k := .inr k) (v := .tup (v.map D.str)) (ks := layK l) (l := layV l) (by simp [layK, layV]) h.nd).1
    rw [putL_ok] at this
    exact this
theorem texts_lay : ∀ l : Lay, textsK (layK l) = some (l.map (·.1))
  | [] => rfl
  | p :: r => by
    have ih := texts_lay r
    unfold layK at ih ⊢
    simp [textsK, ih]
theorem sorted_lay {d : D} {l : Lay} {S : So} (h : dctOf d S = some (layK l, layV l)) (hz : l.length < 64) : bSorted [d] S = some (.lst ((srtS (l.map (·.1))).map D.str), S) := by
  unfold bSorted
  simp only [h, texts_lay]
  rw [if_pos (by rw [List.length_map]; exact hz)]
theorem layout_ok {S : So} {b : Nat} (u q : Nat) (hu1 : 1 ≤ u) (hu5 : u ≤ 5) (hq1 : 1 ≤ q) (hq5 : q ≤ 5) (h : Bag S b) : ∃ l S', m_law_layout [.ref b, .int (u : Int), .int (q : Int)] S = .ok (layD l) S' ∧ Bag S' b ∧ Ch b S S' ∧ LayOk l ∧ l ≠ [] ∧ l.length ≤ u := by
  have hs : sizeLine = 16777216 := sizeLine_eq
  have hbl := h.lt
  obtain ⟨r, S1, e1, h1, c1, r0, r3⟩ := throw_n (u : Int) (h.app (T := [some (.dct [] [])])) (by omega) (Int.lt_of_le_of_lt (b := 5) (by omega) (by decide))
  have k1 : S1[S.length]? = some (some (.dct [] [])) := by
    rw [c1.2 S.length (by simp) (by omega)]
    exact app_at
  have rl : (rngL 0 (1 + r).toNat).length = (1 + r).toNat := by simp [rngL]
  obtain ⟨en', S2, e2, o4, o5, l, rfl, k2, h2, c2, hl, hn, hz⟩ := for_invN (S0 := S1) (g := gN 4) (body := sSeq (sSet 5 (mCall m_law_name (aCons (mV 0) (aCons (mB bSorted (aCons (mV 3) aNil)) aNil)))) (sPut (mCall m_law_letters (aCons (mV 0) (aCons (mV 2) aNil))) (mV 3) (mV 5)))
    (J := fun i en S' => ∃ o4 o5 l, en = [some (.ref b), some (.int (u : Int)), some (.int (q : Int)), some (.ref S.length), o4, o5] ∧ S'[S.length]? = some (some (.dct (layK l) (layV l))) ∧ Bag S' b ∧ Ch b S S' ∧ LayOk l ∧ (0 < i → l ≠ []) ∧ l.length ≤ i)
    (n := (1 + r).toNat) (rngL 0 (1 + r).toNat) [some (.ref b), some (.int (u : Int)), some (.int (q : Int)), some (.ref S.length), none, none] S1 0 (by rw [rl]; omega)
    (fun d hd i en S' hi hJ => by
      obtain ⟨o4, o5, l, rfl, k2, h2, c2, hl, hn, hz⟩ := hJ
      have dc : dctOf (.ref S.length) S' = some (layK l, layV l) := by
        unfold dctOf
        simp only [k2]
      have so := sorted_lay dc (by omega)
      obtain ⟨x, S3, e3, h3, c3, hx⟩ := name_ok (ks := srtS (l.map (·.1))) h2 (fun k hk => by
        obtain ⟨p, hp, rfl⟩ := List.mem_map.mp ((srtS_perm _).mem_iff.mp hk)
        exact (hl.ok p hp).1.ok7)
      obtain ⟨ls, S4, e4, h4, c4, hls⟩ := letters_ok q hq1 hq5 h3
      have hlt : S.length < S'.length := (List.getElem?_eq_some_iff.mp k2).1
      have k4 : S4[S.length]? = some (some (.dct (layK l) (layV l))) := by
        rw [c4.2 S.length (Nat.lt_of_lt_of_le hlt c3.1) (by omega), c3.2 S.length hlt (by omega)]
        exact k2
      have hlt4 : S.length < S4.length := (List.getElem?_eq_some_iff.mp k4).1
      have pu : putD (.ref S.length) (.str x) (.tup (ls.map D.str)) S4 = some (S4.set S.length (some (.dct (layK (putL l x ls)) (layV (putL l x ls))))) := by
        unfold putD
        simp only [k4, Mi.keyOf]
        rw [if_pos ⟨hl.nd, by simp only [layK, List.length_map]; omega⟩, putL_ok]
      refine ⟨_, _, _, rfl, seq_nx (set_ok (call_ok (cons_ok rfl (one_ok (b_ok (one_ok rfl) so))) e3)) ?_, some d, some (.str x), putL l x ls, rfl, List.getElem?_set_self hlt4, ?_, ⟨?_, fun n hn nb => ?_⟩, hl.put hx ⟨hls.1, Nat.le_trans hls.2.1 hq5, hls.2.2⟩, fun _ => putL_ne, ?_⟩
      · exact put_ok (call_ok (cons_ok rfl (one_ok rfl)) e4) rfl rfl pu
      · obtain ⟨x1, y1, z1, e⟩ := h4
        exact ⟨x1, y1, z1, by rw [List.getElem?_set_ne (by omega)]; exact e⟩
      · rw [List.length_set]
        omega
      · rw [List.getElem?_set_ne (by omega)]
        exact ((c2.trans c3).trans c4).2 n hn nb
      · have := putL_len (k := x) (v := ls) (l := l)
        omega)
    ⟨none, none, [], rfl, k1, h1, Ch.app.trans c1, ⟨by simp, by simp [layK]⟩, by simp, by simp⟩
  have fz : frz (.ref S.length) S2 = (layD l, S2.set S.length none) := by
    unfold frz
    simp only [k2]
    rfl
  refine ⟨l, S2.set S.length none, body_rt rfl (seq_nx (set_ok rfl) (seq_nx (for_of (rg1_ok (one_ok (m2_ok rfl (call_ok (cons_ok rfl (one_ok rfl)) e1) rfl)) (by omega) (by omega)) e2) ?_)), ?_, ⟨?_, fun n hn' nb => ?_⟩, hl, hn (by omega), by omega⟩
  · refine ret_ok ?_
    unfold mFrz
    rw [show mV 3 [some (.ref b), some (.int (u : Int)), some (.int (q : Int)), some (.ref S.length), o4, o5] S2 = .ok (.ref S.length) S2 from rfl, R.bind_ok, fz]
  · obtain ⟨x1, y1, z1, e⟩ := h2
    exact ⟨x1, y1, z1, by rw [List.getElem?_set_ne (by omega)]; exact e⟩
  · rw [List.length_set]
    exact c2.1
  · rw [List.getElem?_set_ne (by omega)]
    exact c2.2 n hn' nb
end K01

namespace K01
open PySem PySem.Spec PyProof.Rows L2 Mi
/-! ### the start of a cell -/
theorem modd {i j : Int} {S : So} (h : 0 < j) : dMod (.int i) (.int j) S = some (.int (i % j), S) := if_pos h
theorem start_ok (ns : List Int) (i : Nat) (S : So) : ∃ u v : Int, m_law_start [.scr ns, .int i] S = .ok (.ref S.length) (S ++ [some (.lst [.int u, .int v, .int 0])]) := by
  have p1 : (Builtin.Int.intBits 10 : Int) * 60 ≤ 2 ^ 27 := by decide +kernel
  have p2 : (Builtin.Int.intBits X60 : Int) * 10 ≤ 2 ^ 27 := by decide +kernel
  have p3 : (Builtin.Int.intBits 10 : Int) * 18 ≤ 2 ^ 27 := by decide +kernel
  have q3 : (0 : Int) < X60 ^ 10 := by decide +kernel
  have hl : bLen [.scr ns] S = some (.int ns.length, S) := by
    show some (D.int ((ns.map D.int).length : Nat), S) = _
    rw [List.length_map]
  obtain ⟨c, hc⟩ : ∃ c : Int, mIf (tB' (m2 dLt (mV 1) (mB bLen (aCons (mV 0) aNil)))) (m2 dIx (mV 0) (mV 1)) (m2 dAdd (m2 dMul (mC (.int 53)) (mV 1)) (mC (.int 7))) [some (.scr ns), some (.int i), none, none, none] S = .ok (.int c) S := by
    have lt : tB' (m2 dLt (mV 1) (mB bLen (aCons (mV 0) aNil))) [some (.scr ns), some (.int i), none, none, none] S = .ok (decide ((i : Int) < ns.length)) S := tst_ok (m2_ok rfl (b_ok (one_ok rfl) hl) rfl)
    by_cases c : (i : Int) < ns.length
    · rw [decide_eq_true c] at lt
      obtain ⟨d, e, hd⟩ := atI_of (l := ns.map D.int) (r := i) (by omega) (by rw [List.length_map]; exact c)
      obtain ⟨n, _, rfl⟩ := List.mem_map.mp hd
      refine ⟨n, ife_t lt (m2_ok rfl rfl ?_)⟩
      show (atI (ns.map D.int) i).map (fun d => (d, S)) = _
      rw [e]
      rfl
    · rw [decide_eq_false c] at lt
      exact ⟨53 * i + 7, ife_f lt (m2_ok (m2_ok rfl rfl (mul_smallL (by decide))) rfl rfl)⟩
  have a2 : dPow (.int X60) (.int 10) S = some (.int (X60 ^ 10), S) := pow_ok (by decide) p2
  have a3 : ∀ u : Int, dMod (.int u) (.int (X60 ^ 10)) S = some (.int (u % X60 ^ 10), S) := fun u => modd q3
  have e1 : m2 dMod (mB bInt (aCons (mB bAbs (aCons (mV 2) aNil)) aNil)) (m2 dPow (m2 dPow (mC (.int 10)) (mC (.int 60))) (mC (.int 10))) [some (.scr ns), some (.int i), some (.int c), none, none] S = .ok (.int ((if c < 0 then -c else c) % X60 ^ 10)) S :=
    m2_ok (b_ok (one_ok (b_ok (one_ok rfl) rfl)) rfl) (m2_ok (m2_ok rfl rfl (p60 S)) rfl a2) (a3 _)
  obtain ⟨gr, hg⟩ : ∃ g, g = (if c < 0 then -c else c) % X60 ^ 10 := ⟨_, rfl⟩
  rw [← hg] at e1
  have e2 : m2 dAdd (m2 dMul (m2 dMod (mB bInt (aCons (mV 3) aNil)) (mC (.int 2305843009213693921))) (mC (.int 3))) (mB bInt (aCons (m2 dLt (mV 2) (mC (.int 0))) aNil)) [some (.scr ns), some (.int i), some (.int c), some (.int gr), none] S = .ok (.int (gr % 2305843009213693921 * 3 + (if decide (c < 0) = true then 1 else 0))) S :=
    m2_ok (m2_ok (m2_ok (b_ok (one_ok rfl) rfl) rfl (modd (by decide))) rfl (mul_small (by decide))) (b_ok (one_ok (m2_ok rfl rfl rfl)) rfl) rfl
  obtain ⟨mx, hmx⟩ : ∃ mx : Int, mx = gr % 2305843009213693921 * 3 + (if decide (c < 0) = true then 1 else 0) := ⟨_, rfl⟩
  rw [← hmx] at e2
  have a18 : dPow (.int 10) (.int 18) S = some (.int (10 ^ 18), S) := pow_ok (by decide) p3
  obtain ⟨u, v, e3⟩ : ∃ u v : Int, aCons (mB bMax (aCons (mC (.int 0)) (aCons (m2 dSub (mV 3) (m2 dPow (mC (.int 10)) (mC (.int 18)))) aNil))) (aCons (m2 dMod (mB bInt (aCons (m2 dAdd (m2 dAdd (m2 dMul (mV 4) (mC (.int 40009))) (m2 dMul (mC (.int 7919)) (mV 1))) (mC (.int 17))) aNil)) (mC (.int 2305843009213693951))) (aCons (mC (.int 0)) aNil)) [some (.scr ns), some (.int i), some (.int c), some (.int gr), some (.int mx)] S = .ok [.int u, .int v, .int 0] S :=
    ⟨_, _, cons_ok (b_ok (cons_ok rfl (one_ok (m2_ok rfl (m2_ok rfl rfl a18) rfl))) rfl) (cons_ok (m2_ok (b_ok (one_ok (m2_ok (m2_ok (m2_ok rfl rfl (mul_small (by decide))) (m2_ok rfl rfl (mul_smallL (by decide))) rfl) rfl rfl)) rfl) rfl (modd (by decide))) (one_ok rfl))⟩
  refine ⟨u, v, body_rt rfl (seq_nx (set_ok hc) (seq_nx (set_ok e1) (seq_nx (set_ok e2) (ret_ok ?_))))⟩
  show mLstN _ [some (.scr ns), some (.int i), some (.int c), some (.int gr), some (.int mx)] S = _
  unfold mLstN
  rw [e3, R.bind_ok, if_pos (size_le (Nat.le_of_ble_eq_true rfl))]
end K01

namespace K01
open PySem PySem.Spec PyProof.Rows L2 Mi
/-- the two tapes among the odd values -/
def tape0 : D := tapeD [] 0
def tape1 : D := tapeD [⟨2, "s", "a", 1⟩] 2
/-- what the law draws: values at most n levels deep -/
def Val : Nat → D → Prop
  | 0, _ => False
  | _ + 1, .non => True
  | _ + 1, .bl _ => True
  | _ + 1, .int i => -X60 * X60 < i ∧ i < X60 * X60
  | _ + 1, .str x => Ok7 x ∧ x.length ≤ 1000
  | n + 1, .tup l => l.length ≤ 1000 ∧ ∀ e ∈ l, Val n e
  | n + 1, .lst l => l.length ≤ 1000 ∧ ∀ e ∈ l, Val n e
  | n + 1, .dct ks l => ks.length ≤ 60 ∧ l.length = ks.length ∧ ks.Nodup ∧ (∀ k ∈ ks, ∃ x : Str, k = Sum.inr x ∧ Ok7 x ∧ x.length ≤ 1000) ∧ ∀ e ∈ l, Val n e
  | _ + 1, d => d = tape0 ∨ d = tape1
theorem copied_seq {n : Nat} {l : List D} {S : So} {en : En} {d : D} (ih : ∀ e ∈ l, ∀ S, m_law_copied n [e] S = .ok e S) (hl : l.length ≤ 1000) (hd : srcOf d S = some ⟨none, l⟩) (hen : en = [some d, none, none]) :
    mComp (iSeq (mV 0)) (gN 1) tT (mCall (m_law_copied n) (aCons (mV 1) aNil)) [1] en S = .ok (.lst l) S := by
  subst hen
  have e1 := comp_map (hold := none) (S0 := S) (S := S) (φ := id) (g := gN 1) (f := mCall (m_law_copied n) (aCons (mV 1) aNil)) (enw := [some d, none, none]) rfl l []
    (fun e he => ⟨_, rfl, call_ok (one_ok rfl) (ih e he S)⟩) (by simpa using size4 (by omega))
  rw [List.map_id, List.nil_append] at e1
  exact cmp_of (seq_src rfl hd) e1
/-- what is no dict, list or tuple is given back -/
theorem copied_flat {n : Nat} {d : D} {S : So} (h1 : isD .dct d S = some false) (h2 : isD .lst d S = some false) (h3 : isD .tup d S = some false) : m_law_copied (n + 1) [d] S = .ok d S :=
  body_rt rfl (seq_nx (if_f (tru_bl (is_ok rfl h1)) rfl) (seq_nx (if_f (tru_bl (is_ok rfl h2)) rfl) (seq_nx (if_f (tru_bl (is_ok rfl h3)) rfl) (ret_ok rfl))))
theorem copied_lst {n : Nat} {l : List D} {S : So} (ih : ∀ e ∈ l, ∀ S, m_law_copied n [e] S = .ok e S) (hl : l.length ≤ 1000) : m_law_copied (n + 1) [.lst l] S = .ok (.lst l) S :=
  body_rt rfl (seq_nx (if_f (tru_bl (is_ok rfl rfl)) rfl) (seq_rt (if_t (tru_bl (is_ok rfl rfl)) (ret_ok (copied_seq ih hl rfl rfl)))))
theorem copied_tup {n : Nat} {l : List D} {S : So} (ih : ∀ e ∈ l, ∀ S, m_law_copied n [e] S = .ok e S) (hl : l.length ≤ 1000) : m_law_copied (n + 1) [.tup l] S = .ok (.tup l) S :=
  body_rt rfl (seq_nx (if_f (tru_bl (is_ok rfl rfl)) rfl) (seq_nx (if_f (tru_bl (is_ok rfl rfl)) rfl) (seq_rt (if_t (tru_bl (is_ok rfl rfl)) (ret_ok (b_ok (one_ok (copied_seq ih hl rfl rfl)) rfl))))))
theorem put_end {k : Key} {v : D} : ∀ {ks : List Key} {l : List D}, k ∉ ks → ks.length = l.length → putKD ks l k v = (ks ++ [k], l ++ [v])
  | [], [], _, _ => rfl
  | q :: ks, d :: l, h, e => by
    have n1 : q ≠ k := fun z => h (by rw [z]; exact List.mem_cons_self ..)
    have r := put_end (k := k) (v := v) (ks := ks) (l := l) (fun z => h (List.mem_cons_of_mem _ z)) (Nat.succ.inj e)
    show (if q = k then _ else _) = _
    rw [if_neg n1, r]
    rfl
  | [], _ :: _, _, e => by cases e
  | _ :: _, [], _, e => by cases e
theorem merge_id : ∀ (ps : List (Key × D)) (ks : List Key) (l : List D), (ks ++ ps.map (·.1)).Nodup → ks.length = l.length → mergeKD (ks, l) ps = (ks ++ ps.map (·.1), l ++ ps.map (·.2))
  | [], ks, l, _, _ => by simp [mergeKD]
  | p :: ps, ks, l, h, e => by
    have hn : p.1 ∉ ks := fun z => by
      have := (List.nodup_append.mp h).2.2 p.1 z p.1 (by simp)
      exact this rfl
    have st : mergeKD (ks, l) (p :: ps) = mergeKD (putKD ks l p.1 p.2) ps := rfl
    rw [st, put_end hn e, merge_id ps (ks ++ [p.1]) (l ++ [p.2]) (by simpa [List.append_assoc] using h) (by simp [e])]
    simp [List.append_assoc]
theorem look_at : ∀ (ps : List (Key × D)) {p : Key × D}, (ps.map (·.1)).Nodup → p ∈ ps → lookK (ps.map (·.1)) (ps.map (·.2)) p.1 = some p.2
  | [], _, _, h => by cases h
  | r :: ps, p, nd, h => by
    obtain ⟨n1, n2⟩ := List.nodup_cons.mp nd
    rcases List.mem_cons.mp h with e | e
    · subst e
      simp [lookK]
    · have ne : r.1 ≠ p.1 := fun z => n1 (by show r.1 ∈ _; rw [z]; exact List.mem_map_of_mem e)
      have ih := look_at ps n2 e
      simp [lookK, ne, ih]
theorem keyD : ∀ k : Key, Mi.keyOf (kD k) = some k
  | .inl _ => rfl
  | .inr _ => rfl
theorem pairs_of : ∀ ps : List (Key × D), pairsD (ps.map fun p => D.tup [kD p.1, p.2]) = some ps
  | [] => rfl
  | p :: ps => by
    rw [List.map_cons]
    unfold pairsD
    rw [keyD, pairs_of ps]
theorem copied_dct {n : Nat} {ps : List (Key × D)} {S : So} (nd : (ps.map (·.1)).Nodup) (hl : ps.length ≤ 1000) (ih : ∀ p ∈ ps, ∀ S, m_law_copied n [p.2] S = .ok p.2 S) :
    m_law_copied (n + 1) [.dct (ps.map (·.1)) (ps.map (·.2))] S = .ok (.dct (ps.map (·.1)) (ps.map (·.2))) S := by
  have e1 := comp_mapα (hold := none) (S0 := S) (S := S) (ι := fun p : Key × D => kD p.1) (φ := fun p : Key × D => D.tup [kD p.1, p.2]) (g := gN 2) (f := mTup (aCons (mV 2) (aCons (mCall (m_law_copied n) (aCons (m2 dIx (mV 0) (mV 2)) aNil)) aNil)))
    (enw := [some (.dct (ps.map (·.1)) (ps.map (·.2))), none, none]) rfl ps [] (fun p hp => ⟨_, rfl, tup_ok (cons_ok rfl (one_ok (call_ok (one_ok (m2_ok rfl rfl (by
      have lk := look_at ps nd hp
      obtain ⟨k, v⟩ := p
      cases k <;> (unfold dIx; simp only [dctOf, kD, Mi.keyOf]; rw [lk]; rfl)))) (ih p hp S)))) (size4 (Nat.le_of_ble_eq_true rfl))⟩) (by simpa using size4 (by omega))
  have src : iKeysV (mV 0) [some (.dct (ps.map (·.1)) (ps.map (·.2))), none, none] S = .ok ⟨none, ps.map fun p => kD p.1⟩ S := by
    unfold iKeysV
    show R.ok (⟨none, (ps.map (·.1)).map kD⟩ : Src) S = _
    rw [List.map_map]
    rfl
  rw [List.nil_append] at e1
  refine body_rt rfl (seq_rt (if_t (tru_bl (is_ok rfl rfl)) (ret_ok (b_ok (one_ok (cmp_of src e1)) ?_))))
  unfold bDict
  simp only [lstOf, pairs_of]
  rw [merge_id ps [] [] (by simpa using nd) rfl]
  simp
/-- _law_copied gives back what it gets -/
theorem copied_ok : ∀ (n : Nat) (d : D) (S : So), Val n d → m_law_copied n [d] S = .ok d S
  | 0, _, _, h => h.elim
  | n + 1, d, S, h => by
    cases d with
    | non => exact copied_flat rfl rfl rfl
    | bl b => exact copied_flat rfl rfl rfl
    | int i => exact copied_flat rfl rfl rfl
    | str x => exact copied_flat rfl rfl rfl
    | tup l => exact copied_tup (fun e he S => copied_ok n e S (h.2 e he)) h.1
    | lst l => exact copied_lst (fun e he S => copied_ok n e S (h.2 e he)) h.1
    | dct ks l =>
      obtain ⟨h1, h2, h3, _, h5⟩ := h
      have z1 : (ks.zip l).map (·.1) = ks := List.map_fst_zip (Nat.le_of_eq h2.symm)
      have z2 : (ks.zip l).map (·.2) = l := List.map_snd_zip (Nat.le_of_eq h2)
      have r := copied_dct (n := n) (ps := ks.zip l) (S := S) (by rw [z1]; exact h3) (by rw [List.length_zip]; omega) fun p hp S => copied_ok n p.2 S (h5 _ (List.of_mem_zip hp).2)
      rw [z1, z2] at r
      exact r
    | _ =>
      rcases (h : _ = tape0 ∨ _ = tape1) with e | e <;> first | (rw [e]; exact copied_flat rfl rfl rfl) | (cases e)
end K01

namespace K01
open PySem PySem.Spec PyProof.Rows L2 Mi
/-! ### _law_same d d -/
theorem neA_bl {n : Str} {F : Fm} {S : So} (i j : Bool) : dNeA n F (.bl i) (.bl j) S = some (.bl (!(i == j)), S) := (if_neg (by simp [isOwn])).trans (ne_bl i j)
theorem eqA_bl {n : Str} {F : Fm} {S : So} (i j : Bool) : dEqA n F (.bl i) (.bl j) S = some (.bl (i == j), S) := (if_neg (by simp [isOwn])).trans (eq_bl i j)
theorem eqA_int {n : Str} {F : Fm} {S : So} (i j : Int) : dEqA n F (.int i) (.int j) S = some (.bl (i == j), S) := (if_neg (by simp [isOwn])).trans (eq_int i j)
theorem eqA_str {n : Str} {F : Fm} {S : So} {x : Str} (h : Ok7 x) : dEqA n F (.str x) (.str x) S = some (.bl true, S) := (if_neg (by simp [isOwn])).trans (eq_str h)
theorem same_leaf {n : Nat} {d : D} {S : So} (hd : d = .non ∨ (∃ b, d = .bl b) ∨ (∃ i, d = .int i) ∨ ∃ x, d = .str x ∧ Ok7 x) : m_law_same (n + 1) [d, d] S = .ok (.bl true) S := by
  rcases hd with rfl | ⟨b, rfl⟩ | ⟨i, rfl⟩ | ⟨x, rfl, hx⟩
  · simp [m_law_same, bodyM, bodyR, sSeq, sIf, sRet, sNil, tTru, truD, tOr', tB', asB, m2, mV, mC, R.of, R.bind, mIs, mIs2, isD, tyD, isT, dIsN, Mi.isNon, mAnd, neA_bl, eqA_bl]
  · simp [m_law_same, bodyM, bodyR, sSeq, sIf, sRet, sNil, tTru, truD, tOr', tB', asB, m2, mV, mC, R.of, R.bind, mIs, mIs2, isD, tyD, isT, dIsN, Mi.isNon, mAnd, mNot, neA_bl, eqA_bl]
  · simp [m_law_same, bodyM, bodyR, sSeq, sIf, sRet, sNil, tTru, truD, tOr', tB', asB, m2, mV, mC, R.of, R.bind, mIs, mIs2, isD, tyD, isT, dIsN, Mi.isNon, mAnd, mNot, neA_bl, eqA_bl, eqA_int]
  · simp [m_law_same, bodyM, bodyR, sSeq, sIf, sRet, sNil, tTru, truD, tOr', tB', asB, m2, mV, mC, R.of, R.bind, mIs, mIs2, isD, tyD, isT, dIsN, Mi.isNon, mAnd, mNot, neA_bl, eqA_bl, eqA_str hx]
theorem same_seq {F : Fm} {l : List D} {d0 : D} {S : So} {n : Nat} (hd0 : d0 = .tup l ∨ d0 = .lst l) (e : m_law_same n = F) (hz : l.length < 1000000) (h : ∀ d ∈ l, F [d, d] S = .ok (.bl true) S) : m_law_same (n + 1) [d0, d0] S = .ok (.bl true) S := by
  have hl : (rngL 0 l.length).length = l.length := by simp [rngL]
  have ix : ∀ {i : Int} {d : D}, atI l i = some d → dIx d0 (.int i) S = some (d, S) := fun {i d} q => by
    rcases hd0 with rfl | rfl
    · exact ix_tup q
    · exact ix_lst q
  have e4 := comp_map (hold := none) (S0 := S) (S := S) (φ := fun _ => .bl true) (g := gN 3) (f := mCall F (aCons (m2 dIx (mV 0) (mV 3)) (aCons (m2 dIx (mV 1) (mV 3)) aNil))) (enw := [some d0, some d0, none, none]) rfl (rngL 0 l.length) []
    (fun d hd => by
      obtain ⟨i, hi, rfl⟩ := List.mem_map.mp hd
      have hi' : i < l.length := List.mem_range.mp hi
      refine ⟨_, rfl, ?_⟩
      obtain ⟨d, ed, hd⟩ := atI_of (l := l) (r := (0 : Int) + (i : Int)) (by omega) (by omega)
      exact call_ok (cons_ok (m2_ok rfl rfl (ix ed)) (one_ok (m2_ok rfl rfl (ix ed)))) (h d hd)) (by rw [hl]; simpa using size4 (by omega))
  rw [List.nil_append] at e4
  have bl : bLen [d0] S = some (.int l.length, S) := by rcases hd0 with rfl | rfl <;> rfl
  have e5 : mComp (iRg1 (aCons (mB bLen (aCons (mV 0) aNil)) aNil)) (gN 3) tT (mCall F (aCons (m2 dIx (mV 0) (mV 3)) (aCons (m2 dIx (mV 1) (mV 3)) aNil))) [3] [some d0, some d0, none, none] S = .ok (.lst ((rngL 0 l.length).map fun _ => .bl true)) S :=
    cmp_of (rg_len (l := l) hz (one_ok (b_ok (one_ok rfl) bl))) e4
  have ha : bAll [.lst ((rngL 0 l.length).map fun _ => .bl true)] S = some (.bl true, S) := by
    rw [all_of (fun _ => true)]
    simp
  have i1 : isD .dct d0 S = some false := by rcases hd0 with rfl | rfl <;> rfl
  have i2 : ∃ b, isD .tup d0 S = some b := by rcases hd0 with rfl | rfl <;> exact ⟨_, rfl⟩
  have i3 : ∃ b, isD .lst d0 S = some b := by rcases hd0 with rfl | rfl <;> exact ⟨_, rfl⟩
  have i4 : tTru (mIs2 .tup .lst (mV 0)) [some d0, some d0, none, none] S = .ok true S := by rcases hd0 with rfl | rfl <;> rfl
  obtain ⟨b2, i2⟩ := i2
  obtain ⟨b3, i3⟩ := i3
  have n2 := neA_bl (n := "Tape") (F := m_Tape_eq) (S := S) b2 b2
  have n3 := neA_bl (n := "Tape") (F := m_Tape_eq) (S := S) b3 b3
  simp only [beq_self_eq_true, Bool.not_true] at n2 n3
  have q := eqA_int (n := "Tape") (F := m_Tape_eq) (S := S) l.length l.length
  rw [beq_self_eq_true] at q
  unfold m_law_same
  rw [e]
  refine body_rt rfl (seq_nx (if_f (tor_f (tru_bl (is_ok rfl i1)) (tru_bl (is_ok rfl i1))) rfl) (seq_rt (if_t (tor_t i4) (seq_nx (if_f (tor_f (tst_ok (m2_ok (is_ok rfl i2) (is_ok rfl i2) n2)) (tst_ok (m2_ok (is_ok rfl i3) (is_ok rfl i3) n3))) rfl) (ret_ok ?_)))))
  exact and_t (m2_ok (b_ok (one_ok rfl) bl) (b_ok (one_ok rfl) bl) q) (b_ok (one_ok e5) ha)
theorem tape0_eq (S : So) : m_Tape_eq [tape0, tape0] S = .ok (.bl true) S := by rfl
theorem tape1_eq (S : So) : m_Tape_eq [tape1, tape1] S = .ok (.bl true) S := by kernel_rfl
theorem same_tape {n : Nat} {d : D} {S : So} (o : isOwn d S = some ("Tape" : Str)) (h0 : isD .dct d S = some false) (h1 : isD .tup d S = some false) (h2 : isD .lst d S = some false) (h3 : isD .bl d S = some false) (hn : dIsN d .non S = some (.bl false, S))
    (e : m_Tape_eq [d, d] S = .ok (.bl true) S) : m_law_same (n + 1) [d, d] S = .ok (.bl true) S := by
  have i4 : tTru (mIs2 .tup .lst (mV 0)) [some d, some d, none, none] S = .ok false S := by
    unfold tTru mIs2
    simp [mV, R.of, h1, h2, truD]
  have i5 : tTru (mIs2 .tup .lst (mV 1)) [some d, some d, none, none] S = .ok false S := by
    unfold tTru mIs2
    simp [mV, R.of, h1, h2, truD]
  have q : dEqA "Tape" m_Tape_eq d d S = some (.bl true, S) := by
    unfold dEqA
    rw [if_pos o, if_pos (.inl o), e]
    rfl
  exact body_rt rfl (seq_nx (if_f (tor_f (tru_bl (is_ok rfl h0)) (tru_bl (is_ok rfl h0))) rfl) (seq_nx (if_f (tor_f i4 i5) rfl) (seq_nx (if_f (tor_f (tst_ok (m2_ok rfl rfl hn)) (tst_ok (m2_ok rfl rfl hn))) rfl) (ret_ok (and_t (m2_ok (is_ok rfl h3) (is_ok rfl h3) (eqA_bl false false)) (m2_ok rfl rfl q))))))
theorem textsK_of : ∀ {ks : List Key}, (∀ k ∈ ks, ∃ x : Str, k = Sum.inr x ∧ Ok7 x ∧ x.length ≤ 1000) → ∃ xs : List Str, textsK ks = some xs ∧ xs.length = ks.length ∧ ∀ x ∈ xs, Ok7 x
  | [], _ => ⟨[], rfl, rfl, by simp⟩
  | k :: ks, h => by
    obtain ⟨x, rfl, hx, _⟩ := h k (List.mem_cons_self ..)
    obtain ⟨xs, e, l, o⟩ := textsK_of (ks := ks) fun k hk => h k (List.mem_cons_of_mem _ hk)
    refine ⟨x :: xs, by simp [textsK, e], by simp [l], fun y hy => ?_⟩
    rcases List.mem_cons.mp hy with r | r
    · rw [r]; exact hx
    · exact o y r
end K01

namespace K01
open PySem PySem.Spec PyProof.Rows L2 Mi
theorem eqv_strs : ∀ ys : List Str, PyData.eqvAll (ys.map PyData.str) (ys.map PyData.str) = true
  | [] => by simp [PyData.eqvAll]
  | y :: ys => by simp [PyData.eqvAll, PyData.eqv, eqv_strs ys]
theorem ne_strs {ys : List Str} (h : ∀ y ∈ ys, Ok7 y) (S : So) : dNeA "Tape" m_Tape_eq (.lst (ys.map D.str)) (.lst (ys.map D.str)) S = some (.bl false, S) := by
  refine (if_neg (by simp [isOwn])).trans ?_
  have tp : toPt (.lst (ys.map D.str)) S = some (.list (ys.map PyData.str)) := by
    show toP _ = _
    unfold toP
    rw [toPs_strs]
  have e : PyData.eqv (.list (ys.map PyData.str)) (.list (ys.map PyData.str)) = true := by
    simp [PyData.eqv, eqv_strs]
  unfold dNe dEqP
  rw [tp]
  dsimp only
  rw [strs_sh h, e]
  rfl
theorem same_dct {n : Nat} {F : Fm} {ps : List (Key × D)} {S : So} (e : m_law_same n = F) (nd : (ps.map (·.1)).Nodup) (hl : ps.length < 64) (hk : ∀ k ∈ ps.map (·.1), ∃ x : Str, k = Sum.inr x ∧ Ok7 x ∧ x.length ≤ 1000) (h : ∀ p ∈ ps, F [p.2, p.2] S = .ok (.bl true) S) :
    m_law_same (n + 1) [.dct (ps.map (·.1)) (ps.map (·.2)), .dct (ps.map (·.1)) (ps.map (·.2))] S = .ok (.bl true) S := by
  obtain ⟨xs, ex, lx, ox⟩ := textsK_of hk
  have so : bSorted [.dct (ps.map (·.1)) (ps.map (·.2))] S = some (.lst ((srtS xs).map D.str), S) := by
    unfold bSorted
    simp only [dctOf, ex]
    rw [if_pos (by rw [lx, List.length_map]; exact hl)]
  have ne := ne_strs (ys := srtS xs) (fun y hy => ox y ((srtS_perm xs).mem_iff.mp hy)) S
  have e1 := comp_mapα (hold := none) (S0 := S) (S := S) (ι := fun p : Key × D => kD p.1) (φ := fun _ : Key × D => D.bl true) (g := gN 2) (f := mCall F (aCons (m2 dIx (mV 0) (mV 2)) (aCons (m2 dIx (mV 1) (mV 2)) aNil)))
    (enw := [some (.dct (ps.map (·.1)) (ps.map (·.2))), some (.dct (ps.map (·.1)) (ps.map (·.2))), none, none]) rfl ps [] (fun p hp => by
      have lk := look_at ps nd hp
      have ix : dIx (.dct (ps.map (·.1)) (ps.map (·.2))) (kD p.1) S = some (p.2, S) := by
        unfold dIx
        simp only [dctOf, keyD]
        rw [lk]
        rfl
      exact ⟨_, rfl, call_ok (cons_ok (m2_ok rfl rfl ix) (one_ok (m2_ok rfl rfl ix))) (h p hp)⟩) (by simpa using size4 (by omega))
  have src : iKeysV (mV 0) [some (.dct (ps.map (·.1)) (ps.map (·.2))), some (.dct (ps.map (·.1)) (ps.map (·.2))), none, none] S = .ok ⟨none, ps.map fun p => kD p.1⟩ S := by
    unfold iKeysV
    show R.ok (⟨none, (ps.map (·.1)).map kD⟩ : Src) S = _
    rw [List.map_map]
    rfl
  rw [List.nil_append] at e1
  have ha : bAll [.lst (ps.map fun _ => D.bl true)] S = some (.bl true, S) := by
    rw [all_of (fun _ => true)]
    simp
  unfold m_law_same
  rw [e]
  exact body_rt rfl (seq_rt (if_t (tor_t (tru_bl (is_ok rfl rfl))) (seq_nx (if_f (tor_f (tnot_t (tru_bl (is_ok rfl rfl))) (tor_f (tnot_t (tru_bl (is_ok rfl rfl))) (tst_ok (m2_ok (b_ok (one_ok rfl) so) (b_ok (one_ok rfl) so) ne)))) rfl) (ret_ok (b_ok (one_ok (cmp_of src e1)) ha)))))
/-- _law_same of a value and itself -/
theorem same_ok : ∀ (n : Nat) (d : D) (S : So), Val n d → m_law_same n [d, d] S = .ok (.bl true) S
  | 0, _, _, h => h.elim
  | n + 1, d, S, h => by
    cases d with
    | non => exact same_leaf (.inl rfl)
    | bl b => exact same_leaf (.inr (.inl ⟨b, rfl⟩))
    | int i => exact same_leaf (.inr (.inr (.inl ⟨i, rfl⟩)))
    | str x => exact same_leaf (.inr (.inr (.inr ⟨x, rfl, h.1⟩)))
    | tup l => exact same_seq (.inl rfl) rfl (Nat.lt_of_le_of_lt h.1 (by decide)) fun e he => same_ok n e S (h.2 e he)
    | lst l => exact same_seq (.inr rfl) rfl (Nat.lt_of_le_of_lt h.1 (by decide)) fun e he => same_ok n e S (h.2 e he)
    | dct ks l =>
      obtain ⟨h1, h2, h3, h4, h5⟩ := h
      have z1 : (ks.zip l).map (·.1) = ks := List.map_fst_zip (Nat.le_of_eq h2.symm)
      have z2 : (ks.zip l).map (·.2) = l := List.map_snd_zip (Nat.le_of_eq h2)
      have r := same_dct (n := n) (ps := ks.zip l) (S := S) rfl (by rw [z1]; exact h3) (by rw [List.length_zip]; omega) (by rw [z1]; exact h4) fun p hp => same_ok n p.2 S (h5 _ (List.of_mem_zip hp).2)
      rw [z1, z2] at r
      exact r
    | _ =>
      rcases (h : _ = tape0 ∨ _ = tape1) with e | e <;> first | (rw [e]; exact same_tape rfl rfl rfl rfl rfl rfl (tape0_eq S)) | (rw [e]; exact same_tape rfl rfl rfl rfl rfl rfl (tape1_eq S)) | (cases e)
end K01

namespace K01
open PySem PySem.Spec PyProof.Rows L2 Mi
/-! ### each function of the words against the law's own, at any value -/
theorem not_t {f : E D} {en : En} {S S1 : So} (h : f en S = .ok (.bl true) S1) : mNot f en S = .ok (.bl false) S1 := not_ok h
theorem not_f {f : E D} {en : En} {S S1 : So} (h : f en S = .ok (.bl false) S1) : mNot f en S = .ok (.bl true) S1 := not_ok h
theorem law_int_ok (v : Int) (S : So) : m_law_is_integer [.int v] S = .ok (.bl (inR v)) S := by
  refine body_rt rfl (ret_ok (and_t (is_ok rfl rfl) (and_t (not_f (is_ok rfl rfl)) (m2_ok (b_ok (one_ok rfl) rfl) (m2_ok rfl rfl (p60 S)) ?_))))
  show some (D.bl (decide ((if v < 0 then -v else v) < X60)), S) = _
  have : decide ((if v < 0 then -v else v) < X60) = inR v := by
    rw [Bool.eq_iff_iff, inR_iff, decide_eq_true_eq]
    split <;> omega
  rw [this]
theorem law_int_no {d : D} {S : So} (h : NoInt d S) : m_law_is_integer [d] S = .ok (.bl false) S := by
  rcases h with h | ⟨b, rfl⟩
  · exact body_rt rfl (ret_ok (and_f (is_ok rfl h)))
  · exact body_rt rfl (ret_ok (and_t (is_ok rfl rfl) (and_f (not_t (is_ok rfl rfl)))))
/-- a value is an int, or what is no integer -/
theorem int_or {n : Nat} {d : D} (S : So) (h : Val n d) : (∃ v, d = .int v) ∨ NoInt d S := by
  cases n with
  | zero => exact h.elim
  | succ n =>
    cases d with
    | int v => exact .inl ⟨v, rfl⟩
    | bl b => exact .inr (.inr ⟨b, rfl⟩)
    | non => exact .inr (.inl rfl)
    | str x => exact .inr (.inl rfl)
    | tup l => exact .inr (.inl rfl)
    | lst l => exact .inr (.inl rfl)
    | dct ks l => exact .inr (.inl rfl)
    | _ =>
      rcases (h : _ = tape0 ∨ _ = tape1) with e | e <;> first | (rw [e]; exact .inr (.inl rfl)) | (cases e)
/-- the int that it is, within the bounds -/
def isI : D → Bool
  | .int v => inR v
  | _ => false
theorem int_both {n : Nat} {d : D} (S : So) (h : Val n d) : m_is_integer [d] S = .ok (.bl (isI d)) S ∧ m_law_is_integer [d] S = .ok (.bl (isI d)) S := by
  rcases int_or S h with ⟨v, rfl⟩ | no
  · exact ⟨is_integer_ok v S, law_int_ok v S⟩
  · have e : isI d = false := by
      rcases no with no | ⟨b, rfl⟩
      · cases d <;> first | rfl | (cases no)
      · rfl
    rw [e]
    exact ⟨is_integer_no no, law_int_no no⟩
end K01

namespace K01
open PySem PySem.Spec PyProof.Rows L2 Mi
theorem alpha_rng : alpha.cps.toList = List.range' 97 26 := by decide +kernel
theorem in_alpha (c : Nat) : strIn (one c) alpha = (decide (97 ≤ c) && decide (c ≤ 122)) := by
  have h : strIn (one c) alpha = decide (c ∈ alpha.cps.toList) := StrLaws.found_one alpha c
  rw [h, alpha_rng, Bool.eq_iff_iff, decide_eq_true_eq, Bool.and_eq_true, decide_eq_true_eq, decide_eq_true_eq, List.mem_range'_1]
  omega
theorem le_a (c : Nat) : sLe "a" (one c) = decide (97 ≤ c) := by
  show (!decide ([c] < [97])) = _
  rw [Bool.eq_iff_iff]
  simp [List.cons_lt_cons_iff]
theorem le_z (c : Nat) : sLe (one c) "z" = decide (c ≤ 122) := by
  show (!decide ([122] < [c])) = _
  rw [Bool.eq_iff_iff]
  simp [List.cons_lt_cons_iff]
/-- the letter that it is -/
def isL : D → Bool
  | .str x => match x.cps.toList with
    | [c] => decide (97 ≤ c) && decide (c ≤ 122)
    | _ => false
  | _ => false
theorem str_one {x : Str} {c : Nat} (h : x.cps.toList = [c]) : x = one c := by
  obtain ⟨a⟩ := x
  have : a = #[c] := by
    apply Array.ext'
    exact h
  rw [this]
theorem letter_one (c : Nat) (S : So) : m_is_letter [.str (one c)] S = .ok (.bl (decide (97 ≤ c) && decide (c ≤ 122))) S := by
  refine body_rt rfl (ret_ok (and_t (is_ok rfl rfl) (and_t (m2_ok (b_ok (one_ok rfl) rfl) rfl (eq_int 1 1)) (m2_ok rfl rfl ?_))))
  show ((some (strIn (one c) alpha)).map fun k => (D.bl k, S)) = _
  rw [in_alpha]
  rfl
theorem law_letter_one (c : Nat) (S : So) : m_law_is_letter [.str (one c)] S = .ok (.bl (decide (97 ≤ c) && decide (c ≤ 122))) S := by
  have a1 : dLe (.str "a") (.str (one c)) S = some (.bl (decide (97 ≤ c)), S) := by
    show some (D.bl (sLe "a" (one c)), S) = _
    rw [le_a]
  have a2 : dLe (.str (one c)) (.str "z") S = some (.bl (decide (c ≤ 122)), S) := by
    show some (D.bl (sLe (one c) "z"), S) = _
    rw [le_z]
  refine body_rt rfl (ret_ok (and_t (is_ok rfl rfl) (and_t (m2_ok (b_ok (one_ok rfl) rfl) rfl (eq_int 1 1)) ?_)))
  cases e : decide (97 ≤ c) with
  | false =>
    rw [e] at a1
    exact and_f (m2_ok rfl rfl a1)
  | true =>
    rw [e] at a1
    exact and_t (m2_ok rfl rfl a1) (m2_ok rfl rfl a2)
theorem len_str {x : Str} (S : So) (h : x.length ≤ 1000) : bLen [.str x] S = some (.int x.length, S) := by
  first
    | rfl
    | (unfold bLen; simp only []; rw [if_pos (by rw [sizeLine_eq]; omega)])
theorem letter_both {n : Nat} {d : D} (S : So) (h : Val n d) : m_is_letter [d] S = .ok (.bl (isL d)) S ∧ m_law_is_letter [d] S = .ok (.bl (isL d)) S := by
  cases n with
  | zero => exact h.elim
  | succ n =>
    have no : isD .str d S = some false → isL d = false → m_is_letter [d] S = .ok (.bl (isL d)) S ∧ m_law_is_letter [d] S = .ok (.bl (isL d)) S := fun a b => by
      rw [b]
      exact ⟨body_rt rfl (ret_ok (and_f (is_ok rfl a))), body_rt rfl (ret_ok (and_f (is_ok rfl a)))⟩
    cases d with
    | str x =>
      by_cases e : x.length = 1
      · obtain ⟨c, hc⟩ : ∃ c, x.cps.toList = [c] := List.length_eq_one_iff.mp (by rw [← len_def]; exact e)
        have := str_one hc
        subst this
        exact ⟨letter_one c S, law_letter_one c S⟩
      · have f : isL (.str x) = false := by
          show (match x.cps.toList with
            | [c] => decide (97 ≤ c) && decide (c ≤ 122)
            | _ => false) = false
          split
          · rename_i c hc
            exact absurd (by rw [len_def, hc]; rfl) e
          · rfl
        have q := eq_int (S := S) (x.length : Int) 1
        rw [show ((x.length : Int) == 1) = false from by simp; omega] at q
        rw [f]
        exact ⟨body_rt rfl (ret_ok (and_t (is_ok rfl rfl) (and_f (m2_ok (b_ok (one_ok rfl) (len_str S h.2)) rfl q)))), body_rt rfl (ret_ok (and_t (is_ok rfl rfl) (and_f (m2_ok (b_ok (one_ok rfl) (len_str S h.2)) rfl q))))⟩
    | int v => exact no rfl rfl
    | bl b => exact no rfl rfl
    | non => exact no rfl rfl
    | tup l => exact no rfl rfl
    | lst l => exact no rfl rfl
    | dct ks l => exact no rfl rfl
    | _ =>
      rcases (h : _ = tape0 ∨ _ = tape1) with e | e <;> first | (rw [e] at no ⊢; exact no rfl rfl) | (cases e)
end K01

namespace K01
open PySem PySem.Spec PyProof.Rows L2 Mi
def inW (x : Str) : Bool := (WL.map PyData.str).any fun q => PyData.eqv q (.str x)
theorem in_lst {x : Str} (h : Ok7 x) (S : So) : dIn (.str x) (.lst (WL.map D.str)) S = some (.bl (inW x), S) := by
  have hx := str_sh h
  unfold dIn dInB
  simp only [dctOf, toPt, toP, toPs_strs, hx, words_shL, Bool.and_self, if_true, Option.map_some]
  rfl
theorem notIn_tup {x : Str} (h : Ok7 x) (S : So) : dNotIn (.str x) (.tup (WL.map D.str)) S = some (.bl (!inW x), S) := by
  have hx := str_sh h
  unfold dNotIn dInB
  simp only [dctOf, toPt, toP, toPs_strs, hx, words_sh, Bool.and_self, if_true, Option.map_some]
  rfl
/-- a sign that is a letter -/
def lt (c : Nat) : Bool := decide (97 ≤ c) && decide (c ≤ 122)
theorem name_for {x : Str} {S : So} : ∀ (l : List Nat) (o : Option D), (l.all lt = true ∧ ∃ o', Mi.forM none S (gN 1) (sIf (tB' (m2 dNotIn (mV 1) (mC (.str ("abcdefghijklmnopqrstuvwxyz" : Str))))) (sRet (mC (.bl false))) sNil) (l.map fun c => .str (one c)) [some (.str x), o] S = .ok (.nx [some (.str x), o']) S) ∨
    (l.all lt = false ∧ Mi.forM none S (gN 1) (sIf (tB' (m2 dNotIn (mV 1) (mC (.str ("abcdefghijklmnopqrstuvwxyz" : Str))))) (sRet (mC (.bl false))) sNil) (l.map fun c => .str (one c)) [some (.str x), o] S = .ok (.rt (.bl false)) S)
  | [], o => .inl ⟨rfl, o, by unfold Mi.forM; rfl⟩
  | c :: l, o => by
    have e2 : dNotIn (.str (one c)) (.str "abcdefghijklmnopqrstuvwxyz") S = some (.bl (!lt c), S) := by
      show ((some (strIn (one c) alpha)).map fun k => (D.bl (!k), S)) = _
      rw [in_alpha]
      rfl
    rw [List.map_cons]
    unfold Mi.forM
    have g : gN 1 (.str (one c)) [some (.str x), o] S = some [some (.str x), some (.str (one c))] := rfl
    rw [g]
    cases q : lt c with
    | false =>
      rw [q] at e2
      have r : sIf (tB' (m2 dNotIn (mV 1) (mC (.str ("abcdefghijklmnopqrstuvwxyz" : Str))))) (sRet (mC (.bl false))) sNil [some (.str x), some (.str (one c))] S = .ok (.rt (.bl false)) S := if_t (tst_ok (m2_ok rfl rfl e2)) (ret_ok rfl)
      refine .inr ⟨by simp [q], ?_⟩
      simp only [r, R.bind_ok]
    | true =>
      rw [q] at e2
      have r : sIf (tB' (m2 dNotIn (mV 1) (mC (.str ("abcdefghijklmnopqrstuvwxyz" : Str))))) (sRet (mC (.bl false))) sNil [some (.str x), some (.str (one c))] S = .ok (.nx [some (.str x), some (.str (one c))]) S := if_f (tst_ok (m2_ok rfl rfl e2)) rfl
      rcases name_for (x := x) (S := S) l (some (.str (one c))) with ⟨a, o', b⟩ | ⟨a, b⟩
      · refine .inl ⟨by simp [q, a], o', ?_⟩
        simp only [r, R.bind_ok, still_none, if_true]
        exact b
      · refine .inr ⟨by simp [q, a], ?_⟩
        simp only [r, R.bind_ok, still_none, if_true]
        exact b
/-- the name that it is -/
def isN : D → Bool
  | .str x => decide (1 ≤ x.length) && decide (x.length ≤ 8) && x.cps.toList.all lt && !inW x
  | _ => false
theorem name_str {x : Str} (S : So) (h7 : Ok7 x) (h : x.length ≤ 1000) : m_is_name [.str x] S = .ok (.bl (isN (.str x))) S := by
  have l1 : dLe (.int 1) (.int x.length) S = some (.bl (decide (1 ≤ x.length)), S) := by
    show some (D.bl (decide ((1 : Int) ≤ (x.length : Int))), S) = _
    rw [show decide ((1 : Int) ≤ (x.length : Int)) = decide (1 ≤ x.length) by rw [Bool.eq_iff_iff, decide_eq_true_eq, decide_eq_true_eq]; omega]
  have l8 : dLe (.int x.length) (.int 8) S = some (.bl (decide (x.length ≤ 8)), S) := by
    show some (D.bl (decide ((x.length : Int) ≤ 8)), S) = _
    rw [show decide ((x.length : Int) ≤ 8) = decide (x.length ≤ 8) by rw [Bool.eq_iff_iff, decide_eq_true_eq, decide_eq_true_eq]; omega]
  have ch : mChain dLe dLe (mC (.int 1)) (mB bLen (aCons (mV 0) aNil)) (mC (.int 8)) [some (.str x), none] S = .ok (.bl (decide (1 ≤ x.length) && decide (x.length ≤ 8))) S := by
    unfold mChain
    rw [show mC (.int 1) [some (.str x), none] S = .ok (.int 1) S from rfl, R.bind_ok, b_ok (o := bLen) (l := [.str x]) rfl (len_str S h), R.bind_ok, l1]
    cases e : decide (1 ≤ x.length) with
    | false => rfl
    | true =>
      dsimp only
      rw [show mC (.int 8) [some (.str x), none] S = .ok (.int 8) S from rfl, R.bind_ok, l8]
      rfl
  have e0 : isN (.str x) = (decide (1 ≤ x.length) && decide (x.length ≤ 8) && x.cps.toList.all lt && !inW x) := rfl
  rw [e0]
  cases c : (decide (1 ≤ x.length) && decide (x.length ≤ 8)) with
  | false =>
    rw [c] at ch
    exact body_rt rfl (seq_rt (if_t (tor_f (tnot_t (tru_bl (is_ok rfl rfl))) (tnot_f (tst_ok ch))) (ret_ok rfl)))
  | true =>
    rw [c] at ch
    rcases name_for (x := x) (S := S) x.cps.toList none with ⟨a, o, f⟩ | ⟨a, f⟩
    · rw [a]
      exact body_rt rfl (seq_nx (if_f (tor_f (tnot_t (tru_bl (is_ok rfl rfl))) (tnot_t (tst_ok ch))) rfl) (seq_nx (en1 := [some (.str x), o]) (for_of (src := ⟨none, sgns x⟩) rfl f) (ret_ok (m2_ok rfl rfl (notIn_tup h7 S)))))
    · rw [a]
      exact body_rt rfl (seq_nx (if_f (tor_f (tnot_t (tru_bl (is_ok rfl rfl))) (tnot_t (tst_ok ch))) rfl) (seq_rt (for_of (src := ⟨none, sgns x⟩) rfl f)))
theorem flt_len (l : List Nat) : (((l.filter fun c => !lt c).map fun c => D.str (one c)).length == 0) = l.all lt := by
  rw [List.length_map]
  induction l with
  | nil => rfl
  | cons c l ih =>
    cases q : lt c with
    | true => simp [q] at ih ⊢; simpa using ih
    | false => simp [q]
theorem law_name_str {x : Str} (S : So) (h7 : Ok7 x) (h : x.length ≤ 1000) : m_law_is_name [.str x] S = .ok (.bl (isN (.str x))) S := by
  have e0 : isN (.str x) = (decide (1 ≤ x.length) && decide (x.length ≤ 8) && x.cps.toList.all lt && !inW x) := rfl
  rw [e0]
  have ln : ∀ en, en = [some (.str x), (none : Option D)] → mB bLen (aCons (mV 0) aNil) en S = .ok (.int x.length) S := fun en q => by
    subst q
    exact b_ok (one_ok rfl) (len_str S h)
  have q0 := eq_int (S := S) (x.length : Int) 0
  have t0 : tB' (m2 dEq (mB bLen (aCons (mV 0) aNil)) (mC (.int 0))) [some (.str x), none] S = .ok ((x.length : Int) == 0) S := tst_ok (m2_ok (ln _ rfl) rfl q0)
  have t8 : tB' (m2 dGt (mB bLen (aCons (mV 0) aNil)) (mC (.int 8))) [some (.str x), none] S = .ok (decide ((8 : Int) < x.length)) S := tst_ok (m2_ok (ln _ rfl) rfl rfl)
  have tw : tB' (m2 dIn (mV 0) (mCall m_law_words aNil)) [some (.str x), none] S = .ok (inW x) S := tst_ok (m2_ok rfl (call_ok rfl words_ok) (in_lst h7 S))
  by_cases c0 : x.length = 0
  · rw [show ((x.length : Int) == 0) = true by simp; omega] at t0
    rw [show decide (1 ≤ x.length) = false from decide_eq_false (by omega)]
    exact body_rt rfl (seq_rt (if_t (tor_f (tnot_t (tru_bl (is_ok rfl rfl))) (tor_t t0)) (ret_ok rfl)))
  rw [show ((x.length : Int) == 0) = false by simp; omega] at t0
  rw [show decide (1 ≤ x.length) = true from decide_eq_true (by omega)]
  by_cases c8 : 8 < x.length
  · rw [decide_eq_true (show (8 : Int) < x.length by omega)] at t8
    rw [show decide (x.length ≤ 8) = false from decide_eq_false (by omega)]
    exact body_rt rfl (seq_rt (if_t (tor_f (tnot_t (tru_bl (is_ok rfl rfl))) (tor_f t0 (tor_t t8))) (ret_ok rfl)))
  rw [decide_eq_false (show ¬ (8 : Int) < x.length by omega)] at t8
  rw [show decide (x.length ≤ 8) = true from decide_eq_true (by omega)]
  cases w : inW x with
  | true =>
    rw [w] at tw
    rw [Bool.not_true, Bool.and_false]
    exact body_rt rfl (seq_rt (if_t (tor_f (tnot_t (tru_bl (is_ok rfl rfl))) (tor_f t0 (tor_f t8 tw))) (ret_ok rfl)))
  | false =>
    rw [w] at tw
    have e1 := comp_fltα (hold := none) (S0 := S) (S := S) (ι := fun c => D.str (one c)) (φ := fun c => D.str (one c)) (p := fun c => !lt c) (g := gN 1) (t := tNot' (tTru (mCall m_law_is_letter (aCons (mV 1) aNil)))) (f := mV 1) (enw := [some (.str x), none]) rfl x.cps.toList []
      (fun c _ => ⟨_, rfl, tnot (tru_bl (call_ok (one_ok rfl) (law_letter_one c S))), rfl⟩) (by rw [List.length_nil, Nat.zero_add, ← len_def]; exact size4 (by omega))
    rw [List.nil_append] at e1
    have q := eq_int (S := S) (((x.cps.toList.filter fun c => !lt c).map fun c => D.str (one c)).length : Int) 0
    rw [show ((((x.cps.toList.filter fun c => !lt c).map fun c => D.str (one c)).length : Int) == 0) = (((x.cps.toList.filter fun c => !lt c).map fun c => D.str (one c)).length == 0) by rw [Bool.eq_iff_iff]; simp, flt_len] at q
    rw [Bool.not_false, Bool.and_true]
    exact body_rt rfl (seq_nx (if_f (tor_f (tnot_t (tru_bl (is_ok rfl rfl))) (tor_f t0 (tor_f t8 tw))) rfl) (ret_ok (m2_ok (b_ok (one_ok (cmp_of (src := ⟨none, sgns x⟩) rfl e1)) rfl) rfl q)))
theorem name_both {n : Nat} {d : D} (S : So) (h : Val n d) : m_is_name [d] S = .ok (.bl (isN d)) S ∧ m_law_is_name [d] S = .ok (.bl (isN d)) S := by
  cases n with
  | zero => exact h.elim
  | succ n =>
    have no : isD .str d S = some false → isN d = false → m_is_name [d] S = .ok (.bl (isN d)) S ∧ m_law_is_name [d] S = .ok (.bl (isN d)) S := fun a b => by
      rw [b]
      exact ⟨body_rt rfl (seq_rt (if_t (tor_t (tnot_f (tru_bl (is_ok rfl a)))) (ret_ok rfl))), body_rt rfl (seq_rt (if_t (tor_t (tnot_f (tru_bl (is_ok rfl a)))) (ret_ok rfl)))⟩
    cases d with
    | str x => exact ⟨name_str S h.1 h.2, law_name_str S h.1 h.2⟩
    | int v => exact no rfl rfl
    | bl b => exact no rfl rfl
    | non => exact no rfl rfl
    | tup l => exact no rfl rfl
    | lst l => exact no rfl rfl
    | dct ks l => exact no rfl rfl
    | _ =>
      rcases (h : _ = tape0 ∨ _ = tape1) with e | e <;> first | (rw [e] at no ⊢; exact no rfl rfl) | (cases e)
end K01

namespace K01
open PySem PySem.Spec PyProof.Rows L2 Mi
def isT0 : D → Bool
  | .int v => inR v && decide (0 ≤ v)
  | _ => false
theorem time_ok {n : Nat} {d : D} (S : So) (h : Val n d) : m_is_time [d] S = .ok (.bl (isT0 d)) S := by
  rcases int_or S h with ⟨v, rfl⟩ | no
  · exact is_time_ok v S
  · have e : isT0 d = false := by
      rcases no with no | ⟨b, rfl⟩
      · cases d <;> first | rfl | (cases no)
      · rfl
    rw [e]
    exact is_time_no no
/-- the event that it is -/
def isE : D → Bool
  | .tup [a, b, c, d] => isT0 a && (isN b && (isL c && isI d))
  | _ => false
theorem and_bl {f g : E D} {en : En} {S : So} {a b : Bool} (h : f en S = .ok (.bl a) S) (k : g en S = .ok (.bl b) S) : mAnd f g en S = .ok (.bl (a && b)) S := by
  cases a with
  | true => exact and_t h k
  | false => exact and_f h
theorem event4 {n : Nat} {a b c d : D} (S : So) (ha : Val n a) (hb : Val n b) (hc : Val n c) (hd : Val n d) : m_is_event [.tup [a, b, c, d]] S = .ok (.bl (isE (.tup [a, b, c, d]))) S := by
  have i0 : dIx (.tup [a, b, c, d]) (.int 0) S = some (a, S) := ix_tup rfl
  have i1 : dIx (.tup [a, b, c, d]) (.int 1) S = some (b, S) := ix_tup rfl
  have i2 : dIx (.tup [a, b, c, d]) (.int 2) S = some (c, S) := ix_tup rfl
  have i3 : dIx (.tup [a, b, c, d]) (.int 3) S = some (d, S) := ix_tup rfl
  have q : dNe (.int 4) (.int 4) S = some (.bl false, S) := ne_int 4 4
  refine body_rt rfl (seq_nx (if_f (tor_f (tnot_t (tru_bl (is_ok rfl rfl))) (tst_ok (m2_ok (b_ok (one_ok rfl) rfl) rfl q))) rfl) (ret_ok ?_))
  exact and_bl (call_ok (one_ok (m2_ok rfl rfl i0)) (time_ok S ha)) (and_bl (call_ok (one_ok (m2_ok rfl rfl i1)) (name_both S hb).1) (and_bl (call_ok (one_ok (m2_ok rfl rfl i2)) (letter_both S hc).1) (call_ok (one_ok (m2_ok rfl rfl i3)) (int_both S hd).1)))
theorem law_event4 {n : Nat} {a b c d : D} (S : So) (ha : Val n a) (hb : Val n b) (hc : Val n c) (hd : Val n d) : m_law_is_event [.tup [a, b, c, d]] S = .ok (.bl (isE (.tup [a, b, c, d]))) S := by
  have i0 : dIx (.tup [a, b, c, d]) (.int 0) S = some (a, S) := ix_tup rfl
  have i1 : dIx (.tup [a, b, c, d]) (.int 1) S = some (b, S) := ix_tup rfl
  have i2 : dIx (.tup [a, b, c, d]) (.int 2) S = some (c, S) := ix_tup rfl
  have i3 : dIx (.tup [a, b, c, d]) (.int 3) S = some (d, S) := ix_tup rfl
  have q : dNe (.int 4) (.int 4) S = some (.bl false, S) := ne_int 4 4
  have hI := (int_both S ha).2
  have back : mAnd (mCall m_law_is_name (aCons (m2 dIx (mV 0) (mC (.int 1))) aNil)) (mAnd (mCall m_law_is_letter (aCons (m2 dIx (mV 0) (mC (.int 2))) aNil)) (mCall m_law_is_integer (aCons (m2 dIx (mV 0) (mC (.int 3))) aNil))) [some (.tup [a, b, c, d])] S = .ok (.bl (isN b && (isL c && isI d))) S :=
    and_bl (call_ok (one_ok (m2_ok rfl rfl i1)) (name_both S hb).2) (and_bl (call_ok (one_ok (m2_ok rfl rfl i2)) (letter_both S hc).2) (call_ok (one_ok (m2_ok rfl rfl i3)) (int_both S hd).2))
  show _ = R.ok (D.bl (isT0 a && (isN b && (isL c && isI d)))) S
  cases e : isI a with
  | false =>
    rw [e] at hI
    have f : isT0 a = false := by
      cases a <;> first | rfl | (have e2 : inR _ = false := e; show (inR _ && _) = false; rw [e2]; rfl)
    rw [f]
    exact body_rt rfl (seq_rt (if_t (tor_f (tnot_t (tru_bl (is_ok rfl rfl))) (tor_f (tst_ok (m2_ok (b_ok (one_ok rfl) rfl) rfl q)) (tor_t (tnot_f (tru_bl (call_ok (one_ok (m2_ok rfl rfl i0)) hI)))))) (ret_ok rfl)))
  | true =>
    rw [e] at hI
    obtain ⟨v, rfl⟩ : ∃ v, a = .int v := by
      cases a <;> first | exact ⟨_, rfl⟩ | (cases e)
    have e2 : inR v = true := e
    have f : isT0 (.int v) = decide (0 ≤ v) := by
      show (inR v && _) = _
      rw [e2]
      rfl
    rw [f]
    have q2 : dLt (.int v) (.int 0) S = some (.bl (decide (v < 0)), S) := rfl
    by_cases c0 : v < 0
    · rw [decide_eq_true c0] at q2
      rw [decide_eq_false (show ¬ 0 ≤ v by omega)]
      exact body_rt rfl (seq_rt (if_t (tor_f (tnot_t (tru_bl (is_ok rfl rfl))) (tor_f (tst_ok (m2_ok (b_ok (one_ok rfl) rfl) rfl q)) (tor_f (tnot_t (tru_bl (call_ok (one_ok (m2_ok rfl rfl i0)) hI))) (tst_ok (m2_ok (m2_ok rfl rfl i0) rfl q2))))) (ret_ok rfl)))
    · rw [decide_eq_false c0] at q2
      rw [decide_eq_true (show 0 ≤ v by omega), Bool.true_and]
      exact body_rt rfl (seq_nx (if_f (tor_f (tnot_t (tru_bl (is_ok rfl rfl))) (tor_f (tst_ok (m2_ok (b_ok (one_ok rfl) rfl) rfl q)) (tor_f (tnot_t (tru_bl (call_ok (one_ok (m2_ok rfl rfl i0)) hI))) (tst_ok (m2_ok (m2_ok rfl rfl i0) rfl q2))))) rfl) (ret_ok back))
theorem event_both {n : Nat} {d : D} (S : So) (h : Val n d) : m_is_event [d] S = .ok (.bl (isE d)) S ∧ m_law_is_event [d] S = .ok (.bl (isE d)) S := by
  cases n with
  | zero => exact h.elim
  | succ n =>
    have no : isD .tup d S = some false → isE d = false → m_is_event [d] S = .ok (.bl (isE d)) S ∧ m_law_is_event [d] S = .ok (.bl (isE d)) S := fun a b => by
      rw [b]
      exact ⟨body_rt rfl (seq_rt (if_t (tor_t (tnot_f (tru_bl (is_ok rfl a)))) (ret_ok rfl))), body_rt rfl (seq_rt (if_t (tor_t (tnot_f (tru_bl (is_ok rfl a)))) (ret_ok rfl)))⟩
    cases d with
    | tup l =>
      by_cases e : l.length = 4
      · match l, e, h with
        | [a, b, c, d], _, h =>
          have va := h.2 a (by simp)
          have vb := h.2 b (by simp)
          have vc := h.2 c (by simp)
          have vd := h.2 d (by simp)
          exact ⟨event4 S va vb vc vd, law_event4 S va vb vc vd⟩
      · have f : isE (.tup l) = false := by
          match l, e with
          | [], _ => rfl
          | [_], _ => rfl
          | [_, _], _ => rfl
          | [_, _, _], _ => rfl
          | [_, _, _, _], e => exact absurd rfl e
          | _ :: _ :: _ :: _ :: _ :: _, _ => rfl
        have q := ne_int (S := S) (l.length : Int) 4
        rw [show ((l.length : Int) == 4) = false by simp; omega] at q
        rw [f]
        exact ⟨body_rt rfl (seq_rt (if_t (tor_f (tnot_t (tru_bl (is_ok rfl rfl))) (tst_ok (m2_ok (b_ok (one_ok rfl) rfl) rfl q))) (ret_ok rfl))),
          body_rt rfl (seq_rt (if_t (tor_f (tnot_t (tru_bl (is_ok rfl rfl))) (tor_t (tst_ok (m2_ok (b_ok (one_ok rfl) rfl) rfl q)))) (ret_ok rfl)))⟩
    | str x => exact no rfl rfl
    | int v => exact no rfl rfl
    | bl b => exact no rfl rfl
    | non => exact no rfl rfl
    | lst l => exact no rfl rfl
    | dct ks l => exact no rfl rfl
    | _ =>
      rcases (h : _ = tape0 ∨ _ = tape1) with e | e <;> first | (rw [e] at no ⊢; exact no rfl rfl) | (cases e)
end K01

namespace K01
open PySem PySem.Spec PyProof.Rows L2 Mi
/-- the output that it is -/
def isV : D → Bool
  | .tup l => decide (l.length ≤ 4) && l.all isI
  | _ => false
def isOt : D → Bool
  | .tup [a, b] => isL a && isV b
  | _ => false
theorem gt4 {l : List D} (S : So) : dGt (.int l.length) (.int 4) S = some (.bl (!decide (l.length ≤ 4)), S) := by
  show some (D.bl (decide ((4 : Int) < (l.length : Int))), S) = _
  rw [show decide ((4 : Int) < (l.length : Int)) = !decide (l.length ≤ 4) by
    rw [Bool.eq_iff_iff]
    simp
    omega]
theorem vals_prog {n : Nat} {a b : D} {l : List D} (S : So) (hb : b = .tup l) (hz : l.length ≤ 1000) (h : ∀ e ∈ l, Val n e) {o : Option D} :
    mB bAll (aCons (mComp (iSeq (mV 1)) (gN 2) tT (mCall m_is_integer (aCons (mV 2) aNil)) [2]) aNil) [some (.tup [a, b]), some b, o] S = .ok (.bl (l.all isI)) S := by
  subst hb
  have e1 := comp_map (hold := none) (S0 := S) (S := S) (φ := fun e => .bl (isI e)) (g := gN 2) (f := mCall m_is_integer (aCons (mV 2) aNil)) (enw := [some (.tup [a, .tup l]), some (.tup l), none]) rfl l []
    (fun e he => ⟨_, rfl, call_ok (one_ok rfl) (int_both S (h e he)).1⟩) (by simpa using size4 (by omega))
  rw [List.nil_append] at e1
  exact b_ok (one_ok (cmp_of (src := ⟨none, l⟩) (seq_src rfl rfl) e1)) (all_of isI l S)
theorem vals_law {n : Nat} {a : D} {l : List D} (S : So) (hz : l.length ≤ 1000) (h : ∀ e ∈ l, Val n e) {o : Option D} :
    mB bAll (aCons (mComp (iSeq (m2 dIx (mV 0) (mC (.int 1)))) (gN 1) tT (mCall m_law_is_integer (aCons (mV 1) aNil)) [1]) aNil) [some (.tup [a, .tup l]), o] S = .ok (.bl (l.all isI)) S := by
  have e1 := comp_map (hold := none) (S0 := S) (S := S) (φ := fun e => .bl (isI e)) (g := gN 1) (f := mCall m_law_is_integer (aCons (mV 1) aNil)) (enw := [some (.tup [a, .tup l]), none]) rfl l []
    (fun e he => ⟨_, rfl, call_ok (one_ok rfl) (int_both S (h e he)).2⟩) (by simpa using size4 (by omega))
  rw [List.nil_append] at e1
  exact b_ok (one_ok (cmp_of (src := ⟨none, l⟩) (seq_src (m2_ok rfl rfl (ix_tup rfl)) rfl) e1)) (all_of isI l S)
theorem out2 {n : Nat} {a b : D} (S : So) (ha : Val n a) (hb : Val n b) : m_is_output [.tup [a, b]] S = .ok (.bl (isOt (.tup [a, b]))) S := by
  have i0 : dIx (.tup [a, b]) (.int 0) S = some (a, S) := ix_tup rfl
  have i1 : dIx (.tup [a, b]) (.int 1) S = some (b, S) := ix_tup rfl
  have q : dNe (.int 2) (.int 2) S = some (.bl false, S) := ne_int 2 2
  have hL := (letter_both S ha).1
  show _ = R.ok (D.bl (isL a && isV b)) S
  cases e : isL a with
  | false =>
    rw [e] at hL
    exact body_rt rfl (seq_rt (if_t (tor_f (tnot_t (tru_bl (is_ok rfl rfl))) (tor_f (tst_ok (m2_ok (b_ok (one_ok rfl) rfl) rfl q)) (tnot_f (tru_bl (call_ok (one_ok (m2_ok rfl rfl i0)) hL))))) (ret_ok rfl)))
  | true =>
    rw [e] at hL
    refine body_rt rfl (seq_nx (if_f (tor_f (tnot_t (tru_bl (is_ok rfl rfl))) (tor_f (tst_ok (m2_ok (b_ok (one_ok rfl) rfl) rfl q)) (tnot_t (tru_bl (call_ok (one_ok (m2_ok rfl rfl i0)) hL))))) rfl) (seq_nx (set_ok (m2_ok rfl rfl i1)) ?_))
    show sSeq _ _ [some (.tup [a, b]), some b, none] S = _
    have no : isD .tup b S = some false → isV b = false → sSeq (sIf (tOr' (tNot' (tTru (mIs .tup (mV 1)))) (tB' (m2 dGt (mB bLen (aCons (mV 1) aNil)) (mC (.int 4))))) (sRet (mC (.bl false))) sNil)
        (sRet (mB bAll (aCons (mComp (iSeq (mV 1)) (gN 2) tT (mCall m_is_integer (aCons (mV 2) aNil)) [2]) aNil))) [some (.tup [a, b]), some b, none] S = .ok (.rt (.bl (true && isV b))) S := fun x y => by
      rw [y]
      exact seq_rt (if_t (tor_t (tnot_f (tru_bl (is_ok rfl x)))) (ret_ok rfl))
    cases n with
    | zero => exact hb.elim
    | succ n =>
      cases b with
      | tup l =>
        have g := gt4 (l := l) S
        show _ = R.ok (Fl.rt (D.bl (true && (decide (l.length ≤ 4) && l.all isI)))) S
        cases c : decide (l.length ≤ 4) with
        | false =>
          rw [c] at g
          exact seq_rt (if_t (tor_f (tnot_t (tru_bl (is_ok rfl rfl))) (tst_ok (m2_ok (b_ok (one_ok rfl) rfl) rfl g))) (ret_ok rfl))
        | true =>
          rw [c] at g
          exact seq_nx (if_f (tor_f (tnot_t (tru_bl (is_ok rfl rfl))) (tst_ok (m2_ok (b_ok (one_ok rfl) rfl) rfl g))) rfl) (ret_ok (vals_prog S rfl hb.1 hb.2))
      | str x => exact no rfl rfl
      | int v => exact no rfl rfl
      | bl b => exact no rfl rfl
      | non => exact no rfl rfl
      | lst l => exact no rfl rfl
      | dct ks l => exact no rfl rfl
      | _ =>
        rcases (hb : _ = tape0 ∨ _ = tape1) with e | e <;> first | (rw [e] at no ⊢; exact no rfl rfl) | (cases e)
theorem law_out2 {n : Nat} {a b : D} (S : So) (ha : Val n a) (hb : Val n b) : m_law_is_output [.tup [a, b]] S = .ok (.bl (isOt (.tup [a, b]))) S := by
  have i0 : dIx (.tup [a, b]) (.int 0) S = some (a, S) := ix_tup rfl
  have i1 : dIx (.tup [a, b]) (.int 1) S = some (b, S) := ix_tup rfl
  have q : dNe (.int 2) (.int 2) S = some (.bl false, S) := ne_int 2 2
  have hL := (letter_both S ha).2
  have no : isD .tup b S = some false → isV b = false → m_law_is_output [.tup [a, b]] S = .ok (.bl (isL a && isV b)) S := fun x y => by
    rw [y, Bool.and_false]
    exact body_rt rfl (seq_rt (if_t (tor_f (tnot_t (tru_bl (is_ok rfl rfl))) (tor_f (tst_ok (m2_ok (b_ok (one_ok rfl) rfl) rfl q)) (tor_t (tnot_f (tru_bl (is_ok (m2_ok rfl rfl i1) x)))))) (ret_ok rfl)))
  show _ = R.ok (D.bl (isL a && isV b)) S
  cases n with
  | zero => exact hb.elim
  | succ n =>
    cases b with
    | tup l =>
      have g := gt4 (l := l) S
      show _ = R.ok (D.bl (isL a && (decide (l.length ≤ 4) && l.all isI))) S
      cases c : decide (l.length ≤ 4) with
      | false =>
        rw [c] at g
        rw [Bool.false_and, Bool.and_false]
        exact body_rt rfl (seq_rt (if_t (tor_f (tnot_t (tru_bl (is_ok rfl rfl))) (tor_f (tst_ok (m2_ok (b_ok (one_ok rfl) rfl) rfl q)) (tor_f (tnot_t (tru_bl (is_ok (m2_ok rfl rfl i1) rfl))) (tst_ok (m2_ok (b_ok (one_ok (m2_ok rfl rfl i1)) rfl) rfl g))))) (ret_ok rfl)))
      | true =>
        rw [c] at g
        rw [Bool.true_and]
        exact body_rt rfl (seq_nx (if_f (tor_f (tnot_t (tru_bl (is_ok rfl rfl))) (tor_f (tst_ok (m2_ok (b_ok (one_ok rfl) rfl) rfl q)) (tor_f (tnot_t (tru_bl (is_ok (m2_ok rfl rfl i1) rfl))) (tst_ok (m2_ok (b_ok (one_ok (m2_ok rfl rfl i1)) rfl) rfl g))))) rfl)
          (ret_ok (and_bl (call_ok (one_ok (m2_ok rfl rfl i0)) hL) (vals_law S hb.1 hb.2))))
    | str x => exact no rfl rfl
    | int v => exact no rfl rfl
    | bl b => exact no rfl rfl
    | non => exact no rfl rfl
    | lst l => exact no rfl rfl
    | dct ks l => exact no rfl rfl
    | _ =>
      rcases (hb : _ = tape0 ∨ _ = tape1) with e | e <;> first | (rw [e] at no ⊢; exact no rfl rfl) | (cases e)
theorem output_both {n : Nat} {d : D} (S : So) (h : Val n d) : m_is_output [d] S = .ok (.bl (isOt d)) S ∧ m_law_is_output [d] S = .ok (.bl (isOt d)) S := by
  cases n with
  | zero => exact h.elim
  | succ n =>
    have no : isD .tup d S = some false → isOt d = false → m_is_output [d] S = .ok (.bl (isOt d)) S ∧ m_law_is_output [d] S = .ok (.bl (isOt d)) S := fun a b => by
      rw [b]
      exact ⟨body_rt rfl (seq_rt (if_t (tor_t (tnot_f (tru_bl (is_ok rfl a)))) (ret_ok rfl))), body_rt rfl (seq_rt (if_t (tor_t (tnot_f (tru_bl (is_ok rfl a)))) (ret_ok rfl)))⟩
    cases d with
    | tup l =>
      by_cases e : l.length = 2
      · match l, e, h with
        | [a, b], _, h => exact ⟨out2 S (h.2 a (by simp)) (h.2 b (by simp)), law_out2 S (h.2 a (by simp)) (h.2 b (by simp))⟩
      · have f : isOt (.tup l) = false := by
          match l, e with
          | [], _ => rfl
          | [_], _ => rfl
          | [_, _], e => exact absurd rfl e
          | _ :: _ :: _ :: _, _ => rfl
        have q := ne_int (S := S) (l.length : Int) 2
        rw [show ((l.length : Int) == 2) = false by simp; omega] at q
        rw [f]
        exact ⟨body_rt rfl (seq_rt (if_t (tor_f (tnot_t (tru_bl (is_ok rfl rfl))) (tor_t (tst_ok (m2_ok (b_ok (one_ok rfl) rfl) rfl q)))) (ret_ok rfl))),
          body_rt rfl (seq_rt (if_t (tor_f (tnot_t (tru_bl (is_ok rfl rfl))) (tor_t (tst_ok (m2_ok (b_ok (one_ok rfl) rfl) rfl q)))) (ret_ok rfl)))⟩
    | str x => exact no rfl rfl
    | int v => exact no rfl rfl
    | bl b => exact no rfl rfl
    | non => exact no rfl rfl
    | lst l => exact no rfl rfl
    | dct ks l => exact no rfl rfl
    | _ =>
      rcases (h : _ = tape0 ∨ _ = tape1) with e | e <;> first | (rw [e] at no ⊢; exact no rfl rfl) | (cases e)
end K01

namespace K01
open PySem PySem.Spec PyProof.Rows L2 Mi
theorem end7 : Ok7 "end" := by
  have h : ∀ c ∈ ("end" : Str).cps.toList, c < 0x110000 := by decide +kernel
  exact h
theorem eq_strs {x y : Str} (hx : Ok7 x) (hy : Ok7 y) (S : So) : dEq (.str x) (.str y) S = some (.bl (x == y), S) := by
  have a := str_sh hx
  have b := str_sh hy
  unfold dEq dEqP
  simp [toPt, toP, a, b, PyData.eqv]
/-- the text "end" -/
def isEnd : D → Bool
  | .str x => x == ("end" : Str)
  | _ => false
theorem end_ok {n : Nat} {d : D} (S : So) (h : Val n d) : m_is_end [d] S = .ok (.bl (isEnd d)) S := by
  cases n with
  | zero => exact h.elim
  | succ n =>
    have no : isD .str d S = some false → isEnd d = false → m_is_end [d] S = .ok (.bl (isEnd d)) S := fun a b => by
      rw [b]
      exact body_rt rfl (ret_ok (and_f (is_ok rfl a)))
    cases d with
    | str x => exact body_rt rfl (ret_ok (and_t (is_ok rfl rfl) (m2_ok rfl rfl (eq_strs h.1 end7 S))))
    | int v => exact no rfl rfl
    | bl b => exact no rfl rfl
    | non => exact no rfl rfl
    | tup l => exact no rfl rfl
    | lst l => exact no rfl rfl
    | dct ks l => exact no rfl rfl
    | _ =>
      rcases (h : _ = tape0 ∨ _ = tape1) with e | e <;> first | (rw [e] at no ⊢; exact no rfl rfl) | (cases e)
end K01

namespace K01
open PySem PySem.Spec PyProof.Rows L2 Mi
theorem outs_prog {n : Nat} {d : D} {l : List D} (S : So) (hz : l.length ≤ 1000) (h : ∀ e ∈ l, Val n e) {o : Option D} :
    mB bAll (aCons (mComp (iSeq (mV 1)) (gN 2) tT (mCall m_is_output (aCons (mV 2) aNil)) [2]) aNil) [some d, some (.tup l), o] S = .ok (.bl (l.all isOt)) S := by
  have e1 := comp_map (hold := none) (S0 := S) (S := S) (φ := fun e => .bl (isOt e)) (g := gN 2) (f := mCall m_is_output (aCons (mV 2) aNil)) (enw := [some d, some (.tup l), none]) rfl l []
    (fun e he => ⟨_, rfl, call_ok (one_ok rfl) (output_both S (h e he)).1⟩) (by simpa using size4 (by omega))
  rw [List.nil_append] at e1
  exact b_ok (one_ok (cmp_of (src := ⟨none, l⟩) (seq_src rfl rfl) e1)) (all_of isOt l S)
/-- the list that it is -/
def isLs (l : List D) : Bool := l.dropLast.all isOt && (match l.getLast? with
  | some e => isEnd e || isOt e
  | none => true)
theorem isLs_app (r : List D) (e : D) : isLs (r ++ [e]) = (r.all isOt && (isEnd e || isOt e)) := by
  unfold isLs
  rw [List.dropLast_concat, List.getLast?_concat]
/-- a loop that goes on or gives False -/
theorem for_all {α : Type} {S S0 : So} {g : TgD} {body : T} {ι : α → D} {p : α → Bool} {J : En → Prop} : ∀ (l : List α) (en : En), J en →
    (∀ a ∈ l, ∀ en, J en → ∃ en1, g (ι a) en S = some en1 ∧ ((p a = true ∧ ∃ en2, body en1 S = .ok (.nx en2) S ∧ J en2) ∨ (p a = false ∧ body en1 S = .ok (.rt (.bl false)) S))) →
    (l.all p = true ∧ ∃ en', Mi.forM none S0 g body (l.map ι) en S = .ok (.nx en') S ∧ J en') ∨ (l.all p = false ∧ Mi.forM none S0 g body (l.map ι) en S = .ok (.rt (.bl false)) S)
  | [], en, hJ, _ => .inl ⟨rfl, en, by unfold Mi.forM; rfl, hJ⟩
  | a :: l, en, hJ, h => by
    obtain ⟨en1, e1, h1⟩ := h a (by simp) en hJ
    rw [List.map_cons]
    unfold Mi.forM
    simp only [e1]
    rcases h1 with ⟨q, en2, e2, hJ2⟩ | ⟨q, e2⟩
    · rcases for_all (ι := ι) (p := p) l en2 hJ2 (fun a ha => h a (by simp [ha])) with ⟨x, en', y, z⟩ | ⟨x, y⟩
      · refine .inl ⟨by simp [q, x], en', ?_, z⟩
        simp only [e2, R.bind_ok, still_none, if_true]
        exact y
      · refine .inr ⟨by simp [q, x], ?_⟩
        simp only [e2, R.bind_ok, still_none, if_true]
        exact y
    · exact .inr ⟨by simp [q], by simp [e2]⟩
end K01

namespace K01
open PySem PySem.Spec PyProof.Rows L2 Mi
theorem nil_or (l : List D) : l = [] ∨ ∃ r e, l = r ++ [e] := by
  rcases List.eq_nil_or_concat l with h | ⟨r, e, h⟩
  · exact .inl h
  · exact .inr ⟨r, e, by rw [h, List.concat_eq_append]⟩
theorem atI_last (r : List D) (e : D) : atI (r ++ [e]) (-1) = some e := by
  unfold atI ixN
  rw [if_neg (by decide), List.length_append, List.length_singleton, if_pos (by omega)]
  have : ((((r.length + 1 : Nat) : Int)) + -1).toNat = r.length := by omega
  have e2 : (-1 + ((r.length + 1 : Nat) : Int)).toNat = r.length := by omega
  simp only [this, e2]
  simp
theorem cut_last (r : List D) (e : D) : Mi.cutD (r ++ [e]) none (some (-1)) = r := by
  unfold Mi.cutD
  rw [HT.sIx_none]
  have : HT.sIx (r ++ [e]).length (r ++ [e]).length (some (-1)) = r.length := by
    unfold HT.sIx
    simp
    omega
  rw [this]
  simp
theorem is_list_ok {n : Nat} {l : List D} (S : So) (hz : l.length ≤ 1000) (h : ∀ e ∈ l, Val n e) : m_is_list [.tup l] S = .ok (.bl (isLs l)) S := by
  rcases nil_or l with rfl | ⟨r, e, rfl⟩
  · exact body_rt rfl (seq_nx (if_f (tnot_t (tru_bl (is_ok rfl rfl))) rfl) (seq_nx (set_ok rfl) (seq_nx (if_f (tand_f rfl) rfl) (ret_ok (outs_prog S (Nat.zero_le _) h)))))
  · have he : Val n e := h e (by simp)
    have ix : dIx (.tup (r ++ [e])) (.int (-1)) S = some (e, S) := ix_tup (atI_last r e)
    have t0 : tTru (mV 0) [some (.tup (r ++ [e])), some (.tup (r ++ [e])), none] S = .ok true S := by
      refine tru_ok rfl ?_
      show some (!(r ++ [e]).isEmpty) = _
      simp
    have t1 : tTru (mCall m_is_end (aCons (m2 dIx (mV 0) (m1 dNeg (mC (.int 1)))) aNil)) [some (.tup (r ++ [e])), some (.tup (r ++ [e])), none] S = .ok (isEnd e) S := tru_bl (call_ok (one_ok (m2_ok rfl rfl ix)) (end_ok S he))
    rw [isLs_app]
    cases c : isEnd e with
    | true =>
      rw [c] at t1
      have sl : mSl dSl (mV 0) pNo (pSo (m1 dNeg (mC (.int 1)))) [some (.tup (r ++ [e])), some (.tup (r ++ [e])), none] S = .ok (.tup r) S := by
        show R.of (some (D.tup (Mi.cutD (r ++ [e]) none (some (-1))), S)) = _
        rw [cut_last]
        rfl
      rw [Bool.true_or, Bool.and_true]
      exact body_rt rfl (seq_nx (if_f (tnot_t (tru_bl (is_ok rfl rfl))) rfl) (seq_nx (set_ok rfl) (seq_nx (if_t (tand_t t0 t1) (set_ok sl)) (ret_ok (outs_prog (n := n) S (by simp at hz; omega) fun d hd => h d (by simp [hd]))))))
    | false =>
      rw [c] at t1
      have o := outs_prog (d := .tup (r ++ [e])) (o := none) S hz h
      rw [List.all_append] at o
      simp only [List.all_cons, List.all_nil, Bool.and_true] at o
      rw [Bool.false_or]
      exact body_rt rfl (seq_nx (if_f (tnot_t (tru_bl (is_ok rfl rfl))) rfl) (seq_nx (set_ok rfl) (seq_nx (if_f (tand_t t0 t1) rfl) (ret_ok o))))
/-- what the law asks of the part at k -/
def atLs (l : List D) (k : Nat) : Bool := match l[k]? with
  | some d => (isEnd d && decide (k + 1 = l.length)) || isOt d
  | none => true
theorem all_rng (r : List D) (e : D) : (List.range (r ++ [e]).length).all (atLs (r ++ [e])) = (r.all isOt && (isEnd e || isOt e)) := by
  have a1 : atLs (r ++ [e]) r.length = (isEnd e || isOt e) := by
    unfold atLs
    simp
  have a2 : (List.range r.length).all (atLs (r ++ [e])) = r.all isOt := by
    rw [Bool.eq_iff_iff, List.all_eq_true, List.all_eq_true]
    constructor
    · intro h d hd
      obtain ⟨i, hi, rfl⟩ := List.mem_iff_getElem.mp hd
      have := h i (List.mem_range.mpr hi)
      unfold atLs at this
      rw [List.getElem?_append_left hi, List.getElem?_eq_getElem hi] at this
      have ne : ¬ (i + 1 = (r ++ [e]).length) := by simp; omega
      rw [decide_eq_false ne] at this
      simpa using this
    · intro h i hi
      have hi := List.mem_range.mp hi
      unfold atLs
      rw [List.getElem?_append_left hi, List.getElem?_eq_getElem hi]
      simp [h _ (List.getElem_mem hi)]
  rw [List.length_append, List.length_singleton, List.range_succ, List.all_append, a2, List.all_cons, List.all_nil, a1, Bool.and_true]
theorem law_list_ok {n : Nat} {l : List D} (S : So) (hz : l.length ≤ 1000) (h : ∀ e ∈ l, Val n e) : m_law_is_list [.tup l] S = .ok (.bl (isLs l)) S := by
  have key : (List.range l.length).all (atLs l) = isLs l := by
    rcases nil_or l with rfl | ⟨r, e, rfl⟩
    · rfl
    · rw [all_rng, isLs_app]
  have bl : bLen [.tup l] S = some (.int l.length, S) := rfl
  have fa := for_all (S := S) (S0 := S) (ι := fun i : Nat => D.int ((0 : Int) + (i : Int))) (p := atLs l) (g := gN 1) (J := fun en => ∃ o1 o2, en = [some (.tup l), o1, o2])
    (body := sSeq (sSet 2 (mAnd (mIs .str (m2 dIx (mV 0) (mV 1))) (mAnd (m2 dEq (m2 dIx (mV 0) (mV 1)) (mC (.str ("end" : Str)))) (m2 dEq (mV 1) (m2 dSub (mB bLen (aCons (mV 0) aNil)) (mC (.int 1)))))))
    (sIf (tAnd' (tNot' (tTru (mV 2))) (tNot' (tTru (mCall m_law_is_output (aCons (m2 dIx (mV 0) (mV 1)) aNil))))) (sRet (mC (.bl false))) sNil)) (List.range l.length) [some (.tup l), none, none] ⟨_, _, rfl⟩ (fun i hi en hJ => by
      obtain ⟨o1, o2, rfl⟩ := hJ
      have hi := List.mem_range.mp hi
      have ed : atI l ((0 : Int) + (i : Int)) = some l[i] := by
        unfold atI ixN
        rw [if_pos (by omega), if_pos (by omega)]
        have : ((0 : Int) + (i : Int)).toNat = i := by omega
        simp [this, hi]
      have hd : Val n l[i] := h _ (List.getElem_mem hi)
      have ix : dIx (.tup l) (.int ((0 : Int) + (i : Int))) S = some (l[i], S) := ix_tup ed
      have pa : atLs l i = ((isEnd l[i] && decide (i + 1 = l.length)) || isOt l[i]) := by
        unfold atLs
        rw [List.getElem?_eq_getElem hi]
      have en2 : mAnd (mIs .str (m2 dIx (mV 0) (mV 1))) (mAnd (m2 dEq (m2 dIx (mV 0) (mV 1)) (mC (.str ("end" : Str)))) (m2 dEq (mV 1) (m2 dSub (mB bLen (aCons (mV 0) aNil)) (mC (.int 1))))) [some (.tup l), some (.int ((0 : Int) + (i : Int))), o2] S = .ok (.bl (isEnd l[i] && decide (i + 1 = l.length))) S := by
        have q := eq_int (S := S) ((0 : Int) + (i : Int)) ((l.length : Int) - 1)
        rw [show (((0 : Int) + (i : Int)) == ((l.length : Int) - 1)) = decide (i + 1 = l.length) by rw [Bool.eq_iff_iff]; simp; omega] at q
        have no : isD .str l[i] S = some false → isEnd l[i] = false → mAnd (mIs .str (m2 dIx (mV 0) (mV 1))) (mAnd (m2 dEq (m2 dIx (mV 0) (mV 1)) (mC (.str ("end" : Str)))) (m2 dEq (mV 1) (m2 dSub (mB bLen (aCons (mV 0) aNil)) (mC (.int 1))))) [some (.tup l), some (.int ((0 : Int) + (i : Int))), o2] S = .ok (.bl (isEnd l[i] && decide (i + 1 = l.length))) S := fun a b => by
          rw [b]
          exact and_f (is_ok (m2_ok rfl rfl ix) a)
        revert ix hd no
        generalize l[i] = d
        intro hd ix no
        cases n with
        | zero => exact hd.elim
        | succ n =>
          cases d with
          | str x => exact and_t (is_ok (m2_ok rfl rfl ix) rfl) (and_bl (m2_ok (m2_ok rfl rfl ix) rfl (eq_strs hd.1 end7 S)) (m2_ok rfl (m2_ok (b_ok (one_ok rfl) bl) rfl rfl) q))
          | int v => exact no rfl rfl
          | bl b => exact no rfl rfl
          | non => exact no rfl rfl
          | tup l => exact no rfl rfl
          | lst l => exact no rfl rfl
          | dct ks l => exact no rfl rfl
          | _ =>
            rcases (hd : _ = tape0 ∨ _ = tape1) with e | e <;> first | (rw [e] at no ⊢; exact no rfl rfl) | (cases e)
      refine ⟨_, rfl, ?_⟩
      have tO : tTru (mCall m_law_is_output (aCons (m2 dIx (mV 0) (mV 1)) aNil)) [some (.tup l), some (.int ((0 : Int) + (i : Int))), some (.bl (isEnd l[i] && decide (i + 1 = l.length)))] S = .ok (isOt l[i]) S := tru_bl (call_ok (one_ok (m2_ok rfl rfl ix)) (output_both S hd).2)
      have tE : tTru (mV 2) [some (.tup l), some (.int ((0 : Int) + (i : Int))), some (.bl (isEnd l[i] && decide (i + 1 = l.length)))] S = .ok (isEnd l[i] && decide (i + 1 = l.length)) S := tru_bl rfl
      rw [pa]
      cases c : (isEnd l[i] && decide (i + 1 = l.length)) with
      | true =>
        rw [c] at en2 tE tO
        exact .inl ⟨rfl, _, seq_nx (set_ok en2) (if_f (tand_f (tnot_t tE)) rfl), _, _, rfl⟩
      | false =>
        rw [c] at en2 tE tO
        cases c2 : isOt l[i] with
        | true =>
          rw [c2] at tO
          exact .inl ⟨rfl, _, seq_nx (set_ok en2) (if_f (tand_t (tnot_f tE) (tnot_t tO)) rfl), _, _, rfl⟩
        | false =>
          rw [c2] at tO
          exact .inr ⟨rfl, seq_nx (set_ok en2) (if_t (tand_t (tnot_f tE) (tnot_f tO)) (ret_ok rfl))⟩)
  have rg := rg_len (l := l) (S := S) (en := [some (.tup l), none, none]) (g := aCons (mB bLen (aCons (mV 0) aNil)) aNil) (by omega) (one_ok (b_ok (one_ok rfl) bl))
  rw [key] at fa
  rcases fa with ⟨a, en', f, o1, o2, rfl⟩ | ⟨a, f⟩
  · rw [a]
    exact body_rt rfl (seq_nx (if_f (tnot_t (tru_bl (is_ok rfl rfl))) rfl) (seq_nx (for_of rg f) (ret_ok rfl)))
  · rw [a]
    exact body_rt rfl (seq_nx (if_f (tnot_t (tru_bl (is_ok rfl rfl))) rfl) (seq_rt (for_of rg f)))
def isLst : D → Bool
  | .tup l => isLs l
  | _ => false
theorem list_both {n : Nat} {d : D} (S : So) (h : Val n d) : m_is_list [d] S = .ok (.bl (isLst d)) S ∧ m_law_is_list [d] S = .ok (.bl (isLst d)) S := by
  cases n with
  | zero => exact h.elim
  | succ n =>
    have no : isD .tup d S = some false → isLst d = false → m_is_list [d] S = .ok (.bl (isLst d)) S ∧ m_law_is_list [d] S = .ok (.bl (isLst d)) S := fun a b => by
      rw [b]
      exact ⟨body_rt rfl (seq_rt (if_t (tnot_f (tru_bl (is_ok rfl a))) (ret_ok rfl))), body_rt rfl (seq_rt (if_t (tnot_f (tru_bl (is_ok rfl a))) (ret_ok rfl)))⟩
    cases d with
    | tup l => exact ⟨is_list_ok S h.1 h.2, law_list_ok S h.1 h.2⟩
    | str x => exact no rfl rfl
    | int v => exact no rfl rfl
    | bl b => exact no rfl rfl
    | non => exact no rfl rfl
    | lst l => exact no rfl rfl
    | dct ks l => exact no rfl rfl
    | _ =>
      rcases (h : _ = tape0 ∨ _ = tape1) with e | e <;> first | (rw [e] at no ⊢; exact no rfl rfl) | (cases e)
end K01

namespace K01
open PySem PySem.Spec PyProof.Rows L2 Mi
/-! ### layouts -/
def strict : List Nat → Bool
  | a :: b :: l => decide (a < b) && strict (b :: l)
  | _ => true
theorem strict_pw : ∀ {l : List Nat}, strict l = true → l.Pairwise (· < ·)
  | [], _ => .nil
  | [_], _ => List.pairwise_singleton ..
  | a :: b :: l, h => by
    simp only [strict, Bool.and_eq_true, decide_eq_true_eq] at h
    have ih := strict_pw h.2
    refine List.pairwise_cons.mpr ⟨fun z hz => ?_, ih⟩
    rcases List.mem_cons.mp hz with e | hz
    · rw [e]; exact h.1
    · exact Nat.lt_trans h.1 ((List.pairwise_cons.mp ih).1 z hz)
theorem pw_strict : ∀ {l : List Nat}, l.Pairwise (· < ·) → strict l = true
  | [], _ => rfl
  | [_], _ => rfl
  | a :: b :: l, h => by
    obtain ⟨h1, h2⟩ := List.pairwise_cons.mp h
    simp only [strict, Bool.and_eq_true, decide_eq_true_eq]
    exact ⟨h1 b (by simp), pw_strict h2⟩
theorem zip_strict : ∀ l : List Nat, (l.zip (l.drop 1)).all (fun p => decide (p.1 < p.2)) = strict l
  | [] => rfl
  | [_] => rfl
  | a :: b :: l => by
    have ih := zip_strict (b :: l)
    simp only [List.drop_succ_cons, List.drop_zero] at ih ⊢
    rw [show ((a :: b :: l).zip (b :: l)) = (a, b) :: ((b :: l).zip l) from rfl, List.all_cons, ih]
    rfl
abbrev oneD (c : Nat) : D := .str (one c)
def code : D → Nat
  | .str x => x.cps.toList.headD 0
  | _ => 0
def lenT : D → Nat
  | .tup l => l.length
  | _ => 0
/-- the letters of a source -/
def isLtr : D → Bool
  | .tup l => !l.isEmpty && (l.all isL && strict (l.map code))
  | _ => false
theorem isL_one {d : D} (h : isL d = true) : ∃ c, d = oneD c ∧ lt c = true := by
  cases d with
  | str x =>
    have h : (match x.cps.toList with
      | [c] => decide (97 ≤ c) && decide (c ≤ 122)
      | _ => false) = true := h
    split at h
    · rename_i c hc
      exact ⟨c, by rw [str_one hc], h⟩
    · cases h
  | _ => cases h
theorem all_ones : ∀ {l : List D}, l.all isL = true → ∃ cs : List Nat, l = cs.map oneD ∧ ∀ c ∈ cs, lt c = true
  | [], _ => ⟨[], rfl, by simp⟩
  | d :: l, h => by
    simp only [List.all_cons, Bool.and_eq_true] at h
    obtain ⟨c, rfl, hc⟩ := isL_one h.1
    obtain ⟨cs, rfl, hs⟩ := all_ones h.2
    exact ⟨c :: cs, rfl, by simpa using ⟨hc, hs⟩⟩
theorem code_ones (cs : List Nat) : (cs.map oneD).map code = cs := by
  rw [List.map_map]
  show cs.map (fun c => code (oneD c)) = cs
  exact List.map_id' cs
theorem ge_one (a b : Nat) (S : So) : dGe (oneD a) (oneD b) S = some (.bl (!decide (a < b)), S) := by
  show some (D.bl (!decide ([a] < [b])), S) = _
  rw [show decide ([a] < [b]) = decide (a < b) by rw [Bool.eq_iff_iff]; simp [List.cons_lt_cons_iff]]
theorem zipD (cs : List Nat) : ((cs.map oneD).zip ((cs.map oneD).drop 1)).map (fun p => D.tup [p.1, p.2]) = (cs.zip (cs.drop 1)).map fun p => D.tup [oneD p.1, oneD p.2] := by
  rw [← List.map_drop, List.zip_map, List.map_map]
  rfl
theorem is_letters_tup {n : Nat} {l : List D} (S : So) (hz : l.length ≤ 1000) (h : ∀ e ∈ l, Val n e) : m_is_letters [.tup l] S = .ok (.bl (isLtr (.tup l))) S := by
  have bl : bLen [.tup l] S = some (.int l.length, S) := rfl
  have q := eq_int (S := S) (l.length : Int) 0
  show _ = R.ok (D.bl (!l.isEmpty && (l.all isL && strict (l.map code)))) S
  by_cases c0 : l.length = 0
  · rw [show ((l.length : Int) == 0) = true by rw [c0]; rfl] at q
    rw [show l.isEmpty = true by rw [List.length_eq_zero_iff.mp c0]; rfl]
    exact body_rt rfl (seq_rt (if_t (tor_f (tnot_t (tru_bl (is_ok rfl rfl))) (tst_ok (m2_ok (b_ok (one_ok rfl) bl) rfl q))) (ret_ok rfl)))
  rw [show ((l.length : Int) == 0) = false by rw [beq_eq_false_iff_ne]; omega] at q
  rw [show l.isEmpty = false by cases l with | nil => exact absurd rfl c0 | cons _ _ => rfl, Bool.not_false, Bool.true_and]
  have st : sIf (tOr' (tNot' (tTru (mIs .tup (mV 0)))) (tB' (m2 dEq (mB bLen (aCons (mV 0) aNil)) (mC (.int 0))))) (sRet (mC (.bl false))) sNil [some (.tup l), none, none, none] S = .ok (.nx [some (.tup l), none, none, none]) S :=
    if_f (tor_f (tnot_t (tru_bl (is_ok rfl rfl))) (tst_ok (m2_ok (b_ok (one_ok rfl) bl) rfl q))) rfl
  have fa := for_all (S := S) (S0 := S) (ι := id) (p := isL) (g := gN 1) (J := fun en => ∃ o, en = [some (.tup l), o, none, none])
    (body := sIf (tNot' (tTru (mCall m_is_letter (aCons (mV 1) aNil)))) (sRet (mC (.bl false))) sNil) l [some (.tup l), none, none, none] ⟨_, rfl⟩ (fun d hd en hJ => by
      obtain ⟨o, rfl⟩ := hJ
      have t : tTru (mCall m_is_letter (aCons (mV 1) aNil)) [some (.tup l), some d, none, none] S = .ok (isL d) S := tru_bl (call_ok (one_ok rfl) (letter_both S (h d hd)).1)
      refine ⟨_, rfl, ?_⟩
      cases c : isL d with
      | true =>
        rw [c] at t
        exact .inl ⟨rfl, _, if_f (tnot_t t) rfl, _, rfl⟩
      | false =>
        rw [c] at t
        exact .inr ⟨rfl, if_t (tnot_f t) (ret_ok rfl)⟩)
  rw [List.map_id] at fa
  rcases fa with ⟨a, en', f, o1, rfl⟩ | ⟨a, f⟩
  · obtain ⟨cs, rfl, hs⟩ := all_ones a
    rw [a, Bool.true_and, code_ones]
    have fb := for_all (S := S) (S0 := S) (ι := fun p : Nat × Nat => D.tup [oneD p.1, oneD p.2]) (p := fun p => decide (p.1 < p.2)) (g := gT 2 (gsCons (gN 2) (gsCons (gN 3) gsNil))) (J := fun en => ∃ o2 o3, en = [some (.tup (cs.map oneD)), o1, o2, o3])
      (body := sIf (tB' (m2 dGe (mV 2) (mV 3))) (sRet (mC (.bl false))) sNil) (cs.zip (cs.drop 1)) [some (.tup (cs.map oneD)), o1, none, none] ⟨_, _, rfl⟩ (fun p hp en hJ => by
        obtain ⟨o2, o3, rfl⟩ := hJ
        have t : tB' (m2 dGe (mV 2) (mV 3)) [some (.tup (cs.map oneD)), o1, some (oneD p.1), some (oneD p.2)] S = .ok (!decide (p.1 < p.2)) S := tst_ok (m2_ok rfl rfl (ge_one p.1 p.2 S))
        refine ⟨_, rfl, ?_⟩
        cases c : decide (p.1 < p.2) with
        | true =>
          rw [c] at t
          exact .inl ⟨rfl, _, if_f t rfl, _, _, rfl⟩
        | false =>
          rw [c] at t
          exact .inr ⟨rfl, if_t t (ret_ok rfl)⟩)
    rw [zip_strict, ← zipD] at fb
    have src : iZipT (aCons (mV 0) (aCons (mSl dSl (mV 0) (pSo (mC (.int 1))) pNo) aNil)) [some (.tup (cs.map oneD)), o1, none, none] S = .ok ⟨none, ((cs.map oneD).zip ((cs.map oneD).drop 1)).map fun p => .tup [p.1, p.2]⟩ S := by
      show R.ok (⟨none, ((cs.map oneD).zip (Mi.cutD (cs.map oneD) (some 1) none)).map fun p => .tup [p.1, p.2]⟩ : Src) S = _
      rw [cut1]
    rcases fb with ⟨a2, en', f2, o2, o3, rfl⟩ | ⟨a2, f2⟩
    · rw [a2]
      exact body_rt rfl (seq_nx st (seq_nx (for_of (src := ⟨none, cs.map oneD⟩) (seq_src rfl rfl) f) (seq_nx (for_of src f2) (ret_ok rfl))))
    · rw [a2]
      exact body_rt rfl (seq_nx st (seq_nx (for_of (src := ⟨none, cs.map oneD⟩) (seq_src rfl rfl) f) (seq_rt (for_of src f2))))
  · rw [a]
    exact body_rt rfl (seq_nx st (seq_rt (for_of (src := ⟨none, l⟩) (seq_src rfl rfl) f)))
theorem is_letters_ok {n : Nat} {d : D} (S : So) (h : Val n d) : m_is_letters [d] S = .ok (.bl (isLtr d)) S := by
  cases n with
  | zero => exact h.elim
  | succ n =>
    have no : isD .tup d S = some false → isLtr d = false → m_is_letters [d] S = .ok (.bl (isLtr d)) S := fun a b => by
      rw [b]
      exact body_rt rfl (seq_rt (if_t (tor_t (tnot_f (tru_bl (is_ok rfl a)))) (ret_ok rfl)))
    cases d with
    | tup l => exact is_letters_tup S h.1 h.2
    | str x => exact no rfl rfl
    | int v => exact no rfl rfl
    | bl b => exact no rfl rfl
    | non => exact no rfl rfl
    | lst l => exact no rfl rfl
    | dct ks l => exact no rfl rfl
    | _ =>
      rcases (h : _ = tape0 ∨ _ = tape1) with e | e <;> first | (rw [e] at no ⊢; exact no rfl rfl) | (cases e)
end K01

namespace K01
open PySem PySem.Spec PyProof.Rows L2 Mi
theorem leS_one (a b : Nat) : leS (one a) (one b) ↔ a ≤ b := by
  unfold leS
  show ltCps [b] [a] = false ↔ _
  show (decide (b < a) || (b == a && ltCps [] [])) = false ↔ _
  simp [ltCps]
theorem one_inj {a b : Nat} (h : one a = one b) : a = b := by
  have : (one a).cps.toList = (one b).cps.toList := by rw [h]
  simpa using this
theorem uniq_perm {xs : List Str} (h : xs.Nodup) : (uniq xs).Perm xs := (List.perm_ext_iff_of_nodup (uniq_nd xs) h).mpr (uniq_mem xs)
theorem srt_strict (cs : List Nat) : (cs.map one == srtS (uniq (cs.map one))) = strict cs := by
  rw [Bool.eq_iff_iff, beq_iff_eq]
  constructor
  · intro h
    refine pw_strict ?_
    have nd : (cs.map one).Nodup := by
      rw [h]
      exact (srtS_perm _).nodup_iff.mpr (uniq_nd _)
    have pw : (cs.map one).Pairwise leS := by
      rw [h]
      exact srtS_pw _
    rw [List.pairwise_map] at pw
    have nd2 : cs.Pairwise (fun a b => one a ≠ one b) := by
      have := nd
      unfold List.Nodup at this
      rwa [List.pairwise_map] at this
    refine List.Pairwise.imp₂ (R := fun a b => leS (one a) (one b)) (S := fun a b => one a ≠ one b) (fun a b x y => ?_) pw nd2
    have := (leS_one a b).mp x
    have ne : a ≠ b := fun z => y (by rw [z])
    omega
  · intro h
    have pw := strict_pw h
    have nd : (cs.map one).Nodup := by
      unfold List.Nodup
      rw [List.pairwise_map]
      exact pw.imp fun x z => by have := one_inj z; omega
    have p : (srtS (uniq (cs.map one))).Perm (cs.map one) := (srtS_perm _).trans (uniq_perm nd)
    have so : (cs.map one).Pairwise leS := by
      rw [List.pairwise_map]
      exact pw.imp fun x => (leS_one _ _).mpr (by omega)
    exact List.Perm.eq_of_pairwise (le := leS) (fun _ _ _ _ => leS_anti) so (srtS_pw _) p.symm
theorem eqv_strs2 : ∀ xs ys : List Str, PyData.eqvAll (xs.map PyData.str) (ys.map PyData.str) = (xs == ys)
  | [], [] => by simp [PyData.eqvAll]
  | [], y :: ys => by simp [PyData.eqvAll]
  | x :: xs, [] => by simp [PyData.eqvAll]
  | x :: xs, y :: ys => by
    simp only [List.map_cons, PyData.eqvAll, PyData.eqv, eqv_strs2 xs ys]
    rfl
theorem ne_strs2 {xs ys : List Str} (hx : ∀ y ∈ xs, Ok7 y) (hy : ∀ y ∈ ys, Ok7 y) (S : So) : dNe (.lst (xs.map D.str)) (.lst (ys.map D.str)) S = some (.bl (!(xs == ys)), S) := by
  have tp : ∀ ys : List Str, toPt (.lst (ys.map D.str)) S = some (.list (ys.map PyData.str)) := fun ys => by
    show toP _ = _
    unfold toP
    rw [toPs_strs]
  have e : PyData.eqv (.list (xs.map PyData.str)) (.list (ys.map PyData.str)) = (xs == ys) := by
    simp only [PyData.eqv]
    exact eqv_strs2 xs ys
  unfold dNe dEqP
  rw [tp, tp]
  dsimp only
  rw [strs_sh hx, strs_sh hy, e]
  rfl
/-- a name with its letters -/
def pOk (p : Key × D) : Bool := isN (kD p.1) && (isLtr p.2 && decide (lenT p.2 ≤ 4))
def isLay : D → Bool
  | .dct ks l => (decide (1 ≤ ks.length) && decide (ks.length ≤ 4)) && (ks.zip l).all pOk
  | _ => false
theorem lenT_of {d : D} (S : So) (h : isLtr d = true) : bLen [d] S = some (.int (lenT d), S) := by
  cases d with
  | tup l => rfl
  | _ => cases h
theorem gtN4 (k : Nat) (S : So) : dGt (.int k) (.int 4) S = some (.bl (!decide (k ≤ 4)), S) := by
  show some (D.bl (decide ((4 : Int) < (k : Int))), S) = _
  rw [show decide ((4 : Int) < (k : Int)) = !decide (k ≤ 4) by
    rw [Bool.eq_iff_iff]
    simp
    omega]
theorem is_layout_dct {n : Nat} {ks : List Key} {l : List D} (S : So) (h : Val (n + 1) (.dct ks l)) : m_is_layout [.dct ks l] S = .ok (.bl (isLay (.dct ks l))) S := by
  obtain ⟨h1, h2, h3, h4, h5⟩ := h
  have bl : bLen [.dct ks l] S = some (.int ks.length, S) := rfl
  have l1 : dLe (.int 1) (.int ks.length) S = some (.bl (decide (1 ≤ ks.length)), S) := by
    show some (D.bl (decide ((1 : Int) ≤ (ks.length : Int))), S) = _
    rw [show decide ((1 : Int) ≤ (ks.length : Int)) = decide (1 ≤ ks.length) by rw [Bool.eq_iff_iff, decide_eq_true_eq, decide_eq_true_eq]; omega]
  have l4 : dLe (.int ks.length) (.int 4) S = some (.bl (decide (ks.length ≤ 4)), S) := by
    show some (D.bl (decide ((ks.length : Int) ≤ 4)), S) = _
    rw [show decide ((ks.length : Int) ≤ 4) = decide (ks.length ≤ 4) by rw [Bool.eq_iff_iff, decide_eq_true_eq, decide_eq_true_eq]; omega]
  have ch : mChain dLe dLe (mC (.int 1)) (mB bLen (aCons (mV 0) aNil)) (mC (.int 4)) [some (.dct ks l), none, none] S = .ok (.bl (decide (1 ≤ ks.length) && decide (ks.length ≤ 4))) S := by
    unfold mChain
    rw [show mC (.int 1) [some (.dct ks l), none, none] S = .ok (.int 1) S from rfl, R.bind_ok, b_ok (o := bLen) (l := [.dct ks l]) rfl bl, R.bind_ok, l1]
    cases e : decide (1 ≤ ks.length) with
    | false => rfl
    | true =>
      dsimp only
      rw [show mC (.int 4) [some (.dct ks l), none, none] S = .ok (.int 4) S from rfl, R.bind_ok, l4]
      rfl
  show _ = R.ok (D.bl ((decide (1 ≤ ks.length) && decide (ks.length ≤ 4)) && (ks.zip l).all pOk)) S
  cases c : (decide (1 ≤ ks.length) && decide (ks.length ≤ 4)) with
  | false =>
    rw [c] at ch
    exact body_rt rfl (seq_rt (if_t (tor_f (tnot_t (tru_bl (is_ok rfl rfl))) (tnot_f (tst_ok ch))) (ret_ok rfl)))
  | true =>
    rw [c] at ch
    rw [Bool.true_and]
    have fa := for_all (S := S) (S0 := S) (ι := fun p : Key × D => D.tup [kD p.1, p.2]) (p := pOk) (g := gT 2 (gsCons (gN 1) (gsCons (gN 2) gsNil))) (J := fun en => ∃ o1 o2, en = [some (.dct ks l), o1, o2])
      (body := sIf (tOr' (tNot' (tTru (mCall m_is_name (aCons (mV 1) aNil)))) (tOr' (tNot' (tTru (mCall m_is_letters (aCons (mV 2) aNil)))) (tB' (m2 dGt (mB bLen (aCons (mV 2) aNil)) (mC (.int 4)))))) (sRet (mC (.bl false))) sNil) (ks.zip l) [some (.dct ks l), none, none] ⟨_, _, rfl⟩ (fun p hp en hJ => by
        obtain ⟨o1, o2, rfl⟩ := hJ
        obtain ⟨k, v⟩ := p
        have hm := List.of_mem_zip hp
        obtain ⟨x, rfl, hx, hx2⟩ := h4 k hm.1
        have hv := h5 v hm.2
        have hk : Val (n + 1) (.str x) := ⟨hx, hx2⟩
        have tN : tTru (mCall m_is_name (aCons (mV 1) aNil)) [some (.dct ks l), some (.str x), some v] S = .ok (isN (.str x)) S := tru_bl (call_ok (one_ok rfl) (name_both S hk).1)
        have tL : tTru (mCall m_is_letters (aCons (mV 2) aNil)) [some (.dct ks l), some (.str x), some v] S = .ok (isLtr v) S := tru_bl (call_ok (one_ok rfl) (is_letters_ok S hv))
        refine ⟨_, rfl, ?_⟩
        show (((isN (.str x) && (isLtr v && decide (lenT v ≤ 4))) = true) ∧ _) ∨ (((isN (.str x) && (isLtr v && decide (lenT v ≤ 4))) = false) ∧ _)
        cases c1 : isN (.str x) with
        | false =>
          rw [c1] at tN
          exact .inr ⟨rfl, if_t (tor_t (tnot_f tN)) (ret_ok rfl)⟩
        | true =>
          rw [c1] at tN
          cases c2 : isLtr v with
          | false =>
            rw [c2] at tL
            exact .inr ⟨rfl, if_t (tor_f (tnot_t tN) (tor_t (tnot_f tL))) (ret_ok rfl)⟩
          | true =>
            rw [c2] at tL
            have g := gtN4 (lenT v) S
            cases c3 : decide (lenT v ≤ 4) with
            | false =>
              rw [c3] at g
              exact .inr ⟨rfl, if_t (tor_f (tnot_t tN) (tor_f (tnot_t tL) (tst_ok (m2_ok (b_ok (one_ok rfl) (lenT_of S c2)) rfl g)))) (ret_ok rfl)⟩
            | true =>
              rw [c3] at g
              exact .inl ⟨rfl, _, if_f (tor_f (tnot_t tN) (tor_f (tnot_t tL) (tst_ok (m2_ok (b_ok (one_ok rfl) (lenT_of S c2)) rfl g)))) rfl, _, _, rfl⟩)
    have src : iItemsV (mV 0) [some (.dct ks l), none, none] S = .ok ⟨none, (ks.zip l).map fun p => .tup [kD p.1, p.2]⟩ S := rfl
    have st : sIf (tOr' (tNot' (tTru (mIs .dct (mV 0)))) (tNot' (tB' (mChain dLe dLe (mC (.int 1)) (mB bLen (aCons (mV 0) aNil)) (mC (.int 4)))))) (sRet (mC (.bl false))) sNil [some (.dct ks l), none, none] S = .ok (.nx [some (.dct ks l), none, none]) S :=
      if_f (tor_f (tnot_t (tru_bl (is_ok rfl rfl))) (tnot_t (tst_ok ch))) rfl
    rcases fa with ⟨a, en', f, o1, o2, rfl⟩ | ⟨a, f⟩
    · rw [a]
      exact body_rt rfl (seq_nx st (seq_nx (for_of src f) (ret_ok rfl)))
    · rw [a]
      exact body_rt rfl (seq_nx st (seq_rt (for_of src f)))
end K01

namespace K01
open PySem PySem.Spec PyProof.Rows L2 Mi
theorem ones_ok7 {cs : List Nat} (h : ∀ c ∈ cs, lt c = true) : ∀ y ∈ cs.map one, Ok7 y := fun y hy => by
  obtain ⟨c, hc, rfl⟩ := List.mem_map.mp hy
  have := h c hc
  unfold lt at this
  simp only [Bool.and_eq_true, decide_eq_true_eq] at this
  intro z hz
  have : z = c := by simpa using hz
  omega
theorem filt_no (l : List D) : ((l.filter fun d => !isL d).length : Int) = 0 ↔ l.all isL = true := by
  rw [List.all_eq_true]
  constructor
  · intro h d hd
    have : (l.filter fun d => !isL d) = [] := by
      rw [← List.length_eq_zero_iff]
      omega
    have := List.filter_eq_nil_iff.mp this d hd
    simpa using this
  · intro h
    have : (l.filter fun d => !isL d) = [] := List.filter_eq_nil_iff.mpr fun d hd => by simp [h d hd]
    rw [this]
    rfl
/-- the letters as the law looks at them -/
theorem law_ltr {n : Nat} {v d0 dk : D} {o3 : Option D} (S : So) (hv : Val n v) (tN : tTru (mCall m_law_is_name (aCons (mV 1) aNil)) [some d0, some dk, some v, o3] S = .ok true S) :
    ∀ B, B = sSeq (sIf (tOr' (tNot' (tTru (mCall m_law_is_name (aCons (mV 1) aNil)))) (tOr' (tNot' (tTru (mIs .tup (mV 2)))) (tOr' (tB' (m2 dEq (mB bLen (aCons (mV 2) aNil)) (mC (.int 0)))) (tB' (m2 dGt (mB bLen (aCons (mV 2) aNil)) (mC (.int 4))))))) (sRet (mC (.bl false))) sNil)
    (sSeq (sIf (tB' (m2 dGt (mB bLen (aCons (mComp (iSeq (mV 2)) (gN 3) (tNot' (tTru (mCall m_law_is_letter (aCons (mV 3) aNil)))) (mV 3) [3]) aNil)) (mC (.int 0)))) (sRet (mC (.bl false))) sNil)
    (sIf (tB' (m2 dNe (mB bLst (aCons (mV 2) aNil)) (mSortSet (mV 2)))) (sRet (mC (.bl false))) sNil)) →
    ((isLtr v && decide (lenT v ≤ 4)) = true ∧ B [some d0, some dk, some v, o3] S = .ok (.nx [some d0, some dk, some v, o3]) S) ∨ ((isLtr v && decide (lenT v ≤ 4)) = false ∧ B [some d0, some dk, some v, o3] S = .ok (.rt (.bl false)) S) := fun B hB => by
  subst hB
  have no : isD .tup v S = some false → isLtr v = false → ((isLtr v && decide (lenT v ≤ 4)) = true ∧ sSeq (sIf (tOr' (tNot' (tTru (mCall m_law_is_name (aCons (mV 1) aNil)))) (tOr' (tNot' (tTru (mIs .tup (mV 2)))) (tOr' (tB' (m2 dEq (mB bLen (aCons (mV 2) aNil)) (mC (.int 0)))) (tB' (m2 dGt (mB bLen (aCons (mV 2) aNil)) (mC (.int 4))))))) (sRet (mC (.bl false))) sNil)
    (sSeq (sIf (tB' (m2 dGt (mB bLen (aCons (mComp (iSeq (mV 2)) (gN 3) (tNot' (tTru (mCall m_law_is_letter (aCons (mV 3) aNil)))) (mV 3) [3]) aNil)) (mC (.int 0)))) (sRet (mC (.bl false))) sNil)
    (sIf (tB' (m2 dNe (mB bLst (aCons (mV 2) aNil)) (mSortSet (mV 2)))) (sRet (mC (.bl false))) sNil)) [some d0, some dk, some v, o3] S = .ok (.nx [some d0, some dk, some v, o3]) S) ∨ ((isLtr v && decide (lenT v ≤ 4)) = false ∧ sSeq (sIf (tOr' (tNot' (tTru (mCall m_law_is_name (aCons (mV 1) aNil)))) (tOr' (tNot' (tTru (mIs .tup (mV 2)))) (tOr' (tB' (m2 dEq (mB bLen (aCons (mV 2) aNil)) (mC (.int 0)))) (tB' (m2 dGt (mB bLen (aCons (mV 2) aNil)) (mC (.int 4))))))) (sRet (mC (.bl false))) sNil)
    (sSeq (sIf (tB' (m2 dGt (mB bLen (aCons (mComp (iSeq (mV 2)) (gN 3) (tNot' (tTru (mCall m_law_is_letter (aCons (mV 3) aNil)))) (mV 3) [3]) aNil)) (mC (.int 0)))) (sRet (mC (.bl false))) sNil)
    (sIf (tB' (m2 dNe (mB bLst (aCons (mV 2) aNil)) (mSortSet (mV 2)))) (sRet (mC (.bl false))) sNil)) [some d0, some dk, some v, o3] S = .ok (.rt (.bl false)) S) := fun a b => by
    rw [b]
    exact .inr ⟨rfl, seq_rt (if_t (tor_f (tnot_t tN) (tor_t (tnot_f (tru_bl (is_ok rfl a))))) (ret_ok rfl))⟩
  cases n with
  | zero => exact hv.elim
  | succ n =>
    cases v with
    | tup l =>
      clear no
      obtain ⟨hz, hl⟩ := hv
      have bl : bLen [.tup l] S = some (.int l.length, S) := rfl
      have q := eq_int (S := S) (l.length : Int) 0
      have g := gtN4 l.length S
      show (((!l.isEmpty && (l.all isL && strict (l.map code))) && decide (l.length ≤ 4)) = true ∧ _) ∨ (((!l.isEmpty && (l.all isL && strict (l.map code))) && decide (l.length ≤ 4)) = false ∧ _)
      by_cases c0 : l.length = 0
      · rw [show ((l.length : Int) == 0) = true by rw [c0]; rfl] at q
        rw [show l.isEmpty = true by rw [List.length_eq_zero_iff.mp c0]; rfl]
        exact .inr ⟨rfl, seq_rt (if_t (tor_f (tnot_t tN) (tor_f (tnot_t (tru_bl (is_ok rfl rfl))) (tor_t (tst_ok (m2_ok (b_ok (one_ok rfl) bl) rfl q))))) (ret_ok rfl))⟩
      rw [show ((l.length : Int) == 0) = false by rw [beq_eq_false_iff_ne]; omega] at q
      rw [show l.isEmpty = false by cases l with | nil => exact absurd rfl c0 | cons _ _ => rfl, Bool.not_false, Bool.true_and]
      by_cases c4 : l.length ≤ 4
      · rw [decide_eq_true c4] at g ⊢
        rw [Bool.and_true]
        have st : sIf (tOr' (tNot' (tTru (mCall m_law_is_name (aCons (mV 1) aNil)))) (tOr' (tNot' (tTru (mIs .tup (mV 2)))) (tOr' (tB' (m2 dEq (mB bLen (aCons (mV 2) aNil)) (mC (.int 0)))) (tB' (m2 dGt (mB bLen (aCons (mV 2) aNil)) (mC (.int 4))))))) (sRet (mC (.bl false))) sNil [some d0, some dk, some (.tup l), o3] S = .ok (.nx [some d0, some dk, some (.tup l), o3]) S :=
          if_f (tor_f (tnot_t tN) (tor_f (tnot_t (tru_bl (is_ok rfl rfl))) (tor_f (tst_ok (m2_ok (b_ok (one_ok rfl) bl) rfl q)) (tst_ok (m2_ok (b_ok (one_ok rfl) bl) rfl g))))) rfl
        have e1 := comp_fltα (hold := none) (S0 := S) (S := S) (ι := id) (φ := id) (p := fun d => !isL d) (g := gN 3) (t := tNot' (tTru (mCall m_law_is_letter (aCons (mV 3) aNil)))) (f := mV 3) (enw := [some d0, some dk, some (.tup l), none]) rfl l []
          (fun d hd => ⟨_, rfl, tnot (tru_bl (call_ok (one_ok rfl) (letter_both S (hl d hd)).2)), rfl⟩) (by simpa using size4 (by omega))
        rw [List.nil_append, List.map_id, List.map_id] at e1
        have cnt : mB bLen (aCons (mComp (iSeq (mV 2)) (gN 3) (tNot' (tTru (mCall m_law_is_letter (aCons (mV 3) aNil)))) (mV 3) [3]) aNil) [some d0, some dk, some (.tup l), o3] S = .ok (.int ((l.filter fun d => !isL d).length : Nat)) S :=
          b_ok (one_ok (cmp_of (src := ⟨none, l⟩) (seq_src rfl rfl) e1)) rfl
        have g0 : dGt (.int ((l.filter fun d => !isL d).length : Nat)) (.int 0) S = some (.bl (!l.all isL), S) := by
          show some (D.bl (decide ((0 : Int) < ((l.filter fun d => !isL d).length : Nat))), S) = _
          have := filt_no l
          cases c : l.all isL with
          | true =>
            rw [c] at this
            have := this.mpr rfl
            rw [decide_eq_false (by omega)]
            rfl
          | false =>
            rw [c] at this
            have : ¬ (((l.filter fun d => !isL d).length : Nat) : Int) = 0 := fun z => by have := this.mp z; cases this
            rw [decide_eq_true (by omega)]
            rfl
        cases cL : l.all isL with
        | false =>
          rw [cL] at g0
          exact .inr ⟨rfl, seq_nx st (seq_rt (if_t (tst_ok (m2_ok cnt rfl g0)) (ret_ok rfl)))⟩
        | true =>
          rw [cL] at g0
          obtain ⟨cs, rfl, hs⟩ := all_ones cL
          have st2 : sIf (tB' (m2 dGt (mB bLen (aCons (mComp (iSeq (mV 2)) (gN 3) (tNot' (tTru (mCall m_law_is_letter (aCons (mV 3) aNil)))) (mV 3) [3]) aNil)) (mC (.int 0)))) (sRet (mC (.bl false))) sNil [some d0, some dk, some (.tup (cs.map oneD)), o3] S = .ok (.nx [some d0, some dk, some (.tup (cs.map oneD)), o3]) S :=
            if_f (tst_ok (m2_ok cnt rfl g0)) rfl
          rw [Bool.true_and, code_ones]
          have ms : (cs.map oneD) = (cs.map one).map D.str := by rw [List.map_map]; rfl
          have e2 : mB bLst (aCons (mV 2) aNil) [some d0, some dk, some (.tup (cs.map oneD)), o3] S = .ok (.lst (cs.map oneD)) S := rfl
          have e3 : mSortSet (mV 2) [some d0, some dk, some (.tup (cs.map oneD)), o3] S = .ok (.lst ((srtS (uniq (cs.map one))).map D.str)) S := by
            show (match strsOf (cs.map oneD) with
              | some xs => if xs.length < 64 then R.ok (D.lst ((srtS (uniq xs)).map D.str)) S else .bad
              | none => .bad) = _
            rw [ms, strs_map]
            show (if (cs.map one).length < 64 then _ else _) = _
            rw [if_pos (by rw [List.length_map] at c4 ⊢; omega)]
          have ne := ne_strs2 (xs := cs.map one) (ys := srtS (uniq (cs.map one))) (ones_ok7 hs) (fun y hy => ones_ok7 hs y ((uniq_mem _ _).mp ((srtS_perm _).mem_iff.mp hy))) S
          rw [srt_strict, ← ms] at ne
          cases cS : strict cs with
          | false =>
            rw [cS] at ne
            exact .inr ⟨rfl, seq_nx st (seq_nx st2 (if_t (tst_ok (m2_ok e2 e3 ne)) (ret_ok rfl)))⟩
          | true =>
            rw [cS] at ne
            exact .inl ⟨rfl, seq_nx st (seq_nx st2 (if_f (tst_ok (m2_ok e2 e3 ne)) rfl))⟩
      · rw [decide_eq_false c4] at g ⊢
        rw [Bool.and_false]
        exact .inr ⟨rfl, seq_rt (if_t (tor_f (tnot_t tN) (tor_f (tnot_t (tru_bl (is_ok rfl rfl))) (tor_f (tst_ok (m2_ok (b_ok (one_ok rfl) bl) rfl q)) (tst_ok (m2_ok (b_ok (one_ok rfl) bl) rfl g))))) (ret_ok rfl))⟩
    | str x => exact no rfl rfl
    | int v => exact no rfl rfl
    | bl b => exact no rfl rfl
    | non => exact no rfl rfl
    | lst l => exact no rfl rfl
    | dct ks l => exact no rfl rfl
    | _ =>
      rcases (hv : _ = tape0 ∨ _ = tape1) with e | e <;> first | (rw [e] at no ⊢; exact no rfl rfl) | (cases e)
end K01

namespace K01
open PySem PySem.Spec PyProof.Rows L2 Mi
theorem law_layout_dct {n : Nat} {ks : List Key} {l : List D} (S : So) (h : Val (n + 1) (.dct ks l)) : m_law_is_layout [.dct ks l] S = .ok (.bl (isLay (.dct ks l))) S := by
  obtain ⟨h1, h2, h3, h4, h5⟩ := h
  have bl : bLen [.dct ks l] S = some (.int ks.length, S) := rfl
  have q := eq_int (S := S) (ks.length : Int) 0
  have g := gtN4 ks.length S
  show _ = R.ok (D.bl ((decide (1 ≤ ks.length) && decide (ks.length ≤ 4)) && (ks.zip l).all pOk)) S
  by_cases c0 : ks.length = 0
  · rw [show ((ks.length : Int) == 0) = true by rw [c0]; rfl] at q
    rw [decide_eq_false (show ¬ 1 ≤ ks.length by omega)]
    exact body_rt rfl (seq_rt (if_t (tor_f (tnot_t (tru_bl (is_ok rfl rfl))) (tor_t (tst_ok (m2_ok (b_ok (one_ok rfl) bl) rfl q)))) (ret_ok rfl)))
  rw [show ((ks.length : Int) == 0) = false by rw [beq_eq_false_iff_ne]; omega] at q
  rw [decide_eq_true (show 1 ≤ ks.length by omega), Bool.true_and]
  cases c4 : decide (ks.length ≤ 4) with
  | false =>
    rw [c4] at g
    exact body_rt rfl (seq_rt (if_t (tor_f (tnot_t (tru_bl (is_ok rfl rfl))) (tor_f (tst_ok (m2_ok (b_ok (one_ok rfl) bl) rfl q)) (tst_ok (m2_ok (b_ok (one_ok rfl) bl) rfl g)))) (ret_ok rfl)))
  | true =>
    rw [c4] at g
    rw [Bool.true_and]
    have z1 : (ks.zip l).map (·.1) = ks := List.map_fst_zip (Nat.le_of_eq h2.symm)
    have z2 : (ks.zip l).map (·.2) = l := List.map_snd_zip (Nat.le_of_eq h2)
    have fa := for_all (S := S) (S0 := S) (ι := fun p : Key × D => kD p.1) (p := pOk) (g := gN 1) (J := fun en => ∃ o1 o2 o3, en = [some (.dct ks l), o1, o2, o3])
      (body := sSeq (sSet 2 (m2 dIx (mV 0) (mV 1))) (sSeq (sIf (tOr' (tNot' (tTru (mCall m_law_is_name (aCons (mV 1) aNil)))) (tOr' (tNot' (tTru (mIs .tup (mV 2)))) (tOr' (tB' (m2 dEq (mB bLen (aCons (mV 2) aNil)) (mC (.int 0)))) (tB' (m2 dGt (mB bLen (aCons (mV 2) aNil)) (mC (.int 4))))))) (sRet (mC (.bl false))) sNil)
    (sSeq (sIf (tB' (m2 dGt (mB bLen (aCons (mComp (iSeq (mV 2)) (gN 3) (tNot' (tTru (mCall m_law_is_letter (aCons (mV 3) aNil)))) (mV 3) [3]) aNil)) (mC (.int 0)))) (sRet (mC (.bl false))) sNil)
    (sIf (tB' (m2 dNe (mB bLst (aCons (mV 2) aNil)) (mSortSet (mV 2)))) (sRet (mC (.bl false))) sNil)))) (ks.zip l) [some (.dct ks l), none, none, none] ⟨_, _, _, rfl⟩ (fun p hp en hJ => by
        obtain ⟨o1, o2, o3, rfl⟩ := hJ
        obtain ⟨k, v⟩ := p
        have hm := List.of_mem_zip hp
        obtain ⟨x, rfl, hx, hx2⟩ := h4 k hm.1
        have hv := h5 v hm.2
        have hk : Val (n + 1) (.str x) := ⟨hx, hx2⟩
        have ix : dIx (.dct ks l) (.str x) S = some (v, S) := by
          have lk := look_at (ks.zip l) (by rw [z1]; exact h3) hp
          rw [z1, z2] at lk
          unfold dIx
          simp only [dctOf, Mi.keyOf]
          rw [lk]
          rfl
        have tN : tTru (mCall m_law_is_name (aCons (mV 1) aNil)) [some (.dct ks l), some (.str x), some v, o3] S = .ok (isN (.str x)) S := tru_bl (call_ok (one_ok rfl) (name_both S hk).2)
        refine ⟨_, rfl, ?_⟩
        show (((isN (.str x) && (isLtr v && decide (lenT v ≤ 4))) = true) ∧ _) ∨ (((isN (.str x) && (isLtr v && decide (lenT v ≤ 4))) = false) ∧ _)
        have s2 : sSet 2 (m2 dIx (mV 0) (mV 1)) [some (.dct ks l), some (.str x), o2, o3] S = .ok (.nx [some (.dct ks l), some (.str x), some v, o3]) S := set_ok (m2_ok rfl rfl ix)
        cases c1 : isN (.str x) with
        | false =>
          rw [c1] at tN
          exact .inr ⟨rfl, seq_nx s2 (seq_rt (if_t (tor_t (tnot_f tN)) (ret_ok rfl)))⟩
        | true =>
          rw [c1] at tN
          rcases law_ltr S hv tN _ rfl with ⟨a, b⟩ | ⟨a, b⟩
          · exact .inl ⟨by rw [a]; rfl, _, seq_nx s2 b, _, _, _, rfl⟩
          · exact .inr ⟨by rw [a]; rfl, seq_nx s2 b⟩)
    have src : iKeysV (mV 0) [some (.dct ks l), none, none, none] S = .ok ⟨none, (ks.zip l).map fun p => kD p.1⟩ S := by
      show R.ok (⟨none, ks.map kD⟩ : Src) S = _
      rw [show (ks.zip l).map (fun p => kD p.1) = ((ks.zip l).map (·.1)).map kD by rw [List.map_map]; rfl, z1]
    have st : sIf (tOr' (tNot' (tTru (mIs .dct (mV 0)))) (tOr' (tB' (m2 dEq (mB bLen (aCons (mV 0) aNil)) (mC (.int 0)))) (tB' (m2 dGt (mB bLen (aCons (mV 0) aNil)) (mC (.int 4)))))) (sRet (mC (.bl false))) sNil [some (.dct ks l), none, none, none] S = .ok (.nx [some (.dct ks l), none, none, none]) S :=
      if_f (tor_f (tnot_t (tru_bl (is_ok rfl rfl))) (tor_f (tst_ok (m2_ok (b_ok (one_ok rfl) bl) rfl q)) (tst_ok (m2_ok (b_ok (one_ok rfl) bl) rfl g)))) rfl
    rcases fa with ⟨a, en', f, o1, o2, o3, rfl⟩ | ⟨a, f⟩
    · rw [a]
      exact body_rt rfl (seq_nx st (seq_nx (for_of src f) (ret_ok rfl)))
    · rw [a]
      exact body_rt rfl (seq_nx st (seq_rt (for_of src f)))
theorem layout_both {n : Nat} {d : D} (S : So) (h : Val n d) : m_is_layout [d] S = .ok (.bl (isLay d)) S ∧ m_law_is_layout [d] S = .ok (.bl (isLay d)) S := by
  cases n with
  | zero => exact h.elim
  | succ n =>
    have no : isD .dct d S = some false → isLay d = false → m_is_layout [d] S = .ok (.bl (isLay d)) S ∧ m_law_is_layout [d] S = .ok (.bl (isLay d)) S := fun a b => by
      rw [b]
      exact ⟨body_rt rfl (seq_rt (if_t (tor_t (tnot_f (tru_bl (is_ok rfl a)))) (ret_ok rfl))), body_rt rfl (seq_rt (if_t (tor_t (tnot_f (tru_bl (is_ok rfl a)))) (ret_ok rfl)))⟩
    cases d with
    | dct ks l => exact ⟨is_layout_dct S h, law_layout_dct S h⟩
    | str x => exact no rfl rfl
    | int v => exact no rfl rfl
    | bl b => exact no rfl rfl
    | non => exact no rfl rfl
    | lst l => exact no rfl rfl
    | tup l => exact no rfl rfl
    | _ =>
      rcases (h : _ = tape0 ∨ _ = tape1) with e | e <;> first | (rw [e] at no ⊢; exact no rfl rfl) | (cases e)
end K01

namespace K01
open PySem PySem.Spec PyProof.Rows L2 Mi
/-! ### what the law draws -/
def VC (c : Nat) : Nat → D → Prop
  | 0, _ => False
  | _ + 1, .non => True
  | _ + 1, .bl _ => True
  | _ + 1, .int i => -X60 * X60 < i ∧ i < X60 * X60
  | _ + 1, .str x => Ok7 x ∧ x.length ≤ c
  | n + 1, .tup l => l.length ≤ c ∧ ∀ e ∈ l, VC c n e
  | n + 1, .lst l => l.length ≤ c ∧ ∀ e ∈ l, VC c n e
  | n + 1, .dct ks l => ks.length ≤ c ∧ l.length = ks.length ∧ ks.Nodup ∧ (∀ k ∈ ks, ∃ x : Str, k = Sum.inr x ∧ Ok7 x ∧ x.length ≤ c) ∧ ∀ e ∈ l, VC c n e
  | _ + 1, d => d = tape0 ∨ d = tape1
theorem VC.mono {c c' : Nat} (hc : c ≤ c') : ∀ {n n' : Nat} {d : D}, n ≤ n' → VC c n d → VC c' n' d
  | 0, _, _, _, h => h.elim
  | n + 1, n', d, hn, h => by
    obtain ⟨m, rfl⟩ : ∃ m, n' = m + 1 := ⟨n' - 1, by omega⟩
    have hm : n ≤ m := by omega
    cases d with
    | non => exact trivial
    | bl b => exact trivial
    | int i => exact h
    | str x => exact ⟨h.1, Nat.le_trans h.2 hc⟩
    | tup l => exact ⟨Nat.le_trans h.1 hc, fun e he => VC.mono hc hm (h.2 e he)⟩
    | lst l => exact ⟨Nat.le_trans h.1 hc, fun e he => VC.mono hc hm (h.2 e he)⟩
    | dct ks l =>
      obtain ⟨h1, h2, h3, h4, h5⟩ := h
      exact ⟨Nat.le_trans h1 hc, h2, h3, fun k hk => let ⟨x, e, o, z⟩ := h4 k hk; ⟨x, e, o, Nat.le_trans z hc⟩, fun e he => VC.mono hc hm (h5 e he)⟩
    | _ => exact h
theorem VC.val {c : Nat} (hc : c ≤ 60) : ∀ {n n' : Nat} {d : D}, n ≤ n' → VC c n d → Val n' d
  | 0, _, _, _, h => h.elim
  | n + 1, n', d, hn, h => by
    obtain ⟨m, rfl⟩ : ∃ m, n' = m + 1 := ⟨n' - 1, by omega⟩
    have hm : n ≤ m := by omega
    cases d with
    | non => exact trivial
    | bl b => exact trivial
    | int i => exact h
    | str x => exact ⟨h.1, Nat.le_trans h.2 (by omega)⟩
    | tup l => exact ⟨Nat.le_trans h.1 (by omega), fun e he => VC.val hc hm (h.2 e he)⟩
    | lst l => exact ⟨Nat.le_trans h.1 (by omega), fun e he => VC.val hc hm (h.2 e he)⟩
    | dct ks l =>
      obtain ⟨h1, h2, h3, h4, h5⟩ := h
      exact ⟨Nat.le_trans h1 hc, h2, h3, fun k hk => let ⟨x, e, o, z⟩ := h4 k hk; ⟨x, e, o, Nat.le_trans z (by omega)⟩, fun e he => VC.val hc hm (h5 e he)⟩
    | _ => exact h
abbrev X99 : Int := X60 * 1000000000000000000000000000000000000000
theorem sv {c n : Nat} {x : Str} (h : (x.cps.toList.all (fun c => decide (c < 0x110000)) && decide (x.length ≤ 20)) = true) (hc : 20 ≤ c) : VC c (n + 1) (.str x) := by
  simp only [Bool.and_eq_true, decide_eq_true_eq, List.all_eq_true] at h
  exact ⟨h.1, Nat.le_trans h.2 hc⟩
theorem iv {c n : Nat} {i : Int} (h : (decide (-X60 * X60 < i) && decide (i < X60 * X60)) = true) : VC c (n + 1) (.int i) := by
  simp only [Bool.and_eq_true, decide_eq_true_eq] at h
  exact h
theorem mul_big {i j : Int} {S : So} (h : i.natAbs.log2 + j.natAbs.log2 < 1000000) : dMul (.int i) (.int j) S = some (.int (i * j), S) := by
  unfold dMul
  dsimp only
  split
  · rfl
  · first | rfl | rw [if_pos h]
theorem edge_ok {en : En} {S : So} : mLst (aCons (m2 dPow (mC (.int 10)) (mC (.int 60))) (aCons (m2 dSub (m2 dPow (mC (.int 10)) (mC (.int 60))) (mC (.int 1))) (aCons (mC (.int 0)) (aCons (mC (.int 1)) (aCons (m2 dMul (m2 dPow (mC (.int 10)) (mC (.int 60))) (m2 dPow (mC (.int 10)) (mC (.int 39)))) aNil))))) en S = .ok (.lst [.int X60, .int (X60 - 1), .int 0, .int 1, .int X99]) S := by
  have p39 : dPow (.int 10) (.int 39) S = some (.int 1000000000000000000000000000000000000000, S) := pow_ok (by decide) (by decide +kernel)
  have mu : dMul (.int X60) (.int 1000000000000000000000000000000000000000) S = some (.int X99, S) := by
    have c2 : (X60.natAbs.log2 + (1000000000000000000000000000000000000000 : Int).natAbs.log2 < 1000000) := by decide +kernel
    exact mul_big c2
  exact lst_ok (cons_ok (m2_ok rfl rfl (p60 S)) (cons_ok (m2_ok (m2_ok rfl rfl (p60 S)) rfl rfl) (cons_ok rfl (cons_ok rfl (one_ok (m2_ok (m2_ok rfl rfl (p60 S)) (m2_ok rfl rfl p39) mu)))))) (size4 (Nat.le_of_ble_eq_true rfl))
def odd1 (e : Int) : List D := [.non, .bl true, .bl false, .int e, .int (-e), .str "", .str "end", .str "A", .str "a1", .str "nine letter", .str "longnames", .tup [], .lst [], .dct [] [], .tup [.str "a"]]
def odd2 : List D := [.lst [.str "a"], .dct [.inr "a"] [.str "b"], .dct [.inr "s"] [.tup [.str "a", .str "b"]], .tup [.non], .tup [.int 0, .str "s", .str "a", .int 1], .tup [.str "a", .tup []], .tup [.str "end"], .str "told"]
theorem odd1_ok {en : En} {S : So} {e : Int} (h : mV 1 en S = .ok (.int e) S) : mLst (aCons (mC .non) (aCons (mC (.bl true)) (aCons (mC (.bl false)) (aCons (mV 1) (aCons (m1 dNeg (mV 1)) (aCons (mC (.str ("" : Str))) (aCons (mC (.str ("end" : Str))) (aCons (mC (.str ("A" : Str))) (aCons (mC (.str ("a1" : Str))) (aCons (mC (.str ("nine letter" : Str))) (aCons (mC (.str ("longnames" : Str))) (aCons (mTup aNil) (aCons (mLst aNil) (aCons mDct0 (aCons (mTup (aCons (mC (.str ("a" : Str))) aNil)) aNil))))))))))))))) en S = .ok (.lst (odd1 e)) S :=
  have z0 : (0 : Nat) ≤ sizeLine := Nat.zero_le _
  have z1 : (1 : Nat) ≤ sizeLine := size4 (by decide)
  lst_ok (cons_ok rfl (cons_ok rfl (cons_ok rfl (cons_ok h (cons_ok (m1_ok h rfl) (cons_ok rfl (cons_ok rfl (cons_ok rfl (cons_ok rfl (cons_ok rfl (cons_ok rfl (cons_ok (tup_ok rfl z0) (cons_ok (lst_ok rfl z0) (cons_ok rfl (one_ok (tup_ok (one_ok rfl) z1)))))))))))))))) (size4 (Nat.le_of_ble_eq_true rfl))
theorem odd2_ok {en : En} {S : So} : mLst (aCons (mLst (aCons (mC (.str ("a" : Str))) aNil)) (aCons (mDct [((mC (.str ("a" : Str))), (mC (.str ("b" : Str))))]) (aCons (mDct [((mC (.str ("s" : Str))), (mTup (aCons (mC (.str ("a" : Str))) (aCons (mC (.str ("b" : Str))) aNil))))]) (aCons (mTup (aCons (mC .non) aNil)) (aCons (mTup (aCons (mC (.int 0)) (aCons (mC (.str ("s" : Str))) (aCons (mC (.str ("a" : Str))) (aCons (mC (.int 1)) aNil))))) (aCons (mTup (aCons (mC (.str ("a" : Str))) (aCons (mTup aNil) aNil))) (aCons (mTup (aCons (mC (.str ("end" : Str))) aNil)) (aCons (mC (.str ("told" : Str))) aNil)))))))) en S = .ok (.lst odd2) S := by
  have z0 : (0 : Nat) ≤ sizeLine := Nat.zero_le _
  have z1 : (1 : Nat) ≤ sizeLine := size4 (by decide)
  have z2 : (2 : Nat) ≤ sizeLine := size4 (by decide)
  have z4 : (4 : Nat) ≤ sizeLine := size4 (by decide)
  have d1 : mDct [((mC (.str ("a" : Str))), (mC (.str ("b" : Str))))] en S = .ok (.dct [.inr "a"] [.str "b"]) S := rfl
  have t1 : mTup (aCons (mC (.str ("a" : Str))) (aCons (mC (.str ("b" : Str))) aNil)) en S = .ok (.tup [.str "a", .str "b"]) S := tup_ok rfl z2
  have d2 : mDct [((mC (.str ("s" : Str))), (mTup (aCons (mC (.str ("a" : Str))) (aCons (mC (.str ("b" : Str))) aNil))))] en S = .ok (.dct [.inr "s"] [.tup [.str "a", .str "b"]]) S := by
    unfold mDct
    simp only [mPairs, t1]
    rfl
  exact lst_ok (cons_ok (lst_ok (one_ok rfl) z1) (cons_ok d1 (cons_ok d2 (cons_ok (tup_ok (one_ok rfl) z1) (cons_ok (tup_ok rfl z4) (cons_ok (tup_ok (cons_ok rfl (one_ok (tup_ok rfl z0))) z2) (cons_ok (tup_ok (one_ok rfl) z1) (one_ok rfl)))))))) (size4 (Nat.le_of_ble_eq_true rfl))
theorem mk1_ok {en : En} {S : So} : mMake "Tape" m_Tape_init G4 1 0 (aCons (mTup (aCons (mTup (aCons (mC (.int 2)) (aCons (mC (.str ("s" : Str))) (aCons (mC (.str ("a" : Str))) (aCons (mC (.int 1)) aNil))))) aNil)) aNil) aNil en S = .ok tape1 (S ++ [none]) := by
  have z1 : (1 : Nat) ≤ sizeLine := size4 (by decide)
  have z4 : (4 : Nat) ≤ sizeLine := size4 (by decide)
  have a1 : aCons (mTup (aCons (mTup (aCons (mC (.int 2)) (aCons (mC (.str ("s" : Str))) (aCons (mC (.str ("a" : Str))) (aCons (mC (.int 1)) aNil))))) aNil)) aNil en S = .ok [.tup [.tup [.int 2, .str "s", .str "a", .int 1]]] S := one_ok (tup_ok (one_ok (tup_ok rfl z4)) z1)
  unfold mMake
  rw [a1, R.bind_ok, nil_ok, R.bind_ok, if_pos ⟨rfl, rfl⟩]
  have s0 : NameOk "s" := ⟨by decide +kernel, by decide +kernel, by decide +kernel, by decide +kernel⟩
  have l0 : LetOk "a" := ⟨97, by decide +kernel, rfl⟩
  have := made_ok (es := [⟨2, "s", "a", 1⟩]) (by intro e he; rw [List.mem_singleton.mp he]; exact ⟨s0, l0⟩) (by simp) (S := S) (en := en) .non 2 (.inr ⟨rfl, rfl⟩)
  rw [if_pos (by decide +kernel)] at this
  exact this
theorem odd_all {e r : Int} (he : -X60 * X60 < e ∧ e < X60 * X60) (hr : 0 ≤ r ∧ r < 10 ^ 61) : ∀ d ∈ (odd1 e ++ odd2) ++ [.int r, tape0, tape1], VC 25 3 d := by
  have hr2 : -X60 * X60 < r ∧ r < X60 * X60 := by
    have : (10 : Int) ^ 61 < X60 * X60 := by decide +kernel
    have : -X60 * X60 < 0 := by decide +kernel
    omega
  have hn : -X60 * X60 < -e ∧ -e < X60 * X60 := by
    have := he.1
    have := he.2
    rw [Int.neg_mul] at *
    omega
  have nilA : ∀ (P : D → Prop), ∀ e ∈ ([] : List D), P e := fun _ e h => by cases h
  have oneA : ∀ (P : D → Prop) (d : D), P d → ∀ e ∈ [d], P e := fun _ _ h e k => by rw [List.mem_singleton.mp k]; exact h
  have S1 : ∀ {n : Nat} {x : Str}, (x.cps.toList.all (fun c => decide (c < 0x110000)) && decide (x.length ≤ 20)) = true → VC 25 (n + 1) (.str x) := fun h => sv h (by decide)
  have K1 : ∀ {x : Str}, (x.cps.toList.all (fun c => decide (c < 0x110000)) && decide (x.length ≤ 20)) = true → ∃ y : Str, (Sum.inr x : Key) = Sum.inr y ∧ Ok7 y ∧ y.length ≤ 25 := fun {x} h => ⟨x, rfl, S1 (n := 0) h⟩
  have KA : ∀ (x : Str), (x.cps.toList.all (fun c => decide (c < 0x110000)) && decide (x.length ≤ 20)) = true → ∀ k ∈ [(Sum.inr x : Key)], ∃ y : Str, k = Sum.inr y ∧ Ok7 y ∧ y.length ≤ 25 := fun x h k hk => by rw [List.mem_singleton.mp hk]; exact K1 h
  intro d hd
  simp only [odd1, odd2, List.cons_append, List.nil_append] at hd
  rcases List.mem_cons.mp hd with rfl | hd
  · exact trivial
  rcases List.mem_cons.mp hd with rfl | hd
  · exact trivial
  rcases List.mem_cons.mp hd with rfl | hd
  · exact trivial
  rcases List.mem_cons.mp hd with rfl | hd
  · exact he
  rcases List.mem_cons.mp hd with rfl | hd
  · exact hn
  rcases List.mem_cons.mp hd with rfl | hd
  · exact S1 (by decide +kernel)
  rcases List.mem_cons.mp hd with rfl | hd
  · exact S1 (by decide +kernel)
  rcases List.mem_cons.mp hd with rfl | hd
  · exact S1 (by decide +kernel)
  rcases List.mem_cons.mp hd with rfl | hd
  · exact S1 (by decide +kernel)
  rcases List.mem_cons.mp hd with rfl | hd
  · exact S1 (by decide +kernel)
  rcases List.mem_cons.mp hd with rfl | hd
  · exact S1 (by decide +kernel)
  rcases List.mem_cons.mp hd with rfl | hd
  · exact ⟨by decide, nilA _⟩
  rcases List.mem_cons.mp hd with rfl | hd
  · exact ⟨by decide, nilA _⟩
  rcases List.mem_cons.mp hd with rfl | hd
  · exact ⟨by decide, rfl, List.nodup_nil, (fun k hk => by cases hk), nilA _⟩
  rcases List.mem_cons.mp hd with rfl | hd
  · exact ⟨by decide, oneA _ _ (S1 (by decide +kernel))⟩
  rcases List.mem_cons.mp hd with rfl | hd
  · exact ⟨by decide, oneA _ _ (S1 (by decide +kernel))⟩
  rcases List.mem_cons.mp hd with rfl | hd
  · exact ⟨by decide, rfl, by simp, KA _ (by decide +kernel), oneA _ _ (S1 (by decide +kernel))⟩
  rcases List.mem_cons.mp hd with rfl | hd
  · exact ⟨by decide, rfl, by simp, KA _ (by decide +kernel), oneA _ _ ⟨by decide, fun e he => by
      rcases List.mem_cons.mp he with rfl | he
      · exact S1 (by decide +kernel)
      · rw [List.mem_singleton.mp he]; exact S1 (by decide +kernel)⟩⟩
  rcases List.mem_cons.mp hd with rfl | hd
  · exact ⟨by decide, oneA _ _ trivial⟩
  rcases List.mem_cons.mp hd with rfl | hd
  · refine ⟨by decide, fun e he => ?_⟩
    rcases List.mem_cons.mp he with rfl | he
    · exact iv (by decide +kernel)
    rcases List.mem_cons.mp he with rfl | he
    · exact S1 (by decide +kernel)
    rcases List.mem_cons.mp he with rfl | he
    · exact S1 (by decide +kernel)
    rw [List.mem_singleton.mp he]
    exact iv (by decide +kernel)
  rcases List.mem_cons.mp hd with rfl | hd
  · refine ⟨by decide, fun e he => ?_⟩
    rcases List.mem_cons.mp he with rfl | he
    · exact S1 (by decide +kernel)
    rw [List.mem_singleton.mp he]
    exact ⟨by decide, nilA _⟩
  rcases List.mem_cons.mp hd with rfl | hd
  · exact ⟨by decide, oneA _ _ (S1 (by decide +kernel))⟩
  rcases List.mem_cons.mp hd with rfl | hd
  · exact S1 (by decide +kernel)
  rcases List.mem_cons.mp hd with rfl | hd
  · exact hr2
  rcases List.mem_cons.mp hd with rfl | hd
  · exact .inl rfl
  rw [List.mem_singleton.mp hd]
  exact .inr rfl
/-- an odd value -/
theorem odd_ok {S : So} {b : Nat} (h : Bag S b) : ∃ d S', m_law_odd [.ref b] S = .ok d S' ∧ Bag S' b ∧ Ch b S S' ∧ VC 25 3 d := by
  obtain ⟨e0, S1, e1, h1, c1, hd⟩ := pick_seq (d0 := .lst [.int X60, .int (X60 - 1), .int 0, .int 1, .int X99]) (.inl rfl) h (by simp) (by decide)
  obtain ⟨e, rfl, he⟩ : ∃ e, e0 = .int e ∧ (-X60 * X60 < e ∧ e < X60 * X60) := by
    have w : ∀ i : Int, (decide (-X60 * X60 < i) && decide (i < X60 * X60)) = true → (-X60 * X60 < i ∧ i < X60 * X60) := fun i h => by
      simp only [Bool.and_eq_true, decide_eq_true_eq] at h
      exact h
    rcases List.mem_cons.mp hd with rfl | hd
    · exact ⟨_, rfl, w _ (by decide +kernel)⟩
    rcases List.mem_cons.mp hd with rfl | hd
    · exact ⟨_, rfl, w _ (by decide +kernel)⟩
    rcases List.mem_cons.mp hd with rfl | hd
    · exact ⟨_, rfl, w _ (by decide +kernel)⟩
    rcases List.mem_cons.mp hd with rfl | hd
    · exact ⟨_, rfl, w _ (by decide +kernel)⟩
    rw [List.mem_singleton.mp hd]
    exact ⟨_, rfl, w _ (by decide +kernel)⟩
  obtain ⟨r, S2, e2, h2, c2, r0, r1⟩ := throw_bag (t := 10 ^ 61) h1 (by decide) (by decide +kernel)
  have p61 : dPow (.int 10) (.int 61) S1 = some (.int (10 ^ 61), S1) := pow_ok (by decide) (by decide +kernel)
  obtain ⟨d, S3, e3, h3, c3, hd3⟩ := pick_seq (d0 := .lst ((odd1 e ++ odd2) ++ [.int r, tape0, tape1])) (.inl rfl) (h2.app (T := [none] ++ [none])) (by simp) (by simp [odd1, odd2])
  refine ⟨d, S3, ?_, h3, ((c1.trans c2).trans Ch.app).trans c3, odd_all he ⟨r0, r1⟩ d hd3⟩
  refine body_rt rfl (seq_nx (set_ok (call_ok (cons_ok rfl (one_ok edge_ok)) e1)) (seq_nx (set_ok (odd1_ok rfl)) (seq_nx (set_ok (m2_ok rfl odd2_ok (add_lst (size4 (Nat.le_of_ble_eq_true rfl))))) (ret_ok ?_))))
  have l3 : mLst (aCons (mCall m_law_throw (aCons (mV 0) (aCons (m2 dPow (mC (.int 10)) (mC (.int 61))) aNil))) (aCons (mMake "Tape" m_Tape_init G3 0 0 aNil aNil) (aCons (mMake "Tape" m_Tape_init G4 1 0 (aCons (mTup (aCons (mTup (aCons (mC (.int 2)) (aCons (mC (.str ("s" : Str))) (aCons (mC (.str ("a" : Str))) (aCons (mC (.int 1)) aNil))))) aNil)) aNil) aNil) aNil))) [some (.ref b), some (.int e), some (.lst (odd1 e ++ odd2))] S1 = .ok (.lst [.int r, tape0, tape1]) (S2 ++ ([none] ++ [none])) := by
    rw [← List.append_assoc]
    exact lst_ok (cons_ok (call_ok (cons_ok rfl (one_ok (m2_ok rfl rfl p61))) e2) (cons_ok make0_ok (one_ok mk1_ok))) (size4 (Nat.le_of_ble_eq_true rfl))
  exact call_ok (cons_ok rfl (one_ok (m2_ok rfl l3 (add_lst (size4 (Nat.le_of_ble_eq_true rfl)))))) e3
end K01

namespace K01
open PySem PySem.Spec PyProof.Rows L2 Mi
/-! ### one change -/
def SG : Str := "abcdefghijklmnopqrstuvwxyz ABCXYZ019_-.,:;+*/()[]{}<>=!?&@#$^`|~'"
theorem SG_ok : ∀ c ∈ SG.cps.toList, c < 0x110000 := by decide +kernel
theorem cut_pre (x : Str) (p : Nat) : (cutS x none (some (p : Int))).cps.toList = x.cps.toList.take (min p x.length) := by
  unfold cutS
  rw [HT.sIx_none, HT.sIx_nat]
  simp [len_def]
theorem cut_suf (x : Str) (q : Nat) : (cutS x (some (q : Int)) none).cps.toList = x.cps.toList.drop (min q x.length) := by
  unfold cutS
  rw [HT.sIx_none, HT.sIx_nat]
  have : x.cps.size = x.cps.toList.length := by simp
  simp only [len_def, this]
  rw [List.take_of_length_le]
  simp
theorem cutD_pre (l : List D) (p : Nat) : Mi.cutD l none (some (p : Int)) = l.take (min p l.length) := by
  unfold Mi.cutD
  rw [HT.sIx_none, HT.sIx_nat]
  simp
theorem cutD_suf (l : List D) (q : Nat) : Mi.cutD l (some (q : Int)) none = l.drop (min q l.length) := by
  unfold Mi.cutD
  rw [HT.sIx_none, HT.sIx_nat, List.take_of_length_le]
  simp
theorem sl_str {f : E D} {fl fh : E (Option Int)} {en : En} {S S1 S2 S3 : So} {x : Str} {lo hi : Option Int} (h : f en S = .ok (.str x) S1) (hl : fl en S1 = .ok lo S2) (hh : fh en S2 = .ok hi S3) (hz : x.length ≤ 1000) : mSl dSl f fl fh en S = .ok (.str (cutS x lo hi)) S3 := by
  unfold mSl
  rw [h, R.bind_ok, hl, R.bind_ok, hh, R.bind_ok]
  show R.of (if x.length ≤ sizeLine then some (D.str (cutS x lo hi), S3) else none) = _
  rw [if_pos (size4 (by omega))]
  rfl
theorem add_str {x y : Str} {S : So} (h : x.length + y.length ≤ 10000) : dAdd (.str x) (.str y) S = some (.str (x ++ y), S) := if_pos (size4 (by omega))
theorem nul7 : Ok7 "" := by
  have h : ∀ c ∈ ("" : Str).cps.toList, c < 0x110000 := by decide +kernel
  exact h
theorem div3 {i : Int} {S : So} : dDiv (.int i) (.int 3) S = some (.int (i / 3), S) := by
  have c3 : (0 : Int) < 3 ∧ (3 : Int).natAbs.log2 < 9000 := by decide +kernel
  unfold dDiv
  dsimp only
  first | rw [if_pos c3] | simp [c3]
theorem spoiled_str {n : Nat} {x : Str} {S : So} {b : Nat} (h : Bag S b) (hx : Ok7 x) (hz : x.length ≤ 900) : ∃ y S', m_law_spoiled (n + 1) [.ref b, .str x] S = .ok (.str y) S' ∧ Bag S' b ∧ Ch b S S' ∧ Ok7 y ∧ y.length ≤ x.length + 1 := by
  obtain ⟨r, S1, e1, h1, c1, r0, r6⟩ := throw_n 6 h (by decide) (by decide)
  obtain ⟨p, S2, e2, h2, c2, p0, p6⟩ := throw_n ((x.length : Int) + 1) h1 (by omega) (by
    have : (1000 : Int) < 10 ^ 61 := by decide
    omega)
  obtain ⟨p, rfl⟩ : ∃ q : Nat, p = (q : Int) := ⟨p.toNat, by omega⟩
  obtain ⟨u, S3, e3, h3, c3, hu⟩ := pick_str (x := SG) h2 (by decide +kernel) (by decide +kernel)
  obtain ⟨v, S4, e4, h4, c4, hv⟩ := pick_str (x := SG) h3 (by decide +kernel) (by decide +kernel)
  obtain ⟨d, ed, hd⟩ := atI_of (l := [D.str (one u), .str "", .str (one v)]) (r := r % 3) (by omega) (by simp; omega)
  obtain ⟨z, rfl, hz1, hz7⟩ : ∃ z, d = .str z ∧ z.length ≤ 1 ∧ Ok7 z := by
    rcases List.mem_cons.mp hd with rfl | hd
    · exact ⟨_, rfl, Nat.le_refl 1, fun c hc => by
        have : c = u := by simpa using hc
        rw [this]; exact SG_ok u hu⟩
    rcases List.mem_cons.mp hd with rfl | hd
    · exact ⟨_, rfl, by decide, nul7⟩
    rw [List.mem_singleton.mp hd]
    exact ⟨_, rfl, Nat.le_refl 1, fun c hc => by
      have : c = v := by simpa using hc
      rw [this]; exact SG_ok v hv⟩
  have ez : dEq (.str z) (.str ("" : Str)) S4 = some (.bl (z == ("" : Str)), S4) := eq_strs hz7 nul7 S4
  obtain ⟨q, hq, hpq⟩ : ∃ q : Nat, ((p : Int) + r / 3 + (if (z == ("" : Str)) = true then 1 else 0)) = (q : Int) ∧ p ≤ q := by
    refine ⟨((p : Int) + r / 3 + (if (z == ("" : Str)) = true then 1 else 0)).toNat, ?_, ?_⟩ <;> split <;> omega
  have l3 : mLst (aCons (mCall m_law_pick (aCons (mV 0) (aCons (mV 3) aNil))) (aCons (mC (.str ("" : Str))) (aCons (mCall m_law_pick (aCons (mV 0) (aCons (mV 3) aNil))) aNil))) [some (.ref b), some (.str x), some (.int r), some (.str SG), some (.int p), none, none, none, none, none, none, none] S2 = .ok (.lst [.str (one u), .str "", .str (one v)]) S4 :=
    lst_ok (cons_ok (call_ok (cons_ok rfl (one_ok rfl)) e3) (cons_ok rfl (one_ok (call_ok (cons_ok rfl (one_ok rfl)) e4)))) (size4 (Nat.le_of_ble_eq_true rfl))
  have m3 : m2 dMod (mB bInt (aCons (mV 2) aNil)) (mC (.int 3)) [some (.ref b), some (.str x), some (.int r), some (.str SG), some (.int p), none, none, none, none, none, none, none] S4 = .ok (.int (r % 3)) S4 := m2_ok (b_ok (one_ok rfl) rfl) rfl (modd (by decide))
  have s6 : m2 dAdd (m2 dAdd (mV 4) (m2 dDiv (mV 2) (mC (.int 3)))) (mB bInt (aCons (m2 dEq (mV 5) (mC (.str ("" : Str)))) aNil)) [some (.ref b), some (.str x), some (.int r), some (.str SG), some (.int p), some (.str z), none, none, none, none, none, none] S4 = .ok (.int q) S4 := by
    rw [← hq]
    exact m2_ok (m2_ok rfl (m2_ok rfl rfl div3) rfl) (b_ok (one_ok (m2_ok rfl rfl ez)) rfl) rfl
  have b1 : mSl dSl (mV 1) pNo (pSo (mV 4)) [some (.ref b), some (.str x), some (.int r), some (.str SG), some (.int p), some (.str z), some (.int q), none, none, none, none, none] S4 = .ok (.str (cutS x none (some (p : Int)))) S4 := sl_str rfl rfl rfl (by omega)
  have b2 : mSl dSl (mV 1) (pSo (mV 6)) pNo [some (.ref b), some (.str x), some (.int r), some (.str SG), some (.int p), some (.str z), some (.int q), none, none, none, none, none] S4 = .ok (.str (cutS x (some (q : Int)) none)) S4 := sl_str rfl rfl rfl (by omega)
  have n1 : (cutS x none (some (p : Int))).length = min p x.length := by
    rw [len_def, cut_pre, List.length_take, ← len_def]
    omega
  have n2 : (cutS x (some (q : Int)) none).length = x.length - min q x.length := by
    rw [len_def, cut_suf, List.length_drop, ← len_def]
  have n3 : (cutS x none (some (p : Int)) ++ z).length = min p x.length + z.length := by rw [app_len, n1]
  refine ⟨(cutS x none (some (p : Int)) ++ z) ++ cutS x (some (q : Int)) none, S4, ?_, h4, ((c1.trans c2).trans c3).trans c4, ?_, ?_⟩
  · exact body_rt rfl (seq_nx (set_ok (call_ok (cons_ok rfl (one_ok rfl)) e1)) (seq_rt (if_t (tru_bl (is_ok rfl rfl)) (seq_nx (set_ok rfl) (seq_nx (set_ok (call_ok (cons_ok rfl (one_ok (m2_ok (b_ok (one_ok rfl) (len_str S1 (by omega))) rfl rfl))) e2)) (seq_nx (set_ok (m2_ok l3 m3 (ix_lst ed))) (seq_nx (set_ok s6) (ret_ok (m2_ok (m2_ok b1 rfl (add_str (by omega))) b2 (add_str (by omega)))))))))))
  · intro c hc
    rw [app_cps, app_cps, List.mem_append, List.mem_append, cut_pre, cut_suf] at hc
    rcases hc with (hc | hc) | hc
    · exact hx c (List.mem_of_mem_take hc)
    · exact hz7 c hc
    · exact hx c (List.mem_of_mem_drop hc)
  · rw [app_len, n3, n2]
    omega
end K01

namespace K01
open PySem PySem.Spec PyProof.Rows L2 Mi
/-- what one change gives, of d -/
def SpO (n c m : Nat) (d : D) : Prop := ∀ (S : So) (b : Nat), Bag S b → ∃ d' S', m_law_spoiled n [.ref b, d] S = .ok d' S' ∧ Bag S' b ∧ Ch b S S' ∧ VC (c + 1) (m + 2) d'
abbrev w6 (i : Int) : Prop := i = 0 ∨ i = 1 ∨ i = 2 ∨ i = 3 ∨ i = 4 ∨ i = 5
/-- what is no text, no tuple and no dict with parts -/
theorem spoiled_odd {n c m : Nat} {d : D} (hc : 25 ≤ c) (hm : 1 ≤ m) (h1 : ∀ S, isD .str d S = some false) (h2 : (∀ S, isD .tup d S = some false) ∨ ∀ S, truD d S = some false) (h3 : (∀ S, isD .dct d S = some false) ∨ ∀ S, truD d S = some false) (hd : ∀ S, isD .tup d S = some true ∨ isD .tup d S = some false) (hd2 : ∀ S, isD .dct d S = some true ∨ isD .dct d S = some false) : SpO (n + 1) c m d := fun S b h => by
  obtain ⟨r, S1, e1, hb1, c1, r0, r6⟩ := throw_n 6 h (by decide) (by decide)
  obtain ⟨d', S2, e2, hb2, c2, hv⟩ := odd_ok hb1
  refine ⟨d', S2, ?_, hb2, c1.trans c2, VC.mono (by omega) (by omega) hv⟩
  have t1 : tAnd' (tTru (mIs .tup (mV 1))) (tAnd' (tTru (mV 1)) (tB' (m2 dLt (mV 2) (mC (.int 4))))) [some (.ref b), some d, some (.int r), none, none, none, none, none, none, none, none, none] S1 = .ok false S1 := by
    rcases h2 with h2 | h2
    · exact tand_f (tru_bl (is_ok rfl (h2 S1)))
    · rcases hd S1 with k | k
      · exact tand_t (tru_bl (is_ok rfl k)) (tand_f (tru_ok rfl (h2 S1)))
      · exact tand_f (tru_bl (is_ok rfl k))
  have t2 : tAnd' (tTru (mIs .tup (mV 1))) (tTru (mV 1)) [some (.ref b), some d, some (.int r), none, none, none, none, none, none, none, none, none] S1 = .ok false S1 := by
    rcases h2 with h2 | h2
    · exact tand_f (tru_bl (is_ok rfl (h2 S1)))
    · rcases hd S1 with k | k
      · exact tand_t (tru_bl (is_ok rfl k)) (tru_ok rfl (h2 S1))
      · exact tand_f (tru_bl (is_ok rfl k))
  have t3 : tAnd' (tTru (mIs .dct (mV 1))) (tTru (mV 1)) [some (.ref b), some d, some (.int r), none, none, none, none, none, none, none, none, none] S1 = .ok false S1 := by
    rcases h3 with h3 | h3
    · exact tand_f (tru_bl (is_ok rfl (h3 S1)))
    · rcases hd2 S1 with k | k
      · exact tand_t (tru_bl (is_ok rfl k)) (tru_ok rfl (h3 S1))
      · exact tand_f (tru_bl (is_ok rfl k))
  exact body_rt rfl (seq_nx (set_ok (call_ok (cons_ok rfl (one_ok rfl)) e1)) (seq_nx (if_f (tru_bl (is_ok rfl (h1 S1))) rfl) (seq_nx (if_f t1 rfl) (seq_nx (if_f t2 rfl) (seq_nx (if_f t3 rfl) (ret_ok (call_ok (one_ok rfl) e2)))))))
theorem sl_tup {f : E D} {fl fh : E (Option Int)} {en : En} {S S1 S2 S3 : So} {l : List D} {lo hi : Option Int} (h : f en S = .ok (.tup l) S1) (hl : fl en S1 = .ok lo S2) (hh : fh en S2 = .ok hi S3) : mSl dSl f fl fh en S = .ok (.tup (Mi.cutD l lo hi)) S3 := by
  unfold mSl
  rw [h, R.bind_ok, hl, R.bind_ok, hh, R.bind_ok]
  rfl
theorem spoiled_tup {n c m : Nat} {l : List D} (hc : 25 ≤ c) (hc2 : c ≤ 900) (h0 : l ≠ []) (hl : l.length ≤ c) (hv : ∀ e ∈ l, VC c m e) (ih : ∀ e ∈ l, SpO n c m e) : SpO (n + 1) c (m + 1) (.tup l) := fun S b h => by
  obtain ⟨r, S1, e1, hb1, c1, r0, r6⟩ := throw_n 6 h (by decide) (by decide)
  have tr : truD (.tup l) S1 = some true := by
    cases l with
    | nil => exact absurd rfl h0
    | cons _ _ => rfl
  have lt : dLt (.int r) (.int 4) S1 = some (.bl (decide (r < 4)), S1) := rfl
  have f1 : tTru (mIs .str (mV 1)) [some (.ref b), some (.tup l), some (.int r), none, none, none, none, none, none, none, none, none] S1 = .ok false S1 := tru_bl (is_ok rfl rfl)
  have hp : (0 : Int) < l.length := by have := List.length_pos_iff.mpr h0; omega
  have up : ∀ e ∈ l, VC (c + 1) (m + 2) e := fun e he => VC.mono (by omega) (by omega) (hv e he)
  by_cases c4 : r < 4
  · rw [decide_eq_true c4] at lt
    obtain ⟨p, S2, e2, hb2, c2, p0, p6⟩ := throw_n (l.length : Int) hb1 hp (by
      have : (1000 : Int) < 10 ^ 61 := by decide
      omega)
    obtain ⟨p, rfl⟩ : ∃ q : Nat, p = (q : Int) := ⟨p.toNat, by omega⟩
    obtain ⟨e0, ed, hm⟩ := atI_of (l := l) (r := (p : Int)) p0 p6
    obtain ⟨e', S3, e3, hb3, c3, hv3⟩ := ih e0 hm S2 b hb2
    have z1 : (1 : Nat) ≤ sizeLine := size4 (by decide)
    have z2 : (2 : Nat) ≤ sizeLine := size4 (by decide)
    have ix : ∀ S : So, dIx (.tup l) (.int (p : Int)) S = some (e0, S) := fun S => ix_tup ed
    obtain ⟨L, eL, hL⟩ := atI_of (l := [D.tup [e'], .tup [], .tup [e0, e0], .tup [e']]) (r := r) (by omega) (by simpa using c4)
    obtain ⟨L', rfl, hL1, hL2⟩ : ∃ L', L = .tup L' ∧ L'.length ≤ 2 ∧ ∀ e ∈ L', VC (c + 1) (m + 2) e := by
      rcases List.mem_cons.mp hL with rfl | hL
      · exact ⟨_, rfl, by simp, fun e he => by rw [List.mem_singleton.mp he]; exact hv3⟩
      rcases List.mem_cons.mp hL with rfl | hL
      · exact ⟨_, rfl, by simp, fun e he => by cases he⟩
      rcases List.mem_cons.mp hL with rfl | hL
      · exact ⟨_, rfl, by simp, fun e he => by
          have : e = e0 := by simpa using he
          rw [this]; exact up e0 hm⟩
      rw [List.mem_singleton.mp hL]
      exact ⟨_, rfl, by simp, fun e he => by rw [List.mem_singleton.mp he]; exact hv3⟩
    have i7 : mTup (aCons (mCall (m_law_spoiled n) (aCons (mV 0) (aCons (m2 dIx (mV 1) (mV 4)) aNil))) aNil) [some (.ref b), some (.tup l), some (.int r), none, some (.int p), none, none, none, none, none, none, none] S2 = .ok (.tup [e']) S3 := tup_ok (one_ok (call_ok (cons_ok rfl (one_ok (m2_ok rfl rfl (ix S2)))) e3)) z1
    have i8 : m2 dIx (mLst (aCons (mV 7) (aCons (mTup aNil) (aCons (mTup (aCons (m2 dIx (mV 1) (mV 4)) (aCons (m2 dIx (mV 1) (mV 4)) aNil))) (aCons (mV 7) aNil))))) (mV 2) [some (.ref b), some (.tup l), some (.int r), none, some (.int p), none, none, some (.tup [e']), none, none, none, none] S3 = .ok (.tup L') S3 :=
      m2_ok (lst_ok (cons_ok rfl (cons_ok (tup_ok rfl (Nat.zero_le _)) (cons_ok (tup_ok (cons_ok (m2_ok rfl rfl (ix S3)) (one_ok (m2_ok rfl rfl (ix S3)))) z2) (one_ok rfl)))) (size4 (Nat.le_of_ble_eq_true rfl))) rfl (ix_lst eL)
    have n1 : (Mi.cutD l none (some (p : Int))).length ≤ p := by rw [cutD_pre, List.length_take]; omega
    have n2 : (Mi.cutD l (some ((p : Int) + 1)) none).length + (p + 1) ≤ l.length := by
      rw [show (p : Int) + 1 = ((p + 1 : Nat) : Int) by omega, cutD_suf, List.length_drop]
      omega
    have k1 : ∀ e ∈ Mi.cutD l none (some (p : Int)), e ∈ l := fun e he => by rw [cutD_pre] at he; exact List.mem_of_mem_take he
    have k2 : ∀ e ∈ Mi.cutD l (some ((p : Int) + 1)) none, e ∈ l := fun e he => by
      rw [show (p : Int) + 1 = ((p + 1 : Nat) : Int) by omega, cutD_suf] at he
      exact List.mem_of_mem_drop he
    refine ⟨.tup ((Mi.cutD l none (some (p : Int)) ++ L') ++ Mi.cutD l (some ((p : Int) + 1)) none), S3, ?_, hb3, (c1.trans c2).trans c3, ?_, ?_⟩
    · exact body_rt rfl (seq_nx (set_ok (call_ok (cons_ok rfl (one_ok rfl)) e1)) (seq_nx (if_f f1 rfl) (seq_rt (if_t (tand_t (tru_bl (is_ok rfl rfl)) (tand_t (tru_ok rfl tr) (tst_ok (m2_ok rfl rfl lt)))) (seq_nx (set_ok (call_ok (cons_ok rfl (one_ok (b_ok (one_ok rfl) rfl))) e2)) (seq_nx (set_ok i7) (seq_nx (set_ok i8) (ret_ok (m2_ok (m2_ok (sl_tup rfl rfl rfl) rfl (add_tup (size4 (by omega)))) (sl_tup rfl rfl rfl) (add_tup (size4 (by rw [List.length_append]; omega)))))))))))) 
    · rw [List.length_append, List.length_append]
      omega
    · intro e he
      rcases List.mem_append.mp he with he | he
      · rcases List.mem_append.mp he with he | he
        · exact up e (k1 e he)
        · exact hL2 e he
      · exact up e (k2 e he)
  · rw [decide_eq_false c4] at lt
    have st : sIf (tAnd' (tTru (mIs .tup (mV 1))) (tAnd' (tTru (mV 1)) (tB' (m2 dLt (mV 2) (mC (.int 4)))))) (sSeq (sSet 4 (mCall m_law_throw (aCons (mV 0) (aCons (mB bLen (aCons (mV 1) aNil)) aNil))))
    (sSeq (sSet 7 (mTup (aCons (mCall (m_law_spoiled n) (aCons (mV 0) (aCons (m2 dIx (mV 1) (mV 4)) aNil))) aNil)))
    (sSeq (sSet 7 (m2 dIx (mLst (aCons (mV 7) (aCons (mTup aNil) (aCons (mTup (aCons (m2 dIx (mV 1) (mV 4)) (aCons (m2 dIx (mV 1) (mV 4)) aNil))) (aCons (mV 7) aNil))))) (mV 2)))
    (sRet (m2 dAdd (m2 dAdd (mSl dSl (mV 1) pNo (pSo (mV 4))) (mV 7)) (mSl dSl (mV 1) (pSo (m2 dAdd (mV 4) (mC (.int 1)))) pNo)))))) sNil [some (.ref b), some (.tup l), some (.int r), none, none, none, none, none, none, none, none, none] S1 = .ok (.nx [some (.ref b), some (.tup l), some (.int r), none, none, none, none, none, none, none, none, none]) S1 :=
      if_f (tand_t (tru_bl (is_ok rfl rfl)) (tand_t (tru_ok rfl tr) (tst_ok (m2_ok rfl rfl lt)))) rfl
    have q := eq_int (S := S1) r 4
    cases c5 : (r == 4) with
    | true =>
      rw [c5] at q
      exact ⟨.lst l, S1, body_rt rfl (seq_nx (set_ok (call_ok (cons_ok rfl (one_ok rfl)) e1)) (seq_nx (if_f f1 rfl) (seq_nx st (seq_rt (if_t (tand_t (tru_bl (is_ok rfl rfl)) (tru_ok rfl tr)) (ret_ok (ife_t (tst_ok (m2_ok rfl rfl q)) (b_ok (one_ok rfl) rfl)))))))), hb1, c1, by omega, up⟩
    | false =>
      rw [c5] at q
      exact ⟨.tup l.reverse, S1, body_rt rfl (seq_nx (set_ok (call_ok (cons_ok rfl (one_ok rfl)) e1)) (seq_nx (if_f f1 rfl) (seq_nx st (seq_rt (if_t (tand_t (tru_bl (is_ok rfl rfl)) (tru_ok rfl tr)) (ret_ok (ife_f (tst_ok (m2_ok rfl rfl q)) rfl))))))), hb1, c1, by rw [List.length_reverse]; omega, fun e he => up e (List.mem_reverse.mp he)⟩
end K01

namespace K01
open PySem PySem.Spec PyProof.Rows L2 Mi
theorem Ch.setN {b n : Nat} {S S' : So} {x : Option Ob} (h : Ch b S S') (hn : S.length ≤ n) : Ch b S (S'.set n x) := ⟨by rw [List.length_set]; exact h.1, fun i hi nb => by rw [List.getElem?_set_ne (by omega)]; exact h.2 i hi nb⟩
theorem Bag.setN {b n : Nat} {S : So} {x : Option Ob} (h : Bag S b) (hn : n ≠ b) : Bag (S.set n x) b := by
  obtain ⟨u, v, w, e⟩ := h
  exact ⟨u, v, w, by rw [List.getElem?_set_ne hn]; exact e⟩
theorem putKD_in {k : Key} {v e : D} : ∀ {ks : List Key} {l : List D}, e ∈ (putKD ks l k v).2 → e ∈ l ∨ e = v
  | [], l, h => by
    simp only [putKD, List.mem_append, List.mem_singleton] at h
    exact h
  | q :: ks, [], h => by
    simp only [putKD, List.nil_append, List.mem_singleton] at h
    exact .inr h
  | q :: ks, d :: l, h => by
    unfold putKD at h
    split at h
    · rcases List.mem_cons.mp h with h | h
      · exact .inr h
      · exact .inl (List.mem_cons_of_mem _ h)
    · rcases List.mem_cons.mp h with h | h
      · exact .inl (by rw [h]; exact List.mem_cons_self ..)
      · rcases putKD_in h with h | h
        · exact .inl (List.mem_cons_of_mem _ h)
        · exact .inr h
theorem putKD_len {k : Key} {v : D} : ∀ {ks : List Key} {l : List D}, (putKD ks l k v).1.length ≤ ks.length + 1
  | [], l => by simp [putKD]
  | q :: ks, [] => by simp [putKD]
  | q :: ks, d :: l => by
    unfold putKD
    split
    · simp
    · have := putKD_len (k := k) (v := v) (ks := ks) (l := l)
      simp only [List.length_cons]
      omega
theorem ne_str1 {x y : Str} (hx : Ok7 x) (hy : Ok7 y) (S : So) : dNe (.str x) (.str y) S = some (.bl (!(x == y)), S) := by
  have a := str_sh hx
  have b := str_sh hy
  unfold dNe dEqP
  simp [toPt, toP, a, b, PyData.eqv]
theorem div2 {i : Int} {S : So} : dDiv (.int i) (.int 2) S = some (.int (i / 2), S) := by
  have c3 : (0 : Int) < 2 ∧ (2 : Int).natAbs.log2 < 9000 := by decide +kernel
  unfold dDiv
  dsimp only
  first | rw [if_pos c3] | simp [c3]
theorem in014 {r : Int} (h : w6 r) : ∃ w : Bool, ∀ S : So, dNotIn (.int r) (.tup [.int 0, .int 1, .int 4]) S = some (.bl w, S) := by
  rcases h with rfl | rfl | rfl | rfl | rfl | rfl
  · exact ⟨false, fun S => by kernel_rfl⟩
  · exact ⟨false, fun S => by kernel_rfl⟩
  · exact ⟨true, fun S => by kernel_rfl⟩
  · exact ⟨true, fun S => by kernel_rfl⟩
  · exact ⟨false, fun S => by kernel_rfl⟩
  · exact ⟨true, fun S => by kernel_rfl⟩
theorem look_in {ks : List Key} {l : List D} {k : Key} (hl : l.length = ks.length) (nd : ks.Nodup) (h : k ∈ ks) : ∃ v, lookK ks l k = some v ∧ v ∈ l := by
  have z1 : (ks.zip l).map (·.1) = ks := List.map_fst_zip (Nat.le_of_eq hl.symm)
  have z2 : (ks.zip l).map (·.2) = l := List.map_snd_zip (Nat.le_of_eq hl)
  rw [← z1] at h
  obtain ⟨p, hp, rfl⟩ := List.mem_map.mp h
  have lk := look_at (ks.zip l) (by rw [z1]; exact nd) hp
  rw [z1, z2] at lk
  exact ⟨_, lk, (List.of_mem_zip hp).2⟩
theorem spoiled_dct {n c m : Nat} {ks : List Key} {l : List D} (hc : 25 ≤ c) (hc2 : c ≤ 60) (h0 : ks ≠ []) (hv : VC c (m + 1) (.dct ks l)) (ih : ∀ e ∈ l, SpO (n + 1) c m e) : SpO (n + 2) c (m + 1) (.dct ks l) := fun S b h => by
  obtain ⟨k1, k2, k3, k4, k5⟩ := hv
  obtain ⟨xs, ex, lx, ox⟩ := textsK_of (ks := ks) fun k hk => let ⟨x, e, o, z⟩ := k4 k hk; ⟨x, e, o, by omega⟩
  have ek := textsK_eq ex
  obtain ⟨r, S1, e1, hb1, c1, r0, r6⟩ := throw_n 6 h (by decide) (by decide)
  have hr : w6 r := by unfold w6; omega
  have so : bSorted [.dct ks l] S1 = some (.lst ((srtS xs).map D.str), S1) := by
    unfold bSorted
    simp only [dctOf, ex]
    rw [if_pos (by rw [lx]; omega)]
  have ln : (srtS xs).length = ks.length := by rw [(srtS_perm xs).length_eq, lx]
  have hk0 : 0 < ks.length := List.length_pos_iff.mpr h0
  obtain ⟨kd, S2, e2, hb2, c2, hkd⟩ := pick_seq (d0 := .lst ((srtS xs).map D.str)) (.inl rfl) hb1 (by
    intro z
    have := congrArg List.length z
    rw [List.length_map, ln] at this
    rw [List.length_nil] at this
    omega) (by rw [List.length_map, ln]; omega)
  obtain ⟨k, hk, rfl⟩ := List.mem_map.mp hkd
  have hkx : k ∈ xs := (srtS_perm xs).mem_iff.mp hk
  have hks : (Sum.inr k : Key) ∈ ks := by rw [ek]; exact List.mem_map_of_mem hkx
  obtain ⟨k', ekk, k7, kz⟩ := k4 _ hks
  obtain rfl : k = k' := Sum.inr.inj ekk
  obtain ⟨y, S3, e3, hb3, c3, y7, yz⟩ := spoiled_str (n := n) hb2 k7 (by omega)
  obtain ⟨v, lk, hvl⟩ := look_in k2 k3 hks
  have hm : 1 ≤ m := by
    cases m with
    | zero => exact (k5 v hvl).elim
    | succ m => omega
  obtain ⟨v', S4, e4, hb4, c4, hv4⟩ := ih v hvl S3 b hb3
  have ix : ∀ S : So, dIx (.dct ks l) (.str k) S = some (v, S) := fun S => by
    unfold dIx
    simp only [dctOf, Mi.keyOf]
    rw [lk]
    rfl
  obtain ⟨w, hw⟩ := in014 hr
  have z1 : (ks.zip l).map (·.1) = ks := List.map_fst_zip (Nat.le_of_eq k2.symm)
  have z2 : (ks.zip l).map (·.2) = l := List.map_snd_zip (Nat.le_of_eq k2)
  have zl : (ks.zip l).length = ks.length := by rw [List.length_zip]; omega
  obtain ⟨ps, hps⟩ : ∃ ps, ps = (ks.zip l).filter fun q => !decide (q.1 = Sum.inr k) || w := ⟨_, rfl⟩
  have e5 := comp_fltα (hold := none) (S0 := S4) (S := S4) (ι := fun q : Key × D => kD q.1) (φ := fun q : Key × D => D.tup [kD q.1, q.2]) (p := fun q => !decide (q.1 = Sum.inr k) || w) (g := gN 11)
    (t := tOr' (tB' (m2 dNe (mV 11) (mV 8))) (tB' (m2 dNotIn (mV 2) (mTup (aCons (mC (.int 0)) (aCons (mC (.int 1)) (aCons (mC (.int 4)) aNil))))))) (f := mTup (aCons (mV 11) (aCons (m2 dIx (mV 1) (mV 11)) aNil)))
    (enw := [some (.ref b), some (.dct ks l), some (.int r), none, none, none, none, some v', some (.str k), some (.str y), none, none]) rfl (ks.zip l) [] (fun q hq => by
      obtain ⟨qk, qv⟩ := q
      have hm := List.of_mem_zip hq
      obtain ⟨x, rfl, x7, xz⟩ := k4 qk hm.1
      have lq := look_at (ks.zip l) (by rw [z1]; exact k3) hq
      rw [z1, z2] at lq
      have ixq : dIx (.dct ks l) (.str x) S4 = some (qv, S4) := by
        unfold dIx
        simp only [dctOf, Mi.keyOf]
        rw [lq]
        rfl
      refine ⟨_, rfl, ?_, tup_ok (cons_ok rfl (one_ok (m2_ok rfl rfl ixq))) (size4 (Nat.le_of_ble_eq_true rfl))⟩
      have ne := ne_str1 x7 k7 S4
      have de : decide ((Sum.inr x : Key) = Sum.inr k) = (x == k) := by
        rw [Bool.eq_iff_iff, decide_eq_true_eq, beq_iff_eq]
        exact ⟨fun z => Sum.inr.inj z, fun z => by rw [z]⟩
      show _ = R.ok (!decide ((Sum.inr x : Key) = Sum.inr k) || w) S4
      rw [de]
      have t3 : mTup (aCons (mC (.int 0)) (aCons (mC (.int 1)) (aCons (mC (.int 4)) aNil))) [some (.ref b), some (.dct ks l), some (.int r), none, none, none, none, some v', some (.str k), some (.str y), none, some (.str x)] S4 = .ok (.tup [.int 0, .int 1, .int 4]) S4 := tup_ok rfl (size4 (by decide))
      cases cx : (x == k) with
      | true =>
        rw [cx] at ne
        exact tor_f (tst_ok (m2_ok rfl rfl ne)) (tst_ok (m2_ok rfl t3 (hw S4)))
      | false =>
        rw [cx] at ne
        exact tor_t (tst_ok (m2_ok rfl rfl ne))) (by rw [zl]; simpa using size4 (by omega))
  rw [List.nil_append, ← hps] at e5
  have src : iKeysV (mV 1) [some (.ref b), some (.dct ks l), some (.int r), none, none, none, none, some v', some (.str k), some (.str y), none, none] S4 = .ok ⟨none, (ks.zip l).map fun p => kD p.1⟩ S4 := by
    show R.ok (⟨none, ks.map kD⟩ : Src) S4 = _
    rw [show (ks.zip l).map (fun p => kD p.1) = ((ks.zip l).map (·.1)).map kD by rw [List.map_map]; rfl, z1]
  have psub : ps.Sublist (ks.zip l) := by rw [hps]; exact List.filter_sublist
  have ksub : (ps.map (·.1)).Sublist ks := by
    have := psub.map (·.1)
    rwa [z1] at this
  have lsub : (ps.map (·.2)).Sublist l := by
    have := psub.map (·.2)
    rwa [z2] at this
  have nd : (ps.map (·.1)).Nodup := ksub.nodup k3
  have pl : (ps.map (·.1)).length ≤ ks.length := ksub.length_le
  have dn : bDictN [.lst (ps.map fun q => D.tup [kD q.1, q.2])] S4 = some (.ref S4.length, S4 ++ [some (.dct (ps.map (·.1)) (ps.map (·.2)))]) := by
    unfold bDictN
    simp only [lstOf, pairs_of]
    rw [merge_id ps [] [] (by simpa using nd) rfl]
    simp
  have hb5 : Bag (S4 ++ [some (.dct (ps.map (·.1)) (ps.map (·.2)))]) b := hb4.app
  have c5 : Ch b S (S4 ++ [some (.dct (ps.map (·.1)) (ps.map (·.2)))]) := (((c1.trans c2).trans c3).trans c4).trans Ch.app
  have hb : b < S.length := h.lt
  have ls : S.length ≤ S4.length := (((c1.trans c2).trans c3).trans c4).1
  have up : ∀ e ∈ l, VC (c + 1) (m + 2) e := fun e he => VC.mono (by omega) (by omega) (k5 e he)
  have uk : ∀ q ∈ ps.map (·.1), ∃ x : Str, q = Sum.inr x ∧ Ok7 x ∧ x.length ≤ c + 1 := fun q hq => let ⟨x, e, o, z⟩ := k4 q (ksub.subset hq); ⟨x, e, o, by omega⟩
  obtain ⟨S5, hS5⟩ : ∃ S5, S5 = S4 ++ [some (.dct (ps.map (·.1)) (ps.map (·.2)))] := ⟨_, rfl⟩
  have at5 : S5[S4.length]? = some (some (.dct (ps.map (·.1)) (ps.map (·.2)))) := by rw [hS5]; exact app_at
  rw [← hS5] at dn hb5 c5
  obtain ⟨q, hq⟩ : ∃ q : Bool, q = (r == 4) := ⟨_, rfl⟩
  have n4 := ne_int (S := S5) r 4
  rw [← hq] at n4
  have run : ∀ (rest : T) (x : Fl) (S' : So), rest [some (.ref b), some (.dct ks l), some (.int r), none, none, none, none, some v', some (.str k), some (.str y), some (.ref S4.length), none] S5 = .ok x S' →
      sSeq (sSet 8 (mCall m_law_pick (aCons (mV 0) (aCons (mB bSorted (aCons (mV 1) aNil)) aNil))))
    (sSeq (sSet 9 (mCall (m_law_spoiled (n + 1)) (aCons (mV 0) (aCons (mV 8) aNil))))
    (sSeq (sSet 7 (mCall (m_law_spoiled (n + 1)) (aCons (mV 0) (aCons (m2 dIx (mV 1) (mV 8)) aNil))))
    (sSeq (sSet 10 (mB bDictN (aCons (mComp (iKeysV (mV 1)) (gN 11) (tOr' (tB' (m2 dNe (mV 11) (mV 8))) (tB' (m2 dNotIn (mV 2) (mTup (aCons (mC (.int 0)) (aCons (mC (.int 1)) (aCons (mC (.int 4)) aNil))))))) (mTup (aCons (mV 11) (aCons (m2 dIx (mV 1) (mV 11)) aNil))) [11]) aNil))) rest))) [some (.ref b), some (.dct ks l), some (.int r), none, none, none, none, none, none, none, none, none] S1 = .ok x S' := fun rest x S' hR =>
    seq_nx (set_ok (call_ok (cons_ok rfl (one_ok (b_ok (one_ok rfl) so))) e2)) (seq_nx (set_ok (call_ok (cons_ok rfl (one_ok rfl)) e3)) (seq_nx (set_ok (call_ok (cons_ok rfl (one_ok (m2_ok rfl rfl (ix S3)))) e4)) (seq_nx (set_ok (b_ok (one_ok (cmp_of src e5)) dn)) hR)))
  have tr : truD (.dct ks l) S1 = some true := by
    cases ks with
    | nil => exact absurd rfl h0
    | cons _ _ => rfl
  have all : ∀ (x : D) (S' : So), sSeq (sSet 8 (mCall m_law_pick (aCons (mV 0) (aCons (mB bSorted (aCons (mV 1) aNil)) aNil))))
    (sSeq (sSet 9 (mCall (m_law_spoiled (n + 1)) (aCons (mV 0) (aCons (mV 8) aNil))))
    (sSeq (sSet 7 (mCall (m_law_spoiled (n + 1)) (aCons (mV 0) (aCons (m2 dIx (mV 1) (mV 8)) aNil))))
    (sSeq (sSet 10 (mB bDictN (aCons (mComp (iKeysV (mV 1)) (gN 11) (tOr' (tB' (m2 dNe (mV 11) (mV 8))) (tB' (m2 dNotIn (mV 2) (mTup (aCons (mC (.int 0)) (aCons (mC (.int 1)) (aCons (mC (.int 4)) aNil))))))) (mTup (aCons (mV 11) (aCons (m2 dIx (mV 1) (mV 11)) aNil))) [11]) aNil)))
    (sSeq (sIf (tB' (m2 dNe (mV 2) (mC (.int 4)))) (sPut (m2 dIx (mLst (aCons (m2 dIx (mV 1) (mV 8)) (aCons (mV 7) aNil))) (m2 dMod (mB bInt (aCons (m2 dDiv (mV 2) (mC (.int 2))) aNil)) (mC (.int 2)))) (mV 10) (m2 dIx (mLst (aCons (mV 9) (aCons (mV 9) (aCons (mV 8) (aCons (mV 8) (aCons (mV 8) (aCons (mV 9) aNil))))))) (mV 2))) sNil)
    (sRet (mFrz (mV 10))))))) [some (.ref b), some (.dct ks l), some (.int r), none, none, none, none, none, none, none, none, none] S1 = .ok (.rt x) S' →
      m_law_spoiled (n + 2) [.ref b, .dct ks l] S = .ok x S' := fun x S' hR =>
    body_rt rfl (seq_nx (set_ok (call_ok (cons_ok rfl (one_ok rfl)) e1)) (seq_nx (if_f (tru_bl (is_ok rfl rfl)) rfl) (seq_nx (if_f (tand_f (tru_bl (is_ok rfl rfl))) rfl) (seq_nx (if_f (tand_f (tru_bl (is_ok rfl rfl))) rfl) (seq_rt (if_t (tand_t (tru_bl (is_ok rfl rfl)) (tru_ok rfl tr)) hR))))))
  have fz : ∀ (S' : So) (a : List Key) (u : List D), S'[S4.length]? = some (some (.dct a u)) → mFrz (mV 10) [some (.ref b), some (.dct ks l), some (.int r), none, none, none, none, some v', some (.str k), some (.str y), some (.ref S4.length), none] S' = .ok (.dct a u) (S'.set S4.length none) := fun S' a u hS => by
    unfold mFrz
    rw [show mV 10 [some (.ref b), some (.dct ks l), some (.int r), none, none, none, none, some v', some (.str k), some (.str y), some (.ref S4.length), none] S' = .ok (.ref S4.length) S' from rfl, R.bind_ok]
    have : frz (.ref S4.length) S' = (.dct a u, S'.set S4.length none) := by
      unfold frz
      simp only [hS]
    rw [this]
  cases q with
  | true =>
    refine ⟨_, _, all _ _ (run _ _ _ (seq_nx (if_f (tst_ok (m2_ok rfl rfl n4)) rfl) (ret_ok (fz S5 _ _ at5)))), hb5.setN (by omega), c5.setN ls, by omega, by simp, nd, uk, fun e he => up e (lsub.subset he)⟩
  | false =>
    obtain ⟨vv, ev, hvv⟩ := atI_of (l := [v, v']) (r := r / 2 % 2) (by omega) (by simp; omega)
    have vvc : VC (c + 1) (m + 2) vv := by
      rcases List.mem_cons.mp hvv with rfl | hvv
      · exact up _ hvl
      · rw [List.mem_singleton.mp hvv]; exact hv4
    obtain ⟨kk, ekk2, hkk⟩ := atI_of (l := [D.str y, .str y, .str k, .str k, .str k, .str y]) (r := r) (by omega) (by simpa using r6)
    obtain ⟨z, rfl, z7, zz⟩ : ∃ z, kk = .str z ∧ Ok7 z ∧ z.length ≤ c + 1 := by
      simp only [List.mem_cons, List.not_mem_nil, or_false] at hkk
      rcases hkk with rfl | rfl | rfl | rfl | rfl | rfl
      · exact ⟨_, rfl, y7, by omega⟩
      · exact ⟨_, rfl, y7, by omega⟩
      · exact ⟨_, rfl, k7, by omega⟩
      · exact ⟨_, rfl, k7, by omega⟩
      · exact ⟨_, rfl, k7, by omega⟩
      · exact ⟨_, rfl, y7, by omega⟩
    have pu : putD (.ref S4.length) (.str z) vv S5 = some (S5.set S4.length (some (.dct (putKD (ps.map (·.1)) (ps.map (·.2)) (.inr z) vv).1 (putKD (ps.map (·.1)) (ps.map (·.2)) (.inr z) vv).2))) := by
      unfold putD
      simp only [at5, Mi.keyOf]
      rw [if_pos ⟨nd, Nat.lt_of_lt_of_le (show _ < 1000 by omega) (size4 (by decide))⟩]
    have lt5 : S4.length < S5.length := (List.getElem?_eq_some_iff.mp at5).1
    have pk := putKD_nodup (k := .inr z) (v := vv) (ks := ps.map (·.1)) (l := ps.map (·.2)) (by simp) nd
    have s1 : m2 dIx (mLst (aCons (m2 dIx (mV 1) (mV 8)) (aCons (mV 7) aNil))) (m2 dMod (mB bInt (aCons (m2 dDiv (mV 2) (mC (.int 2))) aNil)) (mC (.int 2))) [some (.ref b), some (.dct ks l), some (.int r), none, none, none, none, some v', some (.str k), some (.str y), some (.ref S4.length), none] S5 = .ok vv S5 :=
      m2_ok (lst_ok (cons_ok (m2_ok rfl rfl (ix S5)) (one_ok rfl)) (size4 (Nat.le_of_ble_eq_true rfl))) (m2_ok (b_ok (one_ok (m2_ok rfl rfl div2)) rfl) rfl (modd (by decide))) (ix_lst ev)
    have s2 : m2 dIx (mLst (aCons (mV 9) (aCons (mV 9) (aCons (mV 8) (aCons (mV 8) (aCons (mV 8) (aCons (mV 9) aNil))))))) (mV 2) [some (.ref b), some (.dct ks l), some (.int r), none, none, none, none, some v', some (.str k), some (.str y), some (.ref S4.length), none] S5 = .ok (.str z) S5 :=
      m2_ok (lst_ok rfl (size4 (Nat.le_of_ble_eq_true rfl))) rfl (ix_lst ekk2)
    refine ⟨_, _, all _ _ (run _ _ _ (seq_nx (if_t (tst_ok (m2_ok rfl rfl n4)) (put_ok s1 rfl s2 pu)) (ret_ok (fz _ _ _ (List.getElem?_set_self lt5))))), (hb5.setN (by omega)).setN (by omega), (c5.setN ls).setN ls, ?_, pk.2.symm, pk.1, fun q hq => ?_, fun e he => ?_⟩
    · have := putKD_len (k := .inr z) (v := vv) (ks := ps.map (·.1)) (l := ps.map (·.2))
      omega
    · rcases putKD_mem hq with hq | rfl
      · exact uk q hq
      · exact ⟨z, rfl, z7, zz⟩
    · rcases putKD_in he with he | rfl
      · exact up e (lsub.subset he)
      · exact vvc
end K01

namespace K01
open PySem PySem.Spec PyProof.Rows L2 Mi
theorem spoiled_ok {c : Nat} (hc : 25 ≤ c) (hc2 : c ≤ 60) : ∀ (m n : Nat) (d : D), m ≤ n → VC c m d → SpO n c m d
  | 0, _, _, _, h => h.elim
  | m + 1, n, d, hn, h => by
    obtain ⟨n, rfl⟩ : ∃ k, n = k + 1 := ⟨n - 1, by omega⟩
    have hm : m ≤ n := by omega
    have leaf : (∀ S, isD .str d S = some false) → (∀ S, isD .tup d S = some false) → (∀ S, isD .dct d S = some false) → SpO (n + 1) c (m + 1) d := fun a b e =>
      spoiled_odd hc (by omega) a (.inl b) (.inl e) (fun S => .inr (b S)) (fun S => .inr (e S))
    cases d with
    | non => exact leaf (fun _ => rfl) (fun _ => rfl) (fun _ => rfl)
    | bl b => exact leaf (fun _ => rfl) (fun _ => rfl) (fun _ => rfl)
    | int i => exact leaf (fun _ => rfl) (fun _ => rfl) (fun _ => rfl)
    | lst l => exact leaf (fun _ => rfl) (fun _ => rfl) (fun _ => rfl)
    | str x =>
      intro S b hb
      obtain ⟨y, S', e, h1, h2, h3, h4⟩ := spoiled_str (n := n) hb h.1 (by have := h.2; omega)
      exact ⟨_, S', e, h1, h2, h3, by have := h.2; omega⟩
    | tup l =>
      cases l with
      | nil => exact spoiled_odd hc (by omega) (fun _ => rfl) (.inr fun _ => rfl) (.inl fun _ => rfl) (fun _ => .inl rfl) (fun _ => .inr rfl)
      | cons a l => exact spoiled_tup hc (by omega) (by simp) h.1 h.2 fun e he => spoiled_ok hc hc2 m n e hm (h.2 e he)
    | dct ks l =>
      by_cases h0 : ks = []
      · subst h0
        exact spoiled_odd hc (by omega) (fun _ => rfl) (.inl fun _ => rfl) (.inr fun _ => rfl) (fun _ => .inr rfl) (fun _ => .inl rfl)
      · have hl : l ≠ [] := fun z => by
          have := h.2.1
          rw [z] at this
          exact h0 (List.eq_nil_of_length_eq_zero this.symm)
        obtain ⟨e0, l', rfl⟩ := List.exists_cons_of_ne_nil hl
        have he := h.2.2.2.2 e0 (by simp)
        have m1 : 1 ≤ m := by
          cases m with
          | zero => exact he.elim
          | succ m => omega
        obtain ⟨n, rfl⟩ : ∃ k, n = k + 1 := ⟨n - 1, by omega⟩
        exact spoiled_dct hc hc2 h0 h fun e he => spoiled_ok hc hc2 m (n + 1) e hm (h.2.2.2.2 e he)
    | _ =>
      rcases (h : _ = tape0 ∨ _ = tape1) with e | e <;> first | (rw [e] at leaf ⊢; exact leaf (fun _ => rfl) (fun _ => rfl) (fun _ => rfl)) | (cases e)
/-! ### good values -/
theorem letter_of {S : So} {b : Nat} (h : Bag S b) : ∃ c S', m_law_letter [.ref b] S = .ok (.str (one c)) S' ∧ Bag S' b ∧ Ch b S S' ∧ c ∈ alpha.cps.toList := by
  obtain ⟨d, S1, e1, h1, c1, hd⟩ := pick_seq (d0 := .lst [.str "ab", .str "abc", .str alpha]) (.inl rfl) h (by simp) (by decide)
  obtain ⟨x, rfl, hx0, hxl, hxo⟩ : ∃ x, d = .str x ∧ 0 < x.cps.size ∧ x.length ≤ 26 ∧ ∀ c ∈ x.cps.toList, c ∈ alpha.cps.toList := by
    simp only [List.mem_cons, List.not_mem_nil, or_false] at hd
    rcases hd with rfl | rfl | rfl
    · exact ⟨_, rfl, by decide +kernel, by decide +kernel, by decide +kernel⟩
    · exact ⟨_, rfl, by decide +kernel, by decide +kernel, by decide +kernel⟩
    · exact ⟨_, rfl, by decide +kernel, by decide +kernel, by decide +kernel⟩
  obtain ⟨c, S2, e2, h2, c2, hc⟩ := pick_str h1 hx0 (by omega)
  exact ⟨c, S2, body_rt rfl (ret_ok (call_ok (cons_ok rfl (one_ok (call_ok (cons_ok rfl (one_ok (lst_ok rfl (size4 (Nat.le_of_ble_eq_true rfl))))) e1))) e2)), h2, c1.trans c2, hxo c hc⟩
theorem let_vc {n c : Nat} (h : c ∈ alpha.cps.toList) : VC 25 (n + 1) (.str (one c)) := ⟨fun z hz => by
  have : z = c := by simpa using hz
  rw [this]; exact alpha_ok c h, by show 1 ≤ 25; decide⟩
theorem name_vc {n : Nat} {x : Str} (h : NameOk x) : VC 25 (n + 1) (.str x) := ⟨h.ok7, by have := h.2.1; omega⟩
theorem int_vc {n : Nat} {i : Int} (h1 : -X60 < i) (h2 : i < X60) : VC 25 (n + 1) (.int i) := by
  have e : X60 ≤ X60 * X60 := by decide +kernel
  have e2 : -X60 * X60 ≤ -X60 := by decide +kernel
  exact ⟨by omega, by omega⟩
theorem lay_vc {l : Lay} (h : LayOk l) (hz : l.length ≤ 5) : VC 25 4 (layD l) := by
  refine ⟨by simp [layK]; omega, by simp [layK, layV], h.nd, fun k hk => ?_, fun e he => ?_⟩
  · obtain ⟨p, hp, rfl⟩ := List.mem_map.mp hk
    have := (h.ok p hp).1
    exact ⟨p.1, rfl, this.ok7, by have := this.2.1; omega⟩
  · obtain ⟨p, hp, rfl⟩ := List.mem_map.mp he
    obtain ⟨_, _, h5, hl⟩ := h.ok p hp
    refine ⟨by rw [List.length_map]; omega, fun e he => ?_⟩
    obtain ⟨x, hx, rfl⟩ := List.mem_map.mp he
    obtain ⟨c, hc, rfl⟩ := hl x hx
    exact let_vc hc
theorem words_vc : ∀ x ∈ WL, VC 25 4 (.str x) := by
  have h : WL.all (fun x => x.cps.toList.all (fun c => decide (c < 0x110000)) && decide (x.length ≤ 20)) = true := by decide +kernel
  intro x hx
  exact sv (List.all_eq_true.mp h x hx) (by decide)
end K01

namespace K01
open PySem PySem.Spec PyProof.Rows L2 Mi
theorem app_okQ {S : So} {c : Nat} {l : List D} {y : D} (h : S[c]? = some (some (.lst l))) (hz : l.length < 1000) : mApp (.ref c) [y] S = some (.non, S.set c (some (.lst (l ++ [y])))) := by
  unfold mApp
  simp only [cellL, h]
  rw [if_pos (Nat.lt_of_lt_of_le hz (size_le (by decide)))]
theorem lst_typQ {S : So} {c : Nat} {l : List D} (h : S[c]? = some (some (.lst l))) : isTyp "list" (.ref c) S = true := by
  unfold isTyp
  simp only [lstOf, h]
  rfl
def GO (w : Int) : Prop := ∀ (S : So) (b : Nat), Bag S b → ∃ d S', m_law_good [.ref b, .int w] S = .ok d S' ∧ Bag S' b ∧ Ch b S S' ∧ VC 25 4 d
theorem mem4 {P : D → Prop} {a b c d e : D} (ha : P a) (hb : P b) (hc : P c) (hd : P d) (h : e ∈ [a, b, c, d]) : P e := by
  rcases List.mem_cons.mp h with rfl | h
  · exact ha
  rcases List.mem_cons.mp h with rfl | h
  · exact hb
  rcases List.mem_cons.mp h with rfl | h
  · exact hc
  rw [List.mem_singleton.mp h]
  exact hd
theorem good01 {w : Int} (hw : w < 2) : GO w := fun S b h => by
  obtain ⟨c, S1, e1, h1, c1, hc⟩ := letter_of h
  obtain ⟨x, S2, e2, h2, c2, hx⟩ := name_ok (ks := []) h1 (by simp)
  obtain ⟨d, S3, e3, h3, c3, hd⟩ := pick_seq (d0 := .lst (WL.map D.str)) (.inl rfl) h2 (by decide) (by decide)
  obtain ⟨y, hy, rfl⟩ := List.mem_map.mp hd
  obtain ⟨e, S4, e4, h4, c4, he⟩ := pick_seq (d0 := .lst [.str (one c), .str x, .str "end", .str y]) (.inl rfl) h3 (by simp) (by simp)
  have lt : dLt (.int w) (.int 2) S = some (.bl true, S) := by
    show some (D.bl (decide (w < 2)), S) = _
    rw [decide_eq_true hw]
  have l4 : mLst (aCons (mCall m_law_letter (aCons (mV 0) aNil)) (aCons (mCall m_law_name (aCons (mV 0) (aCons (mLst aNil) aNil))) (aCons (mC (.str ("end" : Str))) (aCons (mCall m_law_pick (aCons (mV 0) (aCons (mCall m_law_words aNil) aNil))) aNil)))) [some (.ref b), some (.int w), none, none, none, none] S = .ok (.lst [.str (one c), .str x, .str "end", .str y]) S3 :=
    lst_ok (cons_ok (call_ok (one_ok rfl) e1) (cons_ok (call_ok (cons_ok rfl (one_ok (lst_ok rfl (Nat.zero_le _)))) e2) (cons_ok rfl (one_ok (call_ok (cons_ok rfl (one_ok (call_ok rfl words_ok))) e3))))) (size4 (Nat.le_of_ble_eq_true rfl))
  refine ⟨e, S4, body_rt rfl (seq_rt (if_t (tst_ok (m2_ok rfl rfl lt)) (ret_ok (call_ok (cons_ok rfl (one_ok l4)) e4)))), h4, ((c1.trans c2).trans c3).trans c4, ?_⟩
  exact mem4 (P := VC 25 4) (let_vc hc) (name_vc hx) (sv (by decide +kernel) (by decide)) (words_vc y hy) he
theorem good2 : GO 2 := fun S b h => by
  obtain ⟨r, S1, e1, h1, c1, r0, r4⟩ := throw_n 4 h (by decide) (by decide)
  obtain ⟨t, S2, e2, h2, c2, t0, t8⟩ := throw_n 8 h1 (by decide) (by decide)
  obtain ⟨u, hu, hu1, hu5⟩ : ∃ u : Nat, (4 + (if (r == 0) = true then 1 else 0) : Int) = (u : Int) ∧ 1 ≤ u ∧ u ≤ 5 := by
    split
    · exact ⟨5, rfl, by decide, by decide⟩
    · exact ⟨4, rfl, by decide, by decide⟩
  obtain ⟨q, hq, hq1, hq5⟩ : ∃ u : Nat, (4 + (if (t == 0) = true then 1 else 0) : Int) = (u : Int) ∧ 1 ≤ u ∧ u ≤ 5 := by
    split
    · exact ⟨5, rfl, by decide, by decide⟩
    · exact ⟨4, rfl, by decide, by decide⟩
  obtain ⟨l, S3, e3, h3, c3, hl, hn, hz⟩ := layout_ok u q hu1 hu5 hq1 hq5 h2
  rw [← hu, ← hq] at e3
  refine ⟨layD l, S3, ?_, h3, (c1.trans c2).trans c3, lay_vc hl (by omega)⟩
  exact body_rt rfl (seq_nx (if_f (tst_ok (m2_ok rfl rfl rfl)) rfl) (seq_rt (if_t (tst_ok (m2_ok rfl rfl (eq_int 2 2))) (ret_ok (call_ok (cons_ok rfl (cons_ok (m2_ok rfl (b_ok (one_ok (m2_ok (call_ok (cons_ok rfl (one_ok rfl)) e1) rfl (eq_int r 0))) rfl) rfl) (one_ok (m2_ok rfl (b_ok (one_ok (m2_ok (call_ok (cons_ok rfl (one_ok rfl)) e2) rfl (eq_int t 0))) rfl) rfl)))) e3)))))
theorem good3 : GO 3 := fun S b h => by
  obtain ⟨r, S1, e1, h1, c1, r0, r4⟩ := throw_n X60 h (by decide) (by decide)
  obtain ⟨x, S2, e2, h2, c2, hx⟩ := name_ok (ks := []) h1 (by simp)
  obtain ⟨c, S3, e3, h3, c3, hc⟩ := letter_of h2
  obtain ⟨v, S4, e4, h4, c4, v0, v1⟩ := value_ok h3
  have t4 : mTup (aCons (mCall m_law_throw (aCons (mV 0) (aCons (m2 dPow (mC (.int 10)) (mC (.int 60))) aNil))) (aCons (mCall m_law_name (aCons (mV 0) (aCons (mLst aNil) aNil))) (aCons (mCall m_law_letter (aCons (mV 0) aNil)) (aCons (mCall m_law_value (aCons (mV 0) aNil)) aNil)))) [some (.ref b), some (.int 3), none, none, none, none] S = .ok (.tup [.int r, .str x, .str (one c), .int v]) S4 :=
    tup_ok (cons_ok (call_ok (cons_ok rfl (one_ok (m2_ok rfl rfl (p60 S)))) e1) (cons_ok (call_ok (cons_ok rfl (one_ok (lst_ok rfl (Nat.zero_le _)))) e2) (cons_ok (call_ok (one_ok rfl) e3) (one_ok (call_ok (one_ok rfl) e4))))) (size4 (Nat.le_of_ble_eq_true rfl))
  refine ⟨_, S4, body_rt rfl (seq_nx (if_f (tst_ok (m2_ok rfl rfl rfl)) rfl) (seq_nx (if_f (tst_ok (m2_ok rfl rfl (eq_int 3 2))) rfl) (seq_rt (if_t (tst_ok (m2_ok rfl rfl (eq_int 3 3))) (ret_ok t4))))), h4, ((c1.trans c2).trans c3).trans c4, Nat.le_of_ble_eq_true rfl, fun e he => ?_⟩
  have z60 : -X60 < 0 := by decide
  exact mem4 (P := VC 25 3) (int_vc (by omega) r4) (name_vc hx) (let_vc hc) (int_vc v0 v1) he
theorem good6 : GO 6 := fun S b h => by
  obtain ⟨d, S1, e1, h1, c1, hd⟩ := odd_ok h
  exact ⟨d, S1, body_rt rfl (seq_nx (if_f (tst_ok (m2_ok rfl rfl rfl)) rfl) (seq_nx (if_f (tst_ok (m2_ok rfl rfl (eq_int 6 2))) rfl) (seq_nx (if_f (tst_ok (m2_ok rfl rfl (eq_int 6 3))) rfl) (seq_rt (if_t (tst_ok (m2_ok rfl rfl (eq_int 6 6))) (ret_ok (call_ok (one_ok rfl) e1))))))), h1, c1, VC.mono (by decide) (by decide) hd⟩
/-- one output is added -/
noncomputable abbrev B45 : T := sSeq (sSet 4 (mB bTup (aCons (mComp (iRg1 (aCons (mCall m_law_throw (aCons (mV 0) (aCons (mC (.int 6)) aNil))) aNil)) (gN 5) tT (mCall m_law_value (aCons (mV 0) aNil)) [5]) aNil)))
    (sEx (mM "list" mApp (mV 2) (aCons (mTup (aCons (mCall m_law_letter (aCons (mV 0) aNil)) (aCons (mV 4) aNil))) aNil)))
theorem out_step {S : So} {b cl : Nat} {w : Int} {d : D} {o4 : Option D} {outs : List D} (h : Bag S b) (hc : S[cl]? = some (some (.lst outs))) (hb : cl ≠ b) (hz : outs.length < 100) :
    ∃ o S' o4', B45 [some (.ref b), some (.int w), some (.ref cl), some d, o4, none] S = .ok (.nx [some (.ref b), some (.int w), some (.ref cl), some d, o4', none]) (S'.set cl (some (.lst (outs ++ [o])))) ∧ Bag S' b ∧ Ch b S S' ∧ S'[cl]? = some (some (.lst outs)) ∧ VC 25 3 o := by
  obtain ⟨r, S1, e1, h1, c1, r0, r6⟩ := throw_n 6 h (by decide) (by decide)
  have rl : (rngL 0 r.toNat).length = r.toNat := by simp [rngL]
  obtain ⟨ys, S2, e2, ⟨h2, c2⟩, hl, hP⟩ := comp_ok (hold := none) (S0 := S1) (I := fun S' => Bag S' b ∧ Ch b S S') (P := fun y => VC 25 1 y) (g := gN 5) (f := mCall m_law_value (aCons (mV 0) aNil)) (enw := [some (.ref b), some (.int w), some (.ref cl), some d, o4, none]) (fun _ _ => rfl) (rngL 0 r.toNat) [] S1
    (fun q hq S' hI => by
      obtain ⟨v, S3, e3, h3, c3, v0, v1⟩ := value_ok hI.1
      exact ⟨_, _, S3, rfl, call_ok (one_ok rfl) e3, int_vc v0 v1, h3, hI.2.trans c3⟩) ⟨h1, c1⟩ (by rw [rl, List.length_nil]; exact size4 (by omega))
  rw [List.nil_append] at e2
  rw [rl] at hl
  obtain ⟨c, S3, e3, h3, c3, hcl⟩ := letter_of h2
  have lt : cl < S.length := (List.getElem?_eq_some_iff.mp hc).1
  have hc3 : S3[cl]? = some (some (.lst outs)) := by
    rw [(c2.trans c3).2 cl lt hb]
    exact hc
  have cm : mComp (iRg1 (aCons (mCall m_law_throw (aCons (mV 0) (aCons (mC (.int 6)) aNil))) aNil)) (gN 5) tT (mCall m_law_value (aCons (mV 0) aNil)) [5] [some (.ref b), some (.int w), some (.ref cl), some d, o4, none] S = .ok (.lst ys) S2 :=
    cmp_of (rg1_ok (one_ok (call_ok (cons_ok rfl (one_ok rfl)) e1)) (by omega) (by omega)) e2
  refine ⟨.tup [.str (one c), .tup ys], S3, some (.tup ys), seq_nx (set_ok (b_ok (one_ok cm) rfl)) (ex_ok (mM_ok rfl (lst_typQ (l := outs) (by rw [c2.2 cl lt hb]; exact hc)) (one_ok (tup_ok (cons_ok (call_ok (one_ok rfl) e3) (one_ok rfl)) (size4 (Nat.le_of_ble_eq_true rfl)))) (app_okQ hc3 (by omega)))), h3, c2.trans c3, hc3, Nat.le_of_ble_eq_true rfl, fun e he => ?_⟩
  rcases List.mem_cons.mp he with rfl | he
  · exact let_vc hcl
  rw [List.mem_singleton.mp he]
  exact ⟨by omega, fun e he => hP e he⟩
end K01

namespace K01
open PySem PySem.Spec PyProof.Rows L2 Mi
theorem bag_ne {S : So} {b : Nat} (h : Bag S b) : S.length ≠ b := by have := h.lt; omega
theorem outs_run {S : So} {b : Nat} {w : Int} (h : Bag S b) : ∃ o3 o4 outs S', sFor (iRg1 (aCons (m2 dAdd (mC (.int 1)) (mCall m_law_throw (aCons (mV 0) (aCons (mCall m_law_pick (aCons (mV 0) (aCons (mLst (aCons (mC (.int 3)) (aCons (mC (.int 3)) (aCons (mC (.int 3)) (aCons (mC (.int 20)) aNil))))) aNil))) aNil)))) aNil)) (gN 3) B45 [some (.ref b), some (.int w), some (.ref S.length), none, none, none] (S ++ [some (.lst [])]) = .ok (.nx [some (.ref b), some (.int w), some (.ref S.length), o3, o4, none]) S' ∧
    S'[S.length]? = some (some (.lst outs)) ∧ Bag S' b ∧ Ch b S S' ∧ 1 ≤ outs.length ∧ outs.length ≤ 20 ∧ ∀ o ∈ outs, VC 25 3 o := by
  have hb := bag_ne h
  obtain ⟨e, S1, e1, h1, c1, he⟩ := pick_seq (d0 := .lst [.int 3, .int 3, .int 3, .int 20]) (.inl rfl) (h.app (T := [some (.lst [])])) (by simp) (by simp)
  obtain ⟨t, rfl, ht, ht2⟩ : ∃ t : Int, e = .int t ∧ 0 < t ∧ t ≤ 20 := mem4 (P := fun e => ∃ t : Int, e = .int t ∧ 0 < t ∧ t ≤ 20) ⟨_, rfl, by decide, by decide⟩ ⟨_, rfl, by decide, by decide⟩ ⟨_, rfl, by decide, by decide⟩ ⟨_, rfl, by decide, by decide⟩ he
  obtain ⟨r, S2, e2, h2, c2, r0, r1⟩ := throw_n t h1 ht (Int.lt_of_le_of_lt (b := 20) ht2 (by decide))
  have rl : (rngL 0 (1 + r).toNat).length = (1 + r).toNat := by simp [rngL]
  have lt0 : S.length < (S ++ [some (Ob.lst [])]).length := by simp
  have at2 : S2[S.length]? = some (some (.lst [])) := by
    rw [(c1.trans c2).2 S.length lt0 hb]
    exact app_at
  obtain ⟨en', S3, e3, o3, o4, outs, rfl, k3, h3, c3, hl, hP⟩ := for_invN (S0 := S2) (g := gN 3) (body := B45)
    (J := fun i en S' => ∃ o3 o4 outs, en = [some (.ref b), some (.int w), some (.ref S.length), o3, o4, none] ∧ S'[S.length]? = some (some (.lst outs)) ∧ Bag S' b ∧ Ch b S S' ∧ outs.length = i ∧ ∀ o ∈ outs, VC 25 3 o)
    (n := (1 + r).toNat) (rngL 0 (1 + r).toNat) [some (.ref b), some (.int w), some (.ref S.length), none, none, none] S2 0 (by rw [rl]; omega)
    (fun d hd i en S' hi hJ => by
      obtain ⟨o3, o4, outs, rfl, k, hB, hC, hl, hP⟩ := hJ
      obtain ⟨o, S4, o4', e4, h4, c4, k4, hv⟩ := out_step (w := w) (d := d) (o4 := o4) hB k hb (by omega)
      have lt4 : S.length < S4.length := (List.getElem?_eq_some_iff.mp k4).1
      refine ⟨_, _, _, rfl, e4, some d, o4', outs ++ [o], rfl, List.getElem?_set_self lt4, h4.setN hb, (hC.trans c4).setN (Nat.le_refl _), by simp [hl], fun q hq => ?_⟩
      rcases List.mem_append.mp hq with hq | hq
      · exact hP q hq
      · rw [List.mem_singleton.mp hq]; exact hv)
    ⟨none, none, [], rfl, at2, h2, (Ch.app.trans c1).trans c2, rfl, by simp⟩
  refine ⟨o3, o4, outs, S3, for_of (rg1_ok (one_ok (m2_ok rfl (call_ok (cons_ok rfl (one_ok (call_ok (cons_ok rfl (one_ok (lst_ok rfl (size4 (Nat.le_of_ble_eq_true rfl))))) e1))) e2) rfl)) (by omega) (by omega)) e3, k3, h3, c3, by omega, by omega, hP⟩
theorem flat_end (k : Nat) : (List.replicate k [D.str "end"]).flatten = List.replicate k (D.str "end") := by
  induction k with
  | zero => rfl
  | succ k ih => rw [List.replicate_succ, List.flatten_cons, ih]; rfl
theorem good45 {w : Int} (hw : w = 4 ∨ w = 5) : GO w := fun S b h => by
  have hb := bag_ne h
  obtain ⟨o3, o4, outs, S1, e1, k1, h1, c1, l1, l20, hP⟩ := outs_run (w := w) h
  have pre : ∀ (x : D) (S' : So), sRet (mIf (tB' (m2 dEq (mV 1) (mC (.int 4)))) (m2 dIx (mV 2) (mC (.int 0))) (mB bTup (aCons (m2 dAdd (mV 2) (m2 dMul (mLst (aCons (mC (.str ("end" : Str))) aNil)) (mCall m_law_throw (aCons (mV 0) (aCons (mC (.int 2)) aNil))))) aNil))) [some (.ref b), some (.int w), some (.ref S.length), o3, o4, none] S1 = .ok (.rt x) S' → m_law_good [.ref b, .int w] S = .ok x S' := fun x S' hR => by
    have lt : dLt (.int w) (.int 2) S = some (.bl false, S) := by
      show some (D.bl (decide (w < 2)), S) = _
      rw [decide_eq_false (by omega)]
    have q2 := eq_int (S := S) w 2
    have q3 := eq_int (S := S) w 3
    have q6 := eq_int (S := S) w 6
    rw [show (w == 2) = false by rw [beq_eq_false_iff_ne]; omega] at q2
    rw [show (w == 3) = false by rw [beq_eq_false_iff_ne]; omega] at q3
    rw [show (w == 6) = false by rw [beq_eq_false_iff_ne]; omega] at q6
    exact body_rt rfl (seq_nx (if_f (tst_ok (m2_ok rfl rfl lt)) rfl) (seq_nx (if_f (tst_ok (m2_ok rfl rfl q2)) rfl) (seq_nx (if_f (tst_ok (m2_ok rfl rfl q3)) rfl) (seq_nx (if_f (tst_ok (m2_ok rfl rfl q6)) rfl) (seq_nx (set_ok rfl) (seq_nx e1 hR))))))
  have ls : lstOf (.ref S.length) S1 = some outs := by
    unfold lstOf
    simp only [k1]
  rcases hw with rfl | rfl
  · obtain ⟨o, eo, ho⟩ := atI_of (l := outs) (r := 0) (by omega) (by omega)
    have ix : dIx (.ref S.length) (.int 0) S1 = some (o, S1) := by
      unfold dIx
      simp only [dctOf, seqOf, k1, eo]
      rfl
    exact ⟨o, S1, pre _ _ (ret_ok (ife_t (tst_ok (m2_ok rfl rfl (eq_int 4 4))) (m2_ok rfl rfl ix))), h1, c1, VC.mono (by decide) (by decide) (hP o ho)⟩
  · obtain ⟨r, S2, e2, h2, c2, r0, r2⟩ := throw_n 2 h1 (by decide) (by decide)
    have ls2 : lstOf (.ref S.length) S2 = some outs := by
      unfold lstOf
      have : S2[S.length]? = some (some (.lst outs)) := by
        rw [c2.2 S.length (List.getElem?_eq_some_iff.mp k1).1 hb]
        exact k1
      simp only [this]
    have mu : dMul (.lst [.str "end"]) (.int r) S2 = some (.lst (List.replicate r.toNat (D.str "end")), S2) := by
      unfold dMul
      simp only [lstOf]
      have z : 1 * r.toNat ≤ sizeLine := size4 (by omega)
      rw [if_pos ⟨r0, by omega, z⟩, flat_end]
    have ad : dAdd (.ref S.length) (.lst (List.replicate r.toNat (D.str "end"))) S2 = some (.lst (outs ++ List.replicate r.toNat (D.str "end")), S2) := by
      have : ∀ k, lstOf (.lst k) S2 = some k := fun _ => rfl
      unfold dAdd
      simp only [ls2, this]
      rw [if_pos (by rw [List.length_replicate]; exact size4 (by omega))]
    refine ⟨.tup (outs ++ List.replicate r.toNat (D.str "end")), S2, pre _ _ (ret_ok (ife_f (tst_ok (m2_ok rfl rfl (eq_int 5 4))) (b_ok (one_ok (m2_ok rfl (m2_ok (lst_ok rfl (size4 (Nat.le_of_ble_eq_true rfl))) (call_ok (cons_ok rfl (one_ok rfl)) e2) mu) ad)) rfl))), h2, c1.trans c2, by rw [List.length_append, List.length_replicate]; omega, fun e he => ?_⟩
    rcases List.mem_append.mp he with he | he
    · exact hP e he
    · rw [(List.mem_replicate.mp he).2]
      exact sv (by decide +kernel) (by decide)
theorem good_ok {w : Int} (h0 : 0 ≤ w) (h7 : w < 7) : GO w := by
  by_cases c : w < 2
  · exact good01 c
  have : w = 2 ∨ w = 3 ∨ w = 4 ∨ w = 5 ∨ w = 6 := by omega
  rcases this with rfl | rfl | rfl | rfl | rfl
  · exact good2
  · exact good3
  · exact good45 (.inl rfl)
  · exact good45 (.inr rfl)
  · exact good6
end K01

namespace K01
open PySem PySem.Spec PyProof.Rows L2 Mi
theorem eqv_bls : ∀ l : List Bool, PyData.eqvAll (l.map PyData.bool) (l.map PyData.bool) = true
  | [] => by simp [PyData.eqvAll]
  | y :: ys => by simp [PyData.eqvAll, PyData.eqv, eqv_bls ys]
theorem ne_bls (a b c d e f : Bool) (S : So) : dNe (.lst [.bl a, .bl b, .bl c, .bl d, .bl e, .bl f]) (.lst [.bl a, .bl b, .bl c, .bl d, .bl e, .bl f]) S = some (.bl false, S) := by
  cases a <;> cases b <;> cases c <;> cases d <;> cases e <;> cases f <;> kernel_rfl
/-- one or two changes -/
theorem spoils {S : So} {b : Nat} {d : D} {k : Nat} {en0 : List (Option D)} (h : Bag S b) (hv : VC 25 4 d) (hk : k ≤ 2) {a0 : Option D} {i s : Int} {o5 o6 o7 o8 o9 : Option D} :
    ∃ d' o5' S', Mi.forM none S (gN 5) (sSet 4 (mCall (m_law_spoiled 8) (aCons (mV 2) (aCons (mV 4) aNil)))) (rngL 0 k) [a0, some (.int i), some (.ref b), some (.int s), some d, o5, o6, o7, o8, o9] S = .ok (.nx [a0, some (.int i), some (.ref b), some (.int s), some d', o5', o6, o7, o8, o9]) S' ∧ Bag S' b ∧ Ch b S S' ∧ Val 9 d' := by
  have st : ∀ (c m : Nat) (d : D) (S0 S : So) (o : Option D) (q : D), 25 ≤ c → c ≤ 60 → m ≤ 8 → VC c m d → Bag S b → ∃ d' S', sSet 4 (mCall (m_law_spoiled 8) (aCons (mV 2) (aCons (mV 4) aNil))) [a0, some (.int i), some (.ref b), some (.int s), some d, some q, o6, o7, o8, o9] S = .ok (.nx [a0, some (.int i), some (.ref b), some (.int s), some d', some q, o6, o7, o8, o9]) S' ∧ Bag S' b ∧ Ch b S S' ∧ VC (c + 1) (m + 2) d' := fun c m d S0 S o q h1 h2 h3 h4 h5 => by
    obtain ⟨d', S', e, hB, hC, hV⟩ := spoiled_ok h1 h2 m 8 d h3 h4 S b h5
    exact ⟨d', S', set_ok (call_ok (cons_ok rfl (one_ok rfl)) e), hB, hC, hV⟩
  have hk : k = 0 ∨ k = 1 ∨ k = 2 := by omega
  rcases hk with rfl | rfl | rfl
  · exact ⟨d, o5, S, by unfold rngL; simp [Mi.forM], h, Ch.refl, VC.val (by decide) (by decide) hv⟩
  · obtain ⟨d1, S1, e1, h1, c1, v1⟩ := st 25 4 d S S none (.int 0) (by decide) (by decide) (by decide) hv h
    refine ⟨d1, some (.int 0), S1, ?_, h1, c1, VC.val (by decide) (by decide) v1⟩
    rw [show rngL 0 1 = [D.int 0] from rfl]
    unfold Mi.forM
    rw [show gN 5 (.int 0) [a0, some (.int i), some (.ref b), some (.int s), some d, o5, o6, o7, o8, o9] S = some [a0, some (.int i), some (.ref b), some (.int s), some d, some (.int 0), o6, o7, o8, o9] from rfl]
    simp only [e1, R.bind_ok, still_none, if_true]
    unfold Mi.forM
    rfl
  · obtain ⟨d1, S1, e1, h1, c1, v1⟩ := st 25 4 d S S none (.int 0) (by decide) (by decide) (by decide) hv h
    obtain ⟨d2, S2, e2, h2, c2, v2⟩ := st 26 6 d1 S1 S1 none (.int 1) (by decide) (by decide) (by decide) v1 h1
    refine ⟨d2, some (.int 1), S2, ?_, h2, c1.trans c2, VC.val (by decide) (by decide) v2⟩
    rw [show rngL 0 2 = [D.int 0, D.int 1] from rfl]
    unfold Mi.forM
    rw [show gN 5 (.int 0) [a0, some (.int i), some (.ref b), some (.int s), some d, o5, o6, o7, o8, o9] S = some [a0, some (.int i), some (.ref b), some (.int s), some d, some (.int 0), o6, o7, o8, o9] from rfl]
    simp only [e1, R.bind_ok, still_none, if_true]
    unfold Mi.forM
    rw [show gN 5 (.int 1) [a0, some (.int i), some (.ref b), some (.int s), some d1, some (.int 0), o6, o7, o8, o9] S1 = some [a0, some (.int i), some (.ref b), some (.int s), some d1, some (.int 1), o6, o7, o8, o9] from rfl]
    simp only [e2, R.bind_ok, still_none, if_true]
    unfold Mi.forM
    rfl
theorem law_ok (ns : List Int) (hn : ns.length ≤ 63) : ∃ S', m_law [.scr ns] [] = .ok (.bl true) S' := by
  have hl : bLen [.scr ns] [] = some (.int ns.length, []) := by
    show some (D.int ((ns.map D.int).length : Nat), ([] : So)) = _
    rw [List.length_map]
  obtain ⟨m, hm0, hm⟩ : ∃ m : Int, iRg1 (aCons (mB bMax (aCons (mC (.int 1)) (aCons (mB bLen (aCons (mV 0) aNil)) aNil))) aNil) [some (.scr ns), none, none, none, none, none, none, none, none, none] [] = .ok ⟨none, rngL 0 m.toNat⟩ [] ∧ 0 ≤ m := by
    refine ⟨_, rg1_ok (one_ok (b_ok (cons_ok rfl (one_ok (b_ok (one_ok rfl) hl))) rfl)) ?_ ?_, ?_⟩ <;> split <;> omega
  have body : ∀ d ∈ rngL 0 m.toNat, ∀ (en : En) (S : So), (∃ o1 o2 o3 o4 o5 o6 o7 o8 o9, en = [some (.scr ns), o1, o2, o3, o4, o5, o6, o7, o8, o9]) → ∃ en1 en2 S2, gN 1 d en S = some en1 ∧ (sSeq (sSet 2 (mCall m_law_start (aCons (mV 0) (aCons (mV 1) aNil))))
    (sSeq (sSet 3 (m2 dSub (mCall m_law_throw (aCons (mV 2) (aCons (mC (.int 4)) aNil))) (mC (.int 1))))
    (sSeq (sSet 4 (mCall m_law_good (aCons (mV 2) (aCons (mCall m_law_throw (aCons (mV 2) (aCons (mC (.int 7)) aNil))) aNil))))
    (sSeq (sFor (iRg1 (aCons (mV 3) aNil)) (gN 5) (sSet 4 (mCall (m_law_spoiled 8) (aCons (mV 2) (aCons (mV 4) aNil)))))
    (sSeq (sSet 6 (mLst (aCons (mCall m_law_is_letter (aCons (mV 4) aNil)) (aCons (mCall m_law_is_name (aCons (mV 4) aNil)) (aCons (mCall m_law_is_layout (aCons (mV 4) aNil)) (aCons (mCall m_law_is_event (aCons (mV 4) aNil)) aNil))))))
    (sSeq (sSet 6 (m2 dAdd (mV 6) (mLst (aCons (mCall m_law_is_output (aCons (mV 4) aNil)) (aCons (mCall m_law_is_list (aCons (mV 4) aNil)) aNil)))))
    (sSeq (sSet 7 (mCall (m_law_copied 9) (aCons (mV 4) aNil)))
    (sSeq (sSet 8 (mLst (aCons (mCall m_is_letter (aCons (mV 4) aNil)) (aCons (mCall m_is_name (aCons (mV 4) aNil)) (aCons (mCall m_is_layout (aCons (mV 4) aNil)) (aCons (mCall m_is_event (aCons (mV 4) aNil)) aNil))))))
    (sSeq (sSet 8 (m2 dAdd (mV 8) (mLst (aCons (mCall m_is_output (aCons (mV 4) aNil)) (aCons (mCall m_is_list (aCons (mV 4) aNil)) aNil)))))
    (sIf (tOr' (tNot' (tTru (mB bAll (aCons (mComp (iSeq (mV 8)) (gN 9) tT (mIs .bl (mV 9)) [9]) aNil)))) (tOr' (tB' (m2 dNe (mV 8) (mV 6))) (tNot' (tTru (mCall (m_law_same 9) (aCons (mV 4) (aCons (mV 7) aNil))))))) (sRet (mC (.bl false))) sNil)))))))))) en1 S = .ok (.nx en2) S2 ∧ (∃ o1 o2 o3 o4 o5 o6 o7 o8 o9, en2 = [some (.scr ns), o1, o2, o3, o4, o5, o6, o7, o8, o9]) := by
    intro d hd en S hen
    obtain ⟨o1, o2, o3, o4, o5, o6, o7, o8, o9, rfl⟩ := hen
    obtain ⟨i, hi, rfl⟩ := List.mem_map.mp hd
    obtain ⟨i', hi'⟩ : ∃ k : Nat, (0 : Int) + (i : Int) = (k : Int) := ⟨i, by omega⟩
    rw [hi']
    obtain ⟨u, v, e1⟩ := start_ok ns i' S
    have h1 : Bag (S ++ [some (.lst [.int u, .int v, .int 0])]) S.length := ⟨u, v, 0, by simp⟩
    obtain ⟨r, S2, e2, h2, c2, r0, r4⟩ := throw_n 4 h1 (by decide) (by decide)
    obtain ⟨w, S3, e3, h3, c3, w0, w7⟩ := throw_n 7 h2 (by decide) (by decide)
    obtain ⟨d, S4, e4, h4, c4, hd⟩ := good_ok w0 w7 S3 S.length h3
    obtain ⟨k, hk, hk2⟩ : ∃ k : Nat, (r - 1).toNat = k ∧ k ≤ 2 := ⟨_, rfl, by omega⟩
    obtain ⟨d, o5, S5, e5, h5, c5, hv⟩ := spoils (a0 := some (.scr ns)) (i := (i' : Int)) (s := r - 1) (o5 := o5) (o6 := o6) (o7 := o7) (o8 := o8) (o9 := o9) (en0 := []) h4 hd hk2
    have L1 := letter_both S5 hv
    have L2 := name_both S5 hv
    have L3 := layout_both S5 hv
    have L4 := event_both S5 hv
    have L5 := output_both S5 hv
    have L6 := list_both S5 hv
    have cp := copied_ok 9 d S5 hv
    have sm := same_ok 9 d S5 hv
    obtain ⟨en4, hen4⟩ : ∃ en4 : En, en4 = [some (.scr ns), some (.int (i' : Int)), some (.ref S.length), some (.int (r - 1)), some d, o5, o6, o7, o8, o9] := ⟨_, rfl⟩
    have a4 : ∀ (x y z : Option D), mV 4 [some (.scr ns), some (.int (i' : Int)), some (.ref S.length), some (.int (r - 1)), some d, o5, x, y, z, o9] S5 = .ok d S5 := fun _ _ _ => rfl
    have g : ∀ (F : Fm) (bo : Bool) (x y z : Option D), F [d] S5 = .ok (.bl bo) S5 → mCall F (aCons (mV 4) aNil) [some (.scr ns), some (.int (i' : Int)), some (.ref S.length), some (.int (r - 1)), some d, o5, x, y, z, o9] S5 = .ok (.bl bo) S5 := fun F bo x y z e => call_ok (one_ok rfl) e
    have z4 : (4 : Nat) ≤ sizeLine := size4 (by decide)
    have z2 : (2 : Nat) ≤ sizeLine := size4 (by decide)
    have s6 := set_ok (i := 6) (lst_ok (cons_ok (g _ _ o6 o7 o8 L1.2) (cons_ok (g _ _ o6 o7 o8 L2.2) (cons_ok (g _ _ o6 o7 o8 L3.2) (one_ok (g _ _ o6 o7 o8 L4.2))))) z4)
    have vb : mB bAll (aCons (mComp (iSeq (mV 8)) (gN 9) tT (mIs .bl (mV 9)) [9]) aNil) [some (.scr ns), some (.int (i' : Int)), some (.ref S.length), some (.int (r - 1)), some d, o5, some (.lst [.bl (isL d), .bl (isN d), .bl (isLay d), .bl (isE d), .bl (isOt d), .bl (isLst d)]), some d, some (.lst [.bl (isL d), .bl (isN d), .bl (isLay d), .bl (isE d), .bl (isOt d), .bl (isLst d)]), o9] S5 = .ok (.bl true) S5 := by
      have e9 := comp_mapα (hold := none) (S0 := S5) (S := S5) (ι := fun q : Bool => D.bl q) (φ := fun _ => D.bl true) (g := gN 9) (f := mIs .bl (mV 9)) (enw := [some (.scr ns), some (.int (i' : Int)), some (.ref S.length), some (.int (r - 1)), some d, o5, some (.lst [.bl (isL d), .bl (isN d), .bl (isLay d), .bl (isE d), .bl (isOt d), .bl (isLst d)]), some d, some (.lst [.bl (isL d), .bl (isN d), .bl (isLay d), .bl (isE d), .bl (isOt d), .bl (isLst d)]), none]) rfl [isL d, isN d, isLay d, isE d, isOt d, isLst d] []
        (fun q _ => ⟨_, rfl, is_ok rfl rfl⟩) (size4 (Nat.le_of_ble_eq_true rfl))
      rw [List.nil_append] at e9
      exact b_ok (one_ok (cmp_of (src := ⟨none, [.bl (isL d), .bl (isN d), .bl (isLay d), .bl (isE d), .bl (isOt d), .bl (isLst d)]⟩) (seq_src rfl rfl) e9)) ((all_of (fun _ => true) [isL d, isN d, isLay d, isE d, isOt d, isLst d] S5))
    have nb := ne_bls (isL d) (isN d) (isLay d) (isE d) (isOt d) (isLst d) S5
    refine ⟨_, _, S5, rfl, seq_nx (set_ok (call_ok (cons_ok rfl (one_ok rfl)) e1)) (seq_nx (set_ok (m2_ok (call_ok (cons_ok rfl (one_ok rfl)) e2) rfl rfl)) (seq_nx (set_ok (call_ok (cons_ok rfl (one_ok (call_ok (cons_ok rfl (one_ok rfl)) e3))) e4)) (seq_nx (for_of (rg1_ok (one_ok rfl) (by omega) (by omega)) (by rw [hk]; exact e5)) (seq_nx s6 (seq_nx (set_ok (m2_ok rfl (lst_ok (cons_ok (g _ _ _ _ _ L5.2) (one_ok (g _ _ _ _ _ L6.2))) z2) (add_lst (size4 (Nat.le_of_ble_eq_true rfl))))) (seq_nx (set_ok (call_ok (one_ok rfl) cp)) (seq_nx (set_ok (lst_ok (cons_ok (g _ _ _ _ _ L1.1) (cons_ok (g _ _ _ _ _ L2.1) (cons_ok (g _ _ _ _ _ L3.1) (one_ok (g _ _ _ _ _ L4.1))))) z4)) (seq_nx (set_ok (m2_ok rfl (lst_ok (cons_ok (g _ _ _ _ _ L5.1) (one_ok (g _ _ _ _ _ L6.1))) z2) (add_lst (size4 (Nat.le_of_ble_eq_true rfl))))) (if_f (tor_f (tnot_t (tru_bl vb)) (tor_f (tst_ok (m2_ok rfl rfl nb)) (tnot_t (tru_bl (call_ok (cons_ok rfl (one_ok rfl)) sm))))) rfl))))))))), _, _, _, _, _, _, _, _, _, rfl⟩
  obtain ⟨en', S', e, _⟩ := for_inv (S0 := []) (J := fun en _ => ∃ o1 o2 o3 o4 o5 o6 o7 o8 o9, en = [some (.scr ns), o1, o2, o3, o4, o5, o6, o7, o8, o9]) (rngL 0 m.toNat) [some (.scr ns), none, none, none, none, none, none, none, none, none] [] body ⟨_, _, _, _, _, _, _, _, _, rfl⟩
  exact ⟨S', body_rt rfl (seq_nx (for_of hm0 e) (ret_ok rfl))⟩
end K01

namespace K01
open PySem PySem.Spec PyProof.Rows L2 Mi
section
variable {K : PySem.W.Frag} {mg : Str → Option Value} {cm : Cm} {f : Addr} {fd : FuncData} {T0 : Addr} {o0 : Obj} {n0 : Nat}
abbrev ps3 : List Str := ["self", "events", "last"]
abbrev FI (K : PySem.W.Frag) (T0 f : Addr) (fd : FuncData) : Prop := FunD K "__init__" "Tape.__init__" (defArgs s_Tape_init) (defBody s_Tape_init) (defScope s_Tape_init) [V.ref T0] [("last", V.non)] f fd
theorem kb4 (F : FI K T0 f fd) : ∃ its mv : List Value, KBn K fd ps3 2 [] (fun us ws => us ++ mv) (fun vs zs => vs ++ [V.non]) :=
  F.kbinds 2 [] [("last", V.non)] (fun us _ mv _ => us ++ mv) (by simp) (by simp) (fun q h => h) (fun a _ c _ => a.append c) fun T D doc pm an cdv ct us its mv ws l1 l2 l3 l4 =>
    match us, its, mv, ws, l1, l2, l3, l4 with | [_, _], [_], [_], [], _, _, _, _ => ⟨_, rfl, _, _, _, _, _, _, rfl, rfl, rfl⟩
theorem kb3 (F : FI K T0 f fd) : ∃ its mv : List Value, KBn K fd ps3 1 [] (fun us ws => us ++ (its ++ mv)) (fun vs zs => vs ++ ([V.ref T0] ++ [V.non])) :=
  F.kbinds 1 [] [("last", V.non)] (fun us its mv _ => us ++ (its ++ mv)) (by simp) (by simp) (fun q h => h) (fun a b c _ => a.append (b.append c)) fun T D doc pm an cdv ct us its mv ws l1 l2 l3 l4 =>
    match us, its, mv, ws, l1, l2, l3, l4 with | [_], [_], [_], [], _, _, _, _ => ⟨_, rfl, _, _, _, _, _, _, rfl, rfl, rfl⟩
theorem rep_t0 {ct : Ct} {m : Am} {S : So} {H : Hp} (l : ct.K.lookup T0 = some ⟨.type "tuple", od, .seq #[] n0, sl⟩) : Rep ct m S H (.tup []) (.ref T0) := by
  simp only [Rep]
  exact ⟨T0, [], rfl, .inr ⟨_, _, _, l, rfl, rfl, Nat.zero_le _, .nil⟩, Reps.nil⟩
variable {od0 : Option Addr} {sl0 : Array (Option Value)}
theorem mb4 {ct : Ct} (F : FI K T0 f fd) : MkB K ct fd ps3 1 [] G4 := by
  obtain ⟨_, _, h⟩ := kb4 F
  exact ⟨_, _, h, fun m S H ds zs vs ws a b _ _ => a.append (Reps.cons (by simp only [Rep]) Reps.nil)⟩
theorem mb3 {ct : Ct} (F : FI K T0 f fd) (l : ct.K.lookup T0 = some ⟨.type "tuple", od0, .seq #[] n0, sl0⟩) : MkB K ct fd ps3 0 [] G3 := by
  obtain ⟨_, _, h⟩ := kb3 F
  exact ⟨_, _, h, fun m S H ds zs vs ws a b _ _ => a.append (Reps.cons (rep_t0 l) (Reps.cons (by simp only [Rep]) Reps.nil))⟩
end

/-! ### the classes, asked in one go -/
def rs1B (K : PySem.W.Frag) (C : Addr) (bmB : List Value) (newId : String) : Bool := PySem.W.keepIn K (.ref C) && (PySem.W.excIn K C bmB newId && (decide (PySem.W.subIn K (.ref C) (.type "BaseException") = some true) && decide (PySem.W.typeIn K (.ref C) = some (.type "type"))))
theorem rs1B_ok {K : PySem.W.Frag} {mg : Str → Option Value} {cm : Cm} {x : Str} {C : Addr} {bmB : List Value} {newId : String} (h : rs1B K C bmB newId = true) (e : cm.exc x = some C) (g : mg x = some (.ref C)) : Rs1 K mg cm x bmB newId := by
  simp only [rs1B, Bool.and_eq_true, decide_eq_true_eq] at h
  obtain ⟨h1, h2, h3, h4⟩ := h
  exact ⟨C, e, g, h1, h2, h3, h4⟩
abbrev cmOf (C : Addr) (tab : List (Str × Addr)) : Cm := ⟨fun c => if c = "Tape" then some C else none, fun c => tab.lookup c⟩
section
variable {K : PySem.W.Frag} {C : Addr} {tab : List (Str × Addr)} {mg : Str → Option Value}
theorem cls_eq {c : Str} {D : Addr} (e : (cmOf C tab).cls c = some D) : c = "Tape" ∧ D = C := by
  have e1 : (if c = ("Tape" : Str) then some C else none) = some D := e
  by_cases h : c = "Tape"
  · rw [if_pos h] at e1
    exact ⟨h, (Option.some.inj e1).symm⟩
  · rw [if_neg h] at e1
    cases e1
theorem cls_tape : (cmOf C tab).cls "Tape" = some C := by show (if ("Tape" : Str) = "Tape" then some C else none) = some C; exact if_pos rfl
end
/-! ### the class Tape -/
def tys : List Ty := [.non, .bl, .int, .str, .tup, .lst, .dct]
theorem tys_all (T : Ty) : T ∈ tys := by cases T <;> decide
def clsB (K : PySem.W.Frag) (C : Addr) : Bool := PySem.W.plainGet K C Str.empty && (PySem.W.hasDictIn K C && (PySem.W.plainOver K C && decide (PySem.W.findIn K (.ref C) "__setattr__" = some (some (.builtin "object.__setattr__")))))
theorem clsB_ok {K : PySem.W.Frag} {C : Addr} (h : clsB K C = true) : Cls K C := by
  simp only [clsB, Bool.and_eq_true, decide_eq_true_eq] at h
  obtain ⟨h1, h2, h3, h4⟩ := h
  exact ⟨h1, h2, h3, h4⟩
def ownB (K : PySem.W.Frag) (C : Addr) : Bool := clsB K C && (decide (PySem.W.findIn K (.ref C) "__class__" = some (some (.builtin "object.__class__"))) && (decide (PySem.W.specialIn K (.builtin "object.__class__") "__get__" = some (some (.builtin "getset_descriptor.__get__"))) && (decide (PySem.W.takesIn K (.builtin "object.__class__") = some true) &&
  (decide (PySem.W.mroIn K C (.type "object") = some true) && tys.all fun T => decide (T = .non) || decide (PySem.W.kitOne K (.ref C) (.type T.name) = some false)))))
theorem ownB_ok {K : PySem.W.Frag} {C : Addr} (h : ownB K C = true) : OwnC K C := by
  simp only [ownB, Bool.and_eq_true, decide_eq_true_eq] at h
  obtain ⟨h1, h2, h3, h4, h5, h6⟩ := h
  refine ⟨clsB_ok h1, h2, h3, h4, h5, fun T n => ?_⟩
  have z := List.all_eq_true.mp h6 T (tys_all T)
  rw [decide_eq_false n, Bool.false_or] at z
  exact of_decide_eq_true z
def ioB (K : PySem.W.Frag) (C : Addr) : Bool := (tys.all fun T => decide (PySem.W.kitOne K (.type T.name) (.ref C) = some false)) && decide (PySem.W.kitOne K (.ref C) (.ref C) = some true)
theorem ioB_ok {K : PySem.W.Frag} {C : Addr} {tab : List (Str × Addr)} {mg : Str → Option Value} (o : OwnC K C) (h : ioB K C = true) (g : mg "Tape" = some (.ref C)) : IsOwn K mg (cmOf C tab) "Tape" := by
  simp only [ioB, Bool.and_eq_true, decide_eq_true_eq] at h
  refine ⟨C, g, fun T => of_decide_eq_true (List.all_eq_true.mp h.1 T (tys_all T)), fun c D e => ?_⟩
  obtain ⟨rfl, rfl⟩ := cls_eq e
  refine ⟨o, ?_⟩
  rw [h.2]
  exact congrArg some (decide_eq_true rfl).symm
def nsB (K : PySem.W.Frag) (C : Addr) : Bool := (tys.all fun T => decide (PySem.W.subIn K (.type T.name) (.ref C) = some false)) && decide (PySem.W.findIn K (.ref C) "__ne__" = some (some (.builtin "object.__ne__")))
theorem nsB_ok {K : PySem.W.Frag} {C : Addr} (h : nsB K C = true) : NotSub K C ∧ NoNe K C := by
  simp only [nsB, Bool.and_eq_true, decide_eq_true_eq] at h
  exact ⟨fun T => of_decide_eq_true (List.all_eq_true.mp h.1 T (tys_all T)), h.2⟩
def wordB (K : PySem.W.Frag) (its : Array Value) (xs : List Str) : Bool := decide (its.size ≤ sizeLine) && He.relAll (xs.map V.str) its.toList
/-- law's promise -/
def spL (K : PySem.W.Frag) : Sp := fun vs H Q _ => ∃ (a : Addr) (ns : List Int), vs = [.ref a] ∧ SqS K H a (ns.map V.int) ∧ (∀ b, H b ≠ none → True) ∧ ns.length ≤ 63 ∧ ∀ H', Q (.bl true) H'
theorem spL_imp {K : PySem.W.Frag} {cls exc : Str → Option Addr} (vs : List L2.V) (H : Hp) (Q : VK) (E : XK) (h : spL K vs H Q E) : spF ⟨K, cls, exc⟩ 1 m_law vs H Q E := by
  obtain ⟨a, ns, rfl, hS, _, hl, q⟩ := h
  obtain ⟨S', e⟩ := law_ok ns hl
  refine ⟨rfl, ⟨fun _ => 0, fun _ => False⟩, [], [.scr ns], ⟨fun n o z => by simp at z, fun n k o u z => by simp at z, fun _ z => z.elim, fun _ z => z.elim⟩, Reps.cons (by simp only [Rep]; exact ⟨a, rfl, hS⟩) Reps.nil, ?_⟩
  rw [e]
  intro v m' H' A R r
  simp only [Rep] at r
  rw [r]
  exact q H'
theorem all_mk {l : PySem.W.OpenLaw} {w : World} {K : PySem.W.Frag} {h : Heap} {mg : Str → Option Value} {fa : Addr} (X : K.In h) (G : h.Ns mainGlobals mg) (hfa : mg "law" = some (.ref fa))
    {C_Tape : Addr}
    {C_InvalidTape : Addr}
    {f_law_copied : Addr} {od_law_copied an_law_copied : Option Addr} {sl_law_copied : Array (Option Value)} {oc_law_copied kV_law_copied dc_law_copied pm_law_copied cd_law_copied ct_law_copied : Value}
    {f_law_throw : Addr} {od_law_throw an_law_throw : Option Addr} {sl_law_throw : Array (Option Value)} {oc_law_throw kV_law_throw dc_law_throw pm_law_throw cd_law_throw ct_law_throw : Value}
    {f_law_letters : Addr} {od_law_letters an_law_letters : Option Addr} {sl_law_letters : Array (Option Value)} {oc_law_letters kV_law_letters dc_law_letters pm_law_letters cd_law_letters ct_law_letters : Value}
    {f_law_pick : Addr} {od_law_pick an_law_pick : Option Addr} {sl_law_pick : Array (Option Value)} {oc_law_pick kV_law_pick dc_law_pick pm_law_pick cd_law_pick ct_law_pick : Value}
    {f_law_words : Addr} {od_law_words an_law_words : Option Addr} {sl_law_words : Array (Option Value)} {oc_law_words kV_law_words dc_law_words pm_law_words cd_law_words ct_law_words : Value}
    {f_law_name : Addr} {od_law_name an_law_name : Option Addr} {sl_law_name : Array (Option Value)} {oc_law_name kV_law_name dc_law_name pm_law_name cd_law_name ct_law_name : Value}
    {f_law_layout : Addr} {od_law_layout an_law_layout : Option Addr} {sl_law_layout : Array (Option Value)} {oc_law_layout kV_law_layout dc_law_layout pm_law_layout cd_law_layout ct_law_layout : Value}
    {f_law_letter : Addr} {od_law_letter an_law_letter : Option Addr} {sl_law_letter : Array (Option Value)} {oc_law_letter kV_law_letter dc_law_letter pm_law_letter cd_law_letter ct_law_letter : Value}
    {f_is_integer : Addr} {od_is_integer an_is_integer : Option Addr} {sl_is_integer : Array (Option Value)} {oc_is_integer kV_is_integer dc_is_integer pm_is_integer cd_is_integer ct_is_integer : Value}
    {f_is_letter : Addr} {od_is_letter an_is_letter : Option Addr} {sl_is_letter : Array (Option Value)} {oc_is_letter kV_is_letter dc_is_letter pm_is_letter cd_is_letter ct_is_letter : Value}
    {f_is_name : Addr} {od_is_name an_is_name : Option Addr} {sl_is_name : Array (Option Value)} {oc_is_name kV_is_name dc_is_name pm_is_name cd_is_name ct_is_name : Value}
    {f_is_time : Addr} {od_is_time an_is_time : Option Addr} {sl_is_time : Array (Option Value)} {oc_is_time kV_is_time dc_is_time pm_is_time cd_is_time ct_is_time : Value}
    {f_is_event : Addr} {od_is_event an_is_event : Option Addr} {sl_is_event : Array (Option Value)} {oc_is_event kV_is_event dc_is_event pm_is_event cd_is_event ct_is_event : Value}
    {f_are_events : Addr} {od_are_events an_are_events : Option Addr} {sl_are_events : Array (Option Value)} {oc_are_events kV_are_events dc_are_events pm_are_events cd_are_events ct_are_events : Value}
    {f_last_time : Addr} {od_last_time an_last_time : Option Addr} {sl_last_time : Array (Option Value)} {oc_last_time kV_last_time dc_last_time pm_last_time cd_last_time ct_last_time : Value}
    {f_law_odd : Addr} {od_law_odd an_law_odd : Option Addr} {sl_law_odd : Array (Option Value)} {oc_law_odd kV_law_odd dc_law_odd pm_law_odd cd_law_odd ct_law_odd : Value}
    {f_law_value : Addr} {od_law_value an_law_value : Option Addr} {sl_law_value : Array (Option Value)} {oc_law_value kV_law_value dc_law_value pm_law_value cd_law_value ct_law_value : Value}
    {f_law_good : Addr} {od_law_good an_law_good : Option Addr} {sl_law_good : Array (Option Value)} {oc_law_good kV_law_good dc_law_good pm_law_good cd_law_good ct_law_good : Value}
    {f_law_is_integer : Addr} {od_law_is_integer an_law_is_integer : Option Addr} {sl_law_is_integer : Array (Option Value)} {oc_law_is_integer kV_law_is_integer dc_law_is_integer pm_law_is_integer cd_law_is_integer ct_law_is_integer : Value}
    {f_law_is_letter : Addr} {od_law_is_letter an_law_is_letter : Option Addr} {sl_law_is_letter : Array (Option Value)} {oc_law_is_letter kV_law_is_letter dc_law_is_letter pm_law_is_letter cd_law_is_letter ct_law_is_letter : Value}
    {f_law_is_name : Addr} {od_law_is_name an_law_is_name : Option Addr} {sl_law_is_name : Array (Option Value)} {oc_law_is_name kV_law_is_name dc_law_is_name pm_law_is_name cd_law_is_name ct_law_is_name : Value}
    {f_law_is_event : Addr} {od_law_is_event an_law_is_event : Option Addr} {sl_law_is_event : Array (Option Value)} {oc_law_is_event kV_law_is_event dc_law_is_event pm_law_is_event cd_law_is_event ct_law_is_event : Value}
    {f_law_is_layout : Addr} {od_law_is_layout an_law_is_layout : Option Addr} {sl_law_is_layout : Array (Option Value)} {oc_law_is_layout kV_law_is_layout dc_law_is_layout pm_law_is_layout cd_law_is_layout ct_law_is_layout : Value}
    {f_law_is_output : Addr} {od_law_is_output an_law_is_output : Option Addr} {sl_law_is_output : Array (Option Value)} {oc_law_is_output kV_law_is_output dc_law_is_output pm_law_is_output cd_law_is_output ct_law_is_output : Value}
    {f_law_is_list : Addr} {od_law_is_list an_law_is_list : Option Addr} {sl_law_is_list : Array (Option Value)} {oc_law_is_list kV_law_is_list dc_law_is_list pm_law_is_list cd_law_is_list ct_law_is_list : Value}
    {f_law_same : Addr} {od_law_same an_law_same : Option Addr} {sl_law_same : Array (Option Value)} {oc_law_same kV_law_same dc_law_same pm_law_same cd_law_same ct_law_same : Value}
    {f_law_spoiled : Addr} {od_law_spoiled an_law_spoiled : Option Addr} {sl_law_spoiled : Array (Option Value)} {oc_law_spoiled kV_law_spoiled dc_law_spoiled pm_law_spoiled cd_law_spoiled ct_law_spoiled : Value}
    {f_law_start : Addr} {od_law_start an_law_start : Option Addr} {sl_law_start : Array (Option Value)} {oc_law_start kV_law_start dc_law_start pm_law_start cd_law_start ct_law_start : Value}
    {f_is_letters : Addr} {od_is_letters an_is_letters : Option Addr} {sl_is_letters : Array (Option Value)} {oc_is_letters kV_is_letters dc_is_letters pm_is_letters cd_is_letters ct_is_letters : Value}
    {f_is_layout : Addr} {od_is_layout an_is_layout : Option Addr} {sl_is_layout : Array (Option Value)} {oc_is_layout kV_is_layout dc_is_layout pm_is_layout cd_is_layout ct_is_layout : Value}
    {f_is_end : Addr} {od_is_end an_is_end : Option Addr} {sl_is_end : Array (Option Value)} {oc_is_end kV_is_end dc_is_end pm_is_end cd_is_end ct_is_end : Value}
    {f_is_output : Addr} {od_is_output an_is_output : Option Addr} {sl_is_output : Array (Option Value)} {oc_is_output kV_is_output dc_is_output pm_is_output cd_is_output ct_is_output : Value}
    {f_is_list : Addr} {od_is_list an_is_list : Option Addr} {sl_is_list : Array (Option Value)} {oc_is_list kV_is_list dc_is_list pm_is_list cd_is_list ct_is_list : Value}
    {f_law : Addr} {od_law an_law : Option Addr} {sl_law : Array (Option Value)} {oc_law kV_law dc_law pm_law cd_law ct_law : Value}
    {f_Teq : Addr} {od_Teq an_Teq : Option Addr} {sl_Teq : Array (Option Value)} {oc_Teq kV_Teq dc_Teq pm_Teq cd_Teq ct_Teq : Value}
    {T1 : Addr}
    {T0 : Addr}
    {Dk : Addr}
    {f_Tinit : Addr} {od_Tinit an_Tinit : Option Addr} {sl_Tinit : Array (Option Value)} {oc_Tinit dc_Tinit pm_Tinit cd_Tinit ct_Tinit : Value}
    {ocT1 : Value} {odT1 odT0 : Option Addr} {slT1 slT0 : Array (Option Value)} {nT1 nT0 : Nat}
    {t_MAX_NAME : Tok}
    {t_MAX_SOURCES : Tok}
    {t_MAX_SOURCE_LETTERS : Tok}
    {t_MAX_VALUE : Tok}
    {t_MAX_VALUES : Tok}
    {t_END : Tok}
    {t_LETTERS : Tok}
    {aW : Addr} {odW : Option Addr} {slW : Array (Option Value)} {itsW : Array Value} {nW : Nat}
    (n_Tape : PySem.W.nsIn K mainGlobals "Tape" = some (some (.ref C_Tape)))
    (n_InvalidTape : PySem.W.nsIn K mainGlobals "InvalidTape" = some (some (.ref C_InvalidTape)))
    (a_law_copied : PySem.W.nsIn K mainGlobals "_law_copied" = some (some (.ref f_law_copied)))
    (l_law_copied : K.lookup f_law_copied = some ⟨oc_law_copied, od_law_copied, .func (PySem.W.fnOf "_law_copied" "_law_copied" (defArgs s_law_copied) (defBody s_law_copied) (defScope s_law_copied) .none kV_law_copied dc_law_copied pm_law_copied an_law_copied cd_law_copied ct_law_copied), sl_law_copied⟩)
    (c_law_copied : PySem.W.codeIn K cd_law_copied "_law_copied" = true)
    (k_law_copied : PySem.W.keepIn K (.ref f_law_copied) = true)
    (a_law_throw : PySem.W.nsIn K mainGlobals "_law_throw" = some (some (.ref f_law_throw)))
    (l_law_throw : K.lookup f_law_throw = some ⟨oc_law_throw, od_law_throw, .func (PySem.W.fnOf "_law_throw" "_law_throw" (defArgs s_law_throw) (defBody s_law_throw) (defScope s_law_throw) .none kV_law_throw dc_law_throw pm_law_throw an_law_throw cd_law_throw ct_law_throw), sl_law_throw⟩)
    (c_law_throw : PySem.W.codeIn K cd_law_throw "_law_throw" = true)
    (k_law_throw : PySem.W.keepIn K (.ref f_law_throw) = true)
    (a_law_letters : PySem.W.nsIn K mainGlobals "_law_letters" = some (some (.ref f_law_letters)))
    (l_law_letters : K.lookup f_law_letters = some ⟨oc_law_letters, od_law_letters, .func (PySem.W.fnOf "_law_letters" "_law_letters" (defArgs s_law_letters) (defBody s_law_letters) (defScope s_law_letters) .none kV_law_letters dc_law_letters pm_law_letters an_law_letters cd_law_letters ct_law_letters), sl_law_letters⟩)
    (c_law_letters : PySem.W.codeIn K cd_law_letters "_law_letters" = true)
    (k_law_letters : PySem.W.keepIn K (.ref f_law_letters) = true)
    (a_law_pick : PySem.W.nsIn K mainGlobals "_law_pick" = some (some (.ref f_law_pick)))
    (l_law_pick : K.lookup f_law_pick = some ⟨oc_law_pick, od_law_pick, .func (PySem.W.fnOf "_law_pick" "_law_pick" (defArgs s_law_pick) (defBody s_law_pick) (defScope s_law_pick) .none kV_law_pick dc_law_pick pm_law_pick an_law_pick cd_law_pick ct_law_pick), sl_law_pick⟩)
    (c_law_pick : PySem.W.codeIn K cd_law_pick "_law_pick" = true)
    (k_law_pick : PySem.W.keepIn K (.ref f_law_pick) = true)
    (a_law_words : PySem.W.nsIn K mainGlobals "_law_words" = some (some (.ref f_law_words)))
    (l_law_words : K.lookup f_law_words = some ⟨oc_law_words, od_law_words, .func (PySem.W.fnOf "_law_words" "_law_words" (defArgs s_law_words) (defBody s_law_words) (defScope s_law_words) .none kV_law_words dc_law_words pm_law_words an_law_words cd_law_words ct_law_words), sl_law_words⟩)
    (c_law_words : PySem.W.codeIn K cd_law_words "_law_words" = true)
    (k_law_words : PySem.W.keepIn K (.ref f_law_words) = true)
    (a_law_name : PySem.W.nsIn K mainGlobals "_law_name" = some (some (.ref f_law_name)))
    (l_law_name : K.lookup f_law_name = some ⟨oc_law_name, od_law_name, .func (PySem.W.fnOf "_law_name" "_law_name" (defArgs s_law_name) (defBody s_law_name) (defScope s_law_name) .none kV_law_name dc_law_name pm_law_name an_law_name cd_law_name ct_law_name), sl_law_name⟩)
    (c_law_name : PySem.W.codeIn K cd_law_name "_law_name" = true)
    (k_law_name : PySem.W.keepIn K (.ref f_law_name) = true)
    (a_law_layout : PySem.W.nsIn K mainGlobals "_law_layout" = some (some (.ref f_law_layout)))
    (l_law_layout : K.lookup f_law_layout = some ⟨oc_law_layout, od_law_layout, .func (PySem.W.fnOf "_law_layout" "_law_layout" (defArgs s_law_layout) (defBody s_law_layout) (defScope s_law_layout) .none kV_law_layout dc_law_layout pm_law_layout an_law_layout cd_law_layout ct_law_layout), sl_law_layout⟩)
    (c_law_layout : PySem.W.codeIn K cd_law_layout "_law_layout" = true)
    (k_law_layout : PySem.W.keepIn K (.ref f_law_layout) = true)
    (a_law_letter : PySem.W.nsIn K mainGlobals "_law_letter" = some (some (.ref f_law_letter)))
    (l_law_letter : K.lookup f_law_letter = some ⟨oc_law_letter, od_law_letter, .func (PySem.W.fnOf "_law_letter" "_law_letter" (defArgs s_law_letter) (defBody s_law_letter) (defScope s_law_letter) .none kV_law_letter dc_law_letter pm_law_letter an_law_letter cd_law_letter ct_law_letter), sl_law_letter⟩)
    (c_law_letter : PySem.W.codeIn K cd_law_letter "_law_letter" = true)
    (k_law_letter : PySem.W.keepIn K (.ref f_law_letter) = true)
    (a_is_integer : PySem.W.nsIn K mainGlobals "is_integer" = some (some (.ref f_is_integer)))
    (l_is_integer : K.lookup f_is_integer = some ⟨oc_is_integer, od_is_integer, .func (PySem.W.fnOf "is_integer" "is_integer" (defArgs s_is_integer) (defBody s_is_integer) (defScope s_is_integer) .none kV_is_integer dc_is_integer pm_is_integer an_is_integer cd_is_integer ct_is_integer), sl_is_integer⟩)
    (c_is_integer : PySem.W.codeIn K cd_is_integer "is_integer" = true)
    (k_is_integer : PySem.W.keepIn K (.ref f_is_integer) = true)
    (a_is_letter : PySem.W.nsIn K mainGlobals "is_letter" = some (some (.ref f_is_letter)))
    (l_is_letter : K.lookup f_is_letter = some ⟨oc_is_letter, od_is_letter, .func (PySem.W.fnOf "is_letter" "is_letter" (defArgs s_is_letter) (defBody s_is_letter) (defScope s_is_letter) .none kV_is_letter dc_is_letter pm_is_letter an_is_letter cd_is_letter ct_is_letter), sl_is_letter⟩)
    (c_is_letter : PySem.W.codeIn K cd_is_letter "is_letter" = true)
    (k_is_letter : PySem.W.keepIn K (.ref f_is_letter) = true)
    (a_is_name : PySem.W.nsIn K mainGlobals "is_name" = some (some (.ref f_is_name)))
    (l_is_name : K.lookup f_is_name = some ⟨oc_is_name, od_is_name, .func (PySem.W.fnOf "is_name" "is_name" (defArgs s_is_name) (defBody s_is_name) (defScope s_is_name) .none kV_is_name dc_is_name pm_is_name an_is_name cd_is_name ct_is_name), sl_is_name⟩)
    (c_is_name : PySem.W.codeIn K cd_is_name "is_name" = true)
    (k_is_name : PySem.W.keepIn K (.ref f_is_name) = true)
    (a_is_time : PySem.W.nsIn K mainGlobals "is_time" = some (some (.ref f_is_time)))
    (l_is_time : K.lookup f_is_time = some ⟨oc_is_time, od_is_time, .func (PySem.W.fnOf "is_time" "is_time" (defArgs s_is_time) (defBody s_is_time) (defScope s_is_time) .none kV_is_time dc_is_time pm_is_time an_is_time cd_is_time ct_is_time), sl_is_time⟩)
    (c_is_time : PySem.W.codeIn K cd_is_time "is_time" = true)
    (k_is_time : PySem.W.keepIn K (.ref f_is_time) = true)
    (a_is_event : PySem.W.nsIn K mainGlobals "is_event" = some (some (.ref f_is_event)))
    (l_is_event : K.lookup f_is_event = some ⟨oc_is_event, od_is_event, .func (PySem.W.fnOf "is_event" "is_event" (defArgs s_is_event) (defBody s_is_event) (defScope s_is_event) .none kV_is_event dc_is_event pm_is_event an_is_event cd_is_event ct_is_event), sl_is_event⟩)
    (c_is_event : PySem.W.codeIn K cd_is_event "is_event" = true)
    (k_is_event : PySem.W.keepIn K (.ref f_is_event) = true)
    (a_are_events : PySem.W.nsIn K mainGlobals "are_events" = some (some (.ref f_are_events)))
    (l_are_events : K.lookup f_are_events = some ⟨oc_are_events, od_are_events, .func (PySem.W.fnOf "are_events" "are_events" (defArgs s_are_events) (defBody s_are_events) (defScope s_are_events) .none kV_are_events dc_are_events pm_are_events an_are_events cd_are_events ct_are_events), sl_are_events⟩)
    (c_are_events : PySem.W.codeIn K cd_are_events "are_events" = true)
    (k_are_events : PySem.W.keepIn K (.ref f_are_events) = true)
    (a_last_time : PySem.W.nsIn K mainGlobals "last_time" = some (some (.ref f_last_time)))
    (l_last_time : K.lookup f_last_time = some ⟨oc_last_time, od_last_time, .func (PySem.W.fnOf "last_time" "last_time" (defArgs s_last_time) (defBody s_last_time) (defScope s_last_time) .none kV_last_time dc_last_time pm_last_time an_last_time cd_last_time ct_last_time), sl_last_time⟩)
    (c_last_time : PySem.W.codeIn K cd_last_time "last_time" = true)
    (k_last_time : PySem.W.keepIn K (.ref f_last_time) = true)
    (a_law_odd : PySem.W.nsIn K mainGlobals "_law_odd" = some (some (.ref f_law_odd)))
    (l_law_odd : K.lookup f_law_odd = some ⟨oc_law_odd, od_law_odd, .func (PySem.W.fnOf "_law_odd" "_law_odd" (defArgs s_law_odd) (defBody s_law_odd) (defScope s_law_odd) .none kV_law_odd dc_law_odd pm_law_odd an_law_odd cd_law_odd ct_law_odd), sl_law_odd⟩)
    (c_law_odd : PySem.W.codeIn K cd_law_odd "_law_odd" = true)
    (k_law_odd : PySem.W.keepIn K (.ref f_law_odd) = true)
    (a_law_value : PySem.W.nsIn K mainGlobals "_law_value" = some (some (.ref f_law_value)))
    (l_law_value : K.lookup f_law_value = some ⟨oc_law_value, od_law_value, .func (PySem.W.fnOf "_law_value" "_law_value" (defArgs s_law_value) (defBody s_law_value) (defScope s_law_value) .none kV_law_value dc_law_value pm_law_value an_law_value cd_law_value ct_law_value), sl_law_value⟩)
    (c_law_value : PySem.W.codeIn K cd_law_value "_law_value" = true)
    (k_law_value : PySem.W.keepIn K (.ref f_law_value) = true)
    (a_law_good : PySem.W.nsIn K mainGlobals "_law_good" = some (some (.ref f_law_good)))
    (l_law_good : K.lookup f_law_good = some ⟨oc_law_good, od_law_good, .func (PySem.W.fnOf "_law_good" "_law_good" (defArgs s_law_good) (defBody s_law_good) (defScope s_law_good) .none kV_law_good dc_law_good pm_law_good an_law_good cd_law_good ct_law_good), sl_law_good⟩)
    (c_law_good : PySem.W.codeIn K cd_law_good "_law_good" = true)
    (k_law_good : PySem.W.keepIn K (.ref f_law_good) = true)
    (a_law_is_integer : PySem.W.nsIn K mainGlobals "_law_is_integer" = some (some (.ref f_law_is_integer)))
    (l_law_is_integer : K.lookup f_law_is_integer = some ⟨oc_law_is_integer, od_law_is_integer, .func (PySem.W.fnOf "_law_is_integer" "_law_is_integer" (defArgs s_law_is_integer) (defBody s_law_is_integer) (defScope s_law_is_integer) .none kV_law_is_integer dc_law_is_integer pm_law_is_integer an_law_is_integer cd_law_is_integer ct_law_is_integer), sl_law_is_integer⟩)
    (c_law_is_integer : PySem.W.codeIn K cd_law_is_integer "_law_is_integer" = true)
    (k_law_is_integer : PySem.W.keepIn K (.ref f_law_is_integer) = true)
    (a_law_is_letter : PySem.W.nsIn K mainGlobals "_law_is_letter" = some (some (.ref f_law_is_letter)))
    (l_law_is_letter : K.lookup f_law_is_letter = some ⟨oc_law_is_letter, od_law_is_letter, .func (PySem.W.fnOf "_law_is_letter" "_law_is_letter" (defArgs s_law_is_letter) (defBody s_law_is_letter) (defScope s_law_is_letter) .none kV_law_is_letter dc_law_is_letter pm_law_is_letter an_law_is_letter cd_law_is_letter ct_law_is_letter), sl_law_is_letter⟩)
    (c_law_is_letter : PySem.W.codeIn K cd_law_is_letter "_law_is_letter" = true)
    (k_law_is_letter : PySem.W.keepIn K (.ref f_law_is_letter) = true)
    (a_law_is_name : PySem.W.nsIn K mainGlobals "_law_is_name" = some (some (.ref f_law_is_name)))
    (l_law_is_name : K.lookup f_law_is_name = some ⟨oc_law_is_name, od_law_is_name, .func (PySem.W.fnOf "_law_is_name" "_law_is_name" (defArgs s_law_is_name) (defBody s_law_is_name) (defScope s_law_is_name) .none kV_law_is_name dc_law_is_name pm_law_is_name an_law_is_name cd_law_is_name ct_law_is_name), sl_law_is_name⟩)
    (c_law_is_name : PySem.W.codeIn K cd_law_is_name "_law_is_name" = true)
    (k_law_is_name : PySem.W.keepIn K (.ref f_law_is_name) = true)
    (a_law_is_event : PySem.W.nsIn K mainGlobals "_law_is_event" = some (some (.ref f_law_is_event)))
    (l_law_is_event : K.lookup f_law_is_event = some ⟨oc_law_is_event, od_law_is_event, .func (PySem.W.fnOf "_law_is_event" "_law_is_event" (defArgs s_law_is_event) (defBody s_law_is_event) (defScope s_law_is_event) .none kV_law_is_event dc_law_is_event pm_law_is_event an_law_is_event cd_law_is_event ct_law_is_event), sl_law_is_event⟩)
    (c_law_is_event : PySem.W.codeIn K cd_law_is_event "_law_is_event" = true)
    (k_law_is_event : PySem.W.keepIn K (.ref f_law_is_event) = true)
    (a_law_is_layout : PySem.W.nsIn K mainGlobals "_law_is_layout" = some (some (.ref f_law_is_layout)))
    (l_law_is_layout : K.lookup f_law_is_layout = some ⟨oc_law_is_layout, od_law_is_layout, .func (PySem.W.fnOf "_law_is_layout" "_law_is_layout" (defArgs s_law_is_layout) (defBody s_law_is_layout) (defScope s_law_is_layout) .none kV_law_is_layout dc_law_is_layout pm_law_is_layout an_law_is_layout cd_law_is_layout ct_law_is_layout), sl_law_is_layout⟩)
    (c_law_is_layout : PySem.W.codeIn K cd_law_is_layout "_law_is_layout" = true)
    (k_law_is_layout : PySem.W.keepIn K (.ref f_law_is_layout) = true)
    (a_law_is_output : PySem.W.nsIn K mainGlobals "_law_is_output" = some (some (.ref f_law_is_output)))
    (l_law_is_output : K.lookup f_law_is_output = some ⟨oc_law_is_output, od_law_is_output, .func (PySem.W.fnOf "_law_is_output" "_law_is_output" (defArgs s_law_is_output) (defBody s_law_is_output) (defScope s_law_is_output) .none kV_law_is_output dc_law_is_output pm_law_is_output an_law_is_output cd_law_is_output ct_law_is_output), sl_law_is_output⟩)
    (c_law_is_output : PySem.W.codeIn K cd_law_is_output "_law_is_output" = true)
    (k_law_is_output : PySem.W.keepIn K (.ref f_law_is_output) = true)
    (a_law_is_list : PySem.W.nsIn K mainGlobals "_law_is_list" = some (some (.ref f_law_is_list)))
    (l_law_is_list : K.lookup f_law_is_list = some ⟨oc_law_is_list, od_law_is_list, .func (PySem.W.fnOf "_law_is_list" "_law_is_list" (defArgs s_law_is_list) (defBody s_law_is_list) (defScope s_law_is_list) .none kV_law_is_list dc_law_is_list pm_law_is_list an_law_is_list cd_law_is_list ct_law_is_list), sl_law_is_list⟩)
    (c_law_is_list : PySem.W.codeIn K cd_law_is_list "_law_is_list" = true)
    (k_law_is_list : PySem.W.keepIn K (.ref f_law_is_list) = true)
    (a_law_same : PySem.W.nsIn K mainGlobals "_law_same" = some (some (.ref f_law_same)))
    (l_law_same : K.lookup f_law_same = some ⟨oc_law_same, od_law_same, .func (PySem.W.fnOf "_law_same" "_law_same" (defArgs s_law_same) (defBody s_law_same) (defScope s_law_same) .none kV_law_same dc_law_same pm_law_same an_law_same cd_law_same ct_law_same), sl_law_same⟩)
    (c_law_same : PySem.W.codeIn K cd_law_same "_law_same" = true)
    (k_law_same : PySem.W.keepIn K (.ref f_law_same) = true)
    (a_law_spoiled : PySem.W.nsIn K mainGlobals "_law_spoiled" = some (some (.ref f_law_spoiled)))
    (l_law_spoiled : K.lookup f_law_spoiled = some ⟨oc_law_spoiled, od_law_spoiled, .func (PySem.W.fnOf "_law_spoiled" "_law_spoiled" (defArgs s_law_spoiled) (defBody s_law_spoiled) (defScope s_law_spoiled) .none kV_law_spoiled dc_law_spoiled pm_law_spoiled an_law_spoiled cd_law_spoiled ct_law_spoiled), sl_law_spoiled⟩)
    (c_law_spoiled : PySem.W.codeIn K cd_law_spoiled "_law_spoiled" = true)
    (k_law_spoiled : PySem.W.keepIn K (.ref f_law_spoiled) = true)
    (a_law_start : PySem.W.nsIn K mainGlobals "_law_start" = some (some (.ref f_law_start)))
    (l_law_start : K.lookup f_law_start = some ⟨oc_law_start, od_law_start, .func (PySem.W.fnOf "_law_start" "_law_start" (defArgs s_law_start) (defBody s_law_start) (defScope s_law_start) .none kV_law_start dc_law_start pm_law_start an_law_start cd_law_start ct_law_start), sl_law_start⟩)
    (c_law_start : PySem.W.codeIn K cd_law_start "_law_start" = true)
    (k_law_start : PySem.W.keepIn K (.ref f_law_start) = true)
    (a_is_letters : PySem.W.nsIn K mainGlobals "is_letters" = some (some (.ref f_is_letters)))
    (l_is_letters : K.lookup f_is_letters = some ⟨oc_is_letters, od_is_letters, .func (PySem.W.fnOf "is_letters" "is_letters" (defArgs s_is_letters) (defBody s_is_letters) (defScope s_is_letters) .none kV_is_letters dc_is_letters pm_is_letters an_is_letters cd_is_letters ct_is_letters), sl_is_letters⟩)
    (c_is_letters : PySem.W.codeIn K cd_is_letters "is_letters" = true)
    (k_is_letters : PySem.W.keepIn K (.ref f_is_letters) = true)
    (a_is_layout : PySem.W.nsIn K mainGlobals "is_layout" = some (some (.ref f_is_layout)))
    (l_is_layout : K.lookup f_is_layout = some ⟨oc_is_layout, od_is_layout, .func (PySem.W.fnOf "is_layout" "is_layout" (defArgs s_is_layout) (defBody s_is_layout) (defScope s_is_layout) .none kV_is_layout dc_is_layout pm_is_layout an_is_layout cd_is_layout ct_is_layout), sl_is_layout⟩)
    (c_is_layout : PySem.W.codeIn K cd_is_layout "is_layout" = true)
    (k_is_layout : PySem.W.keepIn K (.ref f_is_layout) = true)
    (a_is_end : PySem.W.nsIn K mainGlobals "is_end" = some (some (.ref f_is_end)))
    (l_is_end : K.lookup f_is_end = some ⟨oc_is_end, od_is_end, .func (PySem.W.fnOf "is_end" "is_end" (defArgs s_is_end) (defBody s_is_end) (defScope s_is_end) .none kV_is_end dc_is_end pm_is_end an_is_end cd_is_end ct_is_end), sl_is_end⟩)
    (c_is_end : PySem.W.codeIn K cd_is_end "is_end" = true)
    (k_is_end : PySem.W.keepIn K (.ref f_is_end) = true)
    (a_is_output : PySem.W.nsIn K mainGlobals "is_output" = some (some (.ref f_is_output)))
    (l_is_output : K.lookup f_is_output = some ⟨oc_is_output, od_is_output, .func (PySem.W.fnOf "is_output" "is_output" (defArgs s_is_output) (defBody s_is_output) (defScope s_is_output) .none kV_is_output dc_is_output pm_is_output an_is_output cd_is_output ct_is_output), sl_is_output⟩)
    (c_is_output : PySem.W.codeIn K cd_is_output "is_output" = true)
    (k_is_output : PySem.W.keepIn K (.ref f_is_output) = true)
    (a_is_list : PySem.W.nsIn K mainGlobals "is_list" = some (some (.ref f_is_list)))
    (l_is_list : K.lookup f_is_list = some ⟨oc_is_list, od_is_list, .func (PySem.W.fnOf "is_list" "is_list" (defArgs s_is_list) (defBody s_is_list) (defScope s_is_list) .none kV_is_list dc_is_list pm_is_list an_is_list cd_is_list ct_is_list), sl_is_list⟩)
    (c_is_list : PySem.W.codeIn K cd_is_list "is_list" = true)
    (k_is_list : PySem.W.keepIn K (.ref f_is_list) = true)
    (a_law : PySem.W.nsIn K mainGlobals "law" = some (some (.ref f_law)))
    (l_law : K.lookup f_law = some ⟨oc_law, od_law, .func (PySem.W.fnOf "law" "law" (defArgs s_law) (defBody s_law) (defScope s_law) .none kV_law dc_law pm_law an_law cd_law ct_law), sl_law⟩)
    (c_law : PySem.W.codeIn K cd_law "law" = true)
    (k_law : PySem.W.keepIn K (.ref f_law) = true)
    (a_Teq : PySem.W.findIn K (.ref C_Tape) "__eq__" = some (some (.ref f_Teq)))
    (l_Teq : K.lookup f_Teq = some ⟨oc_Teq, od_Teq, .func (PySem.W.fnOf "__eq__" "Tape.__eq__" (defArgs s_Tape_eq) (defBody s_Tape_eq) (defScope s_Tape_eq) .none kV_Teq dc_Teq pm_Teq an_Teq cd_Teq ct_Teq), sl_Teq⟩)
    (c_Teq : PySem.W.codeIn K cd_Teq "Tape.__eq__" = true)
    (k_Teq : PySem.W.keepIn K (.ref f_Teq) = true)
    (w_Teq : PySem.W.isFn K (.ref f_Teq) = true)
    (a_Tinit : PySem.W.findIn K (.ref C_Tape) "__init__" = some (some (.ref f_Tinit)))
    (l_Tinit : K.lookup f_Tinit = some ⟨oc_Tinit, od_Tinit, .func (PySem.W.fnOf "__init__" "Tape.__init__" (defArgs s_Tape_init) (defBody s_Tape_init) (defScope s_Tape_init) (.ref T1) (.ref Dk) dc_Tinit pm_Tinit an_Tinit cd_Tinit ct_Tinit), sl_Tinit⟩)
    (c_Tinit : PySem.W.codeIn K cd_Tinit "Tape.__init__" = true)
    (k_Tinit : PySem.W.keepIn K (.ref f_Tinit) = true)
    (w_Tinit : PySem.W.isFn K (.ref f_Tinit) = true)
    (l_T1 : K.lookup T1 = some ⟨ocT1, odT1, .seq #[.ref T0] nT1, slT1⟩)
    (l_T0 : K.lookup T0 = some ⟨.type "tuple", odT0, .seq #[] nT0, slT0⟩)
    (n_kw : PySem.W.nsIn K Dk "last" = some (some .none))
    (z_abs : PySem.W.nsIn K mainGlobals "abs" = some none)
    (z_all : PySem.W.nsIn K mainGlobals "all" = some none)
    (z_bool : PySem.W.nsIn K mainGlobals "bool" = some none)
    (z_dict : PySem.W.nsIn K mainGlobals "dict" = some none)
    (z_int : PySem.W.nsIn K mainGlobals "int" = some none)
    (z_isinstance : PySem.W.nsIn K mainGlobals "isinstance" = some none)
    (z_len : PySem.W.nsIn K mainGlobals "len" = some none)
    (z_list : PySem.W.nsIn K mainGlobals "list" = some none)
    (z_max : PySem.W.nsIn K mainGlobals "max" = some none)
    (z_range : PySem.W.nsIn K mainGlobals "range" = some none)
    (z_set : PySem.W.nsIn K mainGlobals "set" = some none)
    (z_sorted : PySem.W.nsIn K mainGlobals "sorted" = some none)
    (z_str : PySem.W.nsIn K mainGlobals "str" = some none)
    (z_tuple : PySem.W.nsIn K mainGlobals "tuple" = some none)
    (z_zip : PySem.W.nsIn K mainGlobals "zip" = some none)
    (n_MAX_NAME : PySem.W.nsIn K mainGlobals "MAX_NAME" = some (some (.int 8 t_MAX_NAME)))
    (n_MAX_SOURCES : PySem.W.nsIn K mainGlobals "MAX_SOURCES" = some (some (.int 4 t_MAX_SOURCES)))
    (n_MAX_SOURCE_LETTERS : PySem.W.nsIn K mainGlobals "MAX_SOURCE_LETTERS" = some (some (.int 4 t_MAX_SOURCE_LETTERS)))
    (n_MAX_VALUE : PySem.W.nsIn K mainGlobals "MAX_VALUE" = some (some (.int 999999999999999999999999999999999999999999999999999999999999 t_MAX_VALUE)))
    (n_MAX_VALUES : PySem.W.nsIn K mainGlobals "MAX_VALUES" = some (some (.int 4 t_MAX_VALUES)))
    (n_END : PySem.W.nsIn K mainGlobals "END" = some (some (.str ("end" : Str) t_END)))
    (n_LETTERS : PySem.W.nsIn K mainGlobals "LETTERS" = some (some (.str ("abcdefghijklmnopqrstuvwxyz" : Str) t_LETTERS)))
    (n_WORDS : PySem.W.nsIn K mainGlobals "WORDS" = some (some (.ref aW)))
    (l_W : K.lookup aW = some ⟨.type "tuple", odW, .seq itsW nW, slW⟩)
    (m_W : wordB K itsW ["after", "again", "at", "busy", "changes", "else", "every", "first", "fold", "it", "late", "never", "one", "only", "pairs", "pick", "quiet", "source", "spaced", "switch", "then", "told", "until"] = true)
    (m_InvalidTape : rs1B K C_InvalidTape [Value.type "ValueError", Value.type "Exception", Value.type "BaseException", Value.type "object"] "ValueError.__new__" = true)
    (m_own : ownB K C_Tape = true)
    (m_ns : nsB K C_Tape = true)
    (m_io : ioB K C_Tape = true)
    (m_mk : PySem.W.makesIn K C_Tape = true)
    (m_kp : PySem.W.keepIn K (.ref C_Tape) = true)
    (m_ne : PySem.W.findIn K (.ref C_Tape) "own_events" = some none)
    (m_nl : PySem.W.findIn K (.ref C_Tape) "own_last" = some none) :
    ∃ fd : FuncData, (∀ (s : Shared) (v : Value), BindsTo s fd ⟨[v], []⟩ [("script", v)]) ∧ ∀ base : Heap, K.In base → base.Ns mainGlobals mg → FnOk l.prog w K mg base (L2.CX l.prog w) 24 fa fd ["script"] (spL K) := by
  have e := hfa.symm.trans (PySem.W.mg_of X G a_law)
  cases e
  have g_Tape := PySem.W.mg_of X G n_Tape
  have g_InvalidTape := PySem.W.mg_of X G n_InvalidTape
  have F_law_copied := fun_mk (st := s_law_copied) l_law_copied c_law_copied k_law_copied
  have b_law_copied := F_law_copied.binds (ps := ["value"]) fun _ _ _ _ _ _ us hl => match us, hl with | [_], _ => rfl
  have F_law_throw := fun_mk (st := s_law_throw) l_law_throw c_law_throw k_law_throw
  have b_law_throw := F_law_throw.binds (ps := ["bag", "total"]) fun _ _ _ _ _ _ us hl => match us, hl with | [_, _], _ => rfl
  have F_law_letters := fun_mk (st := s_law_letters) l_law_letters c_law_letters k_law_letters
  have b_law_letters := F_law_letters.binds (ps := ["bag", "most"]) fun _ _ _ _ _ _ us hl => match us, hl with | [_, _], _ => rfl
  have F_law_pick := fun_mk (st := s_law_pick) l_law_pick c_law_pick k_law_pick
  have b_law_pick := F_law_pick.binds (ps := ["bag", "items"]) fun _ _ _ _ _ _ us hl => match us, hl with | [_, _], _ => rfl
  have F_law_words := fun_mk (st := s_law_words) l_law_words c_law_words k_law_words
  have b_law_words := F_law_words.binds (ps := []) fun _ _ _ _ _ _ us hl => match us, hl with | [], _ => rfl
  have F_law_name := fun_mk (st := s_law_name) l_law_name c_law_name k_law_name
  have b_law_name := F_law_name.binds (ps := ["bag", "known"]) fun _ _ _ _ _ _ us hl => match us, hl with | [_, _], _ => rfl
  have F_law_layout := fun_mk (st := s_law_layout) l_law_layout c_law_layout k_law_layout
  have b_law_layout := F_law_layout.binds (ps := ["bag", "sources", "letters"]) fun _ _ _ _ _ _ us hl => match us, hl with | [_, _, _], _ => rfl
  have F_law_letter := fun_mk (st := s_law_letter) l_law_letter c_law_letter k_law_letter
  have b_law_letter := F_law_letter.binds (ps := ["bag"]) fun _ _ _ _ _ _ us hl => match us, hl with | [_], _ => rfl
  have F_is_integer := fun_mk (st := s_is_integer) l_is_integer c_is_integer k_is_integer
  have b_is_integer := F_is_integer.binds (ps := ["value"]) fun _ _ _ _ _ _ us hl => match us, hl with | [_], _ => rfl
  have F_is_letter := fun_mk (st := s_is_letter) l_is_letter c_is_letter k_is_letter
  have b_is_letter := F_is_letter.binds (ps := ["value"]) fun _ _ _ _ _ _ us hl => match us, hl with | [_], _ => rfl
  have F_is_name := fun_mk (st := s_is_name) l_is_name c_is_name k_is_name
  have b_is_name := F_is_name.binds (ps := ["value"]) fun _ _ _ _ _ _ us hl => match us, hl with | [_], _ => rfl
  have F_is_time := fun_mk (st := s_is_time) l_is_time c_is_time k_is_time
  have b_is_time := F_is_time.binds (ps := ["value"]) fun _ _ _ _ _ _ us hl => match us, hl with | [_], _ => rfl
  have F_is_event := fun_mk (st := s_is_event) l_is_event c_is_event k_is_event
  have b_is_event := F_is_event.binds (ps := ["value"]) fun _ _ _ _ _ _ us hl => match us, hl with | [_], _ => rfl
  have F_are_events := fun_mk (st := s_are_events) l_are_events c_are_events k_are_events
  have b_are_events := F_are_events.binds (ps := ["value"]) fun _ _ _ _ _ _ us hl => match us, hl with | [_], _ => rfl
  have F_last_time := fun_mk (st := s_last_time) l_last_time c_last_time k_last_time
  have b_last_time := F_last_time.binds (ps := ["events"]) fun _ _ _ _ _ _ us hl => match us, hl with | [_], _ => rfl
  have F_law_odd := fun_mk (st := s_law_odd) l_law_odd c_law_odd k_law_odd
  have b_law_odd := F_law_odd.binds (ps := ["bag"]) fun _ _ _ _ _ _ us hl => match us, hl with | [_], _ => rfl
  have F_law_value := fun_mk (st := s_law_value) l_law_value c_law_value k_law_value
  have b_law_value := F_law_value.binds (ps := ["bag"]) fun _ _ _ _ _ _ us hl => match us, hl with | [_], _ => rfl
  have F_law_good := fun_mk (st := s_law_good) l_law_good c_law_good k_law_good
  have b_law_good := F_law_good.binds (ps := ["bag", "way"]) fun _ _ _ _ _ _ us hl => match us, hl with | [_, _], _ => rfl
  have F_law_is_integer := fun_mk (st := s_law_is_integer) l_law_is_integer c_law_is_integer k_law_is_integer
  have b_law_is_integer := F_law_is_integer.binds (ps := ["value"]) fun _ _ _ _ _ _ us hl => match us, hl with | [_], _ => rfl
  have F_law_is_letter := fun_mk (st := s_law_is_letter) l_law_is_letter c_law_is_letter k_law_is_letter
  have b_law_is_letter := F_law_is_letter.binds (ps := ["value"]) fun _ _ _ _ _ _ us hl => match us, hl with | [_], _ => rfl
  have F_law_is_name := fun_mk (st := s_law_is_name) l_law_is_name c_law_is_name k_law_is_name
  have b_law_is_name := F_law_is_name.binds (ps := ["value"]) fun _ _ _ _ _ _ us hl => match us, hl with | [_], _ => rfl
  have F_law_is_event := fun_mk (st := s_law_is_event) l_law_is_event c_law_is_event k_law_is_event
  have b_law_is_event := F_law_is_event.binds (ps := ["value"]) fun _ _ _ _ _ _ us hl => match us, hl with | [_], _ => rfl
  have F_law_is_layout := fun_mk (st := s_law_is_layout) l_law_is_layout c_law_is_layout k_law_is_layout
  have b_law_is_layout := F_law_is_layout.binds (ps := ["value"]) fun _ _ _ _ _ _ us hl => match us, hl with | [_], _ => rfl
  have F_law_is_output := fun_mk (st := s_law_is_output) l_law_is_output c_law_is_output k_law_is_output
  have b_law_is_output := F_law_is_output.binds (ps := ["value"]) fun _ _ _ _ _ _ us hl => match us, hl with | [_], _ => rfl
  have F_law_is_list := fun_mk (st := s_law_is_list) l_law_is_list c_law_is_list k_law_is_list
  have b_law_is_list := F_law_is_list.binds (ps := ["value"]) fun _ _ _ _ _ _ us hl => match us, hl with | [_], _ => rfl
  have F_law_same := fun_mk (st := s_law_same) l_law_same c_law_same k_law_same
  have b_law_same := F_law_same.binds (ps := ["one", "other"]) fun _ _ _ _ _ _ us hl => match us, hl with | [_, _], _ => rfl
  have F_law_spoiled := fun_mk (st := s_law_spoiled) l_law_spoiled c_law_spoiled k_law_spoiled
  have b_law_spoiled := F_law_spoiled.binds (ps := ["bag", "value"]) fun _ _ _ _ _ _ us hl => match us, hl with | [_, _], _ => rfl
  have F_law_start := fun_mk (st := s_law_start) l_law_start c_law_start k_law_start
  have b_law_start := F_law_start.binds (ps := ["script", "at"]) fun _ _ _ _ _ _ us hl => match us, hl with | [_, _], _ => rfl
  have F_is_letters := fun_mk (st := s_is_letters) l_is_letters c_is_letters k_is_letters
  have b_is_letters := F_is_letters.binds (ps := ["value"]) fun _ _ _ _ _ _ us hl => match us, hl with | [_], _ => rfl
  have F_is_layout := fun_mk (st := s_is_layout) l_is_layout c_is_layout k_is_layout
  have b_is_layout := F_is_layout.binds (ps := ["value"]) fun _ _ _ _ _ _ us hl => match us, hl with | [_], _ => rfl
  have F_is_end := fun_mk (st := s_is_end) l_is_end c_is_end k_is_end
  have b_is_end := F_is_end.binds (ps := ["value"]) fun _ _ _ _ _ _ us hl => match us, hl with | [_], _ => rfl
  have F_is_output := fun_mk (st := s_is_output) l_is_output c_is_output k_is_output
  have b_is_output := F_is_output.binds (ps := ["value"]) fun _ _ _ _ _ _ us hl => match us, hl with | [_], _ => rfl
  have F_is_list := fun_mk (st := s_is_list) l_is_list c_is_list k_is_list
  have b_is_list := F_is_list.binds (ps := ["value"]) fun _ _ _ _ _ _ us hl => match us, hl with | [_], _ => rfl
  have F_law := fun_mk (st := s_law) l_law c_law k_law
  have b_law := F_law.binds (ps := ["script"]) fun _ _ _ _ _ _ us hl => match us, hl with | [_], _ => rfl
  have F_Teq := fun_mk (st := s_Tape_eq) l_Teq c_Teq k_Teq
  have b_Teq := F_Teq.binds (ps := ["self", "other"]) fun _ _ _ _ _ _ us hl => match us, hl with | [_, _], _ => rfl
  have F_Tinit : FI K T0 f_Tinit _ := ⟨⟨_, _, _, _, _, _, _, _, _, _, rfl, l_Tinit, c_Tinit, .inr ⟨by simp, T1, _, [.ref T0], nT1, rfl, l_T1, rfl, .cons rfl .nil⟩, .inr ⟨Dk, rfl, fun q h => by
    rcases List.mem_singleton.mp h with rfl
    exact ⟨_, n_kw, rfl⟩⟩⟩, k_Tinit⟩
  have O := ownB_ok m_own
  have N := nsB_ok m_ns
  have M : Mk K C_Tape f_Tinit := ⟨m_mk, a_Tinit, w_Tinit, m_kp⟩
  have T : Txt K mg (cmOf C_Tape [(("InvalidTape" : Str), C_InvalidTape)]) := {
    z_abs := PySem.W.mg_none_of X G z_abs
    z_all := PySem.W.mg_none_of X G z_all
    z_bool := PySem.W.mg_none_of X G z_bool
    z_dict := PySem.W.mg_none_of X G z_dict
    z_int := PySem.W.mg_none_of X G z_int
    z_isinstance := PySem.W.mg_none_of X G z_isinstance
    z_len := PySem.W.mg_none_of X G z_len
    z_list := PySem.W.mg_none_of X G z_list
    z_max := PySem.W.mg_none_of X G z_max
    z_range := PySem.W.mg_none_of X G z_range
    z_set := PySem.W.mg_none_of X G z_set
    z_sorted := PySem.W.mg_none_of X G z_sorted
    z_str := PySem.W.mg_none_of X G z_str
    z_tuple := PySem.W.mg_none_of X G z_tuple
    z_zip := PySem.W.mg_none_of X G z_zip
    g_MAX_NAME := ⟨_, PySem.W.mg_of X G n_MAX_NAME⟩
    g_MAX_SOURCES := ⟨_, PySem.W.mg_of X G n_MAX_SOURCES⟩
    g_MAX_SOURCE_LETTERS := ⟨_, PySem.W.mg_of X G n_MAX_SOURCE_LETTERS⟩
    g_MAX_VALUE := ⟨_, PySem.W.mg_of X G n_MAX_VALUE⟩
    g_MAX_VALUES := ⟨_, PySem.W.mg_of X G n_MAX_VALUES⟩
    g_END := ⟨_, PySem.W.mg_of X G n_END⟩
    g_LETTERS := ⟨_, PySem.W.mg_of X G n_LETTERS⟩
    g_WORDS := ⟨aW, _, itsW, nW, PySem.W.mg_of X G n_WORDS, l_W, rfl, rfl, of_decide_eq_true (Bool.and_eq_true_iff.mp m_W).1, He.relAll_ok (Bool.and_eq_true_iff.mp m_W).2⟩
    f_law_copied := ⟨_, _, PySem.W.mg_of X G a_law_copied, F_law_copied, b_law_copied⟩
    f_law_throw := ⟨_, _, PySem.W.mg_of X G a_law_throw, F_law_throw, b_law_throw⟩
    f_law_letters := ⟨_, _, PySem.W.mg_of X G a_law_letters, F_law_letters, b_law_letters⟩
    f_law_pick := ⟨_, _, PySem.W.mg_of X G a_law_pick, F_law_pick, b_law_pick⟩
    f_law_words := ⟨_, _, PySem.W.mg_of X G a_law_words, F_law_words, b_law_words⟩
    f_law_name := ⟨_, _, PySem.W.mg_of X G a_law_name, F_law_name, b_law_name⟩
    f_law_layout := ⟨_, _, PySem.W.mg_of X G a_law_layout, F_law_layout, b_law_layout⟩
    f_law_letter := ⟨_, _, PySem.W.mg_of X G a_law_letter, F_law_letter, b_law_letter⟩
    f_is_integer := ⟨_, _, PySem.W.mg_of X G a_is_integer, F_is_integer, b_is_integer⟩
    f_is_letter := ⟨_, _, PySem.W.mg_of X G a_is_letter, F_is_letter, b_is_letter⟩
    f_is_name := ⟨_, _, PySem.W.mg_of X G a_is_name, F_is_name, b_is_name⟩
    f_is_time := ⟨_, _, PySem.W.mg_of X G a_is_time, F_is_time, b_is_time⟩
    f_is_event := ⟨_, _, PySem.W.mg_of X G a_is_event, F_is_event, b_is_event⟩
    f_are_events := ⟨_, _, PySem.W.mg_of X G a_are_events, F_are_events, b_are_events⟩
    f_last_time := ⟨_, _, PySem.W.mg_of X G a_last_time, F_last_time, b_last_time⟩
    f_law_odd := ⟨_, _, PySem.W.mg_of X G a_law_odd, F_law_odd, b_law_odd⟩
    f_law_value := ⟨_, _, PySem.W.mg_of X G a_law_value, F_law_value, b_law_value⟩
    f_law_good := ⟨_, _, PySem.W.mg_of X G a_law_good, F_law_good, b_law_good⟩
    f_law_is_integer := ⟨_, _, PySem.W.mg_of X G a_law_is_integer, F_law_is_integer, b_law_is_integer⟩
    f_law_is_letter := ⟨_, _, PySem.W.mg_of X G a_law_is_letter, F_law_is_letter, b_law_is_letter⟩
    f_law_is_name := ⟨_, _, PySem.W.mg_of X G a_law_is_name, F_law_is_name, b_law_is_name⟩
    f_law_is_event := ⟨_, _, PySem.W.mg_of X G a_law_is_event, F_law_is_event, b_law_is_event⟩
    f_law_is_layout := ⟨_, _, PySem.W.mg_of X G a_law_is_layout, F_law_is_layout, b_law_is_layout⟩
    f_law_is_output := ⟨_, _, PySem.W.mg_of X G a_law_is_output, F_law_is_output, b_law_is_output⟩
    f_law_is_list := ⟨_, _, PySem.W.mg_of X G a_law_is_list, F_law_is_list, b_law_is_list⟩
    f_law_same := ⟨_, _, PySem.W.mg_of X G a_law_same, F_law_same, b_law_same⟩
    f_law_spoiled := ⟨_, _, PySem.W.mg_of X G a_law_spoiled, F_law_spoiled, b_law_spoiled⟩
    f_law_start := ⟨_, _, PySem.W.mg_of X G a_law_start, F_law_start, b_law_start⟩
    f_is_letters := ⟨_, _, PySem.W.mg_of X G a_is_letters, F_is_letters, b_is_letters⟩
    f_is_layout := ⟨_, _, PySem.W.mg_of X G a_is_layout, F_is_layout, b_is_layout⟩
    f_is_end := ⟨_, _, PySem.W.mg_of X G a_is_end, F_is_end, b_is_end⟩
    f_is_output := ⟨_, _, PySem.W.mg_of X G a_is_output, F_is_output, b_is_output⟩
    f_is_list := ⟨_, _, PySem.W.mg_of X G a_is_list, F_is_list, b_is_list⟩
    f_law := ⟨_, _, PySem.W.mg_of X G a_law, F_law, b_law⟩
    f_Tape_eq := ⟨C_Tape, _, _, cls_tape, O, a_Teq, w_Teq, F_Teq, b_Teq⟩
    k_Tape_G3 := ⟨C_Tape, _, _, _, _, cls_tape, g_Tape, M, F_Tinit, mb3 F_Tinit l_T0⟩
    k_Tape_G4 := ⟨C_Tape, _, _, _, _, cls_tape, g_Tape, M, F_Tinit, mb4 F_Tinit⟩
    own := fun c C e => by rw [(cls_eq e).2]; exact O
    ns_Tape := fun C e => by rw [(cls_eq e).2]; exact N.1
    nn_Tape := fun C e => by rw [(cls_eq e).2]; exact N
    na_own_events := fun c C e => by rw [(cls_eq e).2]; exact ⟨O.cl, m_ne⟩
    na_own_last := fun c C e => by rw [(cls_eq e).2]; exact ⟨O.cl, m_nl⟩
    io_Tape := ioB_ok O m_io g_Tape
    rs_InvalidTape := rs1B_ok m_InvalidTape rfl g_InvalidTape }
  exact ⟨PySem.W.fnOf "law" "law" (defArgs s_law) (defBody s_law) (defScope s_law) .none kV_law dc_law pm_law an_law cd_law ct_law, fun s v => .of_eq rfl, fun base _ _ => (d_law T F_law).imp spL_imp⟩
theorem walk {l : PySem.W.OpenLaw} {q : Program} {loose : List Str} {XP : (Str → Option Value) → Heap → Prop} {YP : World → Heap → Prop} {d : DefRec} {K : Params → PySem.W.Frag} (hn : l.most = some 63) (hdf : d.params.defaults = [])
    (hY : ∀ (w : World) (h : Heap), YP w h → (K w.params).In h)
    (F : ∀ (w : World) (mg : Str → Option Value) (fa : Addr) (h : Heap), (K w.params).In h → h.Ns mainGlobals mg → mg d.name = some (.ref fa) →
      ∃ fd : FuncData, (∀ (s : Shared) (u : Value), BindsTo s fd ⟨[u], []⟩ [("script", u)]) ∧ ∀ base : Heap, (K w.params).In base → base.Ns mainGlobals mg → FnOk l.prog w (K w.params) mg base (L2.CX l.prog w) 24 fa fd ["script"] (spL (K w.params))) :
    PySem.W.WalkO q loose XP YP l.row.toRowW d [] (fun f vs => PySem.call f vs) :=
  L2.walk_of (n := 63) (k := 24) (x := "script") (CX := fun w => L2.CX l.prog w) (sp := fun w => spL (K w.params)) hn (by decide) hdf ⟨rfl, by decide, by decide⟩ hY F (fun w H a ns hl hO hS => ⟨a, ns, rfl, (by
    rcases hS with (h | ⟨o, h⟩) | h
    · rcases hO a with z | ⟨o, xs, z⟩
      · rw [z] at h; cases h
      · rw [z] at h; cases h
    · exact .inl ⟨o, h⟩
    · exact .inr h), fun _ _ => trivial, hl, fun _ => rfl⟩) fun w H s e s' z => by
    obtain ⟨_, _, _, _, _, _, _, _, _, _, _, _, z⟩ := z
    exact z
end K01
open PySem PySem.W PyProof.Rows
set_option maxRecDepth 100000 in
set_option maxHeartbeats 0 in
theorem PySem.Challenge.cw_pushalike_k01_words_holds : PySem.Challenge.rw_pushalike_k01_words.Holds := by
  w_on; o_law; k_head; (case hw => w_witness2)
  k_fill
  refine K01.walk (l := PySem.Challenge.rw_pushalike_k01_words) rfl rfl (fun w h Y => PySem.W.kIn_of Y) ?F
  case F =>
    intro w mg fa h KX G hmg
    refine' K01.all_mk KX G hmg ?n_Tape ?n_InvalidTape ?a_law_copied ?l_law_copied ?c_law_copied ?k_law_copied ?a_law_throw ?l_law_throw ?c_law_throw ?k_law_throw ?a_law_letters ?l_law_letters ?c_law_letters ?k_law_letters ?a_law_pick ?l_law_pick ?c_law_pick ?k_law_pick ?a_law_words ?l_law_words ?c_law_words ?k_law_words ?a_law_name ?l_law_name ?c_law_name ?k_law_name ?a_law_layout ?l_law_layout ?c_law_layout ?k_law_layout ?a_law_letter ?l_law_letter ?c_law_letter ?k_law_letter ?a_is_integer ?l_is_integer ?c_is_integer ?k_is_integer ?a_is_letter ?l_is_letter ?c_is_letter ?k_is_letter ?a_is_name ?l_is_name ?c_is_name ?k_is_name ?a_is_time ?l_is_time ?c_is_time ?k_is_time ?a_is_event ?l_is_event ?c_is_event ?k_is_event ?a_are_events ?l_are_events ?c_are_events ?k_are_events ?a_last_time ?l_last_time ?c_last_time ?k_last_time ?a_law_odd ?l_law_odd ?c_law_odd ?k_law_odd ?a_law_value ?l_law_value ?c_law_value ?k_law_value ?a_law_good ?l_law_good ?c_law_good ?k_law_good ?a_law_is_integer ?l_law_is_integer ?c_law_is_integer ?k_law_is_integer ?a_law_is_letter ?l_law_is_letter ?c_law_is_letter ?k_law_is_letter ?a_law_is_name ?l_law_is_name ?c_law_is_name ?k_law_is_name ?a_law_is_event ?l_law_is_event ?c_law_is_event ?k_law_is_event ?a_law_is_layout ?l_law_is_layout ?c_law_is_layout ?k_law_is_layout ?a_law_is_output ?l_law_is_output ?c_law_is_output ?k_law_is_output ?a_law_is_list ?l_law_is_list ?c_law_is_list ?k_law_is_list ?a_law_same ?l_law_same ?c_law_same ?k_law_same ?a_law_spoiled ?l_law_spoiled ?c_law_spoiled ?k_law_spoiled ?a_law_start ?l_law_start ?c_law_start ?k_law_start ?a_is_letters ?l_is_letters ?c_is_letters ?k_is_letters ?a_is_layout ?l_is_layout ?c_is_layout ?k_is_layout ?a_is_end ?l_is_end ?c_is_end ?k_is_end ?a_is_output ?l_is_output ?c_is_output ?k_is_output ?a_is_list ?l_is_list ?c_is_list ?k_is_list ?a_law ?l_law ?c_law ?k_law ?a_Teq ?l_Teq ?c_Teq ?k_Teq ?w_Teq ?a_Tinit ?l_Tinit ?c_Tinit ?k_Tinit ?w_Tinit ?l_T1 ?l_T0 ?n_kw ?z_abs ?z_all ?z_bool ?z_dict ?z_int ?z_isinstance ?z_len ?z_list ?z_max ?z_range ?z_set ?z_sorted ?z_str ?z_tuple ?z_zip ?n_MAX_NAME ?n_MAX_SOURCES ?n_MAX_SOURCE_LETTERS ?n_MAX_VALUE ?n_MAX_VALUES ?n_END ?n_LETTERS ?n_WORDS ?l_W ?m_W ?m_InvalidTape ?m_own ?m_ns ?m_io ?m_mk ?m_kp ?m_ne ?m_nl
    (case n_Tape => k_is)
    (case n_InvalidTape => k_is)
    (case a_law_copied => k_is)
    (case l_law_copied => k_is)
    (case c_law_copied => k_is)
    (case k_law_copied => k_is)
    (case a_law_throw => k_is)
    (case l_law_throw => k_is)
    (case c_law_throw => k_is)
    (case k_law_throw => k_is)
    (case a_law_letters => k_is)
    (case l_law_letters => k_is)
    (case c_law_letters => k_is)
    (case k_law_letters => k_is)
    (case a_law_pick => k_is)
    (case l_law_pick => k_is)
    (case c_law_pick => k_is)
    (case k_law_pick => k_is)
    (case a_law_words => k_is)
    (case l_law_words => k_is)
    (case c_law_words => k_is)
    (case k_law_words => k_is)
    (case a_law_name => k_is)
    (case l_law_name => k_is)
    (case c_law_name => k_is)
    (case k_law_name => k_is)
    (case a_law_layout => k_is)
    (case l_law_layout => k_is)
    (case c_law_layout => k_is)
    (case k_law_layout => k_is)
    (case a_law_letter => k_is)
    (case l_law_letter => k_is)
    (case c_law_letter => k_is)
    (case k_law_letter => k_is)
    (case a_is_integer => k_is)
    (case l_is_integer => k_is)
    (case c_is_integer => k_is)
    (case k_is_integer => k_is)
    (case a_is_letter => k_is)
    (case l_is_letter => k_is)
    (case c_is_letter => k_is)
    (case k_is_letter => k_is)
    (case a_is_name => k_is)
    (case l_is_name => k_is)
    (case c_is_name => k_is)
    (case k_is_name => k_is)
    (case a_is_time => k_is)
    (case l_is_time => k_is)
    (case c_is_time => k_is)
    (case k_is_time => k_is)
    (case a_is_event => k_is)
    (case l_is_event => k_is)
    (case c_is_event => k_is)
    (case k_is_event => k_is)
    (case a_are_events => k_is)
    (case l_are_events => k_is)
    (case c_are_events => k_is)
    (case k_are_events => k_is)
    (case a_last_time => k_is)
    (case l_last_time => k_is)
    (case c_last_time => k_is)
    (case k_last_time => k_is)
    (case a_law_odd => k_is)
    (case l_law_odd => k_is)
    (case c_law_odd => k_is)
    (case k_law_odd => k_is)
    (case a_law_value => k_is)
    (case l_law_value => k_is)
    (case c_law_value => k_is)
    (case k_law_value => k_is)
    (case a_law_good => k_is)
    (case l_law_good => k_is)
    (case c_law_good => k_is)
    (case k_law_good => k_is)
    (case a_law_is_integer => k_is)
    (case l_law_is_integer => k_is)
    (case c_law_is_integer => k_is)
    (case k_law_is_integer => k_is)
    (case a_law_is_letter => k_is)
    (case l_law_is_letter => k_is)
    (case c_law_is_letter => k_is)
    (case k_law_is_letter => k_is)
    (case a_law_is_name => k_is)
    (case l_law_is_name => k_is)
    (case c_law_is_name => k_is)
    (case k_law_is_name => k_is)
    (case a_law_is_event => k_is)
    (case l_law_is_event => k_is)
    (case c_law_is_event => k_is)
    (case k_law_is_event => k_is)
    (case a_law_is_layout => k_is)
    (case l_law_is_layout => k_is)
    (case c_law_is_layout => k_is)
    (case k_law_is_layout => k_is)
    (case a_law_is_output => k_is)
    (case l_law_is_output => k_is)
    (case c_law_is_output => k_is)
    (case k_law_is_output => k_is)
    (case a_law_is_list => k_is)
    (case l_law_is_list => k_is)
    (case c_law_is_list => k_is)
    (case k_law_is_list => k_is)
    (case a_law_same => k_is)
    (case l_law_same => k_is)
    (case c_law_same => k_is)
    (case k_law_same => k_is)
    (case a_law_spoiled => k_is)
    (case l_law_spoiled => k_is)
    (case c_law_spoiled => k_is)
    (case k_law_spoiled => k_is)
    (case a_law_start => k_is)
    (case l_law_start => k_is)
    (case c_law_start => k_is)
    (case k_law_start => k_is)
    (case a_is_letters => k_is)
    (case l_is_letters => k_is)
    (case c_is_letters => k_is)
    (case k_is_letters => k_is)
    (case a_is_layout => k_is)
    (case l_is_layout => k_is)
    (case c_is_layout => k_is)
    (case k_is_layout => k_is)
    (case a_is_end => k_is)
    (case l_is_end => k_is)
    (case c_is_end => k_is)
    (case k_is_end => k_is)
    (case a_is_output => k_is)
    (case l_is_output => k_is)
    (case c_is_output => k_is)
    (case k_is_output => k_is)
    (case a_is_list => k_is)
    (case l_is_list => k_is)
    (case c_is_list => k_is)
    (case k_is_list => k_is)
    (case a_law => k_is)
    (case l_law => k_is)
    (case c_law => k_is)
    (case k_law => k_is)
    (case a_Teq => k_is)
    (case l_Teq => k_is)
    (case c_Teq => k_is)
    (case k_Teq => k_is)
    (case w_Teq => k_is)
    (case a_Tinit => k_is)
    (case l_Tinit => k_is)
    (case c_Tinit => k_is)
    (case k_Tinit => k_is)
    (case w_Tinit => k_is)
    (case l_T1 => k_is)
    (case l_T0 => k_is)
    (case n_kw => k_is)
    (case z_abs => k_is)
    (case z_all => k_is)
    (case z_bool => k_is)
    (case z_dict => k_is)
    (case z_int => k_is)
    (case z_isinstance => k_is)
    (case z_len => k_is)
    (case z_list => k_is)
    (case z_max => k_is)
    (case z_range => k_is)
    (case z_set => k_is)
    (case z_sorted => k_is)
    (case z_str => k_is)
    (case z_tuple => k_is)
    (case z_zip => k_is)
    (case n_MAX_NAME => k_is)
    (case n_MAX_SOURCES => k_is)
    (case n_MAX_SOURCE_LETTERS => k_is)
    (case n_MAX_VALUE => k_is)
    (case n_MAX_VALUES => k_is)
    (case n_END => k_is)
    (case n_LETTERS => k_is)
    (case n_WORDS => k_is)
    (case l_W => k_is)
    (case m_W => kernel_rfl)
    (case m_InvalidTape => kernel_rfl)
    (case m_own => kernel_rfl)
    (case m_ns => kernel_rfl)
    (case m_io => kernel_rfl)
    (case m_mk => kernel_rfl)
    (case m_kp => kernel_rfl)
    (case m_ne => k_is)
    (case m_nl => k_is)
#print axioms PySem.Challenge.cw_pushalike_k01_words_holds

