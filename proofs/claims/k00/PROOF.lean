import PyProof.Rows.All
import Wide.All
import OpenK.AllK
import Wide.FinOn
import HandS.ForMost
import HandS.Exc
import HandS.ExcOwn
import HandS.WordsExc
import HandS.CallSlots
import HandS.ExcInit
import HandS.ExcValue
import HandS.Records
import HandS.Wide
import HandS.TupAny
import HandS.TupMul
import HandS.IsInst
import HandS.StrMore
import HandS.Style
import HandS.Iter
import HandS.Zip
import HandS.Text
import HandS.More
import PyProof.ListStr
import PyProof.DictTruth
import HandS.Small
import KE.KExcInit
import HandS.ExcIs
import PyProof.ExcClass
import KE.KExcIs
import HandS.ExcField
import KE.KxText
import HandS.Codes
import PySem.Challenge.RW_pushalike_k00_errors
set_option Elab.async false
set_option linter.all false
set_option maxRecDepth 100000
set_option maxHeartbeats 4000000

/-! Mi0: deep data, the store, what stands for what. -/
namespace Mi
open PySem PySem.Spec PyProof.Rows L2

/-- deep data; ref n: the n-th cell of the store -/
inductive D where
  | non | bl (b : Bool) | int (i : Int) | str (s : Str)
  | tup (l : List D) | lst (l : List D)
  | dct (ks : List Key) (l : List D)
  | ins (c : Str) (ks : List Str) (l : List D)
  | ref (n : Nat)
  | scr (ns : List Int)
  | exc (c : Str) (ks : List Str) (l : List D)
/-- a cell -/
inductive Ob where
  | lst (l : List D) | dct (ks : List Key) (l : List D) | ins (c : Str) (ks : List Str) (l : List D)
abbrev So := List (Option Ob)
structure Cm where
  cls : Str → Option Addr
  exc : Str → Option Addr
structure Ct where
  K : PySem.W.Frag
  cls : Str → Option Addr
  exc : Str → Option Addr
/-- where the cells stand; what is being made and shown to nobody yet -/
structure Am where
  p : Nat → Addr
  hid : Addr → Prop

/-- no live cell stands at a -/
def Off (m : Am) (S : So) (a : Addr) : Prop := ∀ (n : Nat) (o : Ob), S[n]? = some (some o) → m.p n ≠ a
def Free (m : Am) (S : So) (a : Addr) : Prop := Off m S a ∧ ¬ m.hid a

/-- a list that never changes: the script -/
def SqS (K : PySem.W.Frag) (H : Hp) (a : Addr) (xs : List V) : Prop :=
  (∃ o, H a = some (.frz o (.lst xs))) ∨
    ∃ (o : Obj) (its : Array Value) (n : Nat), K.lookup a = some o ∧ o.cls = .type "list" ∧ o.dict = none ∧ o.data = .seq its n ∧ its.size ≤ sizeLine ∧ Vals xs its.toList
theorem SqS.l {K : PySem.W.Frag} {H : Hp} {a : Addr} {xs : List V} (h : SqS K H a xs) : SqL K H a xs := by
  rcases h with ⟨o, h⟩ | h
  · exact .inl (.inr ⟨o, h⟩)
  · exact .inr h
mutual
def Rep (cm : Ct) (m : Am) (S : So) (H : Hp) : D → V → Prop
  | .non, v => v = .non
  | .bl b, v => v = .bl b
  | .int i, v => v = .int i
  | .str s, v => v = .str s
  | .tup l, v => ∃ a vs, v = .ref a ∧ SqT cm.K H a vs ∧ Reps cm m S H l vs
  | .lst l, v => ∃ a vs, v = .ref a ∧ H a = some (.lst vs) ∧ Free m S a ∧ Reps cm m S H l vs
  | .dct ks l, v => ∃ a kvs, v = .ref a ∧ Rd H a (.dK kvs) ∧ Free m S a ∧ kvs.map (·.1) = ks ∧ Reps cm m S H l (kvs.map (·.2))
  | .ins c ks l, v => ∃ a C dx fs, v = .ref a ∧ cm.cls c = some C ∧ H a = some (.ins C dx fs) ∧ Free m S a ∧ fs.map (·.1) = ks ∧ Reps cm m S H l (fs.map (·.2))
  | .ref n, v => n < S.length ∧ v = .ref (m.p n)
  | .scr ns, v => ∃ a, v = .ref a ∧ SqS cm.K H a (ns.map V.int)
  | .exc c ks l, v => ∃ a C, v = .ref a ∧ cm.exc c = some C ∧ Free m S a ∧ ((ks = [] ∧ l = [] ∧ H a = some (ExO (.ref C) a)) ∨
      ∃ d fs, H a = some (exo a C (some d)) ∧ H d = some (exd d fs) ∧ Free m S d ∧ fs.map (·.1) = ks ∧ Reps cm m S H l (fs.map (·.2)))
def Reps (cm : Ct) (m : Am) (S : So) (H : Hp) : List D → List V → Prop
  | [], vs => vs = []
  | d :: l, vs => ∃ v r, vs = v :: r ∧ Rep cm m S H d v ∧ Reps cm m S H l r
end

/-- what stands at a live cell's address -/
def ObAt (cm : Ct) (m : Am) (S : So) (H : Hp) (a : Addr) : Ob → Prop
  | .lst l => ∃ vs, H a = some (.lst vs) ∧ Reps cm m S H l vs
  | .dct ks l => ∃ kvs, H a = some (.dK kvs) ∧ kvs.map (·.1) = ks ∧ Reps cm m S H l (kvs.map (·.2))
  | .ins c ks l => ∃ C dx fs, cm.cls c = some C ∧ H a = some (.ins C dx fs) ∧ fs.map (·.1) = ks ∧ Reps cm m S H l (fs.map (·.2))

structure RelS (cm : Ct) (m : Am) (S : So) (H : Hp) : Prop where
  at_ : ∀ (n : Nat) (o : Ob), S[n]? = some (some o) → ObAt cm m S H (m.p n) o
  inj : ∀ (n k : Nat) (o u : Ob), S[n]? = some (some o) → S[k]? = some (some u) → m.p n = m.p k → n = k
  hid : ∀ a, m.hid a → H a ≠ none
  hoff : ∀ a, m.hid a → Off m S a

/-- at a there is o still; a dict may have been locked -/
def Sm (H' : Hp) (a : Addr) (o : HO) : Prop := H' a = some o ∨ ∃ kvs od, o = .dK kvs ∧ H' a = some (.frz od o)
theorem Sm.lst {H' : Hp} {a : Addr} {l : List V} (h : Sm H' a (.lst l)) : H' a = some (.lst l) := by
  rcases h with h | ⟨_, _, e, _⟩
  · exact h
  · cases e
theorem Sm.ins {H' : Hp} {a C d : Addr} {l : List (Str × V)} (h : Sm H' a (.ins C d l)) : H' a = some (.ins C d l) := by
  rcases h with h | ⟨_, _, e, _⟩
  · exact h
  · cases e
theorem Sm.ext {H' : Hp} {a : Addr} {φ : Heap → Prop} (h : Sm H' a (.ext φ)) : H' a = some (.ext φ) := by
  rcases h with h | ⟨_, _, e, _⟩
  · exact h
  · cases e
theorem Sm.rd {H' : Hp} {a : Addr} {l : List (Key × V)} (h : Sm H' a (.dK l)) : Rd H' a (.dK l) := by
  rcases h with h | ⟨_, od, e, h⟩
  · exact .inl h
  · exact .inr ⟨od, h⟩
/-- what a run may change -/
structure Adv (m : Am) (S : So) (H : Hp) (m' : Am) (S' : So) (H' : Hp) : Prop where
  len : S.length ≤ S'.length
  mm : ∀ n, n < S.length → m'.p n = m.p n
  al : ∀ (n : Nat) (o : Ob), S'[n]? = some (some o) → (n < S.length ∧ ∃ o0, S[n]? = some (some o0)) ∨ (S.length ≤ n ∧ H (m'.p n) = none)
  fr : ∀ a o, H a = some o → Off m S a → Sm H' a o
  tr : ∀ a, H a ≠ none → H' a ≠ none
  tp : ∀ a xs, H a = some (.tup xs) → H' a = some (.tup xs)
  fz : ∀ a o u, H a = some (.frz o u) → H' a = some (.frz o u)
  hd1 : ∀ a, m.hid a → m'.hid a
  hd2 : ∀ a, m'.hid a → m.hid a ∨ H a = none

section
variable {cm : Ct} {m m' m'' : Am} {S S' S'' : So} {H H' H'' : Hp}
theorem Adv.off (A : Adv m S H m' S' H') {a : Addr} {o : HO} (h : H a = some o) (f : Off m S a) : Off m' S' a := fun n u e z => by
  rcases A.al n u e with ⟨h1, o0, h2⟩ | ⟨_, h2⟩
  · exact f n o0 h2 (by rw [← A.mm n h1]; exact z)
  · rw [z, h] at h2
    cases h2
theorem Adv.free (A : Adv m S H m' S' H') {a : Addr} {o : HO} (h : H a = some o) (f : Free m S a) : Free m' S' a := ⟨A.off h f.1, fun z => (A.hd2 a z).elim f.2 fun q => by rw [q] at h; cases h⟩
theorem Adv.refl : Adv m S H m S H := ⟨Nat.le_refl _, fun _ _ => rfl, fun n o e => .inl ⟨(List.getElem?_eq_some_iff.mp e).1, o, e⟩, fun _ _ h _ => .inl h, fun _ h => h, fun _ _ h => h, fun _ _ _ h => h, fun _ h => h, fun _ h => .inl h⟩
theorem Adv.trans (A : Adv m S H m' S' H') (B : Adv m' S' H' m'' S'' H'') : Adv m S H m'' S'' H'' where
  len := Nat.le_trans A.len B.len
  mm := fun n h => (B.mm n (Nat.lt_of_lt_of_le h A.len)).trans (A.mm n h)
  al := fun n o e => by
    rcases B.al n o e with ⟨h1, o0, h2⟩ | ⟨h1, h2⟩
    · rcases A.al n o0 h2 with z | ⟨h3, h4⟩
      · exact .inl z
      · exact .inr ⟨h3, by rw [B.mm n h1]; exact h4⟩
    · refine .inr ⟨Nat.le_trans A.len h1, ?_⟩
      cases q : H (m''.p n) with
      | none => rfl
      | some o => exact absurd h2 (A.tr _ (by rw [q]; exact fun z => by cases z))
  fr := fun a o h f => by
    rcases A.fr a o h f with h' | ⟨kvs, od, e, h'⟩
    · exact B.fr a o h' (A.off h f)
    · exact .inr ⟨kvs, od, e, B.fz _ _ _ h'⟩
  tr := fun a h => B.tr a (A.tr a h)
  tp := fun a xs h => B.tp a xs (A.tp a xs h)
  fz := fun a o u h => B.fz a o u (A.fz a o u h)
  hd1 := fun a h => B.hd1 a (A.hd1 a h)
  hd2 := fun a h => by
    rcases B.hd2 a h with z | z
    · exact A.hd2 a z
    · refine .inr ?_
      cases q : H a with
      | none => rfl
      | some o => exact absurd z (A.tr a (by rw [q]; exact fun z => by cases z))
/-- the heap grows, the store stays -/
theorem Adv.grow (k : ∀ a o, H a = some o → H' a = some o) : Adv m S H m S H' where
  len := Nat.le_refl _
  mm := fun _ _ => rfl
  al := fun n o e => .inl ⟨(List.getElem?_eq_some_iff.mp e).1, o, e⟩
  fr := fun a o h _ => .inl (k a o h)
  tr := fun a h z => by
    cases q : H a with
    | none => exact h q
    | some o => rw [k a o q] at z; cases z
  tp := fun a xs h => k a _ h
  fz := fun a o u h => k a _ h
  hd1 := fun _ h => h
  hd2 := fun _ h => .inl h
theorem grow_upd {p : Addr} {o : HO} (h : H p = none) : ∀ a u, H a = some u → (upd H p o) a = some u := fun a u e => by
  rw [upd_ne (ne_of_none e h)]
  exact e
theorem Adv.new {p : Addr} {o : HO} (h : H p = none) : Adv m S H m S (upd H p o) := Adv.grow (grow_upd h)
theorem SqT.adv {K : PySem.W.Frag} (A : Adv m S H m' S' H') {a : Addr} {xs : List V} (h : SqT K H a xs) : SqT K H' a xs := by
  rcases h with (h | ⟨o, h⟩) | h
  · exact .inl (.inl (A.tp _ _ h))
  · exact .inl (.inr ⟨o, A.fz _ _ _ h⟩)
  · exact .inr h
theorem SqS.adv {K : PySem.W.Frag} (A : Adv m S H m' S' H') {a : Addr} {xs : List V} (h : SqS K H a xs) : SqS K H' a xs := by
  rcases h with ⟨o, h⟩ | h
  · exact .inl ⟨o, A.fz _ _ _ h⟩
  · exact .inr h
/-- what keeps every representation -/
structure Kp (m : Am) (S : So) (H : Hp) (m' : Am) (S' : So) (H' : Hp) : Prop where
  ob : ∀ a o, H a = some o → Free m S a → Sm H' a o ∧ Free m' S' a
  tp : ∀ a xs, H a = some (.tup xs) → H' a = some (.tup xs)
  fz : ∀ a o u, H a = some (.frz o u) → H' a = some (.frz o u)
  len : S.length ≤ S'.length
  mm : ∀ n, n < S.length → m'.p n = m.p n
theorem Adv.kp (A : Adv m S H m' S' H') : Kp m S H m' S' H' := ⟨fun a o h f => ⟨A.fr a o h f.1, A.free h f⟩, A.tp, A.fz, A.len, A.mm⟩
theorem Kp.sqT {K : PySem.W.Frag} (A : Kp m S H m' S' H') {a : Addr} {xs : List V} (h : SqT K H a xs) : SqT K H' a xs := by
  rcases h with (h | ⟨o, h⟩) | h
  · exact .inl (.inl (A.tp _ _ h))
  · exact .inl (.inr ⟨o, A.fz _ _ _ h⟩)
  · exact .inr h
theorem Kp.sqS {K : PySem.W.Frag} (A : Kp m S H m' S' H') {a : Addr} {xs : List V} (h : SqS K H a xs) : SqS K H' a xs := by
  rcases h with ⟨o, h⟩ | h
  · exact .inl ⟨o, A.fz _ _ _ h⟩
  · exact .inr h
mutual
theorem Rep.kp (A : Kp m S H m' S' H') : ∀ (d : D) (v : V), Rep cm m S H d v → Rep cm m' S' H' d v
  | .non, _, h => h
  | .bl _, _, h => h
  | .int _, _, h => h
  | .str _, _, h => h
  | .tup l, v, h => by
    simp only [Rep] at h ⊢
    obtain ⟨a, vs, e, h1, h3⟩ := h
    exact ⟨a, vs, e, A.sqT h1, Reps.kp A l vs h3⟩
  | .lst l, v, h => by
    simp only [Rep] at h ⊢
    obtain ⟨a, vs, e, h1, h2, h3⟩ := h
    exact ⟨a, vs, e, (A.ob _ _ h1 h2).1.lst, (A.ob _ _ h1 h2).2, Reps.kp A l vs h3⟩
  | .dct ks l, v, h => by
    simp only [Rep] at h ⊢
    obtain ⟨a, kvs, e, h1, h2, h3, h4⟩ := h
    rcases h1 with h1 | ⟨o, h1⟩
    · exact ⟨a, kvs, e, (A.ob _ _ h1 h2).1.rd, (A.ob _ _ h1 h2).2, h3, Reps.kp A l _ h4⟩
    · exact ⟨a, kvs, e, .inr ⟨o, A.fz _ _ _ h1⟩, (A.ob _ _ h1 h2).2, h3, Reps.kp A l _ h4⟩
  | .ins c ks l, v, h => by
    simp only [Rep] at h ⊢
    obtain ⟨a, C, dx, fs, e, hc, h1, h2, h3, h4⟩ := h
    exact ⟨a, C, dx, fs, e, hc, (A.ob _ _ h1 h2).1.ins, (A.ob _ _ h1 h2).2, h3, Reps.kp A l _ h4⟩
  | .ref n, v, h => by
    simp only [Rep] at h ⊢
    exact ⟨Nat.lt_of_lt_of_le h.1 A.len, by rw [A.mm n h.1]; exact h.2⟩
  | .scr ns, v, h => by
    simp only [Rep] at h ⊢
    obtain ⟨a, e, h1⟩ := h
    exact ⟨a, e, A.sqS h1⟩
  | .exc c ks l, v, h => by
    simp only [Rep] at h ⊢
    obtain ⟨a, C, e, hc, f, h | ⟨d, fs, h1, h2, f2, h3, h4⟩⟩ := h
    · exact ⟨a, C, e, hc, (A.ob _ _ h.2.2 f).2, .inl ⟨h.1, h.2.1, (A.ob _ _ h.2.2 f).1.ext⟩⟩
    · exact ⟨a, C, e, hc, (A.ob _ _ h1 f).2, .inr ⟨d, fs, (A.ob _ _ h1 f).1.ext, (A.ob _ _ h2 f2).1.ext, (A.ob _ _ h2 f2).2, h3, Reps.kp A l _ h4⟩⟩
theorem Reps.kp (A : Kp m S H m' S' H') : ∀ (l : List D) (vs : List V), Reps cm m S H l vs → Reps cm m' S' H' l vs
  | [], _, h => h
  | d :: l, vs, h => by
    simp only [Reps] at h ⊢
    obtain ⟨v, r, e, h1, h2⟩ := h
    exact ⟨v, r, e, Rep.kp A d v h1, Reps.kp A l r h2⟩
end
theorem Rep.adv (A : Adv m S H m' S' H') (d : D) (v : V) (h : Rep cm m S H d v) : Rep cm m' S' H' d v := Rep.kp A.kp d v h
theorem Reps.adv (A : Adv m S H m' S' H') (l : List D) (v : List V) (h : Reps cm m S H l v) : Reps cm m' S' H' l v := Reps.kp A.kp l v h
theorem Reps.length : ∀ {l : List D} {vs : List V}, Reps cm m S H l vs → l.length = vs.length
  | [], vs, h => by simp only [Reps] at h; subst h; rfl
  | d :: l, vs, h => by
    simp only [Reps] at h
    obtain ⟨v, r, rfl, _, h2⟩ := h
    simp only [List.length_cons]
    rw [Reps.length h2]
theorem Reps.get : ∀ {l : List D} {vs : List V} {i : Nat} {d : D}, Reps cm m S H l vs → l[i]? = some d → ∃ v, vs[i]? = some v ∧ Rep cm m S H d v
  | [], _, _, _, _, e => by simp at e
  | d :: l, vs, 0, x, h, e => by
    simp only [Reps] at h
    obtain ⟨v, r, rfl, h1, _⟩ := h
    simp at e
    subst e
    exact ⟨v, rfl, h1⟩
  | d :: l, vs, i + 1, x, h, e => by
    simp only [Reps] at h
    obtain ⟨v, r, rfl, _, h2⟩ := h
    obtain ⟨w, e1, e2⟩ := Reps.get (i := i) h2 (by simpa using e)
    exact ⟨w, by simpa using e1, e2⟩
theorem Reps.get' : ∀ {l : List D} {vs : List V} {i : Nat} {v : V}, Reps cm m S H l vs → vs[i]? = some v → ∃ d, l[i]? = some d ∧ Rep cm m S H d v := fun {l vs i v} h e => by
  have hl := h.length
  have hi : i < l.length := by rw [hl]; exact (List.getElem?_eq_some_iff.mp e).1
  obtain ⟨w, e1, r⟩ := h.get (List.getElem?_eq_getElem hi)
  rw [e] at e1
  cases e1
  exact ⟨_, List.getElem?_eq_getElem hi, r⟩
theorem Reps.nil : Reps cm m S H [] [] := by simp only [Reps]
theorem Reps.cons {d : D} {v : V} {l : List D} {vs : List V} (h : Rep cm m S H d v) (t : Reps cm m S H l vs) : Reps cm m S H (d :: l) (v :: vs) := by
  simp only [Reps]
  exact ⟨v, vs, rfl, h, t⟩
theorem Reps.append : ∀ {l k : List D} {vs ws : List V}, Reps cm m S H l vs → Reps cm m S H k ws → Reps cm m S H (l ++ k) (vs ++ ws)
  | [], k, vs, ws, h, t => by simp only [Reps] at h; subst h; exact t
  | d :: l, k, vs, ws, h, t => by
    simp only [Reps] at h
    obtain ⟨v, r, rfl, h1, h2⟩ := h
    exact Reps.cons h1 (Reps.append h2 t)
theorem Reps.take : ∀ {l : List D} {vs : List V} (n : Nat), Reps cm m S H l vs → Reps cm m S H (l.take n) (vs.take n)
  | _, _, 0, _ => by simp [Reps]
  | [], vs, n + 1, h => by simp only [Reps] at h; subst h; simp [Reps]
  | d :: l, vs, n + 1, h => by
    simp only [Reps] at h
    obtain ⟨v, r, rfl, h1, h2⟩ := h
    exact Reps.cons h1 (Reps.take n h2)
theorem Reps.drop : ∀ {l : List D} {vs : List V} (n : Nat), Reps cm m S H l vs → Reps cm m S H (l.drop n) (vs.drop n)
  | _, _, 0, h => h
  | [], vs, n + 1, h => by simp only [Reps] at h; subst h; simp [Reps]
  | d :: l, vs, n + 1, h => by
    simp only [Reps] at h
    obtain ⟨v, r, rfl, h1, h2⟩ := h
    exact Reps.drop n h2
theorem Reps.set : ∀ {l : List D} {vs : List V} {d : D} {v : V} (n : Nat), Reps cm m S H l vs → Rep cm m S H d v → Reps cm m S H (l.set n d) (vs.set n v)
  | [], vs, _, _, n, h, _ => by simp only [Reps] at h; subst h; simp [Reps]
  | d :: l, vs, _, _, 0, h, t => by
    simp only [Reps] at h
    obtain ⟨v, r, rfl, h1, h2⟩ := h
    exact Reps.cons t h2
  | d :: l, vs, _, _, n + 1, h, t => by
    simp only [Reps] at h
    obtain ⟨v, r, rfl, h1, h2⟩ := h
    exact Reps.cons h1 (Reps.set n h2 t)
theorem Reps.eraseIdx : ∀ {l : List D} {vs : List V} (n : Nat), Reps cm m S H l vs → Reps cm m S H (l.eraseIdx n) (vs.eraseIdx n)
  | [], vs, n, h => by simp only [Reps] at h; subst h; simp [Reps]
  | d :: l, vs, 0, h => by
    simp only [Reps] at h
    obtain ⟨v, r, rfl, h1, h2⟩ := h
    exact h2
  | d :: l, vs, n + 1, h => by
    simp only [Reps] at h
    obtain ⟨v, r, rfl, h1, h2⟩ := h
    exact Reps.cons h1 (Reps.eraseIdx n h2)
theorem Reps.reverse : ∀ {l : List D} {vs : List V}, Reps cm m S H l vs → Reps cm m S H l.reverse vs.reverse
  | [], vs, h => by simp only [Reps] at h; subst h; simp [Reps]
  | d :: l, vs, h => by
    simp only [Reps] at h
    obtain ⟨v, r, rfl, h1, h2⟩ := h
    rw [List.reverse_cons, List.reverse_cons]
    exact (Reps.reverse h2).append (Reps.cons h1 Reps.nil)

/-- the store stands where its own objects do -/
theorem ObAt.kp (A : Kp m S H m' S' H') {a : Addr} {o : Ob} (h : ObAt cm m S H a o) (e : H' a = H a) : ObAt cm m' S' H' a o := by
  cases o with
  | lst l =>
    obtain ⟨vs, h1, h2⟩ := h
    exact ⟨vs, by rw [e]; exact h1, Reps.kp A l vs h2⟩
  | dct ks l =>
    obtain ⟨kvs, h1, h2, h3⟩ := h
    exact ⟨kvs, by rw [e]; exact h1, h2, Reps.kp A l _ h3⟩
  | ins c ks l =>
    obtain ⟨C, dx, fs, hc, h1, h2, h3⟩ := h
    exact ⟨C, dx, fs, hc, by rw [e]; exact h1, h2, Reps.kp A l _ h3⟩
/-- the store stands over a grown heap -/
theorem RelS.adv (R : RelS cm m S H) (A : Adv m S H m S H') (k : ∀ (n : Nat) (o : Ob), S[n]? = some (some o) → H' (m.p n) = H (m.p n)) : RelS cm m S H' := by
  refine ⟨fun n o e => ?_, R.inj, fun a h => A.tr a (R.hid a h), R.hoff⟩
  have h := R.at_ n o e
  cases o with
  | lst l =>
    obtain ⟨vs, h1, h2⟩ := h
    exact ⟨vs, by rw [k n _ e]; exact h1, Reps.adv A l vs h2⟩
  | dct ks l =>
    obtain ⟨kvs, h1, h2, h3⟩ := h
    exact ⟨kvs, by rw [k n _ e]; exact h1, h2, Reps.adv A l _ h3⟩
  | ins c ks l =>
    obtain ⟨C, dx, fs, hc, h1, h2, h3⟩ := h
    exact ⟨C, dx, fs, hc, by rw [k n _ e]; exact h1, h2, Reps.adv A l _ h3⟩
theorem RelS.there (R : RelS cm m S H) {n : Nat} {o : Ob} (e : S[n]? = some (some o)) : ∃ u, H (m.p n) = some u := by
  have h := R.at_ n o e
  cases o with
  | lst l => obtain ⟨vs, h1, _⟩ := h; exact ⟨_, h1⟩
  | dct ks l => obtain ⟨vs, h1, _⟩ := h; exact ⟨_, h1⟩
  | ins c ks l => obtain ⟨C, dx, fs, hc, h1, _⟩ := h; exact ⟨_, h1⟩
theorem RelS.grow (R : RelS cm m S H) (k : ∀ a o, H a = some o → H' a = some o) : RelS cm m S H' :=
  R.adv (Adv.grow k) fun n o e => by
    obtain ⟨u, h⟩ := R.there e
    rw [h, k _ _ h]
theorem RelS.off_new (R : RelS cm m S H) {p : Addr} (h : H p = none) : Off m S p := fun n o e z => by
  obtain ⟨u, q⟩ := R.there e
  rw [z, h] at q
  cases q
theorem RelS.free_new (R : RelS cm m S H) {p : Addr} (h : H p = none) : Free m S p := ⟨R.off_new h, fun z => R.hid p z h⟩
end
end Mi


/-! Mi1: runs, judgements, the small rules. -/
namespace Mi
open PySem PySem.Spec PyProof.Rows L2

abbrev St := L2.St
structure Ex where
  c : Str
  ks : List Str
  l : List D
abbrev En := List (Option D)
/-- what a run gives -/
inductive R (α : Type) where
  | ok (a : α) (s : So) | err (x : Ex) (en : En) (s : So) | bad
def R.bind {α β : Type} (r : R α) (k : α → So → R β) : R β := match r with
  | .ok a s => k a s
  | .err x en s => .err x en s
  | .bad => .bad
@[simp] theorem R.bind_ok {α β : Type} (a : α) (s : So) (k : α → So → R β) : (R.ok a s).bind k = k a s := rfl
@[simp] theorem R.bind_err {α β : Type} (x : Ex) (en : En) (s : So) (k : α → So → R β) : (R.err x en s : R α).bind k = .err x en s := rfl
@[simp] theorem R.bind_bad {α β : Type} (k : α → So → R β) : (R.bad : R α).bind k = .bad := rfl
/-- of a partial operation -/
def R.of {α : Type} (o : Option (α × So)) : R α := match o with
  | some (a, s) => .ok a s
  | none => .bad
@[simp] theorem R.of_some {α : Type} (a : α) (s : So) : R.of (some (a, s)) = .ok a s := rfl
@[simp] theorem R.of_none {α : Type} : (R.of none : R α) = .bad := rfl
/-- an expression -/
abbrev E (α : Type) := En → So → R α

structure Cond (cm : Ct) (m : Am) (S : So) (H : Hp) (σ : St) (en : En) : Prop where
  rel : RelS cm m S H
  len : en.length = σ.length
  env : ∀ (i : Nat) (d : D), en[i]? = some (some d) → ∃ v, σ[i]? = some (some v) ∧ Rep cm m S H d v

def RepX (cm : Ct) (m : Am) (S : So) (H : Hp) (x : Ex) (cls : Value) (dd : Option Addr) : Prop :=
  ∃ C, cm.exc x.c = some C ∧ cls = .ref C ∧ ((dd = none ∧ x.ks = [] ∧ x.l = []) ∨
    ∃ d fs, dd = some d ∧ H d = some (.xd fs) ∧ Free m S d ∧ fs.map (·.1) = x.ks ∧ Reps cm m S H x.l (fs.map (·.2)))

abbrev Rp (α β : Type) := Am → So → Hp → α → β → Prop
def rB : Rp Bool Bool := fun _ _ _ a b => a = b
def rO : Rp (Option Int) (Option Int) := fun _ _ _ a b => a = b

def PQ {α β : Type} (rp : Rp α β) (cm : Ct) (m : Am) (S : So) (H : Hp) (σ : St) (W : WX) (r : R α) (Q : β → Hp → Prop) : Prop := match r with
  | .ok a S' => ∀ v m' H', Adv m S H m' S' H' → RelS cm m' S' H' → rp m' S' H' a v → Q v H'
  | .err x en' S' => ∀ cls dd m' H', Adv m S H m' S' H' → Cond cm m' S' H' σ en' → RepX cm m' S' H' x cls dd → W cls dd σ H'
  | .bad => False

section
variable {α β γ δ : Type} {cm : Ct} {m m1 : Am} {S S1 : So} {H H1 : Hp} {σ : St} {en : En} {W : WX}
theorem Cond.adv (C : Cond cm m S H σ en) (A : Adv m S H m1 S1 H1) (R : RelS cm m1 S1 H1) : Cond cm m1 S1 H1 σ en :=
  ⟨R, C.len, fun i d e => let ⟨v, h1, h2⟩ := C.env i d e; ⟨v, h1, Rep.adv A d v h2⟩⟩
theorem PQ.after {rp : Rp α β} {r : R α} {Q : β → Hp → Prop} (A : Adv m S H m1 S1 H1) (h : PQ rp cm m S H σ W r Q) : PQ rp cm m1 S1 H1 σ W r Q := by
  cases r with
  | ok a S' => exact fun v m' H' A' => h v m' H' (A.trans A')
  | err x en' S' => exact fun c d m' H' A' => h c d m' H' (A.trans A')
  | bad => exact h
theorem PQ.bind {rp1 : Rp α γ} {rp2 : Rp β δ} {r : R α} {k : α → So → R β} {Q : δ → Hp → Prop} {Q1 : γ → Hp → Prop} (h : PQ rp2 cm m S H σ W (r.bind k) Q)
    (hk : ∀ a S1 x m1 H1, r = .ok a S1 → Adv m S H m1 S1 H1 → RelS cm m1 S1 H1 → rp1 m1 S1 H1 a x → PQ rp2 cm m1 S1 H1 σ W (k a S1) Q → Q1 x H1) : PQ rp1 cm m S H σ W r Q1 := by
  cases r with
  | ok a S' => exact fun v m' H' A Rl rp => hk a S' v m' H' rfl A Rl rp (PQ.after A h)
  | err x en' S' => exact h
  | bad => exact h
theorem PQ.now {rp : Rp α β} {a : α} {v : β} {Q : β → Hp → Prop} (h : PQ rp cm m S H σ W (.ok a S) Q) (R : RelS cm m S H) (q : rp m S H a v) : Q v H := h v m H Adv.refl R q
theorem PQ.grown {rp : Rp α β} {a : α} {v : β} {Q : β → Hp → Prop} (h : PQ rp cm m S H σ W (.ok a S) Q) (R : RelS cm m S H) (k : ∀ a o, H a = some o → H1 a = some o) (q : RelS cm m S H1 → rp m S H1 a v) : Q v H1 :=
  h v m H1 (Adv.grow k) (R.grow k) (q (R.grow k))
end

/-! ### the weakest readings -/
def wE (X : Cx) (e : Expr) : TE := fun σ H Q => ∀ pins s, Inv X pins σ H s → wpAny (model X.prog X.w) X.A (eval e X.env) (EP X pins σ Q) X.xe s
def wT (X : Cx) (e : Expr) : TT := fun σ H Q => ∀ pins s, Inv X pins σ H s → wpAny (model X.prog X.w) X.A (isTrue e X.env (eval e X.env)) (TP X pins σ Q) X.xe s
def wW (X : Cx) (e : Expr) : TT := fun σ H Q => ∀ whole pins s, Inv X pins σ H s → wpAny (model X.prog X.w) X.A (isTrue e X.env whole) (TP X pins σ Q) X.xe s
def wA (X : Cx) (es : List Expr) : TA := fun σ H Q => ∀ pos pins s, Inv X pins σ H s → wpAny (model X.prog X.w) X.A (spliced (backTo pos (starEach es X.env))) (AP X pins σ Q) X.xe s
theorem pe_w {X : Cx} {e : Expr} : PE X e (wE X e) := ⟨fun pins s _ _ _ I h => h pins s I⟩
theorem pt_w {X : Cx} {e : Expr} : PT X e (wT X e) := ⟨fun pins s _ _ _ I h => h pins s I⟩
theorem pw_w {X : Cx} {e : Expr} : PW X e (wW X e) := ⟨fun wh pins s _ _ _ I h => h wh pins s I⟩
theorem pa_w {X : Cx} {es : List Expr} : PA X es (wA X es) := ⟨fun pos pins s _ _ _ I h => h pos pins s I⟩
section
variable {X : Cx} {σ : St} {H : Hp}
theorem wE_of {e : Expr} {t : TE} {Q : VK} (h : PE X e t) (q : t σ H Q) : wE X e σ H Q := fun pins s I => h.run pins s σ H Q I q
theorem wT_of {e : Expr} {t : TT} {Q : Bool → Hp → Prop} (h : PT X e t) (q : t σ H Q) : wT X e σ H Q := fun pins s I => h.run pins s σ H Q I q
theorem wW_of {e : Expr} {t : TT} {Q : Bool → Hp → Prop} (h : PW X e t) (q : t σ H Q) : wW X e σ H Q := fun wh pins s I => h.run wh pins s σ H Q I q
theorem wA_of {es : List Expr} {t : TA} {Q : List V → Hp → Prop} (h : PA X es t) (q : t σ H Q) : wA X es σ H Q := fun pos pins s I => h.run pos pins s σ H Q I q
end

/-! ### judgements -/
abbrev ct (X : Cx) (cm : Cm) : Ct := ⟨X.K, cm.cls, cm.exc⟩
def RE (cm : Cm) (X : Cx) (e : Expr) (f : E D) : Prop := ∀ W, Takes X W → ∀ m S H σ en Q, Cond (ct X cm) m S H σ en → PQ (Rep (ct X cm)) (ct X cm) m S H σ W (f en S) Q → wE X e σ H Q
def RT (cm : Cm) (X : Cx) (e : Expr) (f : E Bool) : Prop := ∀ W, Takes X W → ∀ m S H σ en Q, Cond (ct X cm) m S H σ en → PQ rB (ct X cm) m S H σ W (f en S) Q → wT X e σ H Q
def RW (cm : Cm) (X : Cx) (e : Expr) (f : E Bool) : Prop := ∀ W, Takes X W → ∀ m S H σ en Q, Cond (ct X cm) m S H σ en → PQ rB (ct X cm) m S H σ W (f en S) Q → wW X e σ H Q
def RA (cm : Cm) (X : Cx) (es : List Expr) (f : E (List D)) : Prop := ∀ W, Takes X W → ∀ m S H σ en Q, Cond (ct X cm) m S H σ en → PQ (Reps (ct X cm)) (ct X cm) m S H σ W (f en S) Q → wA X es σ H Q

/-! ### names and constants -/
def mV (i : Nat) : E D := fun en S => match en[i]? with
  | some (some d) => .ok d S
  | _ => .bad
def mC (d : D) : E D := fun _ S => .ok d S
section
variable {cm : Cm} {X : Cx} {pos : Pos}
theorem re_v (i : Nat) {x : Str} (hN : X.N[i]? = some x := by rfl) (hv : Vis X.env.scope x := by first | exact Or.inl rfl | exact Or.inr (Or.inl rfl) | exact Or.inr (Or.inr rfl)) (hd : (x == ("__debug__" : Str)) = false := by decide)
    (hcd : (x == ("__classdict__" : Str)) = false := by decide) : RE cm X (.Name x pos) (mV i) := fun W tk m S H σ en Q C h => by
  refine wE_of (pe_var hN hv hd hcd) ?_
  unfold mV at h
  split at h
  · rename_i d e
    obtain ⟨v, h1, h2⟩ := C.env i d e
    exact ⟨v, h1, h.now C.rel h2⟩
  · exact h.elim
theorem re_int {i j} : RE cm X (.Constant (.int i) j pos) (mC (.int i)) := fun W tk m S H σ en Q C h => wE_of pe_int (h.now C.rel (by simp only [Rep]))
theorem re_bl {b j} : RE cm X (.Constant (.bool b) j pos) (mC (.bl b)) := fun W tk m S H σ en Q C h => wE_of pe_bl (h.now C.rel (by simp only [Rep]))
theorem re_non {j} : RE cm X (.Constant .none j pos) (mC .non) := fun W tk m S H σ en Q C h => wE_of pe_non (h.now C.rel (by simp only [Rep]))
theorem re_str {x j} : RE cm X (.Constant (.str x) j pos) (mC (.str x)) := fun W tk m S H σ en Q C h => wE_of pe_str (h.now C.rel (by simp only [Rep]))
/-- a constant of the module: an int, a text -/
theorem re_gint {x : Str} {i : Int} {t : Tok} (hg : Gl X x) (hm : X.mg x = some (.int i t)) (hd : (x == ("__debug__" : Str)) = false := by decide) : RE cm X (.Name x pos) (mC (.int i)) := fun W tk m S H σ en Q C h =>
  wE_of (pe_glob (v := .int i) hg hm ⟨_, rfl⟩ hd) (h.now C.rel (by simp only [Rep]))
theorem re_gstr {x y : Str} {t : Tok} (hg : Gl X x) (hm : X.mg x = some (.str y t)) (hd : (x == ("__debug__" : Str)) = false := by decide) : RE cm X (.Name x pos) (mC (.str y)) := fun W tk m S H σ en Q C h =>
  wE_of (pe_glob (v := .str y) hg hm ⟨_, rfl⟩ hd) (h.now C.rel (by simp only [Rep]))
end

/-! ### operators -/
/-- what a pure operation gives -/
abbrev Op1 := D → So → Option (D × So)
abbrev Op2 := D → D → So → Option (D × So)
def POk {α β : Type} (rp : Rp α β) (cm : Ct) (m : Am) (S : So) (H : Hp) (o : Option (α × So)) (Q : β → Hp → Prop) : Prop := ∀ σ W, PQ rp cm m S H σ W (R.of o) Q
def wO2 (X : Cx) (f : Value → Value → Sem Value) : R2 := fun x y H Q => ∀ pins s σ v u, Inv X pins σ H s → RelV x v → RelV y u → wpAny (model X.prog X.w) X.A (f v u) (EP X pins σ Q) X.xe s
def wO1 (X : Cx) (f : Value → Sem Value) : V → Hp → VK → Prop := fun x H Q => ∀ pins s σ v, Inv X pins σ H s → RelV x v → wpAny (model X.prog X.w) X.A (f v) (EP X pins σ Q) X.xe s
theorem op_w {X : Cx} {f : Value → Value → Sem Value} : OpR X f (wO2 X f) := fun pins s σ H x y v u Q I rx ry h => h pins s σ v u I rx ry
theorem un_w {X : Cx} {f : Value → Sem Value} : UnR X f (wO1 X f) := fun pins s σ H x v Q I rx h => h pins s σ v I rx
theorem wO2_of {X : Cx} {f : Value → Value → Sem Value} {r : R2} {x y : V} {H : Hp} {Q : VK} (h : OpR X f r) (q : r x y H Q) : wO2 X f x y H Q := fun pins s σ v u I rx ry => h pins s σ H x y v u Q I rx ry q
theorem wO1_of {X : Cx} {f : Value → Sem Value} {r : V → Hp → VK → Prop} {x : V} {H : Hp} {Q : VK} (h : UnR X f r) (q : r x H Q) : wO1 X f x H Q := fun pins s σ v I rx => h pins s σ H x v Q I rx q
def OpD (cm : Cm) (X : Cx) (f : Value → Value → Sem Value) (g : Op2) : Prop := ∀ m S H a b x y Q, RelS (ct X cm) m S H → Rep (ct X cm) m S H a x → Rep (ct X cm) m S H b y → POk (Rep (ct X cm)) (ct X cm) m S H (g a b S) Q → wO2 X f x y H Q
def UnD (cm : Cm) (X : Cx) (f : Value → Sem Value) (g : Op1) : Prop := ∀ m S H a x Q, RelS (ct X cm) m S H → Rep (ct X cm) m S H a x → POk (Rep (ct X cm)) (ct X cm) m S H (g a S) Q → wO1 X f x H Q
def m2 (g : Op2) (fa fb : E D) : E D := fun en S => (fa en S).bind fun a S1 => (fb en S1).bind fun b S2 => R.of (g a b S2)
def m1 (g : Op1) (fa : E D) : E D := fun en S => (fa en S).bind fun a S1 => R.of (g a S1)
section
variable {α β : Type} {cm : Ct} {m : Am} {S : So} {H : Hp} {rp : Rp α β} {Q : β → Hp → Prop}
theorem PQ.pok {σ : St} {W : WX} {o : Option (α × So)} (h : PQ rp cm m S H σ W (R.of o) Q) : POk rp cm m S H o Q := fun σ' W' => by
  cases o with
  | none => exact h
  | some p => exact h
theorem POk.no (h : POk rp cm m S H none Q) : False := h [] (fun _ _ _ _ => False)
theorem POk.at {a : α} {S' : So} {v : β} {m' : Am} {H' : Hp} (h : POk rp cm m S H (some (a, S')) Q) (A : Adv m S H m' S' H') (R : RelS cm m' S' H') (q : rp m' S' H' a v) : Q v H' := h [] (fun _ _ _ _ => False) v m' H' A R q
theorem POk.now {a : α} {v : β} (h : POk rp cm m S H (some (a, S)) Q) (R : RelS cm m S H) (q : rp m S H a v) : Q v H := h.at Adv.refl R q
end
section
variable {cm : Cm} {X : Cx} {pos : Pos} {a b : Expr} {fa fb : E D}
theorem re_op {op : Operator} {g : Op2} (ho : OpD cm X (binaryOp op) g) (ha : RE cm X a fa) (hb : RE cm X b fb) : RE cm X (.BinOp a op b pos) (m2 g fa fb) := fun W tk m S H σ en Q C h => by
  refine wE_of (pe_op op_w pe_w pe_w) ?_
  refine ha W tk m S H σ en _ C (PQ.bind h fun da S1 x m1 H1 e1 A1 R1 r1 h1 => ?_)
  refine hb W tk m1 S1 H1 σ en _ (C.adv A1 R1) (PQ.bind h1 fun db S2 y m2 H2 e2 A2 R2 r2 h2 => ?_)
  exact ho m2 S2 H2 da db x y Q R2 (Rep.adv A2 _ _ r1) r2 h2.pok
theorem re_un {op : UnaryOp} {g : Op1} (ho : UnD cm X (unaryOp op) g) (ha : RE cm X a fa) : RE cm X (.UnaryOp op a pos) (m1 g fa) := fun W tk m S H σ en Q C h => by
  refine wE_of (pe_un un_w pe_w) ?_
  refine ha W tk m S H σ en _ C (PQ.bind h fun da S1 x m1 H1 e1 A1 R1 r1 h1 => ?_)
  exact ho m1 S1 H1 da x Q R1 r1 h1.pok
/-- a comparison -/
theorem re_cmp {op : CmpOp} {g : Op2} (ho : OpD cm X (compareOp op) g) (ha : RE cm X a fa) (hb : RE cm X b fb) (hm : behindInMarks op b = false) : RE cm X (.Compare a [op] [b] pos) (m2 g fa fb) := fun W tk m S H σ en Q C h => by
  refine wE_of (pe_cmpR op_w pe_w pe_w hm) ?_
  refine ha W tk m S H σ en _ C (PQ.bind h fun da S1 x m1 H1 e1 A1 R1 r1 h1 => ?_)
  refine hb W tk m1 S1 H1 σ en _ (C.adv A1 R1) (PQ.bind h1 fun db S2 y m2 H2 e2 A2 R2 r2 h2 => ?_)
  exact ho m2 S2 H2 da db x y Q R2 (Rep.adv A2 _ _ r1) r2 h2.pok
end

/-! ### tests -/
/-- a bool's own -/
def asB (d : D) (S : So) : Option (Bool × So) := match d with
  | .bl b => some (b, S)
  | _ => none
def tB' (fa : E D) : E Bool := fun en S => (fa en S).bind fun a S1 => R.of (asB a S1)
/-- truth -/
def truD (d : D) (S : So) : Option Bool := match d with
  | .non => some false
  | .bl b => some b
  | .int i => some (i != 0)
  | .str y => if y.length ≤ sizeLine then some ((y.length : Int) != 0) else none
  | .tup l => some (!l.isEmpty)
  | .lst l => some (!l.isEmpty)
  | .dct ks _ => some (!ks.isEmpty)
  | .ref n => match S[n]? with
    | some (some (.lst l)) => some (!l.isEmpty)
    | some (some (.dct ks _)) => some (!ks.isEmpty)
    | _ => none
  | _ => none
def tTru (fa : E D) : E Bool := fun en S => (fa en S).bind fun a S1 => match truD a S1 with
  | some b => .ok b S1
  | none => .bad
theorem empty_of {cm : Ct} {m : Am} {S : So} {H : Hp} {l : List D} {vs : List V} (h : Reps cm m S H l vs) : l.isEmpty = vs.isEmpty := by
  have e := h.length
  cases l <;> cases vs <;> simp_all
/-- .. a locked dict too -/
def TruV2 (K : PySem.W.Frag) (x : V) (H : Hp) (k : Bool) : Prop := TruV K x H k ∨ ∃ p kvs, x = .ref p ∧ Rd H p (.dK kvs) ∧ k = !kvs.isEmpty
theorem tru_ok2 {X : Cx} : TruR X (fun x H Q => ∃ k, TruV2 X.K x H k ∧ Q k H) := by
  intro pins s σ H x v Q I rx h
  obtain ⟨k, e | ⟨p, kvs, ex, hd, ek⟩, q⟩ := h
  · exact tru_ok pins s σ H x v Q I rx ⟨k, e, q⟩
  · subst ex
    cases rx
    subst ek
    have hl := line63
    have hs : sizeLine = 16777216 := sizeLine_eq
    obtain ⟨hz, hS, vs, r, m⟩ := dk_rd I.hok hd
    have hlen : kvs.length = vs.length := Paired.length r
    exact wpAny_truthy_dict hS m (by omega) ⟨H, I.tok _, by rw [isEmpty_kv r]; exact q⟩
theorem tru_v {cm : Ct} {m : Am} {S : So} {H : Hp} {d : D} {x : V} {b : Bool} (R : RelS cm m S H) (r : Rep cm m S H d x) (h : truD d S = some b) : TruV2 cm.K x H b := by
  cases d with
  | non => simp only [Rep] at r; subst r; simp only [truD, Option.some.injEq] at h; exact .inl h.symm
  | bl c => simp only [Rep] at r; subst r; simp only [truD, Option.some.injEq] at h; exact .inl h.symm
  | int i => simp only [Rep] at r; subst r; simp only [truD, Option.some.injEq] at h; exact .inl h.symm
  | str y =>
    simp only [Rep] at r; subst r
    simp only [truD] at h
    split at h
    · rename_i hl
      exact .inl ⟨hl, (Option.some.inj h).symm⟩
    · cases h
  | tup l =>
    simp only [Rep] at r
    obtain ⟨a, vs, rfl, h1, h3⟩ := r
    simp only [truD, Option.some.injEq] at h
    exact .inl (.inr (.inl ⟨vs, h1, by rw [← empty_of h3]; exact h.symm⟩))
  | lst l =>
    simp only [Rep] at r
    obtain ⟨a, vs, rfl, h1, _, h3⟩ := r
    simp only [truD, Option.some.injEq] at h
    exact .inl (.inl ⟨vs, .inl (.inl h1), by rw [← empty_of h3]; exact h.symm⟩)
  | dct ks l =>
    simp only [Rep] at r
    obtain ⟨a, kvs, rfl, h1, _, h3, _⟩ := r
    simp only [truD, Option.some.injEq] at h
    exact .inr ⟨a, kvs, rfl, h1, by rw [← h, ← h3]; cases kvs <;> rfl⟩
  | ins c ks l => simp [truD] at h
  | scr ns => simp [truD] at h
  | exc c ks l => simp [truD] at h
  | ref n =>
    simp only [Rep] at r
    obtain ⟨_, rfl⟩ := r
    simp only [truD] at h
    split at h
    · rename_i l e
      obtain ⟨vs, h1, h2⟩ := R.at_ n _ e
      exact .inl (.inl ⟨vs, .inl (.inl h1), by rw [← empty_of h2]; exact (Option.some.inj h).symm⟩)
    · rename_i ks l e
      obtain ⟨kvs, h1, h2, h3⟩ := R.at_ n _ e
      exact .inr ⟨_, kvs, rfl, .inl h1, by rw [← Option.some.inj h, ← h2]; cases kvs <;> rfl⟩
    · cases h
def tAnd' (f g : E Bool) : E Bool := fun en S => (f en S).bind fun b S1 => match b with
  | true => g en S1
  | false => .ok false S1
def tOr' (f g : E Bool) : E Bool := fun en S => (f en S).bind fun b S1 => match b with
  | true => .ok true S1
  | false => g en S1
def tNot' (f : E Bool) : E Bool := fun en S => (f en S).bind fun b S1 => .ok (!b) S1
section
variable {cm : Cm} {X : Cx} {pos : Pos} {a b : Expr} {rest : List Expr} {fa fb : E D} {ta tb : E Bool}
/-- an expression that gives a bool -/
theorem rt_val (ha : RE cm X a fa) (he : ∀ whole, isTrue a X.env whole = (do let v ← whole; standAt a.pos; holding [v] (truthy v)) := by intro _; rfl) : RT cm X a (tB' fa) := fun W tk m S H σ en Q C h => by
  refine wT_of (pt_val pe_w he) ?_
  refine ha W tk m S H σ en _ C (PQ.bind h fun da S1 x m1 H1 e1 A1 R1 r1 h1 => ?_)
  unfold asB at h1
  split at h1
  · simp only [Rep] at r1
    exact ⟨_, r1, PQ.now h1 R1 rfl⟩
  · exact h1.elim
theorem rt_tru (ha : RE cm X a fa) (he : ∀ whole, isTrue a X.env whole = (do let v ← whole; standAt a.pos; holding [v] (truthy v)) := by intro _; rfl) : RT cm X a (tTru fa) := fun W tk m S H σ en Q C h => by
  refine wT_of (pt_truthR pe_w tru_ok2 he) ?_
  refine ha W tk m S H σ en _ C (PQ.bind h fun da S1 x m1 H1 e1 A1 R1 r1 h1 => ?_)
  cases e : truD da S1 with
  | none => rw [e] at h1; exact h1.elim
  | some k =>
    rw [e] at h1
    exact ⟨k, tru_v R1 r1 e, PQ.now h1 R1 rfl⟩
theorem rt_cmp {op : CmpOp} {g : Op2} (ho : OpD cm X (compareOp op) g) (ha : RE cm X a fa) (hb : RE cm X b fb) (hm : behindInMarks op b = false) : RT cm X (.Compare a [op] [b] pos) (tB' (m2 g fa fb)) := fun W tk m S H σ en Q C h => by
  refine wT_of (pt_cmpR op_w pe_w pe_w hm) ?_
  have h' : PQ rB (ct X cm) m S H σ W ((fa en S).bind fun a S1 => ((fb en S1).bind fun b S2 => (R.of (g a b S2)).bind fun a S1 => R.of (asB a S1))) Q := by
    have e : tB' (m2 g fa fb) en S = (fa en S).bind fun a S1 => ((fb en S1).bind fun b S2 => (R.of (g a b S2)).bind fun a S1 => R.of (asB a S1)) := by
      unfold tB' m2
      cases fa en S with
      | ok a S1 => simp only [R.bind_ok]; cases fb en S1 <;> simp
      | err _ _ _ => rfl
      | bad => rfl
    rw [← e]; exact h
  refine ha W tk m S H σ en _ C (PQ.bind h' fun da S1 x m1 H1 e1 A1 R1 r1 h1 => ?_)
  refine hb W tk m1 S1 H1 σ en _ (C.adv A1 R1) (PQ.bind h1 fun db S2 y m2 H2 e2 A2 R2 r2 h2 => ?_)
  refine ho m2 S2 H2 da db x y _ R2 (Rep.adv A2 _ _ r1) r2 (PQ.pok (σ := σ) (W := W) ?_)
  refine PQ.bind h2 fun dc S3 z m3 H3 e3 A3 R3 r3 h3 => ?_
  unfold asB at h3
  split at h3
  · simp only [Rep] at r3
    exact ⟨_, r3, PQ.now h3 R3 rfl⟩
  · exact h3.elim
theorem rt_w (h : RW cm X a ta) : RT cm X a ta := fun W tk m S H σ en Q C q pins s I => h W tk m S H σ en Q C q _ pins s I
theorem rw_and1 (ha : RT cm X a ta) : RW cm X (.BoolOp .And [a] pos) ta := fun W tk m S H σ en Q C h => wW_of (pw_and1 pt_w) (ha W tk m S H σ en Q C h)
theorem rw_or1 (ha : RT cm X a ta) : RW cm X (.BoolOp .Or [a] pos) ta := fun W tk m S H σ en Q C h => wW_of (pw_or1 pt_w) (ha W tk m S H σ en Q C h)
theorem rw_and (ha : RT cm X a ta) (hb : RW cm X (.BoolOp .And (b :: rest) pos) tb) : RW cm X (.BoolOp .And (a :: b :: rest) pos) (tAnd' ta tb) := fun W tk m S H σ en Q C h => by
  refine wW_of (pw_and pt_w pw_w) ?_
  refine ha W tk m S H σ en _ C (PQ.bind h fun k S1 x m1 H1 e1 A1 R1 r1 h1 => ?_)
  obtain rfl : k = x := r1
  cases k with
  | true => rw [if_pos rfl]; exact hb W tk m1 S1 H1 σ en Q (C.adv A1 R1) h1
  | false => rw [if_neg Bool.false_ne_true]; exact PQ.now h1 R1 rfl
theorem rw_or (ha : RT cm X a ta) (hb : RW cm X (.BoolOp .Or (b :: rest) pos) tb) : RW cm X (.BoolOp .Or (a :: b :: rest) pos) (tOr' ta tb) := fun W tk m S H σ en Q C h => by
  refine wW_of (pw_or pt_w pw_w) ?_
  refine ha W tk m S H σ en _ C (PQ.bind h fun k S1 x m1 H1 e1 A1 R1 r1 h1 => ?_)
  obtain rfl : k = x := r1
  cases k with
  | false => rw [if_neg Bool.false_ne_true]; exact hb W tk m1 S1 H1 σ en Q (C.adv A1 R1) h1
  | true => rw [if_pos rfl]; exact PQ.now h1 R1 rfl
theorem rt_not (ha : RT cm X a ta) : RT cm X (.UnaryOp .Not a pos) (tNot' ta) := fun W tk m S H σ en Q C h => by
  refine wT_of (pt_not pt_w) ?_
  refine ha W tk m S H σ en _ C (PQ.bind h fun k S1 x m1 H1 e1 A1 R1 r1 h1 => ?_)
  obtain rfl : k = x := r1
  exact PQ.now h1 R1 rfl
/-- and, or, not as values of bools -/
def mAnd (f g : E D) : E D := fun en S => (f en S).bind fun d S1 => match d with
  | .bl true => g en S1
  | .bl false => .ok (.bl false) S1
  | _ => .bad
def mOr (f g : E D) : E D := fun en S => (f en S).bind fun d S1 => match d with
  | .bl true => .ok (.bl true) S1
  | .bl false => g en S1
  | _ => .bad
def mNot (f : E D) : E D := fun en S => (f en S).bind fun d S1 => match d with
  | .bl b => .ok (.bl (!b)) S1
  | _ => .bad
theorem re_one {op} (ha : RE cm X a fa) : RE cm X (.BoolOp op [a] pos) fa := fun W tk m S H σ en Q C h => wE_of (pe_one pe_w) (ha W tk m S H σ en Q C h)
theorem re_and (ha : RE cm X a fa) (hb : RE cm X (.BoolOp .And (b :: rest) pos) fb) : RE cm X (.BoolOp .And (a :: b :: rest) pos) (mAnd fa fb) := fun W tk m S H σ en Q C h => by
  refine wE_of (pe_and pe_w pe_w) ?_
  refine ha W tk m S H σ en _ C (PQ.bind h fun d S1 x m1 H1 e1 A1 R1 r1 h1 => ?_)
  split at h1
  · simp only [Rep] at r1
    refine ⟨true, r1, ?_⟩
    rw [if_pos rfl]; exact hb W tk m1 S1 H1 σ en Q (C.adv A1 R1) h1
  · simp only [Rep] at r1
    refine ⟨false, r1, ?_⟩
    rw [if_neg Bool.false_ne_true]; exact PQ.now h1 R1 (by simp only [Rep])
  · exact h1.elim
theorem re_or (ha : RE cm X a fa) (hb : RE cm X (.BoolOp .Or (b :: rest) pos) fb) : RE cm X (.BoolOp .Or (a :: b :: rest) pos) (mOr fa fb) := fun W tk m S H σ en Q C h => by
  refine wE_of (pe_or pe_w pe_w) ?_
  refine ha W tk m S H σ en _ C (PQ.bind h fun d S1 x m1 H1 e1 A1 R1 r1 h1 => ?_)
  split at h1
  · simp only [Rep] at r1
    refine ⟨true, r1, ?_⟩
    rw [if_pos rfl]; exact PQ.now h1 R1 (by simp only [Rep])
  · simp only [Rep] at r1
    refine ⟨false, r1, ?_⟩
    rw [if_neg Bool.false_ne_true]; exact hb W tk m1 S1 H1 σ en Q (C.adv A1 R1) h1
  · exact h1.elim
theorem re_not (ha : RE cm X a fa) : RE cm X (.UnaryOp .Not a pos) (mNot fa) := fun W tk m S H σ en Q C h => by
  refine wE_of (pe_not pe_w) ?_
  refine ha W tk m S H σ en _ C (PQ.bind h fun d S1 x m1 H1 e1 A1 R1 r1 h1 => ?_)
  split at h1
  · simp only [Rep] at r1
    exact ⟨_, r1, PQ.now h1 R1 (by simp only [Rep])⟩
  · exact h1.elim
/-- a if t else b -/
def mIf (t : E Bool) (f g : E D) : E D := fun en S => (t en S).bind fun b S1 => match b with
  | true => f en S1
  | false => g en S1
theorem re_if {c : Expr} {t : E Bool} (hc : RT cm X c t) (ha : RE cm X a fa) (hb : RE cm X b fb) : RE cm X (.IfExp c a b pos) (mIf t fa fb) := fun W tk m S H σ en Q C h => by
  refine wE_of (pe_ifExp pt_w pe_w pe_w) ?_
  refine hc W tk m S H σ en _ C (PQ.bind h fun k S1 x m1 H1 e1 A1 R1 r1 h1 => ?_)
  obtain rfl : k = x := r1
  cases k with
  | true => rw [if_pos rfl]; exact ha W tk m1 S1 H1 σ en Q (C.adv A1 R1) h1
  | false => rw [if_neg Bool.false_ne_true]; exact hb W tk m1 S1 H1 σ en Q (C.adv A1 R1) h1
end

/-! ### argument lists, displays -/
def aNil : E (List D) := fun _ S => .ok [] S
def aCons (f : E D) (g : E (List D)) : E (List D) := fun en S => (f en S).bind fun d S1 => (g en S1).bind fun l S2 => .ok (d :: l) S2
section
variable {cm : Cm} {X : Cx} {pos : Pos} {e : Expr} {es : List Expr} {f : E D} {g : E (List D)}
theorem ra_nil : RA cm X [] aNil := fun W tk m S H σ en Q C h => wA_of pa_nil (h.now C.rel Reps.nil)
theorem ra_cons (h1 : RE cm X e f) (h2 : RA cm X es g) (hs : starEach (e :: es) X.env = (false, eval e X.env) :: starEach es X.env := by rfl) : RA cm X (e :: es) (aCons f g) := fun W tk m S H σ en Q C h => by
  refine wA_of (pa_cons pe_w pa_w hs) ?_
  refine h1 W tk m S H σ en _ C (PQ.bind h fun d S1 x m1 H1 e1 A1 R1 r1 k1 => ?_)
  refine h2 W tk m1 S1 H1 σ en _ (C.adv A1 R1) (PQ.bind k1 fun l S2 xs m2 H2 e2 A2 R2 r2 k2 => ?_)
  exact PQ.now k2 R2 (Reps.cons (Rep.adv A2 _ _ r1) r2)
/-- (a, b, ..); [a, b, ..] as a value; as a cell -/
def mTup (g : E (List D)) : E D := fun en S => (g en S).bind fun l S1 => if l.length ≤ sizeLine then .ok (.tup l) S1 else .bad
def mLst (g : E (List D)) : E D := fun en S => (g en S).bind fun l S1 => if l.length ≤ sizeLine then .ok (.lst l) S1 else .bad
def mLstN (g : E (List D)) : E D := fun en S => (g en S).bind fun l S1 => if l.length ≤ sizeLine then .ok (.ref S1.length) (S1 ++ [some (.lst l)]) else .bad
def Am.put (m : Am) (k : Nat) (a : Addr) : Am := { m with p := fun n => if n = k then a else m.p n }
theorem new_adv {m : Am} {S : So} {H : Hp} {p : Addr} {u : HO} {o : Ob} (hp : H p = none) : Adv m S H (m.put S.length p) (S ++ [some o]) (upd H p u) := by
  refine ⟨by simp, fun n hn => by simp [Am.put, Nat.ne_of_lt hn], fun n v e => ?_, fun a v h f => .inl (grow_upd hp a v h), fun a h z => ?_, fun a xs h => grow_upd hp a _ h, fun a o u h => grow_upd hp a _ h, fun _ h => h, fun _ h => .inl h⟩
  · by_cases hn : n < S.length
    · rw [List.getElem?_append_left hn] at e
      exact .inl ⟨hn, v, e⟩
    · have hl : n < (S ++ [some o]).length := (List.getElem?_eq_some_iff.mp e).1
      have e' : n = S.length := by simp at hl; omega
      exact .inr ⟨by omega, by simp [Am.put, e', hp]⟩
  · by_cases e : a = p
    · subst e; exact h hp
    · rw [upd_ne e] at z; exact h z
/-- a new cell -/
theorem new_cell {cm : Ct} {m : Am} {S : So} {H : Hp} {p : Addr} {u : HO} {o : Ob} (R : RelS cm m S H) (hp : H p = none)
    (ho : ∀ m' S' H', Adv m S H m' S' H' → H' p = some u → ObAt cm m' S' H' p o) : RelS cm (m.put S.length p) (S ++ [some o]) (upd H p u) := by
  have A : Adv m S H (m.put S.length p) (S ++ [some o]) (upd H p u) := new_adv hp
  have cases_ : ∀ (n : Nat) (v : Ob), (S ++ [some o])[n]? = some (some v) → (n < S.length ∧ S[n]? = some (some v)) ∨ (n = S.length ∧ v = o) := fun n v e => by
    by_cases hn : n < S.length
    · rw [List.getElem?_append_left hn] at e
      exact .inl ⟨hn, e⟩
    · have hl : n < (S ++ [some o]).length := (List.getElem?_eq_some_iff.mp e).1
      have e' : n = S.length := by simp at hl; omega
      subst e'
      simp at e
      exact .inr ⟨rfl, e.symm⟩
  refine ⟨fun n v e => ?_, fun n k v w e1 e2 q => ?_, fun a h => A.tr a (R.hid a h), fun a h k v e z => by
    rcases cases_ k v e with ⟨hk, e⟩ | ⟨hk, rfl⟩
    · simp only [Am.put, Nat.ne_of_lt hk, if_false] at z
      exact R.hoff a h k v e z
    · simp only [Am.put, hk, if_true] at z
      exact R.hid a h (by rw [← z]; exact hp)⟩
  · rcases cases_ n v e with ⟨hn, e⟩ | ⟨hn, rfl⟩
    · have h := R.at_ n v e
      have nm : (m.put S.length p).p n = m.p n := by simp [Am.put, Nat.ne_of_lt hn]
      rw [nm]
      cases v with
      | lst l =>
        obtain ⟨vs, h1, h2⟩ := h
        exact ⟨vs, grow_upd hp _ _ h1, Reps.adv A l vs h2⟩
      | dct ks l =>
        obtain ⟨kvs, h1, h2, h3⟩ := h
        exact ⟨kvs, grow_upd hp _ _ h1, h2, Reps.adv A l _ h3⟩
      | ins c ks l =>
        obtain ⟨C, dx, fs, hc, h1, h2, h3⟩ := h
        exact ⟨C, dx, fs, hc, grow_upd hp _ _ h1, h2, Reps.adv A l _ h3⟩
    · have nm : (m.put S.length p).p n = p := by simp [Am.put, hn]
      rw [nm]
      exact ho _ _ _ A upd_same
  · rcases cases_ n v e1 with ⟨hn, e1⟩ | ⟨hn, rfl⟩ <;> rcases cases_ k w e2 with ⟨hk, e2⟩ | ⟨hk, rfl⟩
    · simp only [Am.put, Nat.ne_of_lt hn, Nat.ne_of_lt hk, if_false] at q
      exact R.inj n k v w e1 e2 q
    · skip
      simp only [Am.put, Nat.ne_of_lt hn, hk, if_false, if_true] at q
      exact absurd q (R.off_new hp n v (by assumption))
    · simp only [Am.put, Nat.ne_of_lt hk, hn, if_false, if_true] at q
      exact absurd q.symm (R.off_new hp k w (by assumption))
    · omega
theorem re_tup {k} (h : RA cm X es g) : RE cm X (.Tuple es k pos) (mTup g) := fun W tk m S H σ en Q C hq => by
  refine wE_of (pe_tup pa_w) ?_
  refine h W tk m S H σ en _ C (PQ.bind hq fun l S1 xs m1 H1 e1 A1 R1 r1 k1 => ?_)
  split at k1
  · rename_i hl
    refine ⟨by rw [← Reps.length r1]; exact hl, fun p hp => ?_⟩
    refine PQ.grown k1 R1 (grow_upd hp) fun R2 => ?_
    simp only [Rep]
    exact ⟨p, xs, rfl, .inl (.inl upd_same), Reps.adv (Adv.new hp) _ _ r1⟩
  · exact k1.elim
theorem re_lst (h : RA cm X es g) : RE cm X (.List es pos) (mLst g) := fun W tk m S H σ en Q C hq => by
  refine wE_of (pe_lst pa_w) ?_
  refine h W tk m S H σ en _ C (PQ.bind hq fun l S1 xs m1 H1 e1 A1 R1 r1 k1 => ?_)
  split at k1
  · rename_i hl
    refine ⟨by rw [← Reps.length r1]; exact hl, fun p hp => ?_⟩
    refine PQ.grown k1 R1 (grow_upd hp) fun R2 => ?_
    simp only [Rep]
    exact ⟨p, xs, rfl, upd_same, R1.free_new hp, Reps.adv (Adv.new hp) _ _ r1⟩
  · exact k1.elim
theorem PQ.cell {cm : Ct} {σ : St} {W : WX} {m : Am} {S : So} {H : Hp} {p : Addr} {u : HO} {o : Ob} {Q : VK} (k : PQ (Rep cm) cm m S H σ W (.ok (.ref S.length) (S ++ [some o])) Q) (R : RelS cm m S H) (hp : H p = none)
    (ho : ∀ m' S' H', Adv m S H m' S' H' → H' p = some u → ObAt cm m' S' H' p o) : Q (.ref p) (upd H p u) :=
  k (.ref p) _ _ (new_adv hp) (new_cell R hp ho) (by simp [Rep, Am.put])
theorem re_lstN (h : RA cm X es g) : RE cm X (.List es pos) (mLstN g) := fun W tk m S H σ en Q C hq => by
  refine wE_of (pe_lst pa_w) ?_
  refine h W tk m S H σ en _ C (PQ.bind hq fun l S1 xs m1 H1 e1 A1 R1 r1 k1 => ?_)
  split at k1
  · rename_i hl
    refine ⟨by rw [← Reps.length r1]; exact hl, fun p hp => ?_⟩
    exact PQ.cell k1 R1 hp fun m' S' H' A e => ⟨xs, e, Reps.adv A _ _ r1⟩
  · exact k1.elim
end
end Mi


/-! Mi2: operators on deep data. -/
namespace Mi
open PySem PySem.Spec PyProof.Rows L2

/-! ### what may be read as a list, a sequence -/
def lstOf (d : D) (S : So) : Option (List D) := match d with
  | .lst l => some l
  | .ref n => match S[n]? with
    | some (some (.lst l)) => some l
    | _ => none
  | _ => none
def seqOf (d : D) (S : So) : Option (List D) := match d with
  | .lst l => some l
  | .tup l => some l
  | .scr ns => some (ns.map D.int)
  | .ref n => match S[n]? with
    | some (some (.lst l)) => some l
    | _ => none
  | _ => none
section
variable {cm : Ct} {m : Am} {S : So} {H : Hp} {d : D} {x : V} {l : List D}
theorem lst_at (R : RelS cm m S H) (r : Rep cm m S H d x) (h : lstOf d S = some l) : ∃ a vs, x = .ref a ∧ H a = some (.lst vs) ∧ Reps cm m S H l vs := by
  cases d with
  | lst k =>
    simp only [lstOf, Option.some.injEq] at h
    subst h
    simp only [Rep] at r
    obtain ⟨a, vs, e, h1, _, h3⟩ := r
    exact ⟨a, vs, e, h1, h3⟩
  | ref n =>
    simp only [lstOf] at h
    split at h
    · rename_i k e
      simp only [Option.some.injEq] at h
      subst h
      simp only [Rep] at r
      obtain ⟨vs, h1, h2⟩ := R.at_ n _ e
      exact ⟨m.p n, vs, r.2, h1, h2⟩
    · cases h
  | _ => simp [lstOf] at h
theorem reps_ints : ∀ (ns : List Int), Reps cm m S H (ns.map D.int) (ns.map V.int)
  | [] => Reps.nil
  | n :: ns => Reps.cons (by simp only [Rep]) (reps_ints ns)
theorem seq_at (R : RelS cm m S H) (r : Rep cm m S H d x) (h : seqOf d S = some l) : ∃ a vs, x = .ref a ∧ (SqL cm.K H a vs ∨ SqT cm.K H a vs) ∧ Reps cm m S H l vs := by
  cases d with
  | lst k =>
    simp only [seqOf, Option.some.injEq] at h
    subst h
    simp only [Rep] at r
    obtain ⟨a, vs, e, h1, _, h3⟩ := r
    exact ⟨a, vs, e, .inl (.inl (.inl h1)), h3⟩
  | tup k =>
    simp only [seqOf, Option.some.injEq] at h
    subst h
    simp only [Rep] at r
    obtain ⟨a, vs, e, h1, h3⟩ := r
    exact ⟨a, vs, e, .inr h1, h3⟩
  | scr ns =>
    simp only [seqOf, Option.some.injEq] at h
    subst h
    simp only [Rep] at r
    obtain ⟨a, e, h1⟩ := r
    exact ⟨a, _, e, .inl h1.l, reps_ints ns⟩
  | ref n =>
    simp only [seqOf] at h
    split at h
    · rename_i k e
      simp only [Option.some.injEq] at h
      subst h
      simp only [Rep] at r
      obtain ⟨vs, h1, h2⟩ := R.at_ n _ e
      exact ⟨m.p n, vs, r.2, .inl (.inl (.inl h1)), h2⟩
    · cases h
  | _ => simp [seqOf] at h
/-- a new list as a value, a new tuple -/
theorem POk.lst {p : Addr} {vs : List V} {Q : VK} (h : POk (Rep cm) cm m S H (some (.lst l, S)) Q) (R : RelS cm m S H) (hp : H p = none) (r : Reps cm m S H l vs) : Q (.ref p) (upd H p (.lst vs)) :=
  h.at (Adv.new hp) (R.grow (grow_upd hp)) (by
    simp only [Rep]
    exact ⟨p, vs, rfl, upd_same, R.free_new hp, Reps.adv (Adv.new hp) _ _ r⟩)
theorem POk.tup {p : Addr} {vs : List V} {Q : VK} (h : POk (Rep cm) cm m S H (some (.tup l, S)) Q) (R : RelS cm m S H) (hp : H p = none) (r : Reps cm m S H l vs) : Q (.ref p) (upd H p (.tup vs)) :=
  h.at (Adv.new hp) (R.grow (grow_upd hp)) (by
    simp only [Rep]
    exact ⟨p, vs, rfl, .inl (.inl upd_same), Reps.adv (Adv.new hp) _ _ r⟩)
theorem POk.int {i : Int} {Q : VK} (h : POk (Rep cm) cm m S H (some (.int i, S)) Q) (R : RelS cm m S H) : Q (.int i) H := h.now R (by simp only [Rep])
theorem POk.bl {i : Bool} {Q : VK} (h : POk (Rep cm) cm m S H (some (.bl i, S)) Q) (R : RelS cm m S H) : Q (.bl i) H := h.now R (by simp only [Rep])
theorem POk.str {i : Str} {Q : VK} (h : POk (Rep cm) cm m S H (some (.str i, S)) Q) (R : RelS cm m S H) : Q (.str i) H := h.now R (by simp only [Rep])
end

/-! ### arithmetic -/
def dAdd : Op2 := fun a b S => match a, b with
  | .int i, .int j => some (.int (i + j), S)
  | .str i, .str j => if i.length + j.length ≤ sizeLine then some (.str (i ++ j), S) else none
  | .tup l, .tup k => if l.length + k.length ≤ sizeLine then some (.tup (l ++ k), S) else none
  | a, b => match lstOf a S, lstOf b S with
    | some l, some k => if l.length + k.length ≤ sizeLine then some (.lst (l ++ k), S) else none
    | _, _ => none
def dSub : Op2 := fun a b S => match a, b with
  | .int i, .int j => some (.int (i - j), S)
  | _, _ => none
def small64i (i : Int) : Bool := decide (-(2 ^ 64) < i) && decide (i < 2 ^ 64)
def dMul : Op2 := fun a b S => match a, b with
  | .int i, .int j => if small64i i || small64i j then some (.int (i * j), S) else if i.natAbs.log2 + j.natAbs.log2 < 1000000 then some (.int (i * j), S) else none
  | .tup l, .int k => if l ≠ [] ∧ 2 ≤ k ∧ k ≤ 1000 ∧ l.length ≤ 1000 then some (.tup (List.replicate k.toNat l).flatten, S) else none
  | a, .int k => match lstOf a S with
    | some l => if 0 ≤ k ∧ k < 2 ^ 63 ∧ l.length * k.toNat ≤ sizeLine then some (.lst (List.replicate k.toNat l).flatten, S) else none
    | none => none
  | _, _ => none
def dDiv : Op2 := fun a b S => match a, b with
  | .int i, .int j => if 0 < j ∧ j.natAbs.log2 < 9000 then some (.int (i / j), S) else none
  | _, _ => none
def dMod : Op2 := fun a b S => match a, b with
  | .int i, .int j => if 0 < j then some (.int (i % j), S) else none
  | _, _ => none
def dPow : Op2 := fun a b S => match a, b with
  | .int i, .int j => if 0 ≤ j ∧ (Builtin.Int.intBits i : Int) * j ≤ 2 ^ 27 then some (.int (i ^ j.toNat), S) else none
  | _, _ => none
def dNeg : Op1 := fun a S => match a with
  | .int i => some (.int (-i), S)
  | _ => none
theorem Reps.rep {cm : Ct} {m : Am} {S : So} {H : Hp} {l : List D} {vs : List V} (h : Reps cm m S H l vs) : ∀ k : Nat, Reps cm m S H (List.replicate k l).flatten (List.replicate k vs).flatten
  | 0 => by simp [Reps]
  | k + 1 => by
    rw [List.replicate_succ, List.replicate_succ, List.flatten_cons, List.flatten_cons]
    exact h.append (Reps.rep h k)
section
variable {cm : Cm} {X : Cx}
theorem od_add : OpD cm X (binaryOp .Add) dAdd := fun m S H a b x y Q R ra rb h => by
  unfold dAdd at h
  split at h
  · simp only [Rep] at ra rb
    exact wO2_of op_add ⟨_, _, ra, rb, h.int R⟩
  · simp only [Rep] at ra rb
    split at h
    · rename_i hl
      exact wO2_of op_add_str ⟨_, _, ra, rb, hl, h.str R⟩
    · exact h.no.elim
  · rename_i l k
    simp only [Rep] at ra rb
    split at h
    · rename_i hl
      obtain ⟨p, xs, rfl, hx, rx⟩ := ra
      obtain ⟨q, ys, rfl, hy, ry⟩ := rb
      refine wO2_of op_catA ⟨p, q, xs, ys, rfl, rfl, hx, hy, by rw [← rx.length, ← ry.length]; exact hl, fun e => ?_, fun _ e => ?_, fun _ _ z hz => ?_⟩
      · subst e
        have e : l = [] := List.eq_nil_of_length_eq_zero rx.length
        subst e
        exact h.now R (by simp only [Rep]; exact ⟨q, ys, rfl, hy, ry⟩)
      · subst e
        have e : k = [] := List.eq_nil_of_length_eq_zero ry.length
        subst e
        exact h.now R (by simp only [Rep, List.append_nil]; exact ⟨p, xs, rfl, hx, rx⟩)
      · exact h.tup R hz (rx.append ry)
    · exact h.no.elim
  · split at h
    · rename_i l k e1 e2
      split at h
      · rename_i hl
        obtain ⟨p, xs, rfl, hx, rx⟩ := lst_at R ra e1
        obtain ⟨q, ys, rfl, hy, ry⟩ := lst_at R rb e2
        exact wO2_of op_cat ⟨p, q, xs, ys, rfl, rfl, hx, hy, by rw [← rx.length, ← ry.length]; exact hl, fun z hz => h.lst R hz (rx.append ry)⟩
      · exact h.no.elim
    · exact h.no.elim
theorem od_sub : OpD cm X (binaryOp .Sub) dSub := fun m S H a b x y Q R ra rb h => by
  unfold dSub at h
  split at h
  · simp only [Rep] at ra rb
    exact wO2_of op_sub ⟨_, _, ra, rb, h.int R⟩
  · exact h.no.elim
theorem od_mul : OpD cm X (binaryOp .Mult) dMul := fun m S H a b x y Q R ra rb h => by
  unfold dMul at h
  split at h
  · simp only [Rep] at ra rb
    split at h
    · rename_i hc
      refine wO2_of op_mul ⟨_, _, ra, rb, ?_, h.int R⟩
      unfold small64i at hc
      simp only [Bool.or_eq_true, Bool.and_eq_true, decide_eq_true_eq] at hc
      exact hc
    · split at h
      · rename_i hc
        exact wO2_of op_mulW ⟨_, _, ra, rb, hc, h.int R⟩
      · exact h.no.elim
  · rename_i l k
    split at h
    · rename_i hc
      simp only [Rep] at ra rb
      obtain ⟨p, xs, rfl, hx, rx⟩ := ra
      have e := rx.length
      exact wO2_of (op_repT) ⟨p, k, xs, rfl, rb, hx, fun z => hc.1 (List.eq_nil_of_length_eq_zero (by rw [e, z]; rfl)), hc.2.1, hc.2.2.1, by rw [← e]; exact hc.2.2.2, fun z hz => h.tup R hz (rx.rep _)⟩
    · exact h.no.elim
  · rename_i k _ _
    split at h
    · rename_i l e1
      split at h
      · rename_i hc
        obtain ⟨p, xs, rfl, hx, rx⟩ := lst_at R ra e1
        simp only [Rep] at rb
        exact wO2_of op_rep ⟨p, k, xs, rfl, rb, hx, by have := hc.1; omega, hc.2.1, by rw [← rx.length]; exact hc.2.2, fun z hz => h.lst R hz (rx.rep _)⟩
      · exact h.no.elim
    · exact h.no.elim
  · exact h.no.elim
theorem od_div : OpD cm X (binaryOp .FloorDiv) dDiv := fun m S H a b x y Q R ra rb h => by
  unfold dDiv at h
  split at h
  · split at h
    · rename_i hc
      simp only [Rep] at ra rb
      exact wO2_of op_fdivW ⟨_, _, ra, rb, hc, h.int R⟩
    · exact h.no.elim
  · exact h.no.elim
theorem od_mod : OpD cm X (binaryOp .Mod) dMod := fun m S H a b x y Q R ra rb h => by
  unfold dMod at h
  split at h
  · split at h
    · rename_i hc
      simp only [Rep] at ra rb
      exact wO2_of op_mod ⟨_, _, ra, rb, hc, h.int R⟩
    · exact h.no.elim
  · exact h.no.elim
theorem op_powG : OpR X (binaryOp .Pow) (rI (fun i j => 0 ≤ j ∧ (Builtin.Int.intBits i : Int) * j ≤ 2 ^ 27) fun i j => .int (i ^ j.toNat)) := opI fun _ _ _ _ _ _ _ hc q => PyProof.Rows.pow_int hc.1 hc.2 q
theorem od_pow : OpD cm X (binaryOp .Pow) dPow := fun m S H a b x y Q R ra rb h => by
  unfold dPow at h
  split at h
  · split at h
    · rename_i hc
      simp only [Rep] at ra rb
      exact wO2_of op_powG ⟨_, _, ra, rb, hc, h.int R⟩
    · exact h.no.elim
  · exact h.no.elim
theorem ud_neg : UnD cm X (unaryOp .USub) dNeg := fun m S H a x Q R ra h => by
  unfold dNeg at h
  split at h
  · simp only [Rep] at ra
    exact wO1_of un_neg ⟨_, ra, h.int R⟩
  · exact h.no.elim
end

/-! ### order -/
def dCmp (pi : Int → Int → Bool) (ps : Str → Str → Bool) : Op2 := fun a b S => match a, b with
  | .int i, .int j => some (.bl (pi i j), S)
  | .str i, .str j => some (.bl (ps i j), S)
  | _, _ => none
def sLt (i j : Str) : Bool := decide (i.cps.toList < j.cps.toList)
def sLe (i j : Str) : Bool := !decide (j.cps.toList < i.cps.toList)
def dLt : Op2 := dCmp (fun i j => decide (i < j)) sLt
def dLe : Op2 := dCmp (fun i j => decide (i ≤ j)) sLe
def dGt : Op2 := dCmp (fun i j => decide (j < i)) fun i j => sLt j i
def dGe : Op2 := dCmp (fun i j => decide (j ≤ i)) fun i j => sLe j i
section
variable {cm : Cm} {X : Cx}
theorem od_cmp {f : Value → Value → Sem Value} {pi : Int → Int → Bool} {ps : Str → Str → Bool} (h1 : OpR X f (rI0 fun i j => .bl (pi i j))) (h2 : OpR X f (fun x y H Q => ∃ i j, x = .str i ∧ y = .str j ∧ Q (.bl (ps i j)) H)) : OpD cm X f (dCmp pi ps) := fun m S H a b x y Q R ra rb h => by
  unfold dCmp at h
  split at h
  · simp only [Rep] at ra rb
    exact wO2_of h1 ⟨_, _, ra, rb, h.bl R⟩
  · simp only [Rep] at ra rb
    exact wO2_of h2 ⟨_, _, ra, rb, h.bl R⟩
  · exact h.no.elim
theorem od_lt : OpD cm X (compareOp .Lt) dLt := od_cmp op_lt op_lt_str
theorem od_le : OpD cm X (compareOp .LtE) dLe := od_cmp op_le op_le_str
theorem od_gt : OpD cm X (compareOp .Gt) dGt := od_cmp op_gt op_gt_str
theorem od_ge : OpD cm X (compareOp .GtE) dGe := od_cmp op_ge op_ge_str
end

/-! ### equality of data -/
mutual
/-- as the library's data; none: not such -/
def toP : D → Option PyData
  | .non => some .none
  | .bl b => some (.bool b)
  | .int i => some (.int i)
  | .str s => some (.str s)
  | .tup l => match toPs l with
    | some ps => some (.tuple ps)
    | none => none
  | .lst l => match toPs l with
    | some ps => some (.list ps)
    | none => none
  | _ => none
def toPs : List D → Option (List PyData)
  | [] => some []
  | d :: l => match toP d, toPs l with
    | some p, some ps => some (p :: ps)
    | _, _ => none
end
/-- one with cells at its top -/
def toPt (d : D) (S : So) : Option PyData := match d with
  | .ref n => match S[n]? with
    | some (some (.lst l)) => match toPs l with
      | some ps => some (.list ps)
      | none => none
    | _ => none
  | d => toP d
section
variable {cm : Ct} {m : Am} {S : So} {H : Hp}
mutual
theorem toP_dp : ∀ (d : D) (v : V) (p : PyData), Rep cm m S H d v → toP d = some p → Dp cm.K H v p
  | .non, v, p, h, e => by
    simp only [Rep] at h; subst h
    simp only [toP, Option.some.injEq] at e; subst e
    exact .non
  | .bl b, v, p, h, e => by
    simp only [Rep] at h; subst h
    simp only [toP, Option.some.injEq] at e; subst e
    exact .bl b
  | .int b, v, p, h, e => by
    simp only [Rep] at h; subst h
    simp only [toP, Option.some.injEq] at e; subst e
    exact .int b
  | .str b, v, p, h, e => by
    simp only [Rep] at h; subst h
    simp only [toP, Option.some.injEq] at e; subst e
    exact .str b
  | .tup l, v, p, h, e => by
    simp only [Rep] at h
    obtain ⟨a, vs, rfl, h1, h2⟩ := h
    simp only [toP] at e
    split at e
    · rename_i ps eq
      simp only [Option.some.injEq] at e; subst e
      exact .tup h1 (toPs_dp l vs ps h2 eq)
    · cases e
  | .lst l, v, p, h, e => by
    simp only [Rep] at h
    obtain ⟨a, vs, rfl, h1, _, h2⟩ := h
    simp only [toP] at e
    split at e
    · rename_i ps eq
      simp only [Option.some.injEq] at e; subst e
      exact .lst (.inl (.inl h1)) (toPs_dp l vs ps h2 eq)
    · cases e
  | .dct _ _, _, _, _, e => by simp [toP] at e
  | .ins _ _ _, _, _, _, e => by simp [toP] at e
  | .ref _, _, _, _, e => by simp [toP] at e
  | .scr _, _, _, _, e => by simp [toP] at e
  | .exc _ _ _, _, _, _, e => by simp [toP] at e
theorem toPs_dp : ∀ (l : List D) (vs : List V) (ps : List PyData), Reps cm m S H l vs → toPs l = some ps → DpAll cm.K H vs ps
  | [], vs, ps, h, e => by
    simp only [Reps] at h; subst h
    simp only [toPs, Option.some.injEq] at e; subst e
    exact .nil
  | d :: l, vs, ps, h, e => by
    simp only [Reps] at h
    obtain ⟨v, r, rfl, h1, h2⟩ := h
    simp only [toPs] at e
    split at e
    · rename_i p qs e1 e2
      simp only [Option.some.injEq] at e; subst e
      exact .cons (toP_dp d v p h1 e1) (toPs_dp l r qs h2 e2)
    · cases e
end
theorem toPt_dp {d : D} {v : V} {p : PyData} (R : RelS cm m S H) (h : Rep cm m S H d v) (e : toPt d S = some p) : Dp cm.K H v p := by
  unfold toPt at e
  split at e
  · split at e
    · rename_i n l e1
      split at e
      · rename_i ps eq
        simp only [Option.some.injEq] at e; subst e
        simp only [Rep] at h
        obtain ⟨vs, h1, h2⟩ := R.at_ _ _ e1
        rw [h.2]
        exact .lst (.inl (.inl h1)) (toPs_dp l vs ps h2 eq)
      · cases e
    · cases e
  · exact toP_dp d v p h e
end
def dEqP (a b : D) (S : So) : Option Bool := match toPt a S, toPt b S with
  | some p, some q => if SeqAt.shaped p && SeqAt.shaped q then some (PyData.eqv p q) else none
  | _, _ => none
def dEq : Op2 := fun a b S => match dEqP a b S with
  | some k => some (.bl k, S)
  | none => none
def dNe : Op2 := fun a b S => match dEqP a b S with
  | some k => some (.bl (!k), S)
  | none => none
section
variable {cm : Cm} {X : Cx}
theorem eqP_run {m : Am} {S : So} {H : Hp} {a b : D} {x y : V} {k : Bool} (R : RelS (ct X cm) m S H) (ra : Rep (ct X cm) m S H a x) (rb : Rep (ct X cm) m S H b y) (e : dEqP a b S = some k) :
    ∃ d e, Dp X.K H x d ∧ Dp X.K H y e ∧ SeqAt.shaped d = true ∧ SeqAt.shaped e = true ∧ PyData.eqv d e = k := by
  unfold dEqP at e
  split at e
  · rename_i p q e1 e2
    split at e
    · rename_i hc
      simp only [Bool.and_eq_true] at hc
      exact ⟨p, q, toPt_dp (cm := ct X cm) R ra e1, toPt_dp (cm := ct X cm) R rb e2, hc.1, hc.2, Option.some.inj e⟩
    · cases e
  · cases e
theorem od_eq (hu : X.A.units + 64 < cLine) : OpD cm X (compareOp .Eq) dEq := fun m S H a b x y Q R ra rb h => by
  unfold dEq at h
  split at h
  · rename_i k e
    obtain ⟨d, e', h1, h2, h3, h4, h5⟩ := eqP_run R ra rb e
    refine wO2_of (op_eqD hu) ⟨d, e', h1, h2, h3, h4, ?_⟩
    rw [h5]
    exact h.bl R
  · exact h.no.elim
theorem od_ne (hu : X.A.units + 64 < cLine) : OpD cm X (compareOp .NotEq) dNe := fun m S H a b x y Q R ra rb h => by
  unfold dNe at h
  split at h
  · rename_i k e
    obtain ⟨d, e', h1, h2, h3, h4, h5⟩ := eqP_run R ra rb e
    refine wO2_of (op_neD hu) ⟨d, e', h1, h2, h3, h4, ?_⟩
    rw [h5]
    exact h.bl R
  · exact h.no.elim
end

/-! ### is None -/
def isNon (d : D) : Bool := match d with
  | .non => true
  | _ => false
def dIsN : Op2 := fun a b S => match b with
  | .non => some (.bl (isNon a), S)
  | _ => none
def dNotN : Op2 := fun a b S => match b with
  | .non => some (.bl (!isNon a), S)
  | _ => none
theorem isNon_v {cm : Ct} {m : Am} {S : So} {H : Hp} {a : D} {x : V} (r : Rep cm m S H a x) : decide (x = .non) = isNon a := by
  cases a with
  | non => simp only [Rep] at r; subst r; rfl
  | bl _ => simp only [Rep] at r; subst r; rfl
  | int _ => simp only [Rep] at r; subst r; rfl
  | str _ => simp only [Rep] at r; subst r; rfl
  | tup _ => simp only [Rep] at r; obtain ⟨a, vs, rfl, _⟩ := r; rfl
  | lst _ => simp only [Rep] at r; obtain ⟨a, vs, rfl, _⟩ := r; rfl
  | dct _ _ => simp only [Rep] at r; obtain ⟨a, vs, rfl, _⟩ := r; rfl
  | ins _ _ _ => simp only [Rep] at r; obtain ⟨a, C, dx, fs, rfl, _⟩ := r; rfl
  | ref _ => simp only [Rep] at r; obtain ⟨_, rfl⟩ := r; rfl
  | scr _ => simp only [Rep] at r; obtain ⟨a, rfl, _⟩ := r; rfl
  | exc _ _ _ => simp only [Rep] at r; obtain ⟨a, C, rfl, _⟩ := r; rfl
section
variable {cm : Cm} {X : Cx}
theorem od_isN : OpD cm X (compareOp .Is) dIsN := fun m S H a b x y Q R ra rb h => by
  unfold dIsN at h
  split at h
  · simp only [Rep] at rb
    refine wO2_of op_isN ⟨rb, ?_⟩
    rw [isNon_v ra]
    exact h.bl R
  · exact h.no.elim
theorem od_notN : OpD cm X (compareOp .IsNot) dNotN := fun m S H a b x y Q R ra rb h => by
  unfold dNotN at h
  split at h
  · simp only [Rep] at rb
    refine wO2_of op_notN ⟨rb, ?_⟩
    rw [isNon_v ra]
    exact h.bl R
  · exact h.no.elim
end

/-! ### chains: a < b < c -/
def mChain (g g' : Op2) (fa fb fc : E D) : E D := fun en S => (fa en S).bind fun a S1 => (fb en S1).bind fun b S2 => match g a b S2 with
  | some (.bl true, S3) => (fc en S3).bind fun c S4 => R.of (g' b c S4)
  | some (.bl false, S3) => .ok (.bl false) S3
  | _ => .bad
section
variable {cm : Cm} {X : Cx} {a b c : Expr} {fa fb fc : E D} {pos : Pos}
theorem chain_run {op op' : CmpOp} {g g' : Op2} (ho : OpD cm X (compareOp op) g) (ho' : OpD cm X (compareOp op') g') (ha : RE cm X a fa) (hb : RE cm X b fb) (hc : RE cm X c fc)
    {W : WX} (tk : Takes X W) {m : Am} {S : So} {H : Hp} {σ : St} {en : En} {Q : VK} (C : Cond (ct X cm) m S H σ en) (h : PQ (Rep (ct X cm)) (ct X cm) m S H σ W (mChain g g' fa fb fc en S) Q) :
    tChain (wO2 X (compareOp op)) (wO2 X (compareOp op')) (wE X a) (wE X b) (wE X c) σ H Q := by
  refine ha W tk m S H σ en _ C (PQ.bind h fun da S1 x m1 H1 e1 A1 R1 r1 k1 => ?_)
  refine hb W tk m1 S1 H1 σ en _ (C.adv A1 R1) (PQ.bind k1 fun db S2 y m2 H2 e2 A2 R2 r2 k2 => ?_)
  split at k2
  · rename_i S3 e3
    refine ho m2 S2 H2 da db x y _ R2 (Rep.adv A2 _ _ r1) r2 ?_
    rw [e3]
    intro σ' W' z m3 H3 A3 R3 r3
    simp only [Rep] at r3
    refine ⟨true, r3, ?_⟩
    rw [if_pos rfl]
    have k3 := PQ.after A3 k2
    refine hc W tk m3 S3 H3 σ en _ (((C.adv A1 R1).adv A2 R2).adv A3 R3) (PQ.bind k3 fun dc S4 w m4 H4 e4 A4 R4 r4 k4 => ?_)
    exact ho' m4 S4 H4 db dc y w Q R4 (Rep.adv (A3.trans A4) _ _ r2) r4 k4.pok
  · rename_i S3 e3
    refine ho m2 S2 H2 da db x y _ R2 (Rep.adv A2 _ _ r1) r2 ?_
    rw [e3]
    intro σ' W' z m3 H3 A3 R3 r3
    simp only [Rep] at r3
    refine ⟨false, r3, ?_⟩
    rw [if_neg Bool.false_ne_true]
    exact k2 _ m3 H3 A3 R3 (by simp only [Rep])
  · exact k2.elim
theorem re_chain {op op' : CmpOp} {g g' : Op2} (ho : OpD cm X (compareOp op) g) (ho' : OpD cm X (compareOp op') g') (ha : RE cm X a fa) (hb : RE cm X b fb) (hc : RE cm X c fc)
    (hm : lastMarks [op, op'] [b, c] = false := by with_unfolding_all rfl) : RE cm X (.Compare a [op, op'] [b, c] pos) (mChain g g' fa fb fc) := fun W tk m S H σ en Q C h =>
  wE_of (pe_chain op_w op_w pe_w pe_w pe_w hm) (chain_run ho ho' ha hb hc tk C h)
theorem rt_chain {op op' : CmpOp} {g g' : Op2} (ho : OpD cm X (compareOp op) g) (ho' : OpD cm X (compareOp op') g') (ha : RE cm X a fa) (hb : RE cm X b fb) (hc : RE cm X c fc)
    (hm : lastMarks [op, op'] [b, c] = false := by with_unfolding_all rfl) : RT cm X (.Compare a [op, op'] [b, c] pos) (tB' (mChain g g' fa fb fc)) := fun W tk m S H σ en Q C h => by
  refine wT_of (pt_chain op_w op_w pe_w pe_w pe_w hm) (chain_run ho ho' ha hb hc tk C (PQ.bind h fun da S1 x m1 H1 e1 A1 R1 r1 h1 => ?_))
  unfold asB at h1
  split at h1
  · simp only [Rep] at r1
    exact ⟨_, r1, PQ.now h1 R1 rfl⟩
  · exact h1.elim
end
end Mi


/-! Mi3: subscripts, slices, membership, built-in calls. -/
namespace Mi
open PySem PySem.Spec PyProof.Rows L2

/-! ### dicts -/
def keyOf (d : D) : Option Key := match d with
  | .int i => some (.inl i)
  | .str s => some (.inr s)
  | _ => none
def dctOf (d : D) (S : So) : Option (List Key × List D) := match d with
  | .dct ks l => some (ks, l)
  | .ref n => match S[n]? with
    | some (some (.dct ks l)) => some (ks, l)
    | _ => none
  | _ => none
def lookK : List Key → List D → Key → Option D
  | k :: ks, d :: l, x => if k = x then some d else lookK ks l x
  | _, _, _ => none
section
variable {cm : Ct} {m : Am} {S : So} {H : Hp} {d : D} {x : V}
theorem key_v {k : Key} (r : Rep cm m S H d x) (h : keyOf d = some k) : x = kV k := by
  cases d with
  | int i => simp only [Rep] at r; simp only [keyOf, Option.some.injEq] at h; subst h; exact r
  | str i => simp only [Rep] at r; simp only [keyOf, Option.some.injEq] at h; subst h; exact r
  | _ => simp [keyOf] at h
theorem dct_at {ks : List Key} {l : List D} (R : RelS cm m S H) (r : Rep cm m S H d x) (h : dctOf d S = some (ks, l)) : ∃ a kvs, x = .ref a ∧ Rd H a (.dK kvs) ∧ kvs.map (·.1) = ks ∧ Reps cm m S H l (kvs.map (·.2)) := by
  cases d with
  | dct ks' l' =>
    simp only [dctOf, Option.some.injEq, Prod.mk.injEq] at h
    obtain ⟨rfl, rfl⟩ := h
    simp only [Rep] at r
    obtain ⟨a, kvs, e, h1, _, h3, h4⟩ := r
    exact ⟨a, kvs, e, h1, h3, h4⟩
  | ref n =>
    simp only [dctOf] at h
    split at h
    · rename_i ks' l' e
      simp only [Option.some.injEq, Prod.mk.injEq] at h
      obtain ⟨rfl, rfl⟩ := h
      simp only [Rep] at r
      obtain ⟨kvs, h1, h2, h3⟩ := R.at_ n _ e
      exact ⟨m.p n, kvs, r.2, .inl h1, h2, h3⟩
    · cases h
  | _ => simp [dctOf] at h
theorem look_v : ∀ {kvs : List (Key × V)} {ks : List Key} {l : List D} {k : Key}, kvs.map (·.1) = ks → Reps cm m S H l (kvs.map (·.2)) →
    (lookK ks l k = none ∧ valV kvs k = none) ∨ ∃ d v, lookK ks l k = some d ∧ valV kvs k = some v ∧ Rep cm m S H d v
  | [], ks, l, k, e, h => by
    simp only [List.map_nil] at e
    subst e
    exact .inl ⟨by unfold lookK; rfl, rfl⟩
  | p :: kvs, ks, l, k, e, h => by
    simp only [List.map_cons] at e h
    subst e
    cases l with
    | nil => simp [Reps] at h
    | cons d l =>
      simp only [Reps, List.cons.injEq] at h
      obtain ⟨v, r, ⟨e1, e2⟩, h1, h2⟩ := h
      subst e1 e2
      by_cases c : p.1 = k
      · refine .inr ⟨d, p.2, ?_, valV_pos c, h1⟩
        unfold lookK
        rw [if_pos c]
      · have q := look_v (kvs := kvs) (k := k) rfl h2
        rw [valV_neg c]
        unfold lookK
        rw [if_neg c]
        exact q
end

/-! ### a[b] -/
def dIx : Op2 := fun a b S => match dctOf a S with
  | some (ks, l) => match keyOf b with
    | some k => (lookK ks l k).map fun d => (d, S)
    | none => none
  | none => match b with
    | .int i => match a with
      | .str z => if z.length ≤ sizeLine then (atI z.cps.toList i).map fun c => (.str ⟨#[c]⟩, S) else none
      | a => match seqOf a S with
        | some l => (atI l i).map fun d => (d, S)
        | none => none
    | _ => none
def wIx (X : Cx) : R2 := fun x y H Q => ∀ value slice pins s σ v u, Inv X pins σ H s → RelV x v → RelV y u → subscripted slice false v u = operate [v, u] (getItem v u) → wpAny (model X.prog X.w) X.A (subscriptTail value slice v u) (EP X pins σ Q) X.xe s
theorem ix_w {X : Cx} : IxR X (wIx X) := fun value slice pins s σ H x y v u Q I rx ry h hs => h value slice pins s σ v u I rx ry hs
theorem wIx_of {X : Cx} {r : R2} {x y : V} {H : Hp} {Q : VK} (h : IxR X r) (q : r x y H Q) : wIx X x y H Q := fun value slice pins s σ v u I rx ry hs => h value slice pins s σ H x y v u Q I rx ry q hs
theorem ix_dict {X : Cx} (hu : X.A.units + 1 < cLine) : IxR X (fun x y H Q => ∃ a v, x = .ref a ∧ DGet H a y (some v) ∧ Q v H) := by
  intro value slice pins s σ H x y v u Q I rx ry h hs
  obtain ⟨a, w', rfl, g, q⟩ := h
  cases rx
  exact tail_any (dict_typeIs I g) slot_dict_getitem.lookup (d_getItem hu I g ry fun w2 s3 I3 rw' => ⟨w', H, I3, rw', q⟩) hs
theorem atI_rep {cm : Ct} {m : Am} {S : So} {H : Hp} {l : List D} {vs : List V} {i : Int} {d : D} (r : Reps cm m S H l vs) (h : atI l i = some d) : ∃ v, atI vs i = some v ∧ Rep cm m S H d v := by
  unfold atI at h ⊢
  rw [← r.length]
  cases e : ixN l.length i with
  | none => rw [e] at h; cases h
  | some j =>
    rw [e] at h
    exact r.get h
section
variable {cm : Cm} {X : Cx} {a b : Expr} {fa fb : E D} {pos : Pos}
theorem od_ix (hu : X.A.units + 1 < cLine) : ∀ m S H a b x y Q, RelS (ct X cm) m S H → Rep (ct X cm) m S H a x → Rep (ct X cm) m S H b y → POk (Rep (ct X cm)) (ct X cm) m S H (dIx a b S) Q → wIx X x y H Q := fun m S H a b x y Q R ra rb h => by
  unfold dIx at h
  split at h
  · rename_i ks l e
    split at h
    · rename_i k ek
      obtain ⟨p, kvs, rfl, h1, h2, h3⟩ := dct_at R ra e
      have ey := key_v rb ek
      subst ey
      rcases look_v (k := k) h2 h3 with ⟨z, _⟩ | ⟨d, v, e1, e2, rd⟩
      · rw [z] at h
        exact h.no.elim
      · rw [e1] at h
        exact wIx_of (ix_dict hu) ⟨p, v, rfl, .inl ⟨kvs, k, h1, rfl, e2.symm⟩, h.now R rd⟩
    · exact h.no.elim
  · split at h
    · rename_i i
      simp only [Rep] at rb
      split at h
      · simp only [Rep] at ra
        split at h
        · rename_i z _ hz
          cases e : atI z.cps.toList i with
          | none => rw [e] at h; exact h.no.elim
          | some c =>
            rw [e] at h
            exact wIx_of ix_str ⟨z, i, c, ra, rb, hz, e, h.str R⟩
        · exact h.no.elim
      · split at h
        · rename_i l el
          cases e : atI l i with
          | none => rw [e] at h; exact h.no.elim
          | some d =>
            rw [e] at h
            obtain ⟨p, vs, rfl, h1, h2⟩ := seq_at R ra el
            obtain ⟨v, e2, rd⟩ := atI_rep h2 e
            rcases h1 with h1 | h1
            · exact wIx_of ix_list ⟨p, vs, i, v, rfl, rb, h1, e2, h.now R rd⟩
            · exact wIx_of ix_tup ⟨p, vs, i, v, rfl, rb, h1, e2, h.now R rd⟩
        · exact h.no.elim
    · exact h.no.elim
theorem re_ix (hu : X.A.units + 1 < cLine) (ha : RE cm X a fa) (hb : RE cm X b fb) (hs : PlainIx b) : RE cm X (.Subscript a b pos) (m2 dIx fa fb) := fun W tk m S H σ en Q C h => by
  refine wE_of (pe_ix ix_w pe_w pe_w hs) ?_
  refine ha W tk m S H σ en _ C (PQ.bind h fun da S1 x m1 H1 e1 A1 R1 r1 h1 => ?_)
  refine hb W tk m1 S1 H1 σ en _ (C.adv A1 R1) (PQ.bind h1 fun db S2 y m2 H2 e2 A2 R2 r2 h2 => ?_)
  exact od_ix hu m2 S2 H2 da db x y Q R2 (Rep.adv A2 _ _ r1) r2 h2.pok
end

/-! ### a[lo:hi] -/
def cutD (l : List D) (lo hi : Option Int) : List D := (l.drop (HT.sIx l.length 0 lo)).take (HT.sIx l.length l.length hi - HT.sIx l.length 0 lo)
abbrev OpS := D → Option Int → Option Int → So → Option (D × So)
def dSl : OpS := fun a lo hi S => match a with
  | .str z => if z.length ≤ sizeLine then some (.str (cutS z lo hi), S) else none
  | .tup l => some (.tup (cutD l lo hi), S)
  | a => match lstOf a S with
    | some l => some (.lst (cutD l lo hi), S)
    | none => none
/-- the list's slice as a cell -/
def dSlN : OpS := fun a lo hi S => match lstOf a S with
  | some l => some (.ref S.length, S ++ [some (.lst (cutD l lo hi))])
  | none => none
def pNo : E (Option Int) := fun _ S => .ok none S
def pSo (f : E D) : E (Option Int) := fun en S => (f en S).bind fun d S1 => match d with
  | .int i => .ok (some i) S1
  | _ => .bad
def mSl (g : OpS) (fa : E D) (fl fh : E (Option Int)) : E D := fun en S => (fa en S).bind fun a S1 => (fl en S1).bind fun lo S2 => (fh en S2).bind fun hi S3 => R.of (g a lo hi S3)
def wO (X : Cx) (e : Option Expr) : TO := fun σ H Q => ∀ pins s, Inv X pins σ H s → wpAny (model X.prog X.w) X.A (evalPart e X.env) (fun u s' => ∃ o H', Inv X pins σ H' s' ∧ IsPart u o ∧ Q o H') X.xe s
theorem po_w {X : Cx} {e : Option Expr} : PO X e (wO X e) := ⟨fun pins s σ H Q I h => h pins s I⟩
theorem wO_of {X : Cx} {e : Option Expr} {t : TO} {σ : St} {H : Hp} {Q : Option Int → Hp → Prop} (h : PO X e t) (q : t σ H Q) : wO X e σ H Q := fun pins s I => h.run pins s σ H Q I q
def RO (cm : Cm) (X : Cx) (e : Option Expr) (f : E (Option Int)) : Prop := ∀ W, Takes X W → ∀ m S H σ en Q, Cond (ct X cm) m S H σ en → PQ rO (ct X cm) m S H σ W (f en S) Q → wO X e σ H Q
def wSl (X : Cx) : V → Option Int → Option Int → Hp → VK → Prop := fun x lo hi H Q => ∀ (pins : List (Addr × Obj)) (s : Shared) (σ : St) (v vl vu : Value) (sl : Addr), Inv X pins σ H s → RelV x v → s.heap.IsSliceOf sl vl vu .none → IsPart vl lo → IsPart vu hi →
    ∃ T id, typeLookup (.type T) "__getitem__" = pure (some (.builtin id)) ∧ s.TypeIs v T ∧ wpAny (model X.prog X.w) X.A (getItem v (.ref sl)) (EP X pins σ Q) X.xe s
theorem sl_w {X : Cx} : SlR X (wSl X) := fun pins s σ H x v vl vu lo hi sl Q I rx hs pl pu h => h pins s σ v vl vu sl I rx hs pl pu
theorem wSl_of {X : Cx} {r : V → Option Int → Option Int → Hp → VK → Prop} {x : V} {lo hi : Option Int} {H : Hp} {Q : VK} (h : SlR X r) (q : r x lo hi H Q) : wSl X x lo hi H Q := fun pins s σ v vl vu sl I rx hs pl pu => h pins s σ H x v vl vu lo hi sl Q I rx hs pl pu q
def SlD (cm : Cm) (X : Cx) (g : OpS) : Prop := ∀ m S H a x lo hi Q, RelS (ct X cm) m S H → Rep (ct X cm) m S H a x → POk (Rep (ct X cm)) (ct X cm) m S H (g a lo hi S) Q → wSl X x lo hi H Q
theorem cutD_rep {cm : Ct} {m : Am} {S : So} {H : Hp} {l : List D} {vs : List V} {lo hi : Option Int} (r : Reps cm m S H l vs) : Reps cm m S H (cutD l lo hi) (cutV vs lo hi) := by
  unfold cutD cutV
  rw [← r.length]
  exact (r.drop _).take _
section
variable {cm : Cm} {X : Cx} {a : Expr} {lo hi : Option Expr} {fa : E D} {fl fh : E (Option Int)} {pos p2 : Pos}
theorem ro_none : RO cm X none pNo := fun W tk m S H σ en Q C h => wO_of po_none (PQ.now h C.rel rfl)
theorem ro_some (ha : RE cm X a fa) : RO cm X (some a) (pSo fa) := fun W tk m S H σ en Q C h => by
  refine wO_of (po_some pe_w) ?_
  refine ha W tk m S H σ en _ C (PQ.bind h fun d S1 x m1 H1 e1 A1 R1 r1 h1 => ?_)
  split at h1
  · simp only [Rep] at r1
    exact ⟨_, r1, PQ.now h1 R1 rfl⟩
  · exact h1.elim
theorem re_sl {g : OpS} (hg : SlD cm X g) (ha : RE cm X a fa) (hl : RO cm X lo fl) (hh : RO cm X hi fh) : RE cm X (.Subscript a (.Slice lo hi none p2) pos) (mSl g fa fl fh) := fun W tk m S H σ en Q C h => by
  refine wE_of (pe_slice sl_w pe_w po_w po_w) ?_
  refine ha W tk m S H σ en _ C (PQ.bind h fun d S1 x m1 H1 e1 A1 R1 r1 h1 => ?_)
  refine hl W tk m1 S1 H1 σ en _ (C.adv A1 R1) (PQ.bind h1 fun l S2 l' m2 H2 e2 A2 R2 r2 h2 => ?_)
  obtain rfl : l = l' := r2
  refine hh W tk m2 S2 H2 σ en _ ((C.adv A1 R1).adv A2 R2) (PQ.bind h2 fun u S3 u' m3 H3 e3 A3 R3 r3 h3 => ?_)
  obtain rfl : u = u' := r3
  exact hg m3 S3 H3 d x l u Q R3 (Rep.adv (A2.trans A3) _ _ r1) h3.pok
theorem sd_sl : SlD cm X dSl := fun m S H a x lo hi Q R ra h => by
  unfold dSl at h
  split at h
  · simp only [Rep] at ra
    split at h
    · rename_i z hz
      exact wSl_of sl_str ⟨z, ra, hz, h.str R⟩
    · exact h.no.elim
  · rename_i l
    simp only [Rep] at ra
    obtain ⟨p, vs, rfl, h1, h2⟩ := ra
    refine wSl_of sl_tupA ⟨p, vs, rfl, h1, fun hw => ?_, fun _ z hz => h.tup R hz (cutD_rep h2)⟩
    refine h.now R ?_
    have e : cutD l lo hi = l := by
      unfold cutD
      rw [h2.length, hw.1, hw.2]
      simp [← h2.length]
    rw [e]
    simp only [Rep]
    exact ⟨p, vs, rfl, h1, h2⟩
  · split at h
    · rename_i l e
      obtain ⟨p, vs, rfl, h1, h2⟩ := lst_at R ra e
      exact wSl_of sl_list ⟨p, vs, rfl, .inl (.inl h1), fun z hz => h.lst R hz (cutD_rep h2)⟩
    · exact h.no.elim
end

/-! ### membership -/
def strIn (y z : Str) : Bool := !(Builtin.Str.occurrences z y 0 z.length 1).isEmpty
def dInB (a b : D) (S : So) : Option Bool := match b with
  | .str z => match a with
    | .str y => some (strIn y z)
    | _ => none
  | b => match dctOf b S with
    | some (ks, _) => match keyOf a with
      | some k => some (ks.any fun j => decide (j = k))
      | none => none
    | none => match toPt b S, toPt a S with
      | some (.list ps), some p => if SeqAt.shaped p && SeqAt.shaped (.list ps) then some (ps.any fun q => PyData.eqv q p) else none
      | some (.tuple ps), some p => if SeqAt.shaped p && SeqAt.shaped (.tuple ps) then some (ps.any fun q => PyData.eqv q p) else none
      | _, _ => none
def dIn : Op2 := fun a b S => (dInB a b S).map fun k => (.bl k, S)
def dNotIn : Op2 := fun a b S => (dInB a b S).map fun k => (.bl (!k), S)
section
variable {X : Cx}
theorem op_inT (hu : X.A.units + 65 < cLine) : OpR X (compareOp .In) (fun x y H Q => ∃ d ds, Dp X.K H x d ∧ Dp X.K H y (.tuple ds) ∧ SeqAt.shaped d = true ∧ SeqAt.shaped (.tuple ds) = true ∧ Q (.bl (ds.any fun z => PyData.eqv z d)) H) := by
  intro pins s σ H x y v u Q I rx ry h
  obtain ⟨d, ds, hd, he, sd, se, q⟩ := h
  obtain ⟨as, r1⟩ := Dp.reads I d x v hd rx
  obtain ⟨bs, r2⟩ := Dp.reads I (.tuple ds) y u he ry
  exact SeqAt.in_tuple_reads r2 r1 (SeqAt.canLay_of_shaped se) (SeqAt.canLay_of_shaped sd) (room_in_shaped sd hu) ⟨.bl _, H, I, rfl, q⟩
theorem op_notInT (hu : X.A.units + 65 < cLine) : OpR X (compareOp .NotIn) (fun x y H Q => ∃ d ds, Dp X.K H x d ∧ Dp X.K H y (.tuple ds) ∧ SeqAt.shaped d = true ∧ SeqAt.shaped (.tuple ds) = true ∧ Q (.bl (!ds.any fun z => PyData.eqv z d)) H) := by
  intro pins s σ H x y v u Q I rx ry h
  obtain ⟨d, ds, hd, he, sd, se, q⟩ := h
  obtain ⟨as, r1⟩ := Dp.reads I d x v hd rx
  obtain ⟨bs, r2⟩ := Dp.reads I (.tuple ds) y u he ry
  exact SeqAt.notIn_tuple_reads r2 r1 (SeqAt.canLay_of_shaped se) (SeqAt.canLay_of_shaped sd) (room_in_shaped sd hu) ⟨.bl _, H, I, rfl, q⟩
theorem op_inL (hu : X.A.units + 65 < cLine) : OpR X (compareOp .In) (fun x y H Q => ∃ d ds, Dp X.K H x d ∧ Dp X.K H y (.list ds) ∧ SeqAt.shaped d = true ∧ SeqAt.shaped (.list ds) = true ∧ Q (.bl (ds.any fun z => PyData.eqv z d)) H) := by
  intro pins s σ H x y v u Q I rx ry h
  obtain ⟨d, ds, hd, he, sd, se, q⟩ := h
  obtain ⟨as, r1⟩ := Dp.reads I d x v hd rx
  obtain ⟨bs, r2⟩ := Dp.reads I (.list ds) y u he ry
  exact SeqAt.in_list_reads r2 r1 (SeqAt.canLay_of_shaped se) (SeqAt.canLay_of_shaped sd) (room_in_shaped sd hu) ⟨.bl _, H, I, rfl, q⟩
theorem op_notInL (hu : X.A.units + 65 < cLine) : OpR X (compareOp .NotIn) (fun x y H Q => ∃ d ds, Dp X.K H x d ∧ Dp X.K H y (.list ds) ∧ SeqAt.shaped d = true ∧ SeqAt.shaped (.list ds) = true ∧ Q (.bl (!ds.any fun z => PyData.eqv z d)) H) := by
  intro pins s σ H x y v u Q I rx ry h
  obtain ⟨d, ds, hd, he, sd, se, q⟩ := h
  obtain ⟨as, r1⟩ := Dp.reads I d x v hd rx
  obtain ⟨bs, r2⟩ := Dp.reads I (.list ds) y u he ry
  exact SeqAt.notIn_list_reads r2 r1 (SeqAt.canLay_of_shaped se) (SeqAt.canLay_of_shaped sd) (room_in_shaped sd hu) ⟨.bl _, H, I, rfl, q⟩
theorem op_dIn (hu : X.A.units + 1 < cLine) : OpR X (compareOp .In) (fun y x H Q => ∃ a o, x = .ref a ∧ DGet H a y o ∧ Q (.bl o.isSome) H) := by
  intro pins s σ H y x v u Q I ry rx h
  obtain ⟨a, o, rfl, g, q⟩ := h
  cases rx
  exact d_in hu I g ry fun s3 I3 => ⟨.bl o.isSome, H, I3, rfl, q⟩
theorem op_dNotIn (hu : X.A.units + 1 < cLine) : OpR X (compareOp .NotIn) (fun y x H Q => ∃ a o, x = .ref a ∧ DGet H a y o ∧ Q (.bl (!o.isSome)) H) := by
  intro pins s σ H y x v u Q I ry rx h
  obtain ⟨a, o, rfl, g, q⟩ := h
  cases rx
  exact d_notIn hu I g ry fun s3 I3 => ⟨.bl (!o.isSome), H, I3, rfl, q⟩
end
theorem any_keys {κ : Type} [DecidableEq κ] (k : κ) (kvs : List (κ × V)) : ((kvs.map (·.1)).any fun j => decide (j = k)) = (valV kvs k).isSome := by
  rw [← valV_any, List.any_map]
  rfl
/-- the four roads of in -/
theorem inB_run {cm : Ct} {m : Am} {S : So} {H : Hp} {a b : D} {x y : V} {k : Bool} (R : RelS cm m S H) (ra : Rep cm m S H a x) (rb : Rep cm m S H b y) (e : dInB a b S = some k) :
    (∃ i j, x = .str i ∧ y = .str j ∧ (!(Builtin.Str.occurrences j i 0 j.length 1).isEmpty) = k) ∨ (∃ p o, y = .ref p ∧ DGet H p x o ∧ o.isSome = k) ∨
    (∃ d ds, Dp cm.K H x d ∧ Dp cm.K H y (.list ds) ∧ SeqAt.shaped d = true ∧ SeqAt.shaped (.list ds) = true ∧ (ds.any fun z => PyData.eqv z d) = k) ∨
    (∃ d ds, Dp cm.K H x d ∧ Dp cm.K H y (.tuple ds) ∧ SeqAt.shaped d = true ∧ SeqAt.shaped (.tuple ds) = true ∧ (ds.any fun z => PyData.eqv z d) = k) := by
  unfold dInB at e
  split at e
  · split at e
    · simp only [Rep] at ra rb
      simp only [Option.some.injEq] at e
      exact .inl ⟨_, _, ra, rb, e⟩
    · cases e
  · split at e
    · rename_i ks l ed
      split at e
      · rename_i k' ek
        simp only [Option.some.injEq] at e
        obtain ⟨p, kvs, rfl, h1, h2, h3⟩ := dct_at R rb ed
        have ex := key_v ra ek
        subst ex
        refine .inr (.inl ⟨p, _, rfl, .inl ⟨kvs, k', h1, rfl, rfl⟩, ?_⟩)
        rw [← e, ← h2, any_keys]
      · cases e
    · split at e
      · rename_i ps p e1 e2
        split at e
        · rename_i hc
          simp only [Bool.and_eq_true] at hc
          simp only [Option.some.injEq] at e
          exact .inr (.inr (.inl ⟨p, ps, toPt_dp R ra e2, toPt_dp R rb e1, hc.1, hc.2, e⟩))
        · cases e
      · rename_i ps p e1 e2
        split at e
        · rename_i hc
          simp only [Bool.and_eq_true] at hc
          simp only [Option.some.injEq] at e
          exact .inr (.inr (.inr ⟨p, ps, toPt_dp R ra e2, toPt_dp R rb e1, hc.1, hc.2, e⟩))
        · cases e
      · cases e
section
variable {cm : Cm} {X : Cx}
theorem od_in (hu : X.A.units + 65 < cLine) : OpD cm X (compareOp .In) dIn := fun m S H a b x y Q R ra rb h => by
  unfold dIn at h
  cases e : dInB a b S with
  | none => rw [e] at h; exact h.no.elim
  | some k =>
    rw [e] at h
    have q := h.bl R
    rcases inB_run (cm := ct X cm) R ra rb e with ⟨i, j, h1, h2, h3⟩ | ⟨p, o, h1, h2, h3⟩ | ⟨d, ds, h1, h2, h3, h4, h5⟩ | ⟨d, ds, h1, h2, h3, h4, h5⟩
    · exact wO2_of op_in_str ⟨i, j, h1, h2, by rw [h3]; exact q⟩
    · exact wO2_of (op_dIn (by omega)) ⟨p, o, h1, h2, by rw [h3]; exact q⟩
    · exact wO2_of (op_inL hu) ⟨d, ds, h1, h2, h3, h4, by rw [h5]; exact q⟩
    · exact wO2_of (op_inT hu) ⟨d, ds, h1, h2, h3, h4, by rw [h5]; exact q⟩
theorem od_notIn (hu : X.A.units + 65 < cLine) : OpD cm X (compareOp .NotIn) dNotIn := fun m S H a b x y Q R ra rb h => by
  unfold dNotIn at h
  cases e : dInB a b S with
  | none => rw [e] at h; exact h.no.elim
  | some k =>
    rw [e] at h
    have q := h.bl R
    rcases inB_run (cm := ct X cm) R ra rb e with ⟨i, j, h1, h2, h3⟩ | ⟨p, o, h1, h2, h3⟩ | ⟨d, ds, h1, h2, h3, h4, h5⟩ | ⟨d, ds, h1, h2, h3, h4, h5⟩
    · exact wO2_of L2.op_notin_str ⟨i, j, h1, h2, by rw [h3]; exact q⟩
    · exact wO2_of (op_dNotIn (by omega)) ⟨p, o, h1, h2, by rw [h3]; exact q⟩
    · exact wO2_of (op_notInL hu) ⟨d, ds, h1, h2, h3, h4, by rw [h5]; exact q⟩
    · exact wO2_of (op_notInT hu) ⟨d, ds, h1, h2, h3, h4, by rw [h5]; exact q⟩
end
end Mi


/-! Mi4: statements, targets, loops, comprehensions. -/
namespace Mi
open PySem PySem.Spec PyProof.Rows L2

inductive Fl where
  | nx (en : En) | rt (d : D) | bk (en : En) | ct (en : En)
/-- a statement -/
abbrev T := En → So → R Fl

def PF (cm : Ct) (m : Am) (S : So) (H : Hp) (W : WX) (r : R Fl) (D : Ends) : Prop := match r with
  | .ok (.nx en') S' => ∀ m' σ' H', Adv m S H m' S' H' → Cond cm m' S' H' σ' en' → D.nx σ' H'
  | .ok (.bk en') S' => ∀ m' σ' H', Adv m S H m' S' H' → Cond cm m' S' H' σ' en' → D.bk σ' H'
  | .ok (.ct en') S' => ∀ m' σ' H', Adv m S H m' S' H' → Cond cm m' S' H' σ' en' → D.ct σ' H'
  | .ok (.rt d) S' => ∀ v m' H', Adv m S H m' S' H' → RelS cm m' S' H' → Rep cm m' S' H' d v → D.rt v H'
  | .err x en' S' => ∀ cls dd m' σ' H', Adv m S H m' S' H' → Cond cm m' S' H' σ' en' → RepX cm m' S' H' x cls dd → W cls dd σ' H'
  | .bad => False
section
variable {α β γ δ : Type} {cm : Ct} {m m1 : Am} {S S1 : So} {H H1 : Hp} {σ : St} {en : En} {W : WX} {D : Ends}
theorem PF.after {r : R Fl} (A : Adv m S H m1 S1 H1) (h : PF cm m S H W r D) : PF cm m1 S1 H1 W r D := by
  cases r with
  | ok a S' =>
    cases a with
    | nx en' => exact fun m' σ' H' A' => h m' σ' H' (A.trans A')
    | bk en' => exact fun m' σ' H' A' => h m' σ' H' (A.trans A')
    | ct en' => exact fun m' σ' H' A' => h m' σ' H' (A.trans A')
    | rt d => exact fun v m' H' A' => h v m' H' (A.trans A')
  | err x en' S' => exact fun c d m' σ' H' A' => h c d m' σ' H' (A.trans A')
  | bad => exact h
theorem PF.bind {rp : Rp α γ} {r : R α} {k : α → So → R Fl} {Q : γ → Hp → Prop} (h : PF cm m S H W (r.bind k) D)
    (hk : ∀ a S1 x m1 H1, r = .ok a S1 → Adv m S H m1 S1 H1 → RelS cm m1 S1 H1 → rp m1 S1 H1 a x → PF cm m1 S1 H1 W (k a S1) D → Q x H1) : PQ rp cm m S H σ W r Q := by
  cases r with
  | ok a S' => exact fun v m' H' A Rl rp => hk a S' v m' H' rfl A Rl rp (PF.after A h)
  | err x en' S' => exact fun c d m' H' A C X => h c d m' σ H' A C X
  | bad => exact h
theorem PF.nx (h : PF cm m S H W (.ok (.nx en) S) D) (C : Cond cm m S H σ en) : D.nx σ H := h m σ H Adv.refl C
end

def wS (X : Cx) (st : Stmt) : TS := fun D σ H => ∀ pins s, Inv X pins σ H s → wpAny (model X.prog X.w) X.A (exec st X.env) (SP X pins D) X.xe s
def wSs (X : Cx) (st : List Stmt) : TS := fun D σ H => ∀ pins s, Inv X pins σ H s → wpAny (model X.prog X.w) X.A (execs st X.env) (SP X pins D) X.xe s
theorem ps_w {X : Cx} {st : Stmt} : PS X st (wS X st) := ⟨fun pins s _ _ _ I h => h pins s I⟩
theorem pss_w {X : Cx} {st : List Stmt} : PSs X st (wSs X st) := ⟨fun pins s _ _ _ I h => h pins s I⟩
theorem wS_of {X : Cx} {st : Stmt} {t : TS} {D : Ends} {σ : St} {H : Hp} (h : PS X st t) (q : t D σ H) : wS X st D σ H := fun pins s I => h.run pins s σ H D I q
theorem wSs_of {X : Cx} {st : List Stmt} {t : TS} {D : Ends} {σ : St} {H : Hp} (h : PSs X st t) (q : t D σ H) : wSs X st D σ H := fun pins s I => h.run pins s σ H D I q
def RS (cm : Cm) (X : Cx) (st : Stmt) (f : T) : Prop := ∀ W, Takes X W → ∀ m S H σ en D, Cond (ct X cm) m S H σ en → PF (ct X cm) m S H W (f en S) D → wS X st D σ H
def RSs (cm : Cm) (X : Cx) (st : List Stmt) (f : T) : Prop := ∀ W, Takes X W → ∀ m S H σ en D, Cond (ct X cm) m S H σ en → PF (ct X cm) m S H W (f en S) D → wSs X st D σ H

/-! ### targets -/
abbrev TgD := D → En → So → Option En
def wG (X : Cx) (tg : Expr) : TG := fun v σ H Q => ∀ pins s u, Inv X pins σ H s → RelV v u → wpAny (model X.prog X.w) X.A (assign tg X.env u) (fun _ s' => ∃ σ' H', Inv X pins σ' H' s' ∧ Q σ' H') X.xe s
theorem pg_w {X : Cx} {tg : Expr} : PG X tg (wG X tg) := ⟨fun pins s σ H v u Q I r h => h pins s u I r⟩
theorem wG_of {X : Cx} {tg : Expr} {t : TG} {v : V} {σ : St} {H : Hp} {Q : St → Hp → Prop} (h : PG X tg t) (q : t v σ H Q) : wG X tg v σ H Q := fun pins s u I r => h.run pins s σ H v u Q I r q
def wGs (X : Cx) (ts : List Expr) : TGs := fun vs σ H Q => ∀ pins s us, Inv X pins σ H s → Vals vs us → wpAny (model X.prog X.w) X.A (assignInOrder ((assignEach ts X.env).map (·.2)) us) (fun _ s' => ∃ σ' H', Inv X pins σ' H' s' ∧ Q σ' H') X.xe s
theorem pgs_w {X : Cx} {ts : List Expr} : PGs X ts (wGs X ts) := ⟨fun pins s σ H v u Q I r h => h pins s u I r⟩
theorem wGs_of {X : Cx} {ts : List Expr} {t : TGs} {v : List V} {σ : St} {H : Hp} {Q : St → Hp → Prop} (h : PGs X ts t) (q : t v σ H Q) : wGs X ts v σ H Q := fun pins s u I r => h.run pins s σ H v u Q I r q
/-- .. ws: the slots that are stored -/
def Off' (ws : List Nat) (σ σ' : St) : Prop := σ'.length = σ.length ∧ ∀ j, j ∉ ws → σ'[j]? = σ[j]?
def RG (cm : Cm) (X : Cx) (tg : Expr) (g : TgD) (ws : List Nat) : Prop := ∀ m S H σ en d v en' Q, Cond (ct X cm) m S H σ en → Rep (ct X cm) m S H d v → g d en S = some en' → (∀ σ', Cond (ct X cm) m S H σ' en' → Off' ws σ σ' → Q σ' H) → wG X tg v σ H Q
def RGs (cm : Cm) (X : Cx) (ts : List Expr) (g : List D → En → So → Option En) (ws : List Nat) : Prop := ∀ m S H σ en l vs en' Q, Cond (ct X cm) m S H σ en → Reps (ct X cm) m S H l vs → g l en S = some en' → (∀ σ', Cond (ct X cm) m S H σ' en' → Off' ws σ σ' → Q σ' H) → wGs X ts vs σ H Q
theorem Off'.refl {ws : List Nat} {σ : St} : Off' ws σ σ := ⟨rfl, fun _ _ => rfl⟩
theorem Off'.set {i : Nat} {σ : St} {x : Option V} : Off' [i] σ (σ.set i x) := ⟨by simp, fun j h => List.getElem?_set_ne (fun e => h (by simp [e]))⟩
theorem Off'.trans {a b : List Nat} {σ σ' σ'' : St} (h : Off' a σ σ') (k : Off' b σ' σ'') : Off' (a ++ b) σ σ'' := ⟨k.1.trans h.1, fun j n => (k.2 j fun z => n (List.mem_append_right _ z)).trans (h.2 j fun z => n (List.mem_append_left _ z))⟩
theorem Cond.set {cm : Ct} {m : Am} {S : So} {H : Hp} {σ : St} {en : En} {d : D} {v : V} (C : Cond cm m S H σ en) (i : Nat) (r : Rep cm m S H d v) : Cond cm m S H (σ.set i (some v)) (en.set i (some d)) := by
  refine ⟨C.rel, by rw [List.length_set, List.length_set]; exact C.len, fun j d' e => ?_⟩
  by_cases h : i = j
  · subst h
    by_cases hl : i < en.length
    · rw [List.getElem?_set_self hl] at e
      cases e
      exact ⟨v, List.getElem?_set_self (by rw [← C.len]; exact hl), r⟩
    · rw [List.getElem?_eq_none (by rw [List.length_set]; omega)] at e
      cases e
  · rw [List.getElem?_set_ne h] at e ⊢
    exact C.env j d' e
def gN (i : Nat) : TgD := fun d en _ => some (en.set i (some d))
def gsNil : List D → En → So → Option En := fun l en _ => match l with
  | [] => some en
  | _ => none
def gsCons (g : TgD) (r : List D → En → So → Option En) : List D → En → So → Option En := fun l en S => match l with
  | d :: l => (g d en S).bind fun en1 => r l en1 S
  | [] => none
/-- a, b = a tuple -/
def gT (n : Nat) (r : List D → En → So → Option En) : TgD := fun d en S => match d with
  | .tup l => if l.length = n then r l en S else none
  | _ => none
section
variable {cm : Cm} {X : Cx} {pos : Pos} {e : Expr} {es : List Expr} {g : TgD} {r : List D → En → So → Option En}
theorem rg_n (i : Nat) {x : Str} (hN : X.N.Nodup) (hi : X.N[i]? = some x) (hx : Loc X.env.scope x) (hf : X.fn x = true ∨ X.env.scope.names.lookup x = some .local := by first | exact .inl rfl | exact .inr rfl | assumption)  : RG cm X (.Name x pos) (gN i) [i] :=
  fun m S H σ en d v en' Q C rd e q => wG_of (pg_name hN hi hx hf) (q _ (by cases e; exact C.set i rd) Off'.set)
theorem rgs_nil : RGs cm X [] gsNil [] := fun m S H σ en l vs en' Q C rl e q => by
  refine wGs_of pgs_nil ?_
  cases l with
  | nil =>
    simp only [Reps] at rl
    cases e
    exact ⟨rl, q _ C Off'.refl⟩
  | cons _ _ => cases e
theorem rgs_cons {w1 w2 : List Nat} (h1 : RG cm X e g w1) (h2 : RGs cm X es r w2) (hs : (assignEach (e :: es) X.env).map (·.2) = assign e X.env :: (assignEach es X.env).map (·.2) := by rfl)  : RGs cm X (e :: es) (gsCons g r) (w1 ++ w2) := fun m S H σ en l vs en' Q C rl q0 q => by
  refine wGs_of (pgs_cons pg_w pgs_w hs) ?_
  cases l with
  | nil => cases q0
  | cons d l =>
    simp only [Reps] at rl
    obtain ⟨v, rr, e1, r1, r2⟩ := rl
    subst e1
    unfold gsCons at q0
    cases e2 : g d en S with
    | none => simp only [e2] at q0; cases q0
    | some en1 =>
      simp only [e2, Option.bind_some] at q0
      exact ⟨v, rr, rfl, h1 m S H σ en d v en1 _ C r1 e2 fun σ1 C1 o1 => h2 m S H σ1 en1 l rr en' Q C1 r2 q0 fun σ2 C2 o2 => q σ2 C2 (o1.trans o2)⟩
theorem rg_t {k n : Nat} {ws : List Nat} (hc : X.calm = true) (h : RGs cm X es r ws) (hn : (assignEach es X.env).length = n := by rfl) (hst : (assignEach es X.env).findIdx? (·.1) = none := by rfl)  : RG cm X (.Tuple es k pos) (gT n r) ws := fun m S H σ en d v en' Q C rd e q => by
  refine wG_of (pg_tup hc pgs_w hn hst) ?_
  unfold gT at e
  split at e
  · rename_i l
    split at e
    · rename_i hl
      simp only [Rep] at rd
      obtain ⟨a, vs, rfl, h1, h2⟩ := rd
      exact ⟨a, vs, rfl, h1, by rw [← h2.length]; exact hl, h m S H σ en l vs en' Q C h2 e q⟩
    · cases e
  · cases e
end

/-! ### small statements -/
def sNil : T := fun en S => .ok (.nx en) S
def sSeq (f g : T) : T := fun en S => (f en S).bind fun fl S1 => match fl with
  | .nx en1 => g en1 S1
  | fl => .ok fl S1
def sBk : T := fun en S => .ok (.bk en) S
def sCt : T := fun en S => .ok (.ct en) S
def sEx (f : E D) : T := fun en S => (f en S).bind fun _ S1 => .ok (.nx en) S1
def sRet (f : E D) : T := fun en S => (f en S).bind fun d S1 => .ok (.rt d) S1
def sRetN : T := fun _ S => .ok (.rt .non) S
def sIf (t : E Bool) (f g : T) : T := fun en S => (t en S).bind fun b S1 => match b with
  | true => f en S1
  | false => g en S1
def sSet (i : Nat) (f : E D) : T := fun en S => (f en S).bind fun d S1 => .ok (.nx (en.set i (some d))) S1
def sAsg (g : TgD) (f : E D) : T := fun en S => (f en S).bind fun d S1 => match g d en S1 with
  | some en1 => .ok (.nx en1) S1
  | none => .bad
def sPar (i j : Nat) (f : E (List D)) : T := fun en S => (f en S).bind fun l S1 => match l with
  | [a, b] => .ok (.nx ((en.set i (some a)).set j (some b))) S1
  | _ => .bad
def sAug (i : Nat) (g : Op2) (f : E D) : T := fun en S => match en[i]? with
  | some (some d) => (f en S).bind fun b S1 => (R.of (g d b S1)).bind fun c S2 => .ok (.nx (en.set i (some c))) S2
  | _ => .bad
def sNever : T := fun _ _ => .bad
section
variable {cm : Cm} {X : Cx} {pos : Pos} {st : Stmt} {rest : List Stmt} {f g : T} {e : Expr} {fe : E D}
theorem rss_nil : RSs cm X [] sNil := fun W tk m S H σ en D C h => wSs_of pss_nil (h.nx C)
theorem rss_cons (h1 : RS cm X st f) (h2 : RSs cm X rest g) : RSs cm X (st :: rest) (sSeq f g) := fun W tk m S H σ en D C h => by
  refine wSs_of (pss_cons ps_w pss_w) ?_
  refine h1 W tk m S H σ en _ C ?_
  unfold sSeq at h
  cases e : f en S with
  | bad => rw [e] at h; exact h
  | err x en' S' => rw [e] at h; exact h
  | ok fl S' =>
    rw [e] at h
    cases fl with
    | nx en1 => exact fun m' σ' H' A C' => h2 W tk m' S' H' σ' en1 D C' (PF.after A h)
    | rt d => exact h
    | bk en1 => exact h
    | ct en1 => exact h
theorem rss_one (h1 : RS cm X st f) : RSs cm X [st] f := fun W tk m S H σ en D C h => wSs_of (pss_one ps_w) (h1 W tk m S H σ en D C h)
theorem rs_pass : RS cm X (.Pass pos) sNil := fun W tk m S H σ en D C h => wS_of ps_pass (h.nx C)
theorem rs_break : RS cm X (.Break pos) sBk := fun W tk m S H σ en D C h => wS_of ps_break (h m σ H Adv.refl C)
theorem rs_continue : RS cm X (.Continue pos) sCt := fun W tk m S H σ en D C h => wS_of ps_continue (h m σ H Adv.refl C)
theorem rs_never : RS cm X st sNever := fun W tk m S H σ en D C h => h.elim
theorem rss_never : RSs cm X rest sNever := fun W tk m S H σ en D C h => h.elim
theorem rs_ex (he : RE cm X e fe) (hs : swapsWith e none pos.line X.env = pure false := by rfl) : RS cm X (.Expr e pos) (sEx fe) := fun W tk m S H σ en D C h =>
  wS_of (ps_expr pe_w hs) (he W tk m S H σ en _ C (PF.bind h fun d S1 x m1 H1 e1 A1 R1 r1 h1 => h1.nx (C.adv A1 R1)))
theorem rs_ret (he : RE cm X e fe) : RS cm X (.Return (some e) pos) (sRet fe) := fun W tk m S H σ en D C h =>
  wS_of (ps_ret pe_w) (he W tk m S H σ en _ C (PF.bind h fun d S1 x m1 H1 e1 A1 R1 r1 h1 => h1 x m1 H1 Adv.refl R1 r1))
theorem rs_retN : RS cm X (.Return none pos) sRetN := fun W tk m S H σ en D C h => wS_of ps_retN (h .non m H Adv.refl C.rel (by simp only [Rep]))
theorem rs_if {c : Expr} {a b : List Stmt} {t : E Bool} (hc : RT cm X c t) (ha : RSs cm X a f) (hb : RSs cm X b g) : RS cm X (.If c a b pos) (sIf t f g) := fun W tk m S H σ en D C h => by
  refine wS_of (ps_if pt_w pss_w pss_w) ?_
  refine hc W tk m S H σ en _ C (PF.bind h fun k S1 x m1 H1 e1 A1 R1 r1 h1 => ?_)
  obtain rfl : k = x := r1
  cases k with
  | true => rw [if_pos rfl]; exact ha W tk m1 S1 H1 σ en D (C.adv A1 R1) h1
  | false => rw [if_neg Bool.false_ne_true]; exact hb W tk m1 S1 H1 σ en D (C.adv A1 R1) h1
theorem rs_set (i : Nat) {x : Str} {pos' : Pos} (hN : X.N.Nodup) (hi : X.N[i]? = some x) (hx : Loc X.env.scope x) (he : RE cm X e fe) (hs : swapsWith e (some (.Name x pos')) pos.line X.env = pure false := by rfl) (hf : X.fn x = true ∨ X.env.scope.names.lookup x = some .local := by first | exact .inl rfl | exact .inr rfl | assumption) :
    RS cm X (.Assign [.Name x pos'] e pos) (sSet i fe) := fun W tk m S H σ en D C h =>
  wS_of (ps_set hN hi hx pe_w hs hf) (he W tk m S H σ en _ C (PF.bind h fun d S1 y m1 H1 e1 A1 R1 r1 h1 => h1.nx ((C.adv A1 R1).set i r1)))
theorem rs_asg {tg : Expr} {gd : TgD} {ws : List Nat} (he : RE cm X e fe) (hg : RG cm X tg gd ws) (hs : swapsWithSole [tg] e pos.line X.env = pure false := by rfl) (hw : swappedStores [tg] e X.env = pure none := by rfl)
    (h1 : (assignEach [tg] X.env).map (·.2) = [assign tg X.env] := by rfl) : RS cm X (.Assign [tg] e pos) (sAsg gd fe) := fun W tk m S H σ en D C h => by
  refine wS_of (ps_asg pe_w pg_w hs hw h1) (he W tk m S H σ en _ C (PF.bind h fun d S1 y m1 H1 e1 A1 R1 r1 k1 => ?_))
  cases e2 : gd d en S1 with
  | none => rw [e2] at k1; exact k1.elim
  | some en1 =>
    rw [e2] at k1
    exact hg m1 S1 H1 σ en d y en1 _ (C.adv A1 R1) r1 e2 fun σ' C' _ => k1.nx C'
theorem rs_par (i j : Nat) {x y : Str} {a b : Expr} {fl : E (List D)} {px py pt : Pos} {kt k2 pt2} (hc : X.calm = true) (hN : X.N.Nodup) (hi : X.N[i]? = some x) (hj : X.N[j]? = some y) (hij : i ≠ j)
    (hx : X.env.scope.names.lookup x = some .local) (hy : X.env.scope.names.lookup y = some .local) (ha : RA cm X [a, b] fl)
    (hw : swappedStores [.Tuple [.Name x px, .Name y py] kt pt] (.Tuple [a, b] k2 pt2) X.env = pure (some [x, y]))
    (hs : swapsWithSole [.Tuple [.Name x px, .Name y py] kt pt] (.Tuple [a, b] k2 pt2) pos.line X.env = pure false := by rfl) :
    RS cm X (.Assign [.Tuple [.Name x px, .Name y py] kt pt] (.Tuple [a, b] k2 pt2) pos) (sPar i j fl) := fun W tk m S H σ en D C h => by
  refine wS_of (ps_par hc hN hi hj hij hx hy pa_w hw hs) (ha W tk m S H σ en _ C (PF.bind h fun l S1 vs m1 H1 e1 A1 R1 r1 k1 => ?_))
  split at k1
  · simp only [Reps] at r1
    obtain ⟨v, r, e1, r1, w, r', e2, r2, e3⟩ := r1
    subst e3 e2 e1
    exact ⟨v, w, rfl, k1.nx (((C.adv A1 R1).set i r1).set j r2)⟩
  · exact k1.elim
theorem rs_aug (i : Nat) {x : Str} {op : Operator} {gd : Op2} {pos' : Pos} (hN : X.N.Nodup) (hi : X.N[i]? = some x) (hx : Loc X.env.scope x) (ho : OpD cm X (inplaceOp op) gd) (he : RE cm X e fe)
    (hf : X.fn x = true ∨ X.env.scope.names.lookup x = some .local := by first | exact .inl rfl | exact .inr rfl | assumption) : RS cm X (.AugAssign (.Name x pos') op e pos) (sAug i gd fe) := fun W tk m S H σ en D C h => by
  refine wS_of (ps_aug (ti := wO2 X (inplaceOp op)) hN hi hx pe_w (fun pins s σ H x y v u Q I r1 r2 h => h pins s σ v u I r1 r2) hf) ?_
  unfold sAug at h
  split at h
  · rename_i d e0
    obtain ⟨v, e1, rv⟩ := C.env i d e0
    refine ⟨v, e1, he W tk m S H σ en _ C (PF.bind h fun b S1 y m1 H1 _ A1 R1 r1 k1 => ?_)⟩
    refine ho m1 S1 H1 d b v y _ R1 (Rep.adv A1 _ _ rv) r1 (PQ.pok (σ := σ) (W := W) ?_)
    exact PF.bind k1 fun c S2 z m2 H2 _ A2 R2 r2 k2 => k2.nx (((C.adv A1 R1).adv A2 R2).set i r2)
  · exact h.elim
end

/-! ### what is walked -/
structure Src where
  hold : Option Nat
  items : List D
/-- the cell that is walked stands as it stood -/
noncomputable def still (h : Option Nat) (S0 S : So) : Bool := match h with
  | some n => @decide (S[n]? = S0[n]?) (Classical.propDecidable _)
  | none => true
theorem still_of {h : Option Nat} {S0 S : So} : still h S0 S = true ↔ ∀ n, h = some n → S[n]? = S0[n]? := by
  cases h with
  | none => simp [still]
  | some n =>
    have : still (some n) S0 S = @decide (S[n]? = S0[n]?) (Classical.propDecidable _) := rfl
    rw [this]
    constructor
    · intro q k e
      cases e
      exact @of_decide_eq_true _ (Classical.propDecidable _) q
    · intro q
      exact @decide_eq_true _ (Classical.propDecidable _) (q n rfl)
@[simp] theorem still_none {S0 S : So} : still none S0 S = true := rfl
theorem still_same {h : Option Nat} {S0 S : So} (e : ∀ n, h = some n → S[n]? = S0[n]?) : still h S0 S = true := still_of.mpr e
def WalkJ (cm : Ct) (J : It) (src : Src) (m1 : Am) (S1 : So) (H1 : Hp) : Prop := ∀ m S H, Adv m1 S1 H1 m S H → RelS cm m S H → still src.hold S1 S = true →
  (∀ i d, src.items[i]? = some d → J.go i H ∧ ∀ x H', J.yld i H x H' → (∀ a o, H a = some o → H' a = some o) ∧ Rep cm m S H' d x) ∧ J.stop src.items.length H
def wI (X : Cx) (tg iter : Expr) : TI := fun σ H R => ∀ pins s, Inv X pins σ H s → wpAny (model X.prog X.w) X.A (eval iter X.env) (fun v s1 => wpAny (model X.prog X.w) X.A (pyIter v) (PIE X pins σ tg R) X.xe s1) X.xe s
theorem pi_w {X : Cx} {tg iter : Expr} : PI X tg iter (wI X tg iter) := ⟨fun pins s σ H R I h => h pins s I⟩
theorem wI_of {X : Cx} {tg iter : Expr} {wi : TI} {σ : St} {H : Hp} {R : It → Hp → Prop} (h : PI X tg iter wi) (q : wi σ H R) : wI X tg iter σ H R := fun pins s I => h.run pins s σ H R I q
def rJ (cm : Ct) : Rp Src It := fun m S H src J => WalkJ cm J src m S H
def RI (cm : Cm) (X : Cx) (tg iter : Expr) (f : E Src) : Prop := ∀ W, Takes X W → ∀ m S H σ en R, Cond (ct X cm) m S H σ en → PQ (rJ (ct X cm)) (ct X cm) m S H σ W (f en S) R → wI X tg iter σ H R
/-- over a list or a tuple -/
def srcOf (d : D) (S : So) : Option Src := match d with
  | .lst l => some ⟨none, l⟩
  | .tup l => some ⟨none, l⟩
  | .scr ns => some ⟨none, ns.map D.int⟩
  | .ref n => match S[n]? with
    | some (some (.lst l)) => some ⟨some n, l⟩
    | _ => none
  | _ => none
def iSeq (f : E D) : E Src := fun en S => (f en S).bind fun d S1 => match srcOf d S1 with
  | some s => .ok s S1
  | none => .bad
def iSq (K : PySem.W.Frag) (tl : TE) : TI := fun σ H R => tl σ H fun x H1 => ∃ a, x = .ref a ∧ (((∃ xs, SqL K H1 a xs) ∧ R (Itl K a) H1) ∨ ((∃ xs, SqT K H1 a xs) ∧ R (Itt K a) H1))
theorem pi_sq {X : Cx} {tg l : Expr} {tl : TE} (hl : PE X l tl) : PI X tg l (iSq X.K tl) := by
  refine ⟨fun pins s σ H R I h => ?_⟩
  refine thn (hl.run pins s σ H _ I h) fun v s1 ⟨x, H1, I1, r1, q1⟩ => ?_
  obtain ⟨a, e, q1⟩ := q1
  subst e
  cases r1
  rcases q1 with ⟨⟨xs, hq⟩, q⟩ | ⟨⟨xs, hq⟩, q⟩
  · obtain ⟨its, rv, p, hz⟩ := I1.list hq
    refine wpAny_pyIter_list p.isList ?_
    refine ⟨s1.heap.objs.size, [s1.heap.objs.size], _, _, H1, rfl, I1.kept (t' := s1.toks) fun b o e => Heap.get?_push_of_some _ e, turn_list a _, ⟨_, Heap.get?_push_size _ rfl, rfl, rfl⟩, fun b hb => ?_, q⟩
    have e : b = s1.heap.objs.size := by simpa using hb
    subst e
    exact I1.fpOk (Nat.le_refl _) (I1.hok.fresh (Nat.le_refl _))
  · obtain ⟨its, rv, p, hz⟩ := I1.tuple hq
    refine wpAny_pyIter_tuple (show s1.heap.IsTuple a its.toArray from p) ?_
    refine ⟨s1.heap.objs.size, [s1.heap.objs.size], _, _, H1, rfl, I1.kept (t' := s1.toks) fun b o e => Heap.get?_push_of_some _ e, turn_tuple a _, ⟨_, Heap.get?_push_size _ rfl, rfl, rfl⟩, fun b hb => ?_, q⟩
    have e : b = s1.heap.objs.size := by simpa using hb
    subst e
    exact I1.fpOk (Nat.le_refl _) (I1.hok.fresh (Nat.le_refl _))
section
variable {cm : Ct} {m : Am} {S : So} {H : Hp} {a : Addr} {l : List D} {vs : List V} {hold : Option Nat}
theorem walk_l (h : ∀ m' S' H', Adv m S H m' S' H' → RelS cm m' S' H' → still hold S S' = true → SqL cm.K H' a vs) (r : Reps cm m S H l vs) (u : ∀ H xs, SqL cm.K H a xs → SqL cm.K H a vs → xs = vs ∨ True) : WalkJ cm (Itl cm.K a) ⟨hold, l⟩ m S H := fun m' S' H' A R e => by
  have q := h m' S' H' A R e
  have r' := Reps.adv A _ _ r
  refine ⟨fun i d ed => ?_, ⟨vs, q, by rw [r.length]; exact Nat.le_refl _⟩⟩
  obtain ⟨v, ev, rv⟩ := r'.get ed
  refine ⟨⟨vs, v, q, ev⟩, fun x H2 y => ?_⟩
  obtain ⟨e2, y⟩ := y
  subst e2
  have z := y vs q
  rw [ev] at z
  cases z
  exact ⟨fun _ _ h => h, rv⟩
theorem walk_t (h : ∀ m' S' H', Adv m S H m' S' H' → RelS cm m' S' H' → still hold S S' = true → SqT cm.K H' a vs) (r : Reps cm m S H l vs) : WalkJ cm (Itt cm.K a) ⟨hold, l⟩ m S H := fun m' S' H' A R e => by
  have q := h m' S' H' A R e
  have r' := Reps.adv A _ _ r
  refine ⟨fun i d ed => ?_, ⟨vs, q, by rw [r.length]; exact Nat.le_refl _⟩⟩
  obtain ⟨v, ev, rv⟩ := r'.get ed
  refine ⟨⟨vs, v, q, ev⟩, fun x H2 y => ?_⟩
  obtain ⟨e2, y⟩ := y
  subst e2
  have z := y vs q
  rw [ev] at z
  cases z
  exact ⟨fun _ _ h => h, rv⟩
end
theorem walk_of_src {cm : Ct} {m : Am} {S : So} {H : Hp} {d : D} {x : V} {src : Src} (R : RelS cm m S H) (r : Rep cm m S H d x) (h : srcOf d S = some src) :
    ∃ a, x = .ref a ∧ (((∃ xs, SqL cm.K H a xs) ∧ WalkJ cm (Itl cm.K a) src m S H) ∨ ((∃ xs, SqT cm.K H a xs) ∧ WalkJ cm (Itt cm.K a) src m S H)) := by
  cases d with
  | lst l =>
    simp only [srcOf, Option.some.injEq] at h
    subst h
    simp only [Rep] at r
    obtain ⟨a, vs, e, h1, h2, h3⟩ := r
    exact ⟨a, e, .inl ⟨⟨vs, .inl (.inl h1)⟩, walk_l (fun m' S' H' A _ _ => .inl (.inl (A.fr _ _ h1 h2.1).lst)) h3 fun _ _ _ _ => .inr trivial⟩⟩
  | tup l =>
    simp only [srcOf, Option.some.injEq] at h
    subst h
    simp only [Rep] at r
    obtain ⟨a, vs, e, h1, h3⟩ := r
    exact ⟨a, e, .inr ⟨⟨vs, h1⟩, walk_t (fun m' S' H' A _ _ => SqT.adv A h1) h3⟩⟩
  | scr ns =>
    simp only [srcOf, Option.some.injEq] at h
    subst h
    simp only [Rep] at r
    obtain ⟨a, e, h1⟩ := r
    exact ⟨a, e, .inl ⟨⟨_, h1.l⟩, walk_l (fun m' S' H' A _ _ => (SqS.adv A h1).l) (reps_ints ns) fun _ _ _ _ => .inr trivial⟩⟩
  | ref n =>
    simp only [srcOf] at h
    split at h
    · rename_i l e
      simp only [Option.some.injEq] at h
      subst h
      simp only [Rep] at r
      obtain ⟨vs, h1, h2⟩ := R.at_ n _ e
      refine ⟨m.p n, r.2, .inl ⟨⟨vs, .inl (.inl h1)⟩, fun m' S' H' A R' st => ?_⟩⟩
      have e' : S'[n]? = some (some (.lst l)) := (still_of.mp st n rfl).trans e
      obtain ⟨ws, g1, g2⟩ := R'.at_ n _ e'
      rw [A.mm n r.1] at g1
      refine ⟨fun i d ed => ?_, ⟨ws, .inl (.inl g1), by rw [g2.length]; exact Nat.le_refl _⟩⟩
      obtain ⟨v, ev, rv⟩ := g2.get ed
      refine ⟨⟨ws, v, .inl (.inl g1), ev⟩, fun x H2 y => ?_⟩
      obtain ⟨e2, y⟩ := y
      subst e2
      have z := y ws (.inl (.inl g1))
      rw [ev] at z
      cases z
      exact ⟨fun _ _ h => h, rv⟩
    · cases h
  | _ => simp [srcOf] at h
section
variable {cm : Cm} {X : Cx} {tg iter a b : Expr} {f fa fb : E D} {p pos : Pos}
theorem ri_seq (h : RE cm X iter f) : RI cm X tg iter (iSeq f) := fun W tk m S H σ en R C hq => by
  refine wI_of (pi_sq pe_w) ?_
  refine h W tk m S H σ en _ C (PQ.bind hq fun d S1 x m1 H1 e1 A1 R1 r1 h1 => ?_)
  cases e : srcOf d S1 with
  | none => rw [e] at h1; exact h1.elim
  | some src =>
    rw [e] at h1
    obtain ⟨a, rfl, ⟨h2, h3⟩ | ⟨h2, h3⟩⟩ := walk_of_src (cm := ct X cm) R1 r1 e
    · exact ⟨a, rfl, .inl ⟨h2, PQ.now h1 R1 h3⟩⟩
    · exact ⟨a, rfl, .inr ⟨h2, PQ.now h1 R1 h3⟩⟩
/-- range(a), range(a, b) -/
def rngL (lo : Int) (n : Nat) : List D := (List.range n).map fun (i : Nat) => D.int (lo + (i : Int))
def iRg1 (f : E (List D)) : E Src := fun en S => (f en S).bind fun l S1 => match l with
  | [.int j] => if -(2 ^ 62) ≤ j ∧ j < 2 ^ 62 then .ok ⟨none, rngL 0 j.toNat⟩ S1 else .bad
  | _ => .bad
def iRg2 (f : E (List D)) : E Src := fun en S => (f en S).bind fun l S2 => match l with
  | [.int i, .int j] => if -(2 ^ 62) ≤ i ∧ i < 2 ^ 62 ∧ -(2 ^ 62) ≤ j ∧ j < 2 ^ 62 then .ok ⟨none, rngL i (j - i).toNat⟩ S2 else .bad
  | _ => .bad
theorem walk_rng {cm : Ct} {m : Am} {S : So} {H : Hp} (lo : Int) (n : Nat) : WalkJ cm (Itr lo n) ⟨none, rngL lo n⟩ m S H := fun m' S' H' A R e => by
  have hl : (rngL lo n).length = n := by simp [rngL]
  refine ⟨fun i d ed => ?_, (by show n ≤ (rngL lo n).length; rw [hl]; exact Nat.le_refl _)⟩
  have hi : i < n := by
    have q : i < (rngL lo n).length := (List.getElem?_eq_some_iff.mp ed).1
    rw [hl] at q
    exact q
  refine ⟨hi, fun x H2 y => ?_⟩
  obtain ⟨e1, e2⟩ := y
  subst e1 e2
  simp only [rngL, List.getElem?_map, List.getElem?_range hi, Option.map_some, Option.some.injEq] at ed
  subst ed
  exact ⟨fun _ _ h => h, by simp only [Rep]⟩
theorem ri_rg1 {fl : E (List D)} (hg : Gl X "range") (hm : X.mg "range" = none) (ha : RA cm X [a] fl) (hs : starEach [a] X.env = [(false, eval a X.env)] := by rfl) : RI cm X tg (.Call (.Name "range" p) [a] [] pos) (iRg1 fl) := fun W tk m S H σ en R C hq => by
  refine wI_of (pi_range1 hg hm pa_w hs) ?_
  refine ha W tk m S H σ en _ C (PQ.bind hq fun l S1 x m1 H1 e1 A1 R1 r1 h1 => ?_)
  split at h1
  · rename_i j
    split at h1
    · rename_i hc
      simp only [Reps, Rep] at r1
      obtain ⟨v, r, e1, e2, e3⟩ := r1
      subst e3 e2 e1
      exact ⟨j, rfl, hc.1, hc.2, PQ.now h1 R1 (walk_rng 0 j.toNat)⟩
    · exact h1.elim
  · exact h1.elim
theorem ri_rg2 {fl : E (List D)} (hg : Gl X "range") (hm : X.mg "range" = none) (ha : RA cm X [a, b] fl) (hs : starEach [a, b] X.env = [(false, eval a X.env), (false, eval b X.env)] := by rfl) (hs2 : starEach [b] X.env = [(false, eval b X.env)] := by rfl) : RI cm X tg (.Call (.Name "range" p) [a, b] [] pos) (iRg2 fl) := fun W tk m S H σ en R C hq => by
  refine wI_of (pi_range2 hg hm pa_w hs hs2) ?_
  refine ha W tk m S H σ en _ C (PQ.bind hq fun l S1 x m1 H1 e1 A1 R1 r1 h1 => ?_)
  split at h1
  · rename_i i j
    split at h1
    · rename_i hc
      simp only [Reps, Rep] at r1
      obtain ⟨v, r, e1, e2, w, r', e3, e4, e5⟩ := r1
      subst e5 e4 e3 e2 e1
      exact ⟨i, j, rfl, hc, PQ.now h1 R1 (walk_rng i (j - i).toNat)⟩
    · exact h1.elim
  · exact h1.elim
end

/-! ### for -/
noncomputable def forM (hold : Option Nat) (S0 : So) (g : TgD) (body : T) : List D → T
  | [], en, S => .ok (.nx en) S
  | d :: l, en, S => match g d en S with
    | none => .bad
    | some en1 => (body en1 S).bind fun fl S2 => match fl with
      | .nx en2 => if still hold S0 S2 then forM hold S0 g body l en2 S2 else .bad
      | .ct en2 => if still hold S0 S2 then forM hold S0 g body l en2 S2 else .bad
      | .bk en2 => .ok (.nx en2) S2
      | .rt x => .ok (.rt x) S2
noncomputable def sFor (fi : E Src) (g : TgD) (body : T) : T := fun en S => (fi en S).bind fun src S1 => forM src.hold S1 g body src.items en S1
section
variable {cm : Cm} {X : Cx} {tg iter : Expr} {body : List Stmt} {fi : E Src} {g : TgD} {fb : T} {pos : Pos}
theorem rs_for {ws : List Nat} (hp : PassesOwn (model X.prog X.w) X.A X.env X.xe) (hc : X.calm = true) (hi : RI cm X tg iter fi) (hg : RG cm X tg g ws) (hb : RSs cm X body fb)
    (hs : ∀ x, foldedSetIterable iter X.env x = pure x := by intro _; rfl) : RS cm X (.For tg iter body [] pos) (sFor fi g fb) := fun W tk m S H σ en D C h => by
  refine wS_of (ps_for hp hc pi_w pg_w pss_w hs) ?_
  refine hi W tk m S H σ en _ C (PF.bind h fun src S1 J m1 H1 e1 A1 R1 wj h1 => ?_)
  refine ⟨fun i μ σ' H' => μ = src.items.length - i ∧ i ≤ src.items.length ∧ ∃ m' S' en', Adv m1 S1 H1 m' S' H' ∧ Cond (ct X cm) m' S' H' σ' en' ∧ still src.hold S1 S' = true ∧ PF (ct X cm) m' S' H' W (forM src.hold S1 g fb (src.items.drop i) en' S') D,
    ⟨_, rfl, Nat.zero_le _, m1, S1, en, Adv.refl, C.adv A1 R1, still_same fun _ _ => rfl, by rw [List.drop_zero]; exact h1⟩, ?_⟩
  rintro i μ σ' H' ⟨rfl, hi', m', S', en', A', C', st, hq⟩
  obtain ⟨w1, w2⟩ := wj m' S' H' A' C'.rel st
  by_cases hlt : i < src.items.length
  · have ed : src.items[i]? = some src.items[i] := List.getElem?_eq_getElem hlt
    obtain ⟨go, yl⟩ := w1 i _ ed
    rw [List.drop_eq_getElem_cons hlt] at hq
    unfold forM at hq
    cases eg : g src.items[i] en' S' with
    | none => simp only [eg] at hq; exact hq.elim
    | some en1 =>
      simp only [eg] at hq
      refine .inr ⟨go, fun σ2 H2 => ∃ m2 S2 en2, Adv m1 S1 H1 m2 S2 H2 ∧ Cond (ct X cm) m2 S2 H2 σ2 en2 ∧ still src.hold S1 S2 = true ∧ PF (ct X cm) m2 S2 H2 W (forM src.hold S1 g fb (src.items.drop (i + 1)) en2 S2) D,
        fun σ2 H2 z => ⟨src.items.length - (i + 1), by omega, rfl, by omega, z⟩, fun x H2 y => ?_⟩
      obtain ⟨k, rx⟩ := yl x H2 y
      have A2 : Adv m' S' H' m' S' H2 := Adv.grow k
      refine hg m' S' H2 σ' en' _ x en1 _ (C'.adv A2 (C'.rel.grow k)) rx eg fun σ3 C3 _ => ?_
      have hq2 := PF.after A2 hq
      refine hb W tk m' S' H2 σ3 en1 _ C3 ?_
      cases eb : fb en1 S' with
      | bad => rw [eb] at hq2; exact hq2
      | err x' en2 S2 => rw [eb] at hq2; exact hq2
      | ok fl S2 =>
        rw [eb] at hq2
        cases fl with
        | nx en2 =>
          intro m3 σ4 H4 A4 C4
          simp only [R.bind_ok] at hq2
          split at hq2
          · rename_i st2
            exact ⟨m3, S2, en2, (A'.trans A2).trans A4, C4, st2, PF.after A4 hq2⟩
          · exact hq2.elim
        | ct en2 =>
          intro m3 σ4 H4 A4 C4
          simp only [R.bind_ok] at hq2
          split at hq2
          · rename_i st2
            exact ⟨m3, S2, en2, (A'.trans A2).trans A4, C4, st2, PF.after A4 hq2⟩
          · exact hq2.elim
        | bk en2 => exact fun m3 σ4 H4 A4 C4 => hq2 m3 σ4 H4 A4 C4
        | rt z => exact hq2
  · have e : i = src.items.length := by omega
    subst e
    rw [List.drop_length] at hq
    exact .inl ⟨w2, PF.nx hq C'⟩
end
end Mi


/-! Mi5: while, comprehensions. -/
namespace Mi
open PySem PySem.Spec PyProof.Rows L2

def whileM (t : E Bool) (f : T) : Nat → T
  | 0, _, _ => .bad
  | n + 1, en, S => (t en S).bind fun b S1 => match b with
    | false => .ok (.nx en) S1
    | true => (f en S1).bind fun fl S2 => match fl with
      | .nx en2 => whileM t f n en2 S2
      | .ct en2 => whileM t f n en2 S2
      | .bk en2 => .ok (.nx en2) S2
      | .rt x => .ok (.rt x) S2
section
variable {cm : Cm} {X : Cx} {c : Expr} {body : List Stmt} {t : E Bool} {f : T} {pos : Pos}
theorem rs_while (n : Nat) (hp : PassesOwn (model X.prog X.w) X.A X.env X.xe) (hc : RT cm X c t) (hb : RSs cm X body f) : RS cm X (.While c body [] pos) (whileM t f n) := fun W tk m S H σ en D C h => by
  refine wS_of (ps_while hp pt_w pss_w) ?_
  refine ⟨fun k σ' H' => ∃ m' S' en', Cond (ct X cm) m' S' H' σ' en' ∧ PF (ct X cm) m' S' H' W (whileM t f k en' S') D, ⟨n, m, S, en, C, h⟩, ?_⟩
  rintro k σ' H' ⟨m', S', en', C', q⟩
  cases k with
  | zero => exact q.elim
  | succ k =>
    refine hc W tk m' S' H' σ' en' _ C' (PF.bind q fun b S1 x m1 H1 e1 A1 R1 r1 h1 => ?_)
    obtain rfl : b = x := r1
    cases b with
    | false => rw [if_neg Bool.false_ne_true]; exact PF.nx h1 (C'.adv A1 R1)
    | true =>
      rw [if_pos rfl]
      refine ⟨fun σ2 H2 => ∃ m2 S2 en2, Cond (ct X cm) m2 S2 H2 σ2 en2 ∧ PF (ct X cm) m2 S2 H2 W (whileM t f k en2 S2) D, fun σ2 H2 z => ⟨k, Nat.lt_succ_self k, z⟩, ?_⟩
      refine hb W tk m1 S1 H1 σ' en' _ (C'.adv A1 R1) ?_
      cases eb : f en' S1 with
      | bad => rw [eb] at h1; exact h1
      | err x' en2 S2 => rw [eb] at h1; exact h1
      | ok fl S2 =>
        rw [eb] at h1
        cases fl with
        | nx en2 => exact fun m3 σ4 H4 A4 C4 => ⟨m3, S2, en2, C4, PF.after A4 h1⟩
        | ct en2 => exact fun m3 σ4 H4 A4 C4 => ⟨m3, S2, en2, C4, PF.after A4 h1⟩
        | bk en2 => exact fun m3 σ4 H4 A4 C4 => h1 m3 σ4 H4 A4 C4
        | rt z => exact h1
end

/-! ### comprehensions -/
def wipeE (en : En) : List Nat → En
  | [] => en
  | v :: vs => (wipeE en vs).set v none
theorem wipeE_len (en : En) : ∀ vs : List Nat, (wipeE en vs).length = en.length
  | [] => rfl
  | v :: vs => by unfold wipeE; rw [List.length_set, wipeE_len en vs]
theorem Cond.wipe {cm : Ct} {m : Am} {S : So} {H : Hp} {σ : St} {en : En} (C : Cond cm m S H σ en) : ∀ vs : List Nat, Cond cm m S H (L2.wipe σ vs) (wipeE en vs)
  | [] => C
  | v :: vs => by
    have C' := Cond.wipe C vs
    refine ⟨C.rel, ?_, fun i d e => ?_⟩
    · show ((wipeE en vs).set v none).length = ((L2.wipe σ vs).set v none).length
      rw [List.length_set, List.length_set, C'.len]
    · show ∃ w, ((L2.wipe σ vs).set v none)[i]? = some (some w) ∧ _
      have e' : ((wipeE en vs).set v none)[i]? = some (some d) := e
      by_cases h : v = i
      · subst h
        by_cases hl : v < (wipeE en vs).length
        · rw [List.getElem?_set_self hl] at e'; cases e'
        · rw [List.getElem?_eq_none (by rw [List.length_set]; omega)] at e'; cases e'
      · rw [List.getElem?_set_ne h] at e' ⊢
        exact C'.env i d e'
theorem wipe_get (τ : St) (i : Nat) : ∀ vs : List Nat, (wipe τ vs)[i]? = if i ∈ vs then (if i < τ.length then some none else none) else τ[i]?
  | [] => by simp [wipe]
  | v :: vs => by
    show ((wipe τ vs).set v none)[i]? = _
    by_cases h : v = i
    · subst h
      by_cases hl : v < τ.length
      · rw [List.getElem?_set_self (by rw [wipe_length]; exact hl)]
        simp [hl]
      · rw [List.getElem?_eq_none (by rw [List.length_set, wipe_length]; omega)]
        simp [hl]
    · rw [List.getElem?_set_ne h, wipe_get τ i vs]
      simp [Ne.symm h]
theorem wipe_off {σ σ' : St} {ws vs : List Nat} (o : Off' ws σ σ') (hs : ∀ j ∈ ws, j ∈ vs) : wipe σ' vs = wipe σ vs := by
  apply List.ext_getElem?
  intro i
  rw [wipe_get, wipe_get, o.1]
  by_cases hi : i ∈ vs
  · simp [hi]
  · simp only [hi, if_false]
    exact o.2 i fun z => hi (hs i z)
theorem wipe_idem (σ : St) (vs : List Nat) : wipe (wipe σ vs) vs = wipe σ vs := by
  apply List.ext_getElem?
  intro i
  rw [wipe_get, wipe_get, wipe_length]
  by_cases hi : i ∈ vs
  · simp [hi]
  · simp only [hi, if_false]

noncomputable def compM (hold : Option Nat) (S0 : So) (g : TgD) (t : E Bool) (f : E D) (enw : En) : List D → List D → So → R (List D)
  | [], acc, S => .ok acc S
  | d :: l, acc, S => match g d enw S with
    | none => .bad
    | some en1 => match t en1 S with
      | .ok true S1 => match f en1 S1 with
        | .ok y S2 => if acc.length < sizeLine ∧ still hold S0 S2 = true then compM hold S0 g t f enw l (acc ++ [y]) S2 else .bad
        | _ => .bad
      | .ok false S1 => if still hold S0 S1 = true then compM hold S0 g t f enw l acc S1 else .bad
      | _ => .bad
/-- as a value; as a cell -/
noncomputable def mComp (fi : E Src) (g : TgD) (t : E Bool) (f : E D) (vs : List Nat) : E D := fun en S => (fi en S).bind fun src S1 => (compM src.hold S1 g t f (wipeE en vs) src.items [] S1).bind fun l S2 => .ok (.lst l) S2
noncomputable def mCompN (fi : E Src) (g : TgD) (t : E Bool) (f : E D) (vs : List Nat) : E D := fun en S => (fi en S).bind fun src S1 => (compM src.hold S1 g t f (wipeE en vs) src.items [] S1).bind fun l S2 => .ok (.ref S2.length) (S2 ++ [some (.lst l)])
def tT : E Bool := fun _ S => .ok true S
def wTs (X : Cx) (ifs : List Expr) : TT := fun σ H Q => ∀ pins s, Inv X pins σ H s →
    wpAny (model X.prog X.w) X.A (forIn ifs true fun c r => if r = true then do let ok ← isTrue c X.env (eval c X.env); pure (ForInStep.yield ok) else pure (ForInStep.yield r)) (TP X pins σ Q) X.xe s
theorem wTs_of {X : Cx} {ifs : List Expr} {t : TT} {σ : St} {H : Hp} {Q : Bool → Hp → Prop} (h : PTs X ifs t) (q : t σ H Q) : wTs X ifs σ H Q := fun pins s I => h.run pins s σ H Q I q
def RTs (cm : Cm) (X : Cx) (ifs : List Expr) (f : E Bool) : Prop := ∀ W, Takes X W → ∀ m S H σ en Q, Cond (ct X cm) m S H σ en → PQ rB (ct X cm) m S H σ W (f en S) Q → wTs X ifs σ H Q
section
variable {cm : Cm} {X : Cx} {c : Expr} {t : E Bool}
theorem rts_nil : RTs cm X [] tT := fun W tk m S H σ en Q C h => wTs_of pts_nil (PQ.now h C.rel rfl)
theorem rts_one (h : RT cm X c t) : RTs cm X [c] t := fun W tk m S H σ en Q C q => wTs_of (pts_one pt_w) (h W tk m S H σ en Q C q)
end
/-- D hidden -/
def Am.hide (m : Am) (a : Addr) : Am := { m with hid := fun b => m.hid b ∨ b = a }
section
variable {cm : Ct} {m m1 : Am} {S S1 : So} {H H1 : Hp} {a : Addr} {xs : List V} {u : HO}
theorem hide_adv (h : H a = none) : Adv m S H (m.hide a) S (upd H a u) where
  len := Nat.le_refl _
  mm := fun _ _ => rfl
  al := fun n o e => .inl ⟨(List.getElem?_eq_some_iff.mp e).1, o, e⟩
  fr := fun b o e _ => .inl (grow_upd h b o e)
  tr := fun b e z => by
    by_cases c : b = a
    · subst c; exact e h
    · rw [upd_ne c] at z; exact e z
  tp := fun b xs e => grow_upd h b _ e
  fz := fun b o u e => grow_upd h b _ e
  hd1 := fun b z => .inl z
  hd2 := fun b z => z.elim .inl fun q => .inr (by rw [q]; exact h)
theorem hide_rel (R : RelS cm m S H) (h : H a = none) : RelS cm (m.hide a) S (upd H a u) := by
  have A : Adv m S H (m.hide a) S (upd H a u) := hide_adv h
  refine ⟨fun n o e => (R.at_ n o e).kp A.kp (upd_ne (R.off_new h n o e)), R.inj, fun b z => ?_, fun b z => z.elim (R.hoff b) fun q => by rw [q]; exact R.off_new h⟩
  rcases z with z | z
  · exact A.tr b (R.hid b z)
  · subst z
    rw [upd_same]
    exact fun q => by cases q
/-- the hidden list is written -/
theorem hid_kp (hh : m.hid a) (e : H a = some (.lst xs)) {ys : List V} : Kp m S H m S (upd H a (.lst ys)) := by
  have ne : ∀ b o, H b = some o → (∀ zs, o ≠ .lst zs) → b ≠ a := fun b o q n z => by
    subst z; rw [e] at q; exact n xs (Option.some.inj q).symm
  refine ⟨fun b o q f => ⟨?_, f⟩, fun b zs q => ?_, fun b o v q => ?_, Nat.le_refl _, fun _ _ => rfl⟩
  · unfold Sm; rw [upd_ne fun z => f.2 (by rw [z]; exact hh)]; exact .inl q
  · rw [upd_ne (ne b _ q fun _ z => by cases z)]; exact q
  · rw [upd_ne (ne b _ q fun _ z => by cases z)]; exact q
theorem hid_rel (R : RelS cm m S H) (hh : m.hid a) (o : Off m S a) (e : H a = some (.lst xs)) {ys : List V} : RelS cm m S (upd H a (.lst ys)) := by
  refine ⟨fun n u q => (R.at_ n u q).kp (hid_kp hh e) (upd_ne (o n u q)), R.inj, fun b z => ?_, R.hoff⟩
  by_cases c : b = a
  · subst c; rw [upd_same]; exact fun q => by cases q
  · rw [upd_ne c]; exact R.hid b z
theorem hid_adv (A : Adv m S H m1 S1 H1) (h : H a = none) {ys : List V} (k : ∃ u, H1 a = some (.lst u)) : Adv m S H m1 S1 (upd H1 a (.lst ys)) where
  len := A.len
  mm := A.mm
  al := A.al
  fr := fun b o e f => by unfold Sm; rw [upd_ne (ne_of_none e h)]; exact A.fr b o e f
  tr := fun b e z => by
    by_cases c : b = a
    · subst c; rw [upd_same] at z; cases z
    · rw [upd_ne c] at z; exact A.tr b e z
  tp := fun b xs e => by rw [upd_ne (ne_of_none e h)]; exact A.tp b xs e
  fz := fun b o u e => by rw [upd_ne (ne_of_none e h)]; exact A.fz b o u e
  hd1 := A.hd1
  hd2 := A.hd2
/-- shown at the end -/
def Am.show (m : Am) (m0 : Am) : Am := { m with hid := m0.hid }
theorem show_kp (A : Adv m S H m1 S1 H1) : Kp m1 S1 H1 (m1.show m) S1 H1 := ⟨fun b o e f => ⟨.inl e, f.1, fun z => f.2 (A.hd1 b z)⟩, fun _ _ e => e, fun _ _ _ e => e, Nat.le_refl _, fun _ _ => rfl⟩
theorem show_rel (A : Adv m S H m1 S1 H1) (R : RelS cm m1 S1 H1) : RelS cm (m1.show m) S1 H1 := ⟨fun n o e => (R.at_ n o e).kp (show_kp A) rfl, R.inj, fun b z => R.hid b (A.hd1 b z), fun b z => R.hoff b (A.hd1 b z)⟩
theorem show_adv (A : Adv m S H m1 S1 H1) : Adv m S H (m1.show m) S1 H1 := ⟨A.len, A.mm, A.al, A.fr, A.tr, A.tp, A.fz, fun _ h => h, fun _ h => .inl h⟩
end
def rL (cm : Ct) : Rp (List D) Addr := fun m S H l a => ∃ vs, H a = some (.lst vs) ∧ Reps cm m S H l vs
/-- what a comprehension leaves: the list at a new place -/
def PC' (cm : Ct) (m : Am) (S : So) (H : Hp) (r : R (List D)) (Q : Addr → Hp → Prop) : Prop := match r with
  | .ok l S' => ∀ a m' H' vs, Adv m S H m' S' H' → RelS cm m' S' H' → H a = none → H' a = some (.lst vs) → Free m' S' a → Reps cm m' S' H' l vs → Q a H'
  | _ => False
section
variable {cm : Cm} {X : Cx} {elt tg iter : Expr} {ifs : List Expr} {scope : Scope} {own : List (Str × Nat)} {pos : Pos} {fi : E Src} {g : TgD} {t : E Bool} {f : E D} {ws : List Nat}
def bG (X : Cx) (scope : Scope) (tg : Expr) : TG := fun v σ H Q => ∀ (s : Shared) (H0 : Hp) (C : Addr) (cl : List (Str × Addr)) (fp : List Addr), wG (X.blk s H0 scope (compEnvC scope cl C X.env) fp) tg v σ H Q
def bT (X : Cx) (scope : Scope) (ifs : List Expr) : TT := fun σ H Q => ∀ (s : Shared) (H0 : Hp) (C : Addr) (cl : List (Str × Addr)) (fp : List Addr), wTs (X.blk s H0 scope (compEnvC scope cl C X.env) fp) ifs σ H Q
def bE (X : Cx) (scope : Scope) (e : Expr) : TE := fun σ H Q => ∀ (s : Shared) (H0 : Hp) (C : Addr) (cl : List (Str × Addr)) (fp : List Addr), wE (X.blk s H0 scope (compEnvC scope cl C X.env) fp) e σ H Q
theorem comp_run
    (hg : ∀ (s : Shared) (H : Hp) (C : Addr) (cl : List (Str × Addr)) (fp : List Addr), RG cm (X.blk s H scope (compEnvC scope cl C X.env) fp) tg g ws)
    (ht : ∀ (s : Shared) (H : Hp) (C : Addr) (cl : List (Str × Addr)) (fp : List Addr), RTs cm (X.blk s H scope (compEnvC scope cl C X.env) fp) ifs t)
    (he : ∀ (s : Shared) (H : Hp) (C : Addr) (cl : List (Str × Addr)) (fp : List Addr), RE cm (X.blk s H scope (compEnvC scope cl C X.env) fp) elt f)
    (hw : ∀ j ∈ ws, j ∈ own.map (·.2)) {m1 : Am} {S1 : So} {H1 : Hp} {σ : St} {en : En} {src : Src} {J : It} {Q : VK} (C : Cond (ct X cm) m1 S1 H1 σ en) (wj : WalkJ (ct X cm) J src m1 S1 H1)
    (h : PC' (ct X cm) m1 S1 H1 (compM src.hold S1 g t f (wipeE en (own.map (·.2))) src.items [] S1) (fun a => Q (.ref a))) :
    ∀ D, H1 D = none → ∃ W : Nat → Nat → Hp → Prop, (∃ m, W 0 m (upd H1 D (.lst []))) ∧ ∀ i m H, W i m H →
      (J.stop i H ∧ Q (.ref D) H) ∨ (J.go i H ∧ ∃ Nx : Hp → Prop, (∀ H', Nx H' → ∃ m', m' < m ∧ W (i + 1) m' H') ∧ ∀ x H', J.yld i H x H' → bG X scope tg x (wipe σ (own.map (·.2))) H' fun σ2 H2 => wipe σ2 (own.map (·.2)) = wipe σ (own.map (·.2)) ∧ bT X scope ifs σ2 H2 fun b H3 =>
        if b = true then bE X scope elt σ2 H3 fun y H4 => ∃ acc, H4 D = some (.lst acc) ∧ acc.length < sizeLine ∧ Nx (upd H4 D (.lst (acc ++ [y]))) else Nx H3) := by
  intro D hD
  generalize hvs : own.map (·.2) = vs at *
  refine ⟨fun i μ H' => μ = src.items.length - i ∧ i ≤ src.items.length ∧ ∃ m' S' acc accV, Adv m1 S1 H1 m' S' H' ∧ RelS (ct X cm) m' S' H' ∧ m'.hid D ∧ Off m' S' D ∧ H' D = some (.lst accV) ∧ Reps (ct X cm) m' S' H' acc accV ∧ still src.hold S1 S' = true ∧
      PC' (ct X cm) m1 S1 H1 (compM src.hold S1 g t f (wipeE en vs) (src.items.drop i) acc S') (fun a => Q (.ref a)),
    ⟨_, rfl, Nat.zero_le _, m1.hide D, S1, [], [], hide_adv hD, hide_rel C.rel hD, .inr rfl, (C.rel.off_new hD : Off m1 S1 D), upd_same, Reps.nil, still_same fun _ _ => rfl, by rw [List.drop_zero]; exact h⟩, ?_⟩
  rintro i μ H' ⟨rfl, hi', m', S', acc, accV, A', R', hid, off, hL, rl, st, hq⟩
  obtain ⟨w1, w2⟩ := wj m' S' H' A' R' st
  by_cases hlt : i < src.items.length
  · have ed : src.items[i]? = some src.items[i] := List.getElem?_eq_getElem hlt
    obtain ⟨go, yl⟩ := w1 i _ ed
    rw [List.drop_eq_getElem_cons hlt] at hq
    unfold compM at hq
    cases eg : g src.items[i] (wipeE en vs) S' with
    | none => simp only [eg] at hq; exact hq.elim
    | some en1 =>
      simp only [eg] at hq
      refine .inr ⟨go, fun H2 => ∃ m2 S2 acc2 accV2, Adv m1 S1 H1 m2 S2 H2 ∧ RelS (ct X cm) m2 S2 H2 ∧ m2.hid D ∧ Off m2 S2 D ∧ H2 D = some (.lst accV2) ∧ Reps (ct X cm) m2 S2 H2 acc2 accV2 ∧ still src.hold S1 S2 = true ∧
          PC' (ct X cm) m1 S1 H1 (compM src.hold S1 g t f (wipeE en vs) (src.items.drop (i + 1)) acc2 S2) (fun a => Q (.ref a)),
        fun H2 z => ⟨src.items.length - (i + 1), by omega, rfl, by omega, z⟩, fun x H2 y => ?_⟩
      obtain ⟨k, rx⟩ := yl x H2 y
      have A2 : Adv m' S' H' m' S' H2 := Adv.grow k
      have R2 := R'.grow k
      have C2 : Cond (ct X cm) m' S' H2 (wipe σ vs) (wipeE en vs) := ((C.adv A' R').adv A2 R2).wipe vs
      intro s H0 Cb cl fp
      refine hg s H0 Cb cl fp m' S' H2 (wipe σ vs) (wipeE en vs) _ x en1 _ C2 rx eg fun σ3 C3 o3 => ⟨?_, ?_⟩
      · have e1 := wipe_off o3 hw
        rw [e1]
        exact wipe_idem σ vs
      · intro s H0 Cb cl fp
        have offD : ∀ {m5 : Am} {S5 : So} {H5 : Hp}, Adv m' S' H2 m5 S5 H5 → H5 D = some (.lst accV) ∧ Off m5 S5 D ∧ m5.hid D := fun A5 => ⟨(A5.fr D _ (k D _ hL) off).lst, A5.off (k D _ hL) off, A5.hd1 D hid⟩
        cases et : t en1 S' with
        | bad => simp only [et] at hq; exact hq.elim
        | err _ _ _ => simp only [et] at hq; exact hq.elim
        | ok b S3 =>
          refine ht s H0 Cb cl fp (fun _ _ _ _ => False) takes0 m' S' H2 σ3 en1 _ C3 ?_
          rw [et]
          intro b' m3 H3 A3 R3 eb
          obtain rfl : b = b' := eb
          cases b with
          | false =>
            rw [if_neg Bool.false_ne_true]
            simp only [et] at hq
            split at hq
            · rename_i st3
              obtain ⟨o1, o2, o3'⟩ := offD A3
              exact ⟨m3, S3, acc, accV, (A'.trans A2).trans A3, R3, o3', o2, o1, Reps.adv (A2.trans A3) _ _ rl, st3, hq⟩
            · exact hq.elim
          | true =>
            rw [if_pos rfl]
            simp only [et] at hq
            cases ef : f en1 S3 with
            | bad => simp only [ef] at hq; exact hq.elim
            | err _ _ _ => simp only [ef] at hq; exact hq.elim
            | ok yv S4 =>
              intro s H0 Cb cl fp
              refine he s H0 Cb cl fp (fun _ _ _ _ => False) takes0 m3 S3 H3 σ3 en1 _ (C3.adv A3 R3) ?_
              rw [ef]
              intro v m4 H4 A4 R4 rv
              simp only [ef] at hq
              split at hq
              · rename_i st4
                obtain ⟨o1, o2, o3'⟩ := offD (A3.trans A4)
                have rl4 := Reps.adv ((A2.trans A3).trans A4) _ _ rl
                refine ⟨accV, o1, by rw [← rl4.length]; exact st4.1, m4, S4, acc ++ [yv], accV ++ [v], hid_adv (((A'.trans A2).trans A3).trans A4) hD ⟨_, o1⟩, hid_rel R4 o3' o2 o1, o3', o2, upd_same, ?_, st4.2, hq⟩
                exact Reps.kp (hid_kp o3' o1) _ _ (rl4.append (Reps.cons rv Reps.nil))
              · exact hq.elim
  · have e : i = src.items.length := by omega
    subst e
    rw [List.drop_length] at hq
    refine .inl ⟨w2, hq D (m'.show m1) H' accV (show_adv A') (show_rel A' R') hD hL ⟨off, fun z => C.rel.hid D z hD⟩ (Reps.kp (show_kp A') _ _ rl)⟩
theorem PQ.pc {α : Type} {rp : Rp α V} {cm : Ct} {m : Am} {S : So} {H : Hp} {σ : St} {W : WX} {r : R (List D)} {k : List D → So → R α} {Q : VK} (h : PQ rp cm m S H σ W (r.bind k) Q)
    (hn : ∀ x en' S', r ≠ .err x en' S') (hk : ∀ l S' a m' H' vs, Adv m S H m' S' H' → RelS cm m' S' H' → H a = none → H' a = some (.lst vs) → Free m' S' a → Reps cm m' S' H' l vs → PQ rp cm m' S' H' σ W (k l S') Q → Q (.ref a) H') :
    PC' cm m S H r (fun a => Q (.ref a)) := by
  cases r with
  | ok l S' => exact fun a m' H' vs A R h1 h2 h3 h4 => hk l S' a m' H' vs A R h1 h2 h3 h4 (PQ.after A h)
  | err x en' S' => exact (hn x en' S' rfl).elim
  | bad => exact h
theorem compM_noerr {hold : Option Nat} {S0 : So} {g : TgD} {t : E Bool} {f : E D} {enw : En} : ∀ {l acc : List D} {S : So} {x : Ex} {en' : En} {S' : So}, compM hold S0 g t f enw l acc S ≠ .err x en' S'
  | [], acc, S, x, en', S' => by unfold compM; exact fun z => by cases z
  | d :: l, acc, S, x, en', S' => by
    unfold compM
    split
    · exact fun z => by cases z
    · split
      · split
        · split
          · exact compM_noerr
          · exact fun z => by cases z
        · exact fun z => by cases z
      · split
        · exact compM_noerr
        · exact fun z => by cases z
      · exact fun z => by cases z
theorem re_comp (hc : X.calm = true) (hN : X.N.Nodup) (hi : RI cm X tg iter fi) (ok : BlkOk X.N X.env.scope scope own)
    (hg : ∀ (s : Shared) (H : Hp) (C : Addr) (cl : List (Str × Addr)) (fp : List Addr), RG cm (X.blk s H scope (compEnvC scope cl C X.env) fp) tg g ws)
    (ht : ∀ (s : Shared) (H : Hp) (C : Addr) (cl : List (Str × Addr)) (fp : List Addr), RTs cm (X.blk s H scope (compEnvC scope cl C X.env) fp) ifs t)
    (he : ∀ (s : Shared) (H : Hp) (C : Addr) (cl : List (Str × Addr)) (fp : List Addr), RE cm (X.blk s H scope (compEnvC scope cl C X.env) fp) elt f)
    (hw : ∀ j ∈ ws, j ∈ own.map (·.2) := by decide) (hs : ∀ x, foldedSetIterable iter X.env x = pure x := by intro _; rfl) :
    RE cm X (.ListComp elt [⟨tg, iter, ifs, 0⟩] scope pos) (mComp fi g t f (own.map (·.2))) := fun W tk m S H σ en Q C h => by
  refine wE_of (pe_lc (g := bG X scope tg) (tt := bT X scope ifs) (te := bE X scope elt) hc hN pi_w ok (fun s H0 Cb cl fp => ⟨fun pins s' σ H v u Q I r h => h s H0 Cb cl fp pins s' u I r⟩) (fun s H0 Cb cl fp => ⟨fun pins s' σ H Q I h => h s H0 Cb cl fp pins s' I⟩) (fun s H0 Cb cl fp => ⟨fun pins s' σ H Q I h => h s H0 Cb cl fp pins s' I⟩) hs) ?_
  refine hi W tk m S H σ en _ C (PQ.bind h fun src S1 J m1 H1 e1 A1 R1 wj h1 => ?_)
  refine comp_run (own := own) hg ht he hw (C.adv A1 R1) wj (PQ.pc h1 (fun _ _ _ => compM_noerr) fun l S' a m' H' vs A R h2 h3 h4 h5 h6 => ?_)
  refine PQ.now h6 R ?_
  simp only [Rep]
  exact ⟨a, vs, rfl, h3, h4, h5⟩
/-- y = [..] on one line -/
theorem rs_comp (i : Nat) {y : Str} {py spos : Pos} (hc : X.calm = true) (hN : X.N.Nodup) (hy : X.N[i]? = some y) (hyl : X.env.scope.names.lookup y = some .local)
    (hsw : swapsWith (.ListComp elt [⟨tg, iter, ifs, 0⟩] scope pos) (some (.Name y py)) spos.line X.env = pure true) (hi : RI cm X tg iter fi) (ok : BlkOk X.N X.env.scope scope own)
    (hg : ∀ (s : Shared) (H : Hp) (C : Addr) (cl : List (Str × Addr)) (fp : List Addr), RG cm (X.blk s H scope (compEnvC scope cl C X.env) fp) tg g ws)
    (ht : ∀ (s : Shared) (H : Hp) (C : Addr) (cl : List (Str × Addr)) (fp : List Addr), RTs cm (X.blk s H scope (compEnvC scope cl C X.env) fp) ifs t)
    (he : ∀ (s : Shared) (H : Hp) (C : Addr) (cl : List (Str × Addr)) (fp : List Addr), RE cm (X.blk s H scope (compEnvC scope cl C X.env) fp) elt f)
    (hw : ∀ j ∈ ws, j ∈ own.map (·.2) := by decide) (hs : ∀ x, foldedSetIterable iter X.env x = pure x := by intro _; rfl) :
    RS cm X (.Assign [.Name y py] (.ListComp elt [⟨tg, iter, ifs, 0⟩] scope pos) spos) (sSet i (mComp fi g t f (own.map (·.2)))) := fun W tk m S H σ en D C h => by
  refine wS_of (ps_setLc (g := bG X scope tg) (tt := bT X scope ifs) (te := bE X scope elt) hc hN hy hyl hsw pi_w ok (fun s H0 Cb cl fp => ⟨fun pins s' σ H v u Q I r h => h s H0 Cb cl fp pins s' u I r⟩) (fun s H0 Cb cl fp => ⟨fun pins s' σ H Q I h => h s H0 Cb cl fp pins s' I⟩) (fun s H0 Cb cl fp => ⟨fun pins s' σ H Q I h => h s H0 Cb cl fp pins s' I⟩) hs) ?_
  have h : PQ (Rep (ct X cm)) (ct X cm) m S H σ W (mComp fi g t f (own.map (·.2)) en S) (fun x H1 => gName i x σ H1 D.nx) := PF.bind h fun d S1 x m1 H1 e1 A1 R1 r1 h1 => h1.nx ((C.adv A1 R1).set i r1)
  refine hi W tk m S H σ en _ C (PQ.bind h fun src S1 J m1 H1 e1 A1 R1 wj h1 => ?_)
  refine comp_run (own := own) (Q := fun x H1 => gName i x σ H1 D.nx) hg ht he hw (C.adv A1 R1) wj (PQ.pc h1 (fun _ _ _ => compM_noerr) fun l S' a m' H' vs A R h2 h3 h4 h5 h6 => ?_)
  exact PQ.now (Q := fun x H1 => gName i x σ H1 D.nx) h6 R (by simp only [Rep]; exact ⟨a, vs, rfl, h3, h4, h5⟩)
end
end Mi


/-! Mi6: defs and calls. -/
namespace Mi
open PySem PySem.Spec PyProof.Rows L2

abbrev Fm := List D → So → R D
def PD (cm : Ct) (m : Am) (S : So) (H : Hp) (r : R D) (Q : VK) (E : XK) : Prop := match r with
  | .ok d S' => ∀ v m' H', Adv m S H m' S' H' → RelS cm m' S' H' → Rep cm m' S' H' d v → Q v H'
  | .err x _ S' => ∀ cls dd m' H', Adv m S H m' S' H' → RelS cm m' S' H' → RepX cm m' S' H' x cls dd → E cls dd H'
  | .bad => False
def spF (cm : Ct) (n : Nat) (F : Fm) : Sp := fun vs H Q E => vs.length = n ∧ ∃ m S ds, RelS cm m S H ∧ Reps cm m S H ds vs ∧ PD cm m S H (F ds S) Q E
def bodyR : R Fl → R D
  | .ok (.nx _) S' => .ok .non S'
  | .ok (.rt d) S' => .ok d S'
  | .ok _ _ => .bad
  | .err x _ S' => .err x [] S'
  | .bad => .bad
/-- a def's mirror: n slots, k parameters -/
def bodyM (n k : Nat) (f : T) : Fm := fun ds S => if ds.length = k then bodyR (f (ds.map some ++ List.replicate (n - k) none) S) else .bad
def R.at {α : Type} (en : En) : R α → R α
  | .err x _ S => .err x en S
  | r => r
def mCall (F : Fm) (fa : E (List D)) : E D := fun en S => (fa en S).bind fun ds S1 => (F ds S1).at en
def fBad : Fm := fun _ _ => .bad

section
variable {P : Program} {w : World} {K : PySem.W.Frag} {mg : Str → Option Value} {base : Heap} {cm : Cm}
def DefM (P : Program) (w : World) (K : PySem.W.Frag) (mg : Str → Option Value) (base : Heap) (cm : Cm) (k : Nat) (x : Str) (F : Fm) : Prop :=
  ∃ f fd ps, mg x = some (.ref f) ∧ PySem.W.keepIn K (.ref f) = true ∧ FnOk P w K mg base (L2.CX P w) k f fd ps (spF ⟨K, cm.cls, cm.exc⟩ ps.length F) ∧ Binds K fd ps [] ∧ ∀ ds S, ds.length ≠ ps.length → F ds S = .bad
theorem DefM.mono {j k : Nat} {x : Str} {F : Fm} (h : DefM P w K mg base cm j x F) (l : j ≤ k) : DefM P w K mg base cm k x F := let ⟨f, fd, ps, a, b, c, d⟩ := h; ⟨f, fd, ps, a, b, c.mono l, d⟩
/-- the text of a def, found -/
def Fnd (K : PySem.W.Frag) (mg : Str → Option Value) (x qual : Str) (st : Stmt) (ps : List Str) : Prop := ∃ f fd, mg x = some (.ref f) ∧ Fun K x qual st f fd ∧ Binds K fd ps []
theorem spF_bad {f : Addr} {fd : FuncData} {ps : List Str} {k : Nat} {ct : Ct} : FnOk P w K mg base (L2.CX P w) k f fd ps (spF ct ps.length fBad) := ⟨fun _ _ _ _ h => h.1, fun _ _ _ _ _ _ _ _ _ _ _ _ _ h => by
  obtain ⟨_, _, _, _, _, _, z⟩ := h
  exact z.elim⟩
theorem DefM.zero {x qual : Str} {st : Stmt} {ps : List Str} (F : Fnd K mg x qual st ps) : DefM P w K mg base cm 0 x fBad :=
  let ⟨f, fd, a, b, c⟩ := F
  ⟨f, fd, ps, a, b.kp, spF_bad, c, fun _ _ _ => rfl⟩
theorem cond_start {cm : Ct} {m : Am} {S : So} {H : Hp} {ds : List D} {vs : List V} {N : List Str} (R : RelS cm m S H) (h : Reps cm m S H ds vs) : Cond cm m S H (L2.start N vs) (ds.map some ++ List.replicate (N.length - ds.length) none) := by
  have hl := h.length
  refine ⟨R, by unfold L2.start; simp [hl], fun i d e => ?_⟩
  by_cases hi : i < ds.length
  · rw [List.getElem?_append_left (by simpa using hi), List.getElem?_map] at e
    cases q : ds[i]? with
    | none => rw [q] at e; cases e
    | some d' =>
      rw [q] at e
      cases e
      obtain ⟨v, h1, h2⟩ := h.get q
      refine ⟨v, ?_, h2⟩
      unfold L2.start
      rw [List.getElem?_append_left (by simpa using (List.getElem?_eq_some_iff.mp h1).1), List.getElem?_map, h1]
      rfl
  · rw [List.getElem?_append_right (by simpa using hi), List.getElem?_replicate] at e
    split at e <;> cases e
theorem fnm_of {x qual : Str} {st : Stmt} {f : Addr} {fd : FuncData} {N ps : List Str} {k : Nat} {g : T} (b : Fun K x qual st f fd) (S : FnScope N ps (defScope st))
    (hb : ∀ (f : Addr) (cdv : Value) (A : Around) (outer : List Env) (s : Shared) (H : Hp) (E : XK), Room k (A.deeper (envOfC qual (defScope st) s.heap.objs.size f cdv)) →
      RSs cm (cxOf (L2.CX P w) P w K mg base N qual (defScope st) f cdv A outer s H E) (defBody st) g) : FnOk P w K mg base (L2.CX P w) (k + 1) f fd ps (spF ⟨K, cm.cls, cm.exc⟩ ps.length (bodyM N.length ps.length g)) := by
  refine b.okX S (fun _ _ _ _ h => h.1) (fun cdv A outer s H vs Q E hr hsp => ?_)
  obtain ⟨hl, m, S1, ds, R, rs, h⟩ := hsp
  refine ⟨_, pss_w, ?_⟩
  have hl2 : ds.length = ps.length := by rw [← hl]; exact rs.length
  unfold bodyM at h
  rw [if_pos hl2] at h
  refine hb f cdv A outer s H E hr (fun cls d _ H => E cls d H) (takes_of rfl rfl rfl rfl) m S1 H _ (ds.map some ++ List.replicate (N.length - ps.length) none) _ (by rw [← hl2]; exact cond_start R rs) ?_
  revert h
  cases g (ds.map some ++ List.replicate (N.length - ps.length) none) S1 with
  | bad => exact fun h => h.elim
  | err x en' S' => exact fun h cls dd m' σ' H' A' C' X' => h cls dd m' H' A' C'.rel X'
  | ok fl S' =>
    cases fl with
    | nx en' => exact fun h m' σ' H' A' C' => h .non m' H' A' C'.rel (by simp only [Rep])
    | rt d => exact fun h v m' H' A' R' r' => h v m' H' A' R' r'
    | bk _ => exact fun h => h.elim
    | ct _ => exact fun h => h.elim
theorem DefM.of {x qual : Str} {st : Stmt} {N ps : List Str} {k : Nat} {g : T} (F : Fnd K mg x qual st ps) (S : FnScope N ps (defScope st))
    (hb : ∀ (f : Addr) (cdv : Value) (A : Around) (outer : List Env) (s : Shared) (H : Hp) (E : XK), Room k (A.deeper (envOfC qual (defScope st) s.heap.objs.size f cdv)) →
      RSs cm (cxOf (L2.CX P w) P w K mg base N qual (defScope st) f cdv A outer s H E) (defBody st) g) : DefM P w K mg base cm (k + 1) x (bodyM N.length ps.length g) := by
  obtain ⟨f, fd, a, b, c⟩ := F
  exact ⟨f, fd, ps, a, b.kp, fnm_of b S hb, c, fun ds S' h => by unfold bodyM; rw [if_neg h]⟩
end
section
variable {cm : Cm} {X : Cx} {k : Nat} {x : Str} {F : Fm} {p pos : Pos} {e : Expr} {es : List Expr} {fa : E (List D)}
theorem PQ.pd {cm : Ct} {m : Am} {S : So} {H : Hp} {σ : St} {en : En} {W : WX} {r : R D} {Q : VK} (C : Cond cm m S H σ en) (h : PQ (Rep cm) cm m S H σ W (r.at en) Q) : PD cm m S H r Q (WE W σ) := by
  cases r with
  | ok d S' => exact h
  | err x en' S' => exact fun cls dd m' H' A R rx => h cls dd m' H' A (C.adv A R) rx
  | bad => exact h
theorem re_call (Dm : DefM X.prog X.w X.K X.mg X.base cm k x F) (hr : Room k X.A) (hg : Gl X x) (ha : RA cm X (e :: es) fa) (hdb : (x == ("__debug__" : Str)) = false := by decide)
    (he : starEach (e :: es) X.env = (false, eval e X.env) :: starEach es X.env := by rfl) (hpl : (backTo pos (starEach es X.env)).any (·.1) = false := by rfl) :
    RE cm X (.Call (.Name x p) (e :: es) [] pos) (mCall F fa) := fun W tk m S H σ en Q C h => by
  obtain ⟨f, fd, ps, hm, hk, hF, hb, hbad⟩ := Dm
  refine wE_of (pe_callS hF hr hg hm hk hb (passAt tk) pa_w hdb he hpl) ?_
  refine ha W tk m S H σ en _ C (PQ.bind h fun ds S1 vs m1 H1 e1 A1 R1 rs h1 => ?_)
  have hl : ds.length = ps.length := by
    by_cases q : ds.length = ps.length
    · exact q
    · rw [hbad ds S1 q] at h1
      exact h1.elim
  exact ⟨by rw [← hl]; exact rs.length.symm, m1, S1, ds, R1, rs, h1.pd (C.adv A1 R1)⟩
theorem pe_callS0 {CX : CXT} {f : Addr} {fd : FuncData} {ps : List Str} {sp : Sp} {E : St → XK} (Fo : FnOk X.prog X.w X.K X.mg X.base CX k f fd ps sp) (hr : Room k X.A) (hg : Gl X x) (hm : X.mg x = some (.ref f)) (hk : PySem.W.keepIn X.K (.ref f) = true) (hb : Binds X.K fd ps []) (hx : ∀ σ, PassesAt CX X σ (E σ))
    (hdb : (x == ("__debug__" : Str)) = false := by decide) : PE X (.Call (.Name x p) [] [] pos) (tCallS sp E tNil) := by
  refine ⟨fun pins s σ H Q I h => ?_⟩
  refine wpAny_Call_Name_kw (ld_glob I hg hm ?_ hdb)
  exact PySem.W.callWith_K0 I.kIn hk (run_fnS (us := []) Fo hr hb (hx σ) I .nil h)
theorem re_call0 (Dm : DefM X.prog X.w X.K X.mg X.base cm k x F) (hr : Room k X.A) (hg : Gl X x) (hdb : (x == ("__debug__" : Str)) = false := by decide) :
    RE cm X (.Call (.Name x p) [] [] pos) (mCall F aNil) := fun W tk m S H σ en Q C h => by
  obtain ⟨f, fd, ps, hm, hk, hF, hb, hbad⟩ := Dm
  refine wE_of (pe_callS0 hF hr hg hm hk hb (passAt tk) hdb) ?_
  have h1 : PQ (Rep (ct X cm)) (ct X cm) m S H σ W ((F [] S).at en) Q := h
  have hl : ([] : List D).length = ps.length := by
    by_cases q : ([] : List D).length = ps.length
    · exact q
    · rw [hbad [] S q] at h1
      exact h1.elim
  exact ⟨hl, m, S, [], C.rel, Reps.nil, h1.pd C⟩
end
end Mi


/-! Mi7: calls of built-ins. -/
namespace Mi
open PySem PySem.Spec PyProof.Rows L2

abbrev OpL := List D → So → Option (D × So)
def rW (X : Cx) (f : Value) : List V → Hp → VK → Prop := fun vs H Q => ∀ pins s σ us, Inv X pins σ H s → Vals vs us → wpAny (model X.prog X.w) X.A (call f us) (EP X pins σ Q) X.xe s
theorem call_w {X : Cx} {f : Value} : CallR X f (rW X f) := fun pins s σ H vs us Q I r h => h pins s σ us I r
theorem rW_of {X : Cx} {f : Value} {r : List V → Hp → VK → Prop} {vs : List V} {H : Hp} {Q : VK} (h : CallR X f r) (q : r vs H Q) : rW X f vs H Q := fun pins s σ us I rv => h pins s σ H vs us Q I rv q
def CallD (cm : Cm) (X : Cx) (f : Value) (g : OpL) : Prop := ∀ m S H ds vs Q, RelS (ct X cm) m S H → Reps (ct X cm) m S H ds vs → POk (Rep (ct X cm)) (ct X cm) m S H (g ds S) Q → rW X f vs H Q
def mB (g : OpL) (fa : E (List D)) : E D := fun en S => (fa en S).bind fun l S1 => R.of (g l S1)
section
variable {cm : Cm} {X : Cx} {x : Str} {p pos : Pos} {e : Expr} {es : List Expr} {fa : E (List D)} {id T : String} {g : OpL}
theorem re_b (hc : CallD cm X (.builtin id) g) (hg : Gl X x) (hm : X.mg x = none) (hv : bootBuiltins x = some (.builtin id)) (ha : RA cm X (e :: es) fa) (hn : x ≠ "__name__" := by decide) (hdb : (x == ("__debug__" : Str)) = false := by decide)
    (he : starEach (e :: es) X.env = (false, eval e X.env) :: starEach es X.env := by rfl) (hpl : (backTo pos (starEach es X.env)).any (·.1) = false := by rfl) : RE cm X (.Call (.Name x p) (e :: es) [] pos) (mB g fa) := fun W tk m S H σ en Q C h => by
  refine wE_of (pe_callB call_w hg hm hv pa_w hn hdb he hpl) ?_
  refine ha W tk m S H σ en _ C (PQ.bind h fun ds S1 vs m1 H1 e1 A1 R1 rs h1 => ?_)
  exact hc m1 S1 H1 ds vs _ R1 rs h1.pok
theorem re_ty (hc : CallD cm X (.type T) g) (hg : Gl X x) (hm : X.mg x = none) (hv : bootBuiltins x = some (.type T)) (ha : RA cm X (e :: es) fa) (hn : x ≠ "__name__" := by decide) (hdb : (x == ("__debug__" : Str)) = false := by decide)
    (he : starEach (e :: es) X.env = (false, eval e X.env) :: starEach es X.env := by rfl) (hpl : (backTo pos (starEach es X.env)).any (·.1) = false := by rfl) : RE cm X (.Call (.Name x p) (e :: es) [] pos) (mB g fa) := fun W tk m S H σ en Q C h => by
  refine wE_of (pe_callTy call_w hg hm hv pa_w hn hdb he hpl) ?_
  refine ha W tk m S H σ en _ C (PQ.bind h fun ds S1 vs m1 H1 e1 A1 R1 rs h1 => ?_)
  exact hc m1 S1 H1 ds vs _ R1 rs h1.pok
theorem reps1 {cm : Ct} {m : Am} {S : So} {H : Hp} {d : D} {vs : List V} (r : Reps cm m S H [d] vs) : ∃ x, vs = [x] ∧ Rep cm m S H d x := by
  simp only [Reps] at r
  obtain ⟨v, r, e, h, e2⟩ := r
  subst e2
  exact ⟨v, e, h⟩
theorem reps2 {cm : Ct} {m : Am} {S : So} {H : Hp} {d d' : D} {vs : List V} (r : Reps cm m S H [d, d'] vs) : ∃ x y, vs = [x, y] ∧ Rep cm m S H d x ∧ Rep cm m S H d' y := by
  simp only [Reps] at r
  obtain ⟨v, r, e, h, w, r', e2, h2, e3⟩ := r
  subst e3 e2
  exact ⟨v, w, e, h, h2⟩
end

/-! ### numbers -/
def bAbs : OpL := fun l S => match l with
  | [.int i] => some (.int (if i < 0 then -i else i), S)
  | _ => none
def bInt : OpL := fun l S => match l with
  | [.int i] => some (.int i, S)
  | [.bl b] => some (.int (if b then 1 else 0), S)
  | _ => none
def bMax : OpL := fun l S => match l with
  | [.int i, .int j] => some (.int (if j > i then j else i), S)
  | _ => none
def bMin : OpL := fun l S => match l with
  | [.int i, .int j] => some (.int (if j < i then j else i), S)
  | _ => none
section
variable {cm : Cm} {X : Cx}
theorem cd_abs : CallD cm X (.builtin "abs") bAbs := fun m S H ds vs Q R r h => by
  unfold bAbs at h
  split at h
  · obtain ⟨x, rfl, rx⟩ := reps1 r
    simp only [Rep] at rx
    exact rW_of call_abs ⟨_, by rw [rx], h.int R⟩
  · exact h.no.elim
theorem cd_int : CallD cm X (.type "int") bInt := fun m S H ds vs Q R r h => by
  unfold bInt at h
  split at h
  · obtain ⟨x, rfl, rx⟩ := reps1 r
    simp only [Rep] at rx
    exact rW_of call_int1 (.inl ⟨_, by rw [rx], h.int R⟩)
  · obtain ⟨x, rfl, rx⟩ := reps1 r
    simp only [Rep] at rx
    exact rW_of call_int1 (.inr ⟨_, by rw [rx], h.int R⟩)
  · exact h.no.elim
theorem cd_max (hc : X.calm = true) : CallD cm X (.builtin "max") bMax := fun m S H ds vs Q R r h => by
  unfold bMax at h
  split at h
  · obtain ⟨x, y, rfl, rx, ry⟩ := reps2 r
    simp only [Rep] at rx ry
    exact rW_of (call_max2 hc) ⟨_, _, by rw [rx, ry], h.int R⟩
  · exact h.no.elim
theorem cd_min (hc : X.calm = true) : CallD cm X (.builtin "min") bMin := fun m S H ds vs Q R r h => by
  unfold bMin at h
  split at h
  · obtain ⟨x, y, rfl, rx, ry⟩ := reps2 r
    simp only [Rep] at rx ry
    exact rW_of (call_min2 hc) ⟨_, _, by rw [rx, ry], h.int R⟩
  · exact h.no.elim
end

/-! ### len, all, any, tuple, list -/
def bLen : OpL := fun l S => match l with
  | [.str z] => if z.length ≤ sizeLine then some (.int z.length, S) else none
  | [d] => match seqOf d S with
    | some l => some (.int l.length, S)
    | none => match dctOf d S with
      | some (ks, _) => some (.int ks.length, S)
      | none => none
  | _ => none
def blsOf : List D → Option (List Bool)
  | [] => some []
  | .bl b :: l => (blsOf l).map (b :: ·)
  | _ => none
def bAll : OpL := fun l S => match l with
  | [d] => match lstOf d S with
    | some l => (blsOf l).map fun bs => (.bl (bs.all id), S)
    | none => none
  | _ => none
def bAny : OpL := fun l S => match l with
  | [d] => match lstOf d S with
    | some l => (blsOf l).map fun bs => (.bl (bs.any id), S)
    | none => none
  | _ => none
/-- tuple(list) -/
def bTup : OpL := fun l S => match l with
  | [.tup l] => some (.tup l, S)
  | [d] => (lstOf d S).map fun l => (.tup l, S)
  | _ => none
def sgns (x : Str) : List D := x.cps.toList.map fun c => D.str ⟨#[c]⟩
/-- list(xs), a value; a cell -/
def itmsOf (d : D) (S : So) : Option (List D) := seqOf d S
def bLst : OpL := fun l S => match l with
  | [d] => (itmsOf d S).map fun l => (.lst l, S)
  | _ => none
def bLstN : OpL := fun l S => match l with
  | [d] => (itmsOf d S).map fun l => (.ref S.length, S ++ [some (.lst l)])
  | _ => none
theorem reps_bls {cm : Ct} {m : Am} {S : So} {H : Hp} : ∀ {l : List D} {bs : List Bool} {vs : List V}, blsOf l = some bs → Reps cm m S H l vs → vs = bs.map V.bl
  | [], bs, vs, e, r => by
    simp only [blsOf, Option.some.injEq] at e
    subst e
    simp only [Reps] at r
    exact r
  | d :: l, bs, vs, e, r => by
    simp only [Reps] at r
    obtain ⟨v, r, rfl, h1, h2⟩ := r
    cases d with
    | bl b =>
      simp only [blsOf, Option.map_eq_some_iff] at e
      obtain ⟨bs', e1, rfl⟩ := e
      simp only [Rep] at h1
      rw [h1, reps_bls e1 h2]
      rfl
    | _ => simp [blsOf] at e
theorem vals_of_get : ∀ {xs : List V} {us : List Value}, xs.length = us.length → (∀ (j : Nat) (v : Value), us[j]? = some v → ∃ x : V, xs[j]? = some x ∧ RelV x v) → Vals xs us
  | [], [], _, _ => .nil
  | x :: xs, u :: us, hl, h => by
    obtain ⟨y, e, r⟩ := h 0 u rfl
    cases e
    exact .cons r (vals_of_get (by simpa using hl) fun j v e => by
      obtain ⟨y, e1, r1⟩ := h (j + 1) v (by simpa using e)
      exact ⟨y, by simpa using e1, r1⟩)
section
variable {cm : Ct} {m : Am} {S : So} {H : Hp} {l : List D}
theorem POk.cell {p : Addr} {u : HO} {o : Ob} {Q : VK} (h : POk (Rep cm) cm m S H (some (.ref S.length, S ++ [some o])) Q) (R : RelS cm m S H) (hp : H p = none)
    (ho : ∀ m' S' H', Adv m S H m' S' H' → H' p = some u → ObAt cm m' S' H' p o) : Q (.ref p) (upd H p u) := PQ.cell (h [] (fun _ _ _ _ => False)) R hp ho
theorem POk.lstN {p : Addr} {vs : List V} {Q : VK} (h : POk (Rep cm) cm m S H (some (.ref S.length, S ++ [some (.lst l)])) Q) (R : RelS cm m S H) (hp : H p = none) (r : Reps cm m S H l vs) : Q (.ref p) (upd H p (.lst vs)) :=
  h.cell R hp fun m' S' H' A e => ⟨vs, e, Reps.adv A _ _ r⟩
end
theorem kv_len {kvs : List (Key × V)} {ks : List Key} (e : kvs.map (·.1) = ks) : ks.length = kvs.length := by rw [← e, List.length_map]
/-- len of a dict -/
theorem call_lenDk {X : Cx} : CallR X (.builtin "len") (fun xs H Q => ∃ p kvs, xs = [.ref p] ∧ Rd H p (.dK kvs) ∧ Q (.int (kvs.length : Nat)) H) := by
  intro pins s σ H xs us Q I r h
  obtain ⟨p, kvs, rfl, hd, q⟩ := h
  obtain ⟨u, rfl, rx⟩ := vals1 r
  cases rx
  have hl := line63
  have hs : sizeLine = 16777216 := sizeLine_eq
  obtain ⟨hz, hS, vs, r, m⟩ := dk_rd I.hok hd
  have hlen : kvs.length = vs.length := Paired.length r
  exact PySem.call_len_dict hS m (by omega) ⟨.int (kvs.length : Nat), H, I.tok _, ⟨_, by rw [hlen]⟩, q⟩
section
variable {cm : Cm} {X : Cx}
theorem cd_len : CallD cm X (.builtin "len") bLen := fun m S H ds vs Q R r h => by
  unfold bLen at h
  split at h
  · split at h
    · rename_i z hz
      obtain ⟨x, rfl, rx⟩ := reps1 r
      simp only [Rep] at rx
      exact rW_of call_len_str ⟨z, by rw [rx], hz, h.int R⟩
    · exact h.no.elim
  · obtain ⟨x, rfl, rx⟩ := reps1 r
    split at h
    · rename_i l e
      obtain ⟨a, vs, rfl, h1, h2⟩ := seq_at R rx e
      refine rW_of call_len_seq ⟨a, vs, rfl, h1, ?_⟩
      rw [← h2.length]
      exact h.int R
    · split at h
      · rename_i ks l e
        obtain ⟨a, kvs, rfl, h1, h2, h3⟩ := dct_at R rx e
        refine rW_of call_lenDk ⟨a, kvs, rfl, h1, ?_⟩
        rw [← kv_len h2]
        exact h.int R
      · exact h.no.elim
  · exact h.no.elim
theorem cd_all (hc : X.calm = true) : CallD cm X (.builtin "all") bAll := fun m S H ds vs Q R r h => by
  unfold bAll at h
  split at h
  · obtain ⟨x, rfl, rx⟩ := reps1 r
    split at h
    · rename_i l e
      obtain ⟨a, vs, rfl, h1, h2⟩ := lst_at R rx e
      cases eb : blsOf l with
      | none => rw [eb] at h; exact h.no.elim
      | some bs =>
        rw [eb] at h
        have ev := reps_bls eb h2
        subst ev
        exact rW_of (cr_all hc) ⟨a, bs, rfl, .inl (.inl h1), h.bl R⟩
    · exact h.no.elim
  · exact h.no.elim
theorem cd_any (hc : X.calm = true) : CallD cm X (.builtin "any") bAny := fun m S H ds vs Q R r h => by
  unfold bAny at h
  split at h
  · obtain ⟨x, rfl, rx⟩ := reps1 r
    split at h
    · rename_i l e
      obtain ⟨a, vs, rfl, h1, h2⟩ := lst_at R rx e
      cases eb : blsOf l with
      | none => rw [eb] at h; exact h.no.elim
      | some bs =>
        rw [eb] at h
        have ev := reps_bls eb h2
        subst ev
        exact rW_of (cr_any hc) ⟨a, bs, rfl, .inl (.inl h1), h.bl R⟩
    · exact h.no.elim
  · exact h.no.elim
theorem cd_tup : CallD cm X (.type "tuple") bTup := fun m S H ds vs Q R r h => by
  unfold bTup at h
  split at h
  · obtain ⟨x, rfl, rx⟩ := reps1 r
    have rx' := rx
    simp only [Rep] at rx
    obtain ⟨a, vs, rfl, h1, h2⟩ := rx
    exact rW_of call_tuple_of ⟨a, vs, rfl, .inr ⟨h1, h.now R rx'⟩⟩
  · obtain ⟨x, rfl, rx⟩ := reps1 r
    cases e : lstOf _ S with
    | none => rw [e] at h; exact h.no.elim
    | some l =>
      rw [e] at h
      obtain ⟨a, vs, rfl, h1, h2⟩ := lst_at R rx e
      exact rW_of call_tuple_of ⟨a, vs, rfl, .inl ⟨.inl (.inl h1), fun p hp => h.tup R hp h2⟩⟩
  · exact h.no.elim
theorem cd_lst : CallD cm X (.type "list") bLst := fun m S H ds vs Q R r h => by
  unfold bLst at h
  split at h
  · obtain ⟨x, rfl, rx⟩ := reps1 r
    cases e : itmsOf _ S with
    | none => rw [e] at h; exact h.no.elim
    | some l =>
      rw [e] at h
      obtain ⟨a, vs, rfl, h1, h2⟩ := seq_at R rx e
      exact rW_of call_list_of ⟨a, vs, rfl, h1, fun p hp => h.lst R hp h2⟩
  · exact h.no.elim
theorem cd_lstN : CallD cm X (.type "list") bLstN := fun m S H ds vs Q R r h => by
  unfold bLstN at h
  split at h
  · obtain ⟨x, rfl, rx⟩ := reps1 r
    cases e : itmsOf _ S with
    | none => rw [e] at h; exact h.no.elim
    | some l =>
      rw [e] at h
      obtain ⟨a, vs, rfl, h1, h2⟩ := seq_at R rx e
      exact rW_of call_list_of ⟨a, vs, rfl, h1, fun p hp => h.lstN R hp h2⟩
  · exact h.no.elim
end

/-! ### list(a text) -/
def bLstS : OpL := fun l S => match l with
  | [.str x] => if x.length ≤ sizeLine then some (.ref S.length, S ++ [some (.lst (sgns x))]) else none
  | _ => none
def vsgns (x : Str) : List V := x.cps.toList.map fun c => V.str ⟨#[c]⟩
theorem reps_map {α : Type} {cm : Ct} {m : Am} {S : So} {H : Hp} {f : α → D} {g : α → V} (h : ∀ a, Rep cm m S H (f a) (g a)) : ∀ l : List α, Reps cm m S H (l.map f) (l.map g)
  | [] => Reps.nil
  | a :: l => Reps.cons (h a) (reps_map h l)
theorem call_list_signs {X : Cx} (hc : X.calm = true) : CallR X (.type "list") (fun xs H Q => ∃ x, xs = [.str x] ∧ x.length ≤ sizeLine ∧ ∀ p, H p = none → Q (.ref p) (upd H p (.lst (vsgns x)))) := by
  intro pins s σ H xs us Q I r h
  obtain ⟨x, rfl, hz, q⟩ := h
  obtain ⟨u, rfl, rx⟩ := vals1 r
  obtain ⟨t, rfl⟩ := rx
  refine PySem.call_list_str (I.ok.hd hc) x t (hn := hz) fun h' tk acc c' hk hD hacc => ?_
  have hlen : (vsgns x).length ≤ sizeLine := by unfold vsgns; rw [List.length_map, Array.length_toList]; exact hz
  have hv : Vals (vsgns x) acc.toList := by
    refine vals_of_get ?_ ?_
    · unfold vsgns
      rw [List.length_map, Array.length_toList, Array.length_toList]
      exact hacc.1.symm
    · intro j v e
      obtain ⟨c, u, hc, rfl⟩ := hacc.2 j v (by rw [← Array.getElem?_toList]; exact e)
      refine ⟨.str ⟨#[c]⟩, ?_, ⟨_, rfl⟩⟩
      unfold vsgns
      rw [List.getElem?_map, Array.getElem?_toList, hc]
      rfl
  exact ⟨.ref s.heap.objs.size, upd H s.heap.objs.size (.lst (vsgns x)), I.laid (t' := tk) hk (Nat.le_refl _)
    (show ObjOk X.prog X.w _ _ _ (.lst (vsgns x)) from ⟨hlen, acc.toList, c', hv, by rw [Array.toArray_toList]; exact hD⟩), rfl, q _ (I.hok.fresh (Nat.le_refl _))⟩
theorem cd_lstS {cm : Cm} {X : Cx} (hc : X.calm = true) : CallD cm X (.type "list") bLstS := fun m S H ds vs Q R r h => by
  unfold bLstS at h
  split at h
  · split at h
    · rename_i x hx
      obtain ⟨x, rfl, rx⟩ := reps1 r
      simp only [Rep] at rx
      exact rW_of (call_list_signs hc) ⟨_, by rw [rx], hx, fun p hp => h.lstN R hp (reps_map (fun c => by simp only [Rep]) _)⟩
    · exact h.no.elim
  · exact h.no.elim
end Mi


/-! Mi8: cells changed, methods, isinstance. -/
namespace Mi
open PySem PySem.Spec PyProof.Rows L2

section
variable {cm : Ct} {m : Am} {S : So} {H : Hp} {n : Nat} {o o' : Ob} {u : HO}
theorem set_live {k : Nat} {v : Ob} (e : S[n]? = some (some o)) (h : (S.set n (some o'))[k]? = some (some v)) : (k = n ∧ v = o') ∨ (k ≠ n ∧ S[k]? = some (some v)) := by
  by_cases c : n = k
  · subst c
    rw [List.getElem?_set_self (List.getElem?_eq_some_iff.mp e).1] at h
    exact .inl ⟨rfl, (Option.some.inj (Option.some.inj h)).symm⟩
  · rw [List.getElem?_set_ne c] at h
    exact .inr ⟨fun z => c z.symm, h⟩
theorem ob_mut (R : RelS cm m S H) (e : S[n]? = some (some o)) : ∃ w, H (m.p n) = some w ∧ (∀ xs, w ≠ .tup xs) ∧ ∀ o u, w ≠ .frz o u := by
  have h := R.at_ n o e
  cases o with
  | lst l => obtain ⟨vs, h1, _⟩ := h; exact ⟨_, h1, fun _ z => (by cases z), fun _ _ z => (by cases z)⟩
  | dct ks l => obtain ⟨vs, h1, _⟩ := h; exact ⟨_, h1, fun _ z => (by cases z), fun _ _ z => (by cases z)⟩
  | ins c ks l => obtain ⟨C, dx, fs, hc, h1, _⟩ := h; exact ⟨_, h1, fun _ z => (by cases z), fun _ _ z => (by cases z)⟩
theorem cell_kp (R : RelS cm m S H) (e : S[n]? = some (some o)) : Kp m S H m (S.set n (some o')) (upd H (m.p n) u) := by
  obtain ⟨w, hw, n1, n2⟩ := ob_mut R e
  refine ⟨fun a v h f => ⟨?_, fun k v' e' z => ?_, f.2⟩, fun a xs h => ?_, fun a v x h => ?_, by simp, fun _ _ => rfl⟩
  · left
    rw [upd_ne (fun z => f.1 n o e z.symm)]
    exact h
  · rcases set_live e e' with ⟨h1, _⟩ | ⟨_, h1⟩
    · rw [h1] at z
      exact f.1 n o e z
    · exact f.1 k v' h1 z
  · rw [upd_ne (fun z => by rw [z, hw] at h; exact n1 _ (Option.some.inj h))]; exact h
  · rw [upd_ne (fun z => by rw [z, hw] at h; exact n2 _ _ (Option.some.inj h))]; exact h
theorem cell_w (R : RelS cm m S H) (e : S[n]? = some (some o)) (ho : Kp m S H m (S.set n (some o')) (upd H (m.p n) u) → ObAt cm m (S.set n (some o')) (upd H (m.p n) u) (m.p n) o') :
    Adv m S H m (S.set n (some o')) (upd H (m.p n) u) ∧ RelS cm m (S.set n (some o')) (upd H (m.p n) u) := by
  have K := cell_kp (o' := o') (u := u) R e
  have A : Adv m S H m (S.set n (some o')) (upd H (m.p n) u) := by
    refine ⟨by simp, fun _ _ => rfl, fun k v h => ?_, fun a v h f => ?_, fun a h z => ?_, K.tp, K.fz, fun _ h => h, fun _ h => .inl h⟩
    · rcases set_live e h with ⟨h1, _⟩ | ⟨_, h1⟩
      · subst h1
        exact .inl ⟨(List.getElem?_eq_some_iff.mp e).1, o, e⟩
      · exact .inl ⟨(List.getElem?_eq_some_iff.mp h1).1, v, h1⟩
    · left
      rw [upd_ne (fun z => f n o e z.symm)]
      exact h
    · by_cases c : a = m.p n
      · subst c; rw [upd_same] at z; cases z
      · rw [upd_ne c] at z; exact h z
  refine ⟨A, fun k v h => ?_, fun k j v v' h1 h2 q => ?_, fun a h => A.tr a (R.hid a h), fun a h k v e' z => by
    rcases set_live e e' with ⟨z1, _⟩ | ⟨_, z1⟩
    · rw [z1] at z; exact R.hoff a h n o e z
    · exact R.hoff a h k v z1 z⟩
  · rcases set_live e h with ⟨h1, h2⟩ | ⟨h1, h2⟩
    · subst h1 h2
      exact ho K
    · exact (R.at_ k v h2).kp K (upd_ne fun z => h1 (R.inj k n v o h2 e z))
  · have l1 : ∃ w, S[k]? = some (some w) := by
      rcases set_live e h1 with ⟨z, _⟩ | ⟨_, z⟩
      · subst z; exact ⟨_, e⟩
      · exact ⟨_, z⟩
    have l2 : ∃ w, S[j]? = some (some w) := by
      rcases set_live e h2 with ⟨z, _⟩ | ⟨_, z⟩
      · subst z; exact ⟨_, e⟩
      · exact ⟨_, z⟩
    obtain ⟨w1, g1⟩ := l1
    obtain ⟨w2, g2⟩ := l2
    exact R.inj k j w1 w2 g1 g2 q
/-- a cell given up: nobody changes it any more -/
theorem cell_gone (R : RelS cm m S H) (e : S[n]? = some (some o)) : Adv m S H m (S.set n none) H ∧ RelS cm m (S.set n none) H ∧ Off m (S.set n none) (m.p n) := by
  have lv : ∀ {k : Nat} {v : Ob}, (S.set n none)[k]? = some (some v) → k ≠ n ∧ S[k]? = some (some v) := fun {k v} h => by
    by_cases c : n = k
    · subst c
      rw [List.getElem?_set_self (List.getElem?_eq_some_iff.mp e).1] at h
      cases h
    · rw [List.getElem?_set_ne c] at h
      exact ⟨fun z => c z.symm, h⟩
  have A : Adv m S H m (S.set n none) H := ⟨by simp, fun _ _ => rfl, fun k v h => .inl ⟨(List.getElem?_eq_some_iff.mp (lv h).2).1, v, (lv h).2⟩, fun a v h _ => .inl h, fun _ h => h, fun _ _ h => h, fun _ _ _ h => h, fun _ h => h, fun _ h => .inl h⟩
  refine ⟨A, ⟨fun k v h => (R.at_ k v (lv h).2).kp A.kp rfl, fun k j v v' h1 h2 q => R.inj k j v v' (lv h1).2 (lv h2).2 q, R.hid, fun a h k v e' => R.hoff a h k v (lv e').2⟩, fun k v h z => ?_⟩
  exact (lv h).1 (R.inj k n v o (lv h).2 e z)
end

/-! ### methods -/
def rM (X : Cx) (id : String) : V → List V → Hp → VK → Prop := fun x vs H Q => ∀ pins s σ v us, Inv X pins σ H s → RelV x v → Vals vs us → wpAny (model X.prog X.w) X.A (call (.builtin id) (v :: us)) (EP X pins σ Q) X.xe s
theorem mt_w {X : Cx} {id : String} : MtR X id (rM X id) := fun pins s σ H x xs v us Q I r rs h => h pins s σ v us I r rs
theorem rM_of {X : Cx} {id : String} {r : V → List V → Hp → VK → Prop} {x : V} {vs : List V} {H : Hp} {Q : VK} (h : MtR X id r) (q : r x vs H Q) : rM X id x vs H Q := fun pins s σ v us I rx rv => h pins s σ H x vs v us Q I rx rv q
abbrev OpM := D → List D → So → Option (D × So)
def MtD (cm : Cm) (X : Cx) (id : String) (g : OpM) : Prop := ∀ m S H d ds x vs Q, RelS (ct X cm) m S H → Rep (ct X cm) m S H d x → Reps (ct X cm) m S H ds vs → POk (Rep (ct X cm)) (ct X cm) m S H (g d ds S) Q → rM X id x vs H Q
def isTyp (T : String) (d : D) (S : So) : Bool := match d with
  | .str _ => T == "str"
  | d => (T == "list" && (lstOf d S).isSome)
def mM (T : String) (g : OpM) (fo : E D) (fa : E (List D)) : E D := fun en S => (fo en S).bind fun d S1 => if isTyp T d S1 then (fa en S1).bind fun l S2 => R.of (g d l S2) else .bad
section
variable {cm : Cm} {X : Cx} {o e : Expr} {es : List Expr} {fo : E D} {fa : E (List D)} {name : Str} {apos cpos : Pos} {T id : String} {g : OpM}
theorem typ_v {m : Am} {S : So} {H : Hp} {d : D} {x : V} (R : RelS (ct X cm) m S H) (r : Rep (ct X cm) m S H d x) (h : isTyp T d S = true) : tyV X.K T x H := by
  have go : (T == "list" && (lstOf d S).isSome) = true → tyV X.K T x H := fun z => by
    simp only [Bool.and_eq_true, beq_iff_eq, Option.isSome_iff_exists] at z
    obtain ⟨e, l, q⟩ := z
    obtain ⟨a, vs, rfl, h1, h2⟩ := lst_at R r q
    exact .inl ⟨e, vs, .inl (.inl h1)⟩
  cases d with
  | str z =>
    simp only [isTyp, beq_iff_eq] at h
    simp only [Rep] at r
    subst r
    exact h
  | _ => exact go (by simpa [isTyp] using h)
theorem re_m (pa : PlainAttrs T) (slot : Slot T name id) (hty : typeOf (.builtin id) = pure (.type "method_descriptor")) (hm : MtD cm X id g) (ho : RE cm X o fo) (ha : RA cm X (e :: es) fa)
    (hbase : attributeBase o name X.env (eval o X.env) = eval o X.env := by rfl)
    (hfew : ((backTo cpos (starEach (e :: es) X.env)).all (fun x => !x.1) && (backToKw cpos (keywordEach [] X.env)).all (fun x => x.1.isSome)
      && decide ((e :: es).length + ([] : List Keyword).length + (if ([] : List Keyword).isEmpty then 0 else 1) < 30)) = true := by rfl)
    (hline : (apos.endLine == cpos.line) = true := by rfl) (hs : starEach (e :: es) X.env = (false, eval e X.env) :: starEach es X.env := by rfl) (hplain : (backTo cpos (starEach es X.env)).any (·.1) = false := by rfl) :
    RE cm X (.Call (.Attribute o name apos) (e :: es) [] cpos) (mM T g fo fa) := fun W tk m S H σ en Q C h => by
  refine wE_of (pe_bm pa slot hty mt_w pe_w pa_w hbase hfew hline hs hplain) ?_
  refine ho W tk m S H σ en _ C (PQ.bind h fun d S1 x m1 H1 e1 A1 R1 r1 h1 => ?_)
  split at h1
  · rename_i ht
    refine ⟨typ_v R1 r1 ht, ha W tk m1 S1 H1 σ en _ (C.adv A1 R1) (PQ.bind h1 fun l S2 vs m2 H2 e2 A2 R2 r2 h2 => ?_)⟩
    exact hm m2 S2 H2 d l x vs _ R2 (Rep.adv A2 _ _ r1) r2 h2.pok
  · exact h1.elim
theorem re_m0 (pa : PlainAttrs T) (slot : Slot T name id) (hty : typeOf (.builtin id) = pure (.type "method_descriptor")) (hm : MtD cm X id g) (ho : RE cm X o fo)
    (hbase : attributeBase o name X.env (eval o X.env) = eval o X.env := by rfl) (hline : (apos.endLine == cpos.line) = true := by rfl) :
    RE cm X (.Call (.Attribute o name apos) [] [] cpos) (mM T g fo aNil) := fun W tk m S H σ en Q C h => by
  refine wE_of (pe_bm0 pa slot hty mt_w pe_w hbase hline) ?_
  refine ho W tk m S H σ en _ C (PQ.bind h fun d S1 x m1 H1 e1 A1 R1 r1 h1 => ?_)
  split at h1
  · rename_i ht
    have h2 : PQ (Rep (ct X cm)) (ct X cm) m1 S1 H1 σ W (R.of (g d [] S1)) Q := h1
    exact ⟨typ_v R1 r1 ht, hm m1 S1 H1 d [] x [] _ R1 r1 Reps.nil h2.pok⟩
  · exact h1.elim
end
def cellL (d : D) (S : So) : Option (Nat × List D) := match d with
  | .ref n => match S[n]? with
    | some (some (.lst l)) => some (n, l)
    | _ => none
  | _ => none
theorem cellL_at {cm : Ct} {m : Am} {S : So} {H : Hp} {d : D} {x : V} {n : Nat} {l : List D} (R : RelS cm m S H) (r : Rep cm m S H d x) (h : cellL d S = some (n, l)) :
    S[n]? = some (some (.lst l)) ∧ x = .ref (m.p n) ∧ ∃ vs, H (m.p n) = some (.lst vs) ∧ Reps cm m S H l vs := by
  unfold cellL at h
  split at h
  · split at h
    · rename_i n' l' e
      cases h
      simp only [Rep] at r
      obtain ⟨vs, h1, h2⟩ := R.at_ _ _ e
      exact ⟨e, r.2, vs, h1, h2⟩
    · cases h
  · cases h
def mApp : OpM := fun d l S => match l with
  | [y] => match cellL d S with
    | some (n, xs) => if xs.length < sizeLine then some (.non, S.set n (some (.lst (xs ++ [y])))) else none
    | none => none
  | _ => none
def mPopAt : OpM := fun d l S => match l with
  | [.int i] => match cellL d S with
    | some (n, xs) => if -(2 ^ 63) ≤ i ∧ i < 2 ^ 63 then match ixN xs.length i with
        | some k => match xs[k]? with
          | some y => some (y, S.set n (some (.lst (xs.eraseIdx k))))
          | none => none
        | none => none
      else none
    | none => none
  | _ => none
def strsOf : List D → Option (List Str)
  | [] => some []
  | .str b :: l => (strsOf l).map (b :: ·)
  | _ => none
theorem reps_strs {cm : Ct} {m : Am} {S : So} {H : Hp} : ∀ {l : List D} {bs : List Str} {vs : List V}, strsOf l = some bs → Reps cm m S H l vs → vs = bs.map V.str
  | [], bs, vs, e, r => by
    simp only [strsOf, Option.some.injEq] at e
    subst e
    simp only [Reps] at r
    exact r
  | d :: l, bs, vs, e, r => by
    simp only [Reps] at r
    obtain ⟨v, r, rfl, h1, h2⟩ := r
    cases d with
    | str b =>
      simp only [strsOf, Option.map_eq_some_iff] at e
      obtain ⟨bs', e1, rfl⟩ := e
      simp only [Rep] at h1
      rw [h1, reps_strs e1 h2]
      rfl
    | _ => simp [strsOf] at e
def mJoin : OpM := fun d l S => match d, l with
  | .str a, [y] => match seqOf y S with
    | some xs => match strsOf xs with
      | some ys => if (ys.map (·.length)).sum + ys.length * a.length ≤ 16777216 then some (.str (Txt.join a ys), S) else none
      | none => none
    | none => none
  | _, _ => none
section
variable {cm : Cm} {X : Cx}
theorem md_app : MtD cm X "list.append" mApp := fun m S H d ds x vs Q R r rs h => by
  unfold mApp at h
  split at h
  · obtain ⟨y, rfl, ry⟩ := reps1 rs
    split at h
    · rename_i n xs e
      split at h
      · rename_i hl
        obtain ⟨e1, rfl, ws, h1, h2⟩ := cellL_at R r e
        refine rM_of (show MtR X "list.append" rAppend from mt_append) ⟨_, ws, y, rfl, rfl, h1, by rw [← h2.length]; exact hl, ?_⟩
        obtain ⟨A, R'⟩ := cell_w (o' := .lst (xs ++ [_])) (u := .lst (ws ++ [y])) R e1 fun K => ⟨_, upd_same, Reps.kp K _ _ (h2.append (Reps.cons ry Reps.nil))⟩
        exact h.at A R' (by simp only [Rep])
      · exact h.no.elim
    · exact h.no.elim
  · exact h.no.elim
theorem ixN_i {n : Nat} {i : Int} {k : Nat} (h : ixN n i = some k) : seqIndex? i n = some k := (ixN_seq h).1
theorem md_popAt : MtD cm X "list.pop" mPopAt := fun m S H d ds x vs Q R r rs h => by
  unfold mPopAt at h
  split at h
  · obtain ⟨y, rfl, ry⟩ := reps1 rs
    simp only [Rep] at ry
    subst ry
    split at h
    · rename_i n xs e
      split at h
      · rename_i hi
        split at h
        · rename_i k ek
          split at h
          · rename_i yy ey
            obtain ⟨e1, rfl, ws, h1, h2⟩ := cellL_at R r e
            obtain ⟨v, ev, rv⟩ := h2.get ey
            refine rM_of (show MtR X "list.pop" rPopAt from mt_popAt) ⟨_, ws, _, k, v, rfl, rfl, h1, hi.1, hi.2, by rw [← h2.length]; exact ixN_i ek, ev, ?_⟩
            obtain ⟨A, R'⟩ := cell_w (o' := .lst (xs.eraseIdx k)) (u := .lst (ws.eraseIdx k)) R e1 fun K => ⟨_, upd_same, Reps.kp K _ _ (h2.eraseIdx k)⟩
            exact h.at A R' (Rep.adv A _ _ rv)
          · exact h.no.elim
        · exact h.no.elim
      · exact h.no.elim
    · exact h.no.elim
  · exact h.no.elim
theorem md_join : MtD cm X "str.join" mJoin := fun m S H d ds x vs Q R r rs h => by
  unfold mJoin at h
  split at h
  · obtain ⟨y, rfl, ry⟩ := reps1 rs
    simp only [Rep] at r
    subst r
    split at h
    · rename_i xs e
      split at h
      · rename_i ys es
        split at h
        · rename_i hz
          obtain ⟨a, ws, rfl, h1, h2⟩ := seq_at R ry e
          have ev := reps_strs es h2
          subst ev
          exact rM_of mt_join ⟨_, a, ys, rfl, rfl, h1, hz, h.str R⟩
        · exact h.no.elim
      · exact h.no.elim
    · exact h.no.elim
  · exact h.no.elim
end

/-! ### o[i] = v -/
def wSet (X : Cx) : TSet := fun o i v H Q => ∀ pins s σ ov iv u, Inv X pins σ H s → RelV o ov → RelV i iv → RelV v u → wpAny (model X.prog X.w) X.A (setItem ov iv u) (fun _ s' => ∃ H', Inv X pins σ H' s' ∧ Q H') X.xe s
theorem pset_w {X : Cx} : PSet X (wSet X) := fun pins s σ H o i v ov iv u Q I ro ri rv h => h pins s σ ov iv u I ro ri rv
theorem wSet_of {X : Cx} {t : TSet} {o i v : V} {H : Hp} {Q : Hp → Prop} (h : PSet X t) (q : t o i v H Q) : wSet X o i v H Q := fun pins s σ ov iv u I ro ri rv => h pins s σ H o i v ov iv u Q I ro ri rv q
def putKD (ks : List Key) (l : List D) (k : Key) (v : D) : List Key × List D := match ks, l with
  | k' :: ks, d :: l => if k' = k then (k' :: ks, v :: l) else let r := putKD ks l k v; (k' :: r.1, d :: r.2)
  | ks, l => (ks ++ [k], l ++ [v])
def putD (o i v : D) (S : So) : Option So := match o with
  | .ref n => match S[n]? with
    | some (some (.lst l)) => match i with
      | .int k => (ixN l.length k).map fun j => S.set n (some (.lst (l.set j v)))
      | _ => none
    | some (some (.dct ks l)) => match keyOf i with
      | some k => if ks.Nodup ∧ ks.length < sizeLine then some (S.set n (some (.dct (putKD ks l k v).1 (putKD ks l k v).2))) else none
      | none => none
    | _ => none
  | _ => none
theorem putKD_v {cm : Ct} {m : Am} {S : So} {H : Hp} {k : Key} {dv : D} {v : V} (rv : Rep cm m S H dv v) : ∀ {kvs : List (Key × V)} {ks : List Key} {l : List D}, ks.Nodup → kvs.map (·.1) = ks → Reps cm m S H l (kvs.map (·.2)) →
    (putK kvs k v).map (·.1) = (putKD ks l k dv).1 ∧ Reps cm m S H (putKD ks l k dv).2 ((putK kvs k v).map (·.2))
  | [], ks, l, _, e, h => by
    simp only [List.map_nil] at e h
    subst e
    have h' : l = [] := by cases l with
      | nil => rfl
      | cons _ _ => simp [Reps] at h
    subst h'
    exact ⟨rfl, Reps.cons rv Reps.nil⟩
  | p :: kvs, ks, l, nd, e, h => by
    simp only [List.map_cons] at e h
    subst e
    cases l with
    | nil => simp [Reps] at h
    | cons d l =>
      simp only [Reps] at h
      obtain ⟨v', r', e', h1, h2⟩ := h
      cases e'
      obtain ⟨nd1, nd2⟩ := List.nodup_cons.mp nd
      by_cases c : p.1 = k
      · have e1 : putKD (p.1 :: kvs.map (·.1)) (d :: l) k dv = (p.1 :: kvs.map (·.1), dv :: l) := by simp [putKD, c]
        have e2 : putK (p :: kvs) k v = (p.1, v) :: kvs := by
          unfold putK
          rw [if_pos (by simp [c]), List.map_cons, if_pos c]
          congr 1
          conv => rhs; rw [← List.map_id kvs]
          refine List.map_congr_left fun q hq => ?_
          rw [if_neg (fun z => nd1 (by rw [c, ← z]; exact List.mem_map.mpr ⟨q, hq, rfl⟩))]
          rfl
        rw [e1, e2]
        exact ⟨by simp, Reps.cons rv h2⟩
      · obtain ⟨i1, i2⟩ := putKD_v rv (k := k) (l := l) nd2 rfl h2
        have e1 : putKD (p.1 :: kvs.map (·.1)) (d :: l) k dv = (p.1 :: (putKD (kvs.map (·.1)) l k dv).1, d :: (putKD (kvs.map (·.1)) l k dv).2) := by simp [putKD, c]
        have e2 : putK (p :: kvs) k v = p :: putK kvs k v := by
          unfold putK
          simp only [List.any_cons, c, decide_false, Bool.false_or, List.map_cons, if_false, List.cons_append]
          split <;> rfl
        rw [e1, e2]
        exact ⟨by simp [i1], Reps.cons h1 i2⟩
def sPut (fv fo fi : E D) : T := fun en S => (fv en S).bind fun v S1 => (fo en S1).bind fun o S2 => (fi en S2).bind fun i S3 => match putD o i v S3 with
  | some S4 => .ok (.nx en) S4
  | none => .bad
section
variable {cm : Cm} {X : Cx} {o i e : Expr} {fo fi fv : E D} {pos pos' : Pos}
theorem put_run (hu : X.A.units + 1 < cLine) {m : Am} {S S' : So} {H : Hp} {dO dI dV : D} {o i v : V} {Q : Hp → Prop} (R : RelS (ct X cm) m S H) (ro : Rep (ct X cm) m S H dO o) (ri : Rep (ct X cm) m S H dI i) (rv : Rep (ct X cm) m S H dV v)
    (h : putD dO dI dV S = some S') (q : ∀ H', Adv m S H m S' H' → RelS (ct X cm) m S' H' → Q H') : wSet X o i v H Q := by
  unfold putD at h
  split at h
  · simp only [Rep] at ro
    obtain ⟨_, rfl⟩ := ro
    split at h
    · rename_i n l e
      obtain ⟨vs, h1, h2⟩ := R.at_ _ _ e
      split at h
      · rename_i k
        simp only [Rep] at ri
        subst ri
        cases ej : ixN l.length k with
        | none => rw [ej] at h; cases h
        | some j =>
          rw [ej] at h
          cases h
          obtain ⟨A, R'⟩ := cell_w (o' := .lst (l.set j dV)) (u := .lst (vs.set j v)) R e fun K => ⟨_, upd_same, Reps.kp K _ _ (h2.set j rv)⟩
          exact wSet_of set_list ⟨_, vs, k, j, rfl, rfl, h1, by rw [← h2.length]; exact ej, q _ A R'⟩
      · cases h
    · rename_i n ks l e
      obtain ⟨kvs, h1, h2, h3⟩ := R.at_ _ _ e
      split at h
      · rename_i k ek
        have ei := key_v ri ek
        subst ei
        split at h
        · rename_i hn
          cases h
          obtain ⟨g1, g2⟩ := putKD_v rv (k := k) hn.1 h2 h3
          obtain ⟨A, R'⟩ := cell_w (o' := .dct (putKD ks l k dV).1 (putKD ks l k dV).2) (u := .dK (putK kvs k v)) R e fun K => ⟨_, upd_same, g1, Reps.kp K _ _ g2⟩
          exact wSet_of (set_dict hu) ⟨_, _, rfl, DPut.k h1 (by rw [← kv_len h2]; exact hn.2), q _ A R'⟩
        · cases h
      · cases h
    · cases h
  · cases h
theorem rs_put (hu : X.A.units + 1 < cLine) (hv : RE cm X e fv) (ho : RE cm X o fo) (hi : RE cm X i fi) (hs : swapsWithSole [.Subscript o i pos'] e pos.line X.env = pure false := by rfl) (hw : swappedStores [.Subscript o i pos'] e X.env = pure none := by rfl)
    (h1 : (assignEach [.Subscript o i pos'] X.env).map (·.2) = [assign (.Subscript o i pos') X.env] := by rfl)
    (ha : ∀ v, assign (.Subscript o i pos') X.env v = (do
      let ov ← holding [v] (eval o X.env)
      let iv ← holding [v, ov] (eval i X.env)
      standAt pos'
      holding [v, ov, iv] (setItem ov iv v)
      release [v, ov, iv] []) := by intro _; rfl) : RS cm X (.Assign [.Subscript o i pos'] e pos) (sPut fv fo fi) := fun W tk m S H σ en D C h => by
  refine wS_of (ps_asg pe_w (pg_sub pe_w pe_w pset_w ha) hs hw h1) (hv W tk m S H σ en _ C (PF.bind h fun d S1 y m1 H1 e1 A1 R1 r1 k1 => ?_))
  refine ho W tk m1 S1 H1 σ en _ (C.adv A1 R1) (PF.bind k1 fun d2 S2 y2 m2 H2 e2 A2 R2 r2 k2 => ?_)
  refine hi W tk m2 S2 H2 σ en _ ((C.adv A1 R1).adv A2 R2) (PF.bind k2 fun d3 S3 y3 m3 H3 e3 A3 R3 r3 k3 => ?_)
  cases e4 : putD d2 d3 d S3 with
  | none => rw [e4] at k3; exact k3.elim
  | some S4 =>
    rw [e4] at k3
    exact put_run hu R3 (Rep.adv A3 _ _ r2) r3 (Rep.adv A3 _ _ (Rep.adv A2 _ _ r1)) e4 fun H' A' R' => k3 _ _ _ A' ((((C.adv A1 R1).adv A2 R2).adv A3 R3).adv A' R')
end
end Mi


/-! Mi9: freezing, isinstance, dicts made, what is walked, sorted. -/
namespace Mi
open PySem PySem.Spec PyProof.Rows L2

/-! ### return x: a cell becomes a value -/
def frz (d : D) (S : So) : D × So := match d with
  | .ref n => match S[n]? with
    | some (some (.lst l)) => (.lst l, S.set n none)
    | some (some (.dct ks l)) => (.dct ks l, S.set n none)
    | some (some (.ins c ks l)) => (.ins c ks l, S.set n none)
    | _ => (d, S)
  | _ => (d, S)
theorem frz_ok {cm : Ct} {m : Am} {S : So} {H : Hp} {d : D} {x : V} (R : RelS cm m S H) (r : Rep cm m S H d x) : Adv m S H m (frz d S).2 H ∧ RelS cm m (frz d S).2 H ∧ Rep cm m (frz d S).2 H (frz d S).1 x := by
  unfold frz
  split
  · rename_i n
    have r0 := r
    simp only [Rep] at r
    split
    · rename_i l e
      obtain ⟨A, R', o⟩ := cell_gone R e
      obtain ⟨vs, h1, h2⟩ := R.at_ n _ e
      refine ⟨A, R', ?_⟩
      simp only [Rep]
      exact ⟨_, vs, r.2, h1, ⟨o, fun z => R.hoff _ z n _ e rfl⟩, Reps.adv A _ _ h2⟩
    · rename_i ks l e
      obtain ⟨A, R', o⟩ := cell_gone R e
      obtain ⟨vs, h1, h2, h3⟩ := R.at_ n _ e
      refine ⟨A, R', ?_⟩
      simp only [Rep]
      exact ⟨_, vs, r.2, .inl h1, ⟨o, fun z => R.hoff _ z n _ e rfl⟩, h2, Reps.adv A _ _ h3⟩
    · rename_i c ks l e
      obtain ⟨A, R', o⟩ := cell_gone R e
      obtain ⟨C, dx, fs, hc, h1, h2, h3⟩ := R.at_ n _ e
      refine ⟨A, R', ?_⟩
      simp only [Rep]
      exact ⟨_, C, dx, fs, r.2, hc, h1, ⟨o, fun z => R.hoff _ z n _ e rfl⟩, h2, Reps.adv A _ _ h3⟩
    · exact ⟨Adv.refl, R, r0⟩
  · exact ⟨Adv.refl, R, r⟩
def sRetZ (fe : E D) : T := fun en S => (fe en S).bind fun d S1 => .ok (.rt (frz d S1).1) (frz d S1).2
def mFrz (fe : E D) : E D := fun en S => (fe en S).bind fun d S1 => .ok (frz d S1).1 (frz d S1).2
section
variable {cm : Cm} {X : Cx} {e : Expr} {fe : E D} {pos : Pos}
theorem re_frz (h : RE cm X e fe) : RE cm X e (mFrz fe) := fun W tk m S H σ en Q C q => by
  refine h W tk m S H σ en _ C (PQ.bind q fun d S1 x m1 H1 e1 A1 R1 r1 k1 => ?_)
  obtain ⟨A, R', r'⟩ := frz_ok R1 r1
  exact k1 x m1 H1 A R' r'
end

/-! ### isinstance -/
inductive Ty where
  | non | bl | int | str | tup | lst | dct
  deriving DecidableEq
def Ty.name : Ty → String
  | .non => "NoneType" | .bl => "bool" | .int => "int" | .str => "str" | .tup => "tuple" | .lst => "list" | .dct => "dict"
def tyD (d : D) (S : So) : Option Ty := match d with
  | .non => some .non
  | .bl _ => some .bl
  | .int _ => some .int
  | .str _ => some .str
  | .tup _ => some .tup
  | .lst _ => some .lst
  | .scr _ => some .lst
  | .dct _ _ => some .dct
  | .ins _ _ _ => none
  | .exc _ _ _ => none
  | .ref n => match S[n]? with
    | some (some (.lst _)) => some .lst
    | some (some (.dct _ _)) => some .dct
    | _ => none
def isOwn (d : D) (S : So) : Option Str := match d with
  | .ins c _ _ => some c
  | .ref n => match S[n]? with
    | some (some (.ins c _ _)) => some c
    | _ => none
  | _ => none
def isT (t T : Ty) : Bool := decide (t = T) || (decide (t = .bl) && decide (T = .int))
def isD (T : Ty) (d : D) (S : So) : Option Bool := match tyD d S with
  | some t => some (isT t T)
  | none => (isOwn d S).map fun _ => false
theorem kit_isT (t T : Ty) (h : T ≠ .non) : kitB t.name T.name = some (isT t T) := by
  cases T <;> first | exact absurd rfl h | skip
  all_goals cases t <;> decide +kernel
/-- what the walk asks of an own class -/
structure OwnC (K : PySem.W.Frag) (C : Addr) : Prop where
  cl : Cls K C
  ha : PySem.W.findIn K (.ref C) "__class__" = some (some (.builtin "object.__class__"))
  hn : PySem.W.specialIn K (.builtin "object.__class__") "__get__" = some (some (.builtin "getset_descriptor.__get__"))
  htk : PySem.W.takesIn K (.builtin "object.__class__") = some true
  hm : PySem.W.mroIn K C (.type "object") = some true
  is : ∀ T : Ty, T ≠ .non → PySem.W.kitOne K (.ref C) (.type T.name) = some false
def OwnAll (K : PySem.W.Frag) (cm : Cm) : Prop := ∀ c C, cm.cls c = some C → OwnC K C
section
variable {cm : Ct} {m : Am} {S : So} {H : Hp} {d : D} {x : V}
theorem tyD_v {t : Ty} (R : RelS cm m S H) (r : Rep cm m S H d x) (h : tyD d S = some t) : TyX cm.K H x (.type t.name) := by
  cases d with
  | non => simp only [tyD, Option.some.injEq] at h; subst h; simp only [Rep] at r; subst r; exact .base .non
  | bl b => simp only [tyD, Option.some.injEq] at h; subst h; simp only [Rep] at r; subst r; exact .base (.bl b)
  | int b => simp only [tyD, Option.some.injEq] at h; subst h; simp only [Rep] at r; subst r; exact .base (.int b)
  | str b => simp only [tyD, Option.some.injEq] at h; subst h; simp only [Rep] at r; subst r; exact .base (.str b)
  | tup l =>
    simp only [tyD, Option.some.injEq] at h; subst h; simp only [Rep] at r
    obtain ⟨a, vs, rfl, h1, _⟩ := r
    rcases h1 with (h1 | ⟨o, h1⟩) | ⟨o, its, n, h1, h2, _⟩
    · exact .base (.tup h1)
    · exact .fTuple h1
    · exact .kTuple h1 h2
  | lst l =>
    simp only [tyD, Option.some.injEq] at h; subst h; simp only [Rep] at r
    obtain ⟨a, vs, rfl, h1, _⟩ := r
    exact .base (.lst h1)
  | scr l =>
    simp only [tyD, Option.some.injEq] at h; subst h; simp only [Rep] at r
    obtain ⟨a, rfl, h1⟩ := r
    rcases h1 with ⟨o, h1⟩ | ⟨o, its, n, h1, h2, _⟩
    · exact .base (.frz h1)
    · exact .kList h1 h2
  | dct ks l =>
    simp only [tyD, Option.some.injEq] at h; subst h; simp only [Rep] at r
    obtain ⟨a, kvs, rfl, h1, _⟩ := r
    rcases h1 with h1 | ⟨o, h1⟩
    · exact .base (.dK h1)
    · exact .fDict h1
  | ins c ks l => simp [tyD] at h
  | exc c ks l => simp [tyD] at h
  | ref n =>
    simp only [tyD] at h
    simp only [Rep] at r
    obtain ⟨_, rfl⟩ := r
    split at h
    · rename_i l e
      cases h
      obtain ⟨vs, h1, _⟩ := R.at_ n _ e
      exact .base (.lst h1)
    · rename_i ks l e
      cases h
      obtain ⟨vs, h1, _⟩ := R.at_ n _ e
      exact .base (.dK h1)
    · cases h
theorem own_v {c : Str} (R : RelS cm m S H) (r : Rep cm m S H d x) (h : isOwn d S = some c) : ∃ a C dx fs, x = .ref a ∧ cm.cls c = some C ∧ H a = some (.ins C dx fs) := by
  cases d with
  | ins c' ks l =>
    simp only [isOwn, Option.some.injEq] at h
    subst h
    simp only [Rep] at r
    obtain ⟨a, C, dx, fs, e, hc, h1, _⟩ := r
    exact ⟨a, C, dx, fs, e, hc, h1⟩
  | ref n =>
    simp only [isOwn] at h
    simp only [Rep] at r
    split at h
    · rename_i c' ks l e
      cases h
      obtain ⟨C, dx, fs, hc, h1, _⟩ := R.at_ n _ e
      exact ⟨_, C, dx, fs, r.2, hc, h1⟩
    · cases h
  | _ => simp [isOwn] at h
end
def mIs (T : Ty) (fe : E D) : E D := fun en S => (fe en S).bind fun d S1 => match isD T d S1 with
  | some b => .ok (.bl b) S1
  | none => .bad
/-- isinstance(x, (T, U)) -/
def mIs2 (T U : Ty) (fe : E D) : E D := fun en S => (fe en S).bind fun d S1 => match isD T d S1, isD U d S1 with
  | some a, some b => .ok (.bl (a || b)) S1
  | _, _ => .bad
section
variable {cm : Cm} {X : Cx} {e : Expr} {fe : E D} {p p1 p2 pt pos : Pos}
theorem isD_all {m : Am} {S : So} {H : Hp} {d : D} {x : V} {T : Ty} {b : Bool} (ho : OwnAll X.K cm) (R : RelS (ct X cm) m S H) (r : Rep (ct X cm) m S H d x) (h : isD T d S = some b) :
    ∃ t, TyX X.K H x t ∧ ∀ (U : Ty) (k : Bool), U ≠ .non → isD U d S = some k → PySem.W.kitOne X.K t (.type U.name) = some k := by
  unfold isD at h
  split at h
  · rename_i t e
    refine ⟨_, tyD_v R r e, fun U k hU q => ?_⟩
    unfold isD at q
    rw [e] at q
    cases q
    exact kit_ty (kit_isT t U hU)
  · rename_i e0
    cases e : isOwn d S with
    | none => rw [e] at h; cases h
    | some c =>
      obtain ⟨a, C, dx, fs, rfl, hc, h1⟩ := own_v R r e
      have o := ho c C hc
      refine ⟨_, .base (.ins h1 o.cl o.ha o.hn o.htk o.hm), fun U k hU q => ?_⟩
      unfold isD at q
      rw [e0, e] at q
      cases q
      exact o.is U hU
theorem re_is (T : Ty) {x : Str} (ho : OwnAll X.K cm) (hg : Gl X "isinstance") (hm : X.mg "isinstance" = none) (hg2 : Gl X x) (hm2 : X.mg x = none) (hv2 : bootBuiltins x = some (.type T.name)) (he : RE cm X e fe) (hT : T ≠ .non := by decide)
    (hn : x ≠ "__name__" := by decide) (hdb : (x == ("__debug__" : Str)) = false := by decide)
    (hs : starEach [e, .Name x p1] X.env = (false, eval e X.env) :: starEach [.Name x p1] X.env := by rfl) (hs2 : starEach [.Name x p1] X.env = (false, eval (.Name x p1) X.env) :: starEach [] X.env := by rfl)
    (hpl : (backTo pos (starEach [.Name x p1] X.env)).any (·.1) = false := by rfl) :
    RE cm X (.Call (.Name "isinstance" p) [e, .Name x p1] [] pos) (mIs T fe) := fun W tk m S H σ en Q C h => by
  refine wE_of (pe_callB call_isi hg hm PyProof.Rows.boot_isinstance (pa_cons pe_w (pa_cons (pe_bltn (v := .ty T.name) hg2 hm2 hv2 rfl hn hdb) pa_nil hs2) hs) (by decide) (by decide) hs hpl) ?_
  refine he W tk m S H σ en _ C (PQ.bind h fun d S1 x m1 H1 e1 A1 R1 r1 h1 => ?_)
  split at h1
  · rename_i b eb
    obtain ⟨t, g1, g2⟩ := isD_all ho R1 r1 eb
    exact ⟨x, .ty T.name, t, .type T.name, b, rfl, .ty _, g1, g2 T b hT eb, PQ.now h1 R1 (by simp only [Rep])⟩
  · exact h1.elim
/-- isinstance(x, (T, U)) -/
theorem re_is2 (T U : Ty) {x y : Str} {kt : Nat} (ho : OwnAll X.K cm) (hg : Gl X "isinstance") (hm : X.mg "isinstance" = none) (hg2 : Gl X x) (hm2 : X.mg x = none) (hv2 : bootBuiltins x = some (.type T.name))
    (hg3 : Gl X y) (hm3 : X.mg y = none) (hv3 : bootBuiltins y = some (.type U.name)) (he : RE cm X e fe) (hT : T ≠ .non := by decide) (hU : U ≠ .non := by decide)
    (hn : x ≠ "__name__" := by decide) (hdb : (x == ("__debug__" : Str)) = false := by decide) (hn3 : y ≠ "__name__" := by decide) (hdb3 : (y == ("__debug__" : Str)) = false := by decide)
    (hs : starEach [e, .Tuple [.Name x p1, .Name y p2] kt pt] X.env = (false, eval e X.env) :: starEach [.Tuple [.Name x p1, .Name y p2] kt pt] X.env := by rfl)
    (hs2 : starEach [.Tuple [.Name x p1, .Name y p2] kt pt] X.env = (false, eval (.Tuple [.Name x p1, .Name y p2] kt pt) X.env) :: starEach [] X.env := by rfl)
    (ht1 : starEach [.Name x p1, .Name y p2] X.env = (false, eval (.Name x p1) X.env) :: starEach [.Name y p2] X.env := by rfl) (ht2 : starEach [.Name y p2] X.env = (false, eval (.Name y p2) X.env) :: starEach [] X.env := by rfl)
    (hpl : (backTo pos (starEach [.Tuple [.Name x p1, .Name y p2] kt pt] X.env)).any (·.1) = false := by rfl) :
    RE cm X (.Call (.Name "isinstance" p) [e, .Tuple [.Name x p1, .Name y p2] kt pt] [] pos) (mIs2 T U fe) := fun W tk m S H σ en Q C h => by
  refine wE_of (pe_callB call_isiT hg hm PyProof.Rows.boot_isinstance (pa_cons pe_w (pa_cons (pe_tup (pa_cons (pe_bltn (v := .ty T.name) hg2 hm2 hv2 rfl hn hdb) (pa_cons (pe_bltn (v := .ty U.name) hg3 hm3 hv3 rfl hn3 hdb3) pa_nil ht2) ht1)) pa_nil hs2) hs) (by decide) (by decide) hs hpl) ?_
  refine he W tk m S H σ en _ C (PQ.bind h fun d S1 x m1 H1 e1 A1 R1 r1 h1 => ?_)
  split at h1
  · rename_i a b ea eb
    refine ⟨by show 2 ≤ sizeLine; rw [sizeLine_eq]; omega, fun q hq => ?_⟩
    have R2 := R1.grow (grow_upd (p := q) (o := .tup [.ty T.name, .ty U.name]) hq)
    have r2 := Rep.adv (Adv.new (o := .tup [.ty T.name, .ty U.name]) hq) _ _ r1
    obtain ⟨t', g1, g2⟩ := isD_all ho R2 r2 ea
    refine ⟨x, q, [.ty T.name, .ty U.name], t', [.type T.name, .type U.name], a || b, rfl, upd_same, .cons (.ty _) (.cons (.ty _) .nil), g1, ?_, h1.grown R1 (grow_upd hq) fun _ => by simp only [Rep]⟩
    exact kitAny_cons (g2 T a hT ea) (fun z => kitAny_cons (g2 U b hU eb) (fun z' => by rw [z, z']; exact kitAny_nil) fun z' => by rw [z']; simp) fun z => by rw [z]; rfl
  · exact h1.elim
end

/-! ### over a text -/
def iTxt (f : E D) : E Src := fun en S => (f en S).bind fun d S1 => match d with
  | .str x => .ok ⟨none, sgns x⟩ S1
  | _ => .bad
theorem ri_str {cm : Cm} {X : Cx} {tg iter : Expr} {f : E D} (h : RE cm X iter f) : RI cm X tg iter (iTxt f) := fun W tk m S H σ en R C hq => by
  refine wI_of (pi_str pe_w) ?_
  refine h W tk m S H σ en _ C (PQ.bind hq fun d S1 y m1 H1 e1 A1 R1 r1 h1 => ?_)
  split at h1
  · rename_i x
    simp only [Rep] at r1
    refine ⟨x, r1, PQ.now h1 R1 fun m' S' H' A R' st => ?_⟩
    have hl : (sgns x).length = x.cps.size := by unfold sgns; rw [List.length_map, Array.length_toList]
    refine ⟨fun i d ed => ?_, by show x.cps.size ≤ (sgns x).length; rw [hl]; exact Nat.le_refl _⟩
    have hi : i < x.cps.size := by rw [← hl]; exact (List.getElem?_eq_some_iff.mp ed).1
    refine ⟨hi, fun v H2 y => ?_⟩
    obtain ⟨e1, c, ec, e2⟩ := y
    subst e1 e2
    unfold sgns at ed
    rw [List.getElem?_map, Array.getElem?_toList, ec] at ed
    simp only [Option.map_some, Option.some.injEq] at ed
    subst ed
    exact ⟨fun _ _ h => h, by simp only [Rep]⟩
  · exact h1.elim
end Mi


/-! MiX: own exceptions over any base, with a field. -/
namespace Mi
open PySem PySem.Spec PyProof.Rows L2

/-- a built-in class as a base: how its instances are made, what its __init__ does -/
structure XB (newId initId : String) (bmB : List Value) : Prop where
  call : ∀ {prog : Program} {w : World} {A : Around} {R : Result → Shared → Prop} {h : Heap} {g : Array GenState} {d : Drawn} {t : Nat} {os : OsState} {nm q : Str} {C N : Addr} {bs bm : List Value} {hdct : Bool} {sn : List Str} {sub : List Value} {ab : Bool} {col : Option Bool} {dd : Option Addr} {k0 k1 k2 k3 k5 : Option Value} {rest : List Value} {fI : Addr},
    (∀ X : String, bm.contains (.type X) = bmB.contains (.type X)) → h.get? C = some (excClassObj nm q C N bs bm hdct sn sub ab col dd k0 k1 k2 k3 k5 newId) → PySem.W.Looks (model prog w) h (typeLookup (.ref C) "__init__") (some (.ref fI)) →
    (∀ self, PySem.W.Looks (model prog w) h (bindSpecial (.ref fI) self) (.ref fI, [self])) → rest.length ≤ sizeLine →
    codeAny (model prog w) (A.under (.builtin "type.__call__" ⟨.ref C :: rest, []⟩)) (.call (.ref fI) ⟨.ref (h.objs.size + 1) :: rest, []⟩) (PySem.W.InitBack (h.objs.size + 1) R) ⟨(h.push (PySem.W.kdv_tup rest)).push (PySem.HandSPX.excO C h.objs.size), g, d, t, os⟩ →
    codeAny (model prog w) A (.call (.ref C) ⟨rest, []⟩) R ⟨h, g, d, t, os⟩
  init : ∀ {prog : Program} {w : World} {A : Around} {R : Result → Shared → Prop} {h : Heap} {g : Array GenState} {d : Drawn} {t : Nat} {os : OsState} {nm q : Str} {C N : Addr} {bs bm : List Value} {hdct : Bool} {sn : List Str} {sub : List Value} {ab : Bool} {col : Option Bool} {dd : Option Addr} {k0 k1 k2 k3 k5 : Option Value} {e t0 : Addr} {rest : List Value},
    (∀ X : String, bm.contains (.type X) = bmB.contains (.type X)) → h.get? C = some (excClassObj nm q C N bs bm hdct sn sub ab col dd k0 k1 k2 k3 k5 newId) → h.get? e = some (PySem.HandSPX.excO C t0) → rest.length ≤ sizeLine →
    (∀ h' t1, (∀ b o, b ≠ e → h.get? b = some o → h'.get? b = some o) → h'.get? e = some (PySem.HandSPX.excO C t1) → R (.ok (.ret .none)) ⟨h', g, d, t, os⟩) →
    codeAny (model prog w) A (.call (.builtin initId) ⟨.ref e :: rest, []⟩) R ⟨h, g, d, t, os⟩
theorem XB.of {B newId initId : String} {bmB : List Value} (F : ExcBaseFacts B newId initId bmB) : XB newId initId bmB :=
  ⟨fun hT hC hi hb hr hq => PySem.HandSPX.call_own F hT hC hi hb hr hq, fun hT hC he hr hq => PySem.HandSPX.init_base F hT hC he hr hq⟩
structure OxC (K : PySem.W.Frag) (C : Addr) (bmB : List Value) (newId : String) : Prop where
  q : PySem.W.excInitIn K C bmB newId = true
  ov : PySem.W.excOver K C bmB = true
  sa : PySem.W.findIn K (.ref C) "__setattr__" = some (some (.builtin "object.__setattr__"))
  hd : PySem.W.hasDictIn K C = true
  exC : PySem.W.subIn K (.ref C) (.type "BaseException") = some true
  tyC : PySem.W.typeIn K (.ref C) = some (.type "type")
  kC : PySem.W.keepIn K (.ref C) = true
section
open PySem.W PySem.Calls PySem.HandSPX Builtin Builtin.ObjectAttr
variable {prog : Program} {w : World} {A : Around} {E : Value → Shared → Prop} {R : Result → Shared → Prop} {hp : Heap} {g : Array GenState} {d : Drawn} {t : Nat} {os : OsState} {B newId initId : String} {bmB : List Value}
theorem exc_osaB {K : W.Frag} {name : Str} {tk : Tok} {v : Value} {x C : Addr} {fv : Array Value} (SF : StoreFacts B bmB "object.__setattr__" "object")
    (X : K.In hp) (hx : hp.get? x = some { cls := .ref C, data := .fields fv }) (hp' : excOver K C bmB = true) (hh : hasDictIn K C = true) (ht : takerIn K C name = some none) (hnc : notCls ({ cls := .ref C, data := .fields fv } : Obj) = true)
    (hq : ∀ h' tk' dx, (∀ b o, b ≠ x → hp.get? b = some o → h'.get? b = some o) → hp.objs.size ≤ dx → dx ≠ x → h'.get? x = some { cls := .ref C, dict := some dx, data := .fields fv } →
      h'.Ns1 dx (fun y => if y = name then some v else none) → R (.ok (.ret .none)) ⟨h', g, d, tk', os⟩) :
    codeAny (model prog w) A (.call (.builtin "object.__setattr__") ⟨[.ref x, .str name tk, v], []⟩) R ⟨hp, g, d, t, os⟩ := by
  have I : W.InstAt hp x { cls := .ref C, data := .fields fv } C none := ⟨hx, rfl, rfl, trivial⟩
  have hxs : x ≠ hp.objs.size := Nat.ne_of_lt (Heap.lt_size hx)
  obtain ⟨cd, hcd, hdd⟩ := any_some hh
  have hcls : W.Looks (model prog w) hp (classData C) cd := W.looks_clsIn X hcd
  refine osa_openX SF X I hp' ht fun b => ?_
  show wpAny _ _ (storeInOwnDict (.ref x) (.ref C) (.str name tk) name v b) _ _ _
  obtain ⟨nm, bs, mro, ns, qn, hd, sn, sb, ab, col, del⟩ := cd
  dsimp only at hdd
  subst hdd
  unfold storeInOwnDict ownDictForStores
  repeat (first | with_reducible refine store_in_new ?_ ?_ | with_reducible refine wpAny_loadPart_at hx ?_ | with_reducible refine hcls.at ?_ | wp_step)
  · exact ⟨_, #[], _, (Heap.get?_update_ne _ _ _ _ hxs.symm).trans (Heap.get?_push_at rfl rfl), rfl, fun e he => absurd he (by simp), fun _ => rfl⟩
  · intro h' tk' hn' hs
    have hx₁ : (hp.push { cls := .type "dict", data := .dict #[] }).get? x = some { cls := .ref C, data := .fields fv } := Heap.get?_push_of_some _ hx
    refine hq h' tk' hp.objs.size (fun b o hb ho => ?_) (Nat.le_refl _) hxs.symm ?_ hn'
    · exact (hs.2 b (Nat.ne_of_lt (Heap.lt_size ho))).trans ((Heap.get?_update_ne _ _ _ _ hb).trans (Heap.get?_push_of_some _ ho))
    · exact (hs.2 x hxs).trans (Heap.get?_update_self _ hx₁ rfl)
end

/-! ### over tracked heaps -/
section
variable {X : Cx} {pins : List (Addr × Obj)} {σ : St} {H : Hp} {s : Shared} {a C dx : Addr} {f : Str} {y : V} {u : Value} {fs : List (Str × V)} {E : Value → Shared → Prop} {A : Around} {B newId initId : String} {bmB : List Value}
theorem exc_set {Q : Unit → Shared → Prop} (SF : StoreFacts B bmB "object.__setattr__" "object") (T : OxC X.K C bmB newId) (I : Inv X pins σ H s) (e : H a = some (exo a C none)) (hno : PySem.W.findIn X.K (.ref C) f = some none) (ry : RelV y u)
    (h : ∀ dx s', H dx = none → dx ≠ a → Inv X pins σ (upd (upd H dx (exd dx [(f, y)])) a (exo a C (some dx))) s' → Q () s') : wpAny (model X.prog X.w) A (setAttr (.ref a) f u) Q E s := by
  obtain ⟨t1, ho⟩ := exo_at I.hok e
  obtain ⟨hp, g, d, t, os⟩ := s
  refine PySem.W.set_plain I.kIn (ox := { cls := .ref C, dict := none, data := .fields #[.ref t1, .none, .none, .none, .bool false, .none] }) (od := none) ⟨ho, rfl, rfl, trivial⟩ T.sa ?_
  refine exc_osaB SF I.kIn ho T.ov T.hd (NoAttr.taker hno) rfl (fun h' tk' dx k dn dne hx hn => ?_)
  have hnd : H dx = none := I.hok.fresh dn
  have nd : ∀ {b : Addr} {o : Obj}, hp.get? b = some o → b ≠ dx := fun {b o} q => Nat.ne_of_lt (Nat.lt_of_lt_of_le (Heap.lt_size q) dn)
  have na : ∀ {b : Addr}, H b = none → b ≠ a := fun {b} n z => by
    rw [z, e] at n
    cases n
  have keepT : ∀ {b : Addr} {o : HO}, H b = some o → exo a C none ≠ o → (upd (upd H dx (exd dx [(f, y)])) a (exo a C (some dx))) b = some o := fun {b o} q z => by
    rw [upd_ne (at_ne e q z), upd_ne (ne_of_none q hnd)]
    exact q
  have Un1 : Un X.fs [] H (upd (upd H dx (exd dx [(f, y)])) a (exo a C (some dx))) hp h' := {
    keep := fun b o q n _ _ => k b o (na n) q
    slot := fun b o q n _ _ => ⟨o.slots, k b o (na n) q⟩
    free := fun b o q n _ => by rw [upd_ne (na n), upd_ne (nd q)]; exact n
    there := fun b o q _ => by
      by_cases hb : b = a
      · exact ⟨_, by rw [hb]; exact hx⟩
      · exact ⟨o, k b o hb q⟩
    tups := fun b xs q => keepT q exo_tup
    frzs := fun b o v q => keepT q exo_frz
    tbls := fun b ps q => ⟨#[], by rw [keepT q exo_tbl]; simp⟩ }
  refine h dx _ hnd dne (I.un (t' := tk') Un1 fun b o q => ?_)
  by_cases hb : b = a
  · subst hb
    rw [upd_same] at q
    cases q
    exact exo_ok hx
  · rw [upd_ne hb] at q
    by_cases hd : b = dx
    · subst hd
      rw [upd_same] at q
      cases q
      exact exd_ok hn (relO_put (fs := []) ry fun g => True.intro)
    · rw [upd_ne hd] at q
      exact (I.hok b o q).stay (fun c v hc z => k c v (by
          rcases hc with hc | hc
          · rw [hc]
            exact hb
          · exact at_ne e hc exo_own) z)
        (fun c hc => keepT hc exo_own) (fun c xs hc => keepT hc exo_tup)
/-- B.__init__(self, ..) -/
theorem exc_init {us : List Value} {Q : Value → Shared → Prop} (F : XB newId initId bmB) (T : OxC X.K C bmB newId) (I : Inv X pins σ H s) (e : H a = some (exo a C none)) (hl : us.length ≤ sizeLine) (h : ∀ s', Inv X pins σ H s' → Q .none s') :
    wpAny (model X.prog X.w) A (call (.builtin initId) (.ref a :: us)) Q E s := by
  obtain ⟨nm, N, qn, bs, bm, hdct, sn, sub, ab, col, dd, k0, k1, k2, k3, k5, hC, hT⟩ := PySem.W.excInit_of I.kIn T.q
  obtain ⟨t1, ho⟩ := exo_at I.hok e
  obtain ⟨hp, g, d, t, os⟩ := s
  refine wpAny_call (F.init hT hC ho hl fun h' t2 k hx => ?_)
  have J := I.write (t' := t) (x := a) (e := a) (o := exo a C none) (by rw [e]; exact True.intro) (.inl rfl) k ⟨_, hx⟩ (exo_ok hx)
  have eu : upd H a (exo a C none) = H := by
    funext b
    by_cases hb : b = a
    · rw [hb, upd_same, e]
    · rw [upd_ne hb]
  rw [eu] at J
  exact h _ J
end
/-- B.__init__(self, ..) where B names a built-in class; an own one -/
def tBi (K : PySem.W.Frag) (bmB : List Value) (newId : String) (ta : TA) : TE := fun σ H Q => ta σ H fun vs H1 => ∃ (a C : Addr) (ws : List V), vs = .ref a :: ws ∧ ws.length ≤ 1000 ∧ OxC K C bmB newId ∧ H1 a = some (exo a C none) ∧ Q .non H1
def tOf (K : PySem.W.Frag) (bmB : List Value) (newId : String) (f : Str) (to te : TE) : TS := fun D σ H => te σ H fun y H1 => to σ H1 fun x H2 => ∃ a C : Addr, x = .ref a ∧ OxC K C bmB newId ∧ PySem.W.findIn K (.ref C) f = some none ∧
  H2 a = some (exo a C none) ∧ ∀ dx, H2 dx = none → dx ≠ a → D.nx σ (upd (upd H2 dx (exd dx [(f, y)])) a (exo a C (some dx)))
section
variable {X : Cx} {o e : Expr} {es : List Expr} {to te : TE} {ta : TA} {f x : Str} {p p' p1 p2 pos : Pos} {B newId initId T : String} {bmB : List Value}
theorem init_args {pins : List (Addr × Obj)} {σ : St} {H : Hp} {s : Shared} {Q : VK} (F : XB newId initId bmB) (I : Inv X pins σ H s) (ha : PA X (e :: es) ta) (h : tBi X.K bmB newId ta σ H Q)
    (he : starEach (e :: es) X.env = (false, eval e X.env) :: starEach es X.env := by rfl) (hpl : (backTo pos (starEach es X.env)).any (·.1) = false := by rfl) :
    wpAny (model X.prog X.w) X.A (callWith pos (Value.builtin initId) [] (backTo pos (starEach (e :: es) X.env)) []) (EP X pins σ Q) X.xe s := by
  refine PyProof.Rows.callWith_method1 (thn (ha.run pos pins _ σ H _ I h) fun us s1 ⟨vs, H1, I1, r1, a, C, ws, ev, hl, T, ea, q⟩ => ?_) he hpl
  subst ev
  cases r1 with
  | @cons _ u0 _ ur ra rw' =>
    obtain rfl : u0 = Value.ref a := ra
    have hlen : ur.length ≤ sizeLine := by
      rw [← Paired.length rw', sizeLine_eq]
      omega
    exact exc_init F T I1 ea hlen fun s' J => ⟨.non, H1, J, rfl, q⟩
theorem pe_biinit {pl : Sem Bool} (F : XB newId initId bmB) (hg : Gl X x) (hm : X.mg x = none) (hv : bootBuiltins x = some (.type B)) (ht : typeOf (.type B) = pure (.type "type")) (hst : Manifest.isStub B = false) (hh : PySem.W.handedIn (.builtin initId) = true) (vV : PySem.W.findCls X.K (.type B) (.type "type") "__init__" = some (.val (.builtin initId))) (ha : PA X (e :: es) ta)
    (hn : x ≠ "__name__" := by decide) (hdb : (x == ("__debug__" : Str)) = false := by decide)
    (hc : eval (.Call (.Attribute (.Name x p1) "__init__" p2) (e :: es) [] pos) X.env = (do
      let ov ← eval (.Name x p1) X.env
      standAt p2.atName
      let (f, first) ← holding [ov] (getMethod ov "__init__" pl)
      callWith pos f first (backTo pos (starEach (e :: es) X.env)) (backToKw pos (keywordEach [] X.env))) := by rfl)
    (he : starEach (e :: es) X.env = (false, eval e X.env) :: starEach es X.env := by rfl) (hpl : (backTo pos (starEach es X.env)).any (·.1) = false := by rfl) :
    PE X (.Call (.Attribute (.Name x p1) "__init__" p2) (e :: es) [] pos) (tBi X.K bmB newId ta) := by
  refine ⟨fun pins s σ H Q I h => ?_⟩
  refine PySem.W.methodCall_KW (ld_blt I hg hm hv ?_ hn hdb) hc
  obtain ⟨m, fr⟩ := I.fr
  refine PySem.W.method_type fr I.ok.mod.kin ht hst vV hh ?_
  exact init_args F (I.tok _) ha h he hpl
theorem pe_owinit {pl : Sem Bool} {D : Addr} {mc : Value} (F : XB newId initId bmB) (hg : Gl X x) (hm : X.mg x = some (.ref D)) (hs : PySem.W.specialIn X.K (.ref D) "__getattribute__" = some (some (.builtin "type.__getattribute__"))) (hr : PySem.W.readsIn X.K D mc = true) (hh : PySem.W.handedIn (.builtin initId) = true) (vV : PySem.W.findCls X.K (.ref D) mc "__init__" = some (.val (.builtin initId))) (ha : PA X (e :: es) ta)
    (hdb : (x == ("__debug__" : Str)) = false := by decide)
    (hc : eval (.Call (.Attribute (.Name x p1) "__init__" p2) (e :: es) [] pos) X.env = (do
      let ov ← eval (.Name x p1) X.env
      standAt p2.atName
      let (f, first) ← holding [ov] (getMethod ov "__init__" pl)
      callWith pos f first (backTo pos (starEach (e :: es) X.env)) (backToKw pos (keywordEach [] X.env))) := by rfl)
    (he : starEach (e :: es) X.env = (false, eval e X.env) :: starEach es X.env := by rfl) (hpl : (backTo pos (starEach es X.env)).any (·.1) = false := by rfl) :
    PE X (.Call (.Attribute (.Name x p1) "__init__" p2) (e :: es) [] pos) (tBi X.K bmB newId ta) := by
  refine ⟨fun pins s σ H Q I h => ?_⟩
  refine PySem.W.methodCall_KW (ld_glob I hg hm ?_ hdb) hc
  refine PySem.W.method_cls I.kIn hs (PySem.W.cls_value I.kIn hr vV hh ?_)
  exact init_args F (I.tok _) ha h he hpl
theorem ps_exf (SF : StoreFacts B bmB "object.__setattr__" "object") (ho : PE X o to) (he : PE X e te) (hs : swapsWith e (some (.Attribute o f p')) pos.line X.env = pure false := by rfl) : PS X (.Assign [.Attribute o f p'] e pos) (tOf X.K bmB newId f to te) := by
  refine ⟨fun pins s σ H D I h => ?_⟩
  refine plainObj_wpAny_Assign_Attribute (thn (he.run pins s σ H _ I h) fun v s1 ⟨y, H1, I1, r1, q1⟩ => thn (ho.run pins s1 σ H1 _ I1 q1) fun u s2 ⟨x, H2, I2, r2, a, C, ex, T, hno, ea, q⟩ => ?_) hs
  subst ex
  obtain rfl : u = Value.ref a := r2
  exact exc_set SF T I2 ea hno r1 fun dx s' n ne J => ⟨σ, _, J, q dx n ne⟩
end
/-- what such an __init__ promises -/
def spXi (K : PySem.W.Frag) (bmB : List Value) (newId : String) (f : Str) : Sp := fun vs H Q _ => ∃ (a C : Addr) (v : V), vs = [.ref a, v] ∧ OxC K C bmB newId ∧ PySem.W.findIn K (.ref C) f = some none ∧ H a = some (exo a C none) ∧
  ∀ dx, H dx = none → dx ≠ a → Q .non (upd (upd H dx (exd dx [(f, v)])) a (exo a C (some dx)))

/-! ### such an exception made: as a value; to be raised -/
section
variable {X : Cx} {x : Str} {C fI : Addr} {k : Nat} {fd : FuncData} {ps : List Str} {sp : Sp} {e : Expr} {es : List Expr} {ta : TA} {p pos : Pos} {CX : CXT} {B newId initId : String} {bmB : List Value}
/-- C(e, ..): the new object, then its __init__ -/
def tMkV (C : Addr) (sp : Sp) (ta : TA) : TE := fun σ H Q => ta σ H fun vs H1 => vs.length ≤ 1000 ∧ ∀ a, H1 a = none → sp (.ref a :: vs) (upd H1 a (exo a C none)) (fun v H2 => v = .non ∧ Q (.ref a) H2) (fun _ _ _ => False)
theorem oex_run {pins : List (Addr × Obj)} {σ : St} {H : Hp} {s : Shared} {Qv : Value → Shared → Prop} {Q : Hp → Addr → Hp → Prop} (F : XB newId initId bmB) (T : OxC X.K C bmB newId) (iC : PySem.W.findIn X.K (.ref C) "__init__" = some (some (.ref fI))) (tI : PySem.W.isFn X.K (.ref fI) = true)
    (F1 : FnOk X.prog X.w X.K X.mg X.base CX k fI fd ps sp) (hr : Room (k + 1) X.A) (hb : Binds X.K fd ps []) (hx : Passes CX X (fun _ _ _ => False)) (hg : Gl X x) (hm : X.mg x = some (.ref C)) (ha : PA X (e :: es) ta)
    (I : Inv X pins σ H s) (h : ta σ H fun vs H1 => vs.length ≤ 1000 ∧ ∀ a, H1 a = none → sp (.ref a :: vs) (upd H1 a (exo a C none)) (fun v H2 => v = .non ∧ Q H1 a H2) (fun _ _ _ => False))
    (hQ : ∀ {H1 H2 : Hp} {hp hp2 h2 : Heap} {g1 g2 : Array GenState} {d1 d2 : Drawn} {t1 t2 : Nat} {os1 os2 : OsState} {a : Addr}, Inv X pins σ H1 ⟨hp, g1, d1, t1, os1⟩ → hp.objs.size ≤ a → (∀ b o, hp.get? b = some o → hp2.get? b = some o) →
      Un (frs X.stack) [] (upd H1 a (exo a C none)) H2 hp2 h2 → HOk X.prog X.w H2 h2 → os2 = os1 → AllBare g2 → Inv X pins σ (upd H1 a (exo a C none)) ⟨hp2, g1, d1, t1, os1⟩ → Q H1 a H2 → Qv (.ref a) ⟨h2, g2, d2, t2, os2⟩)
    (hdb : (x == ("__debug__" : Str)) = false := by decide) (he : starEach (e :: es) X.env = (false, eval e X.env) :: starEach es X.env := by rfl) (hpl : (backTo pos (starEach es X.env)).any (·.1) = false := by rfl) :
    wpAny (model X.prog X.w) X.A (eval (.Call (.Name x p) (e :: es) [] pos) X.env) Qv X.xe s := by
  refine wpAny_Call_Name_kw (ld_glob I hg hm ?_ hdb)
  refine PySem.W.callWith_K (h₀ := X.base) I.ok.mod.kin T.kC (thn (ha.run pos pins s σ H _ I h) fun us s1 ⟨vs, H1, I1, r1, hz, q1⟩ => ⟨I1.kIn, ?_⟩) he hpl
  show wpAny _ _ (call (.ref C) us) _ _ _
  obtain ⟨nm, N, qn, bs, bm, hdct, sn, sub, ab, col, dd, k0, k1, k2, k3, k5, hC, hT⟩ := PySem.W.excInit_of I1.kIn T.q
  obtain ⟨oI, hoI, hcI⟩ : ∃ oI, s1.heap.get? fI = some oI ∧ oI.cls = .type "function" := by
    obtain ⟨o, ho, hc⟩ := Option.map_eq_some_iff.mp (show (X.K.lookup fI).map (·.cls) = some (.type "function") from beq_iff_eq.mp tI)
    exact ⟨o, I1.kIn _ _ ho, hc⟩
  have hi' : PySem.W.Looks (model X.prog X.w) s1.heap (typeLookup (.ref C) "__init__") (some (.ref fI)) := PySem.W.looks_findIn I1.kIn iC
  obtain ⟨hp, g, dr, tk, os⟩ := s1
  have hsz : hp.objs.size ≤ hp.objs.size + 1 := Nat.le_succ _
  have hn : H1 (hp.objs.size + 1) = none := I1.hok.fresh hsz
  have hq := q1 (hp.objs.size + 1) hn
  have kk : ∀ b o, hp.get? b = some o → ((hp.push (PySem.W.kdv_tup us)).push (PySem.HandSPX.excO C hp.objs.size)).get? b = some o := fun b o e => Heap.get?_push_of_some _ (Heap.get?_push_of_some _ e)
  have hget : ((hp.push (PySem.W.kdv_tup us)).push (PySem.HandSPX.excO C hp.objs.size)).get? (hp.objs.size + 1) = some (PySem.HandSPX.excO C hp.objs.size) := by heap_get
  have I2 : Inv X pins σ (upd H1 (hp.objs.size + 1) (exo (hp.objs.size + 1) C none)) ⟨(hp.push (PySem.W.kdv_tup us)).push (PySem.HandSPX.excO C hp.objs.size), g, dr, tk, os⟩ :=
    I1.laid (t' := tk) (a := hp.objs.size + 1) (o := exo (hp.objs.size + 1) C none) (h' := (hp.push (PySem.W.kdv_tup us)).push (PySem.HandSPX.excO C hp.objs.size)) kk hsz (exo_ok hget)
  have r2 : Vals (V.ref (hp.objs.size + 1) :: vs) (Value.ref (hp.objs.size + 1) :: us) := .cons rfl r1
  have hl : (Value.ref (hp.objs.size + 1) :: us).length = ps.length := by
    have e := r2.length
    rw [F1.len _ _ _ _ hq] at e
    exact e.symm
  have hus : us.length ≤ sizeLine := by
    rw [← Paired.length r1, sizeLine_eq]
    omega
  have b0 := hb { heap := (hp.push (PySem.W.kdv_tup us)).push (PySem.HandSPX.excO C hp.objs.size), gens := g, drawn := dr, toks := tk, os := os } (Value.ref (hp.objs.size + 1) :: us) I2.kIn (by rw [List.append_nil]; exact hl)
  rw [List.append_nil] at b0
  refine wpAny_call (F.call hT hC hi' (fun self => PySem.W.exc_bind hoI hcI self) hus
    (codeAny_mono (F1.run _ X.stack _ _ ⟨Value.ref (hp.objs.size + 1) :: us, []⟩ (Value.ref (hp.objs.size + 1) :: us) _ _ (fun _ _ _ => False) (hr.make C us []) (I2.env0.make C us []) b0 r2 hq) fun r s' hq' => ?_))
  cases r with
  | error er => exact hx pins σ _ _ er s' I2 hq'
  | ok fl =>
    cases fl with
    | ret u =>
      obtain ⟨v, H2, os2, bare2, un2, hok2, rv, ev, q2⟩ := hq'
      subst ev
      obtain ⟨h2, g2, d2, t2, os'⟩ := s'
      exact ⟨rv, hQ I1 hsz kk un2 hok2 os2 bare2 I2 q2⟩
    | next => exact False.elim hq'
    | brk => exact False.elim hq'
    | cont => exact False.elim hq'
theorem pe_oexV (F : XB newId initId bmB) (T : OxC X.K C bmB newId) (iC : PySem.W.findIn X.K (.ref C) "__init__" = some (some (.ref fI))) (tI : PySem.W.isFn X.K (.ref fI) = true)
    (F1 : FnOk X.prog X.w X.K X.mg X.base CX k fI fd ps sp) (hr : Room (k + 1) X.A) (hb : Binds X.K fd ps []) (hx : Passes CX X (fun _ _ _ => False)) (hg : Gl X x) (hm : X.mg x = some (.ref C)) (ha : PA X (e :: es) ta)
    (hdb : (x == ("__debug__" : Str)) = false := by decide) (he : starEach (e :: es) X.env = (false, eval e X.env) :: starEach es X.env := by rfl) (hpl : (backTo pos (starEach es X.env)).any (·.1) = false := by rfl) :
    PE X (.Call (.Name x p) (e :: es) [] pos) (tMkV C sp ta) := ⟨fun pins s σ H Q I h => by
  refine oex_run (Q := fun _ a H2 => Q (.ref a) H2) F T iC tI F1 hr hb hx hg hm ha I h ?_ hdb he hpl
  intro H1 H2 hp hp2 h2 g1 g2 d1 d2 t1 t2 os1 os2 a I1 hsz kk un hok ho hbare I2 q
  subst ho
  exact ⟨.ref a, H2, I2.call (ch := []) un hok hbare (fun b z => absurd z (by simp)), rfl, q⟩⟩
theorem pmk_oexB (F : XB newId initId bmB) (T : OxC X.K C bmB newId) (iC : PySem.W.findIn X.K (.ref C) "__init__" = some (some (.ref fI))) (tI : PySem.W.isFn X.K (.ref fI) = true)
    (F1 : FnOk X.prog X.w X.K X.mg X.base CX k fI fd ps sp) (hr : Room (k + 1) X.A) (hb : Binds X.K fd ps []) (hx : Passes CX X (fun _ _ _ => False)) (hg : Gl X x) (hm : X.mg x = some (.ref C)) (ha : PA X (e :: es) ta)
    (hdb : (x == ("__debug__" : Str)) = false := by decide) (he : starEach (e :: es) X.env = (false, eval e X.env) :: starEach es X.env := by rfl) (hpl : (backTo pos (starEach es X.env)).any (·.1) = false := by rfl) :
    PMk X (.Call (.Name x p) (e :: es) [] pos) (tMkO C sp [] ta) := by
  intro pins s σ H Q I h
  unfold tMkO at h
  simp only [List.append_nil] at h
  refine oex_run (Q := fun H1 a H2 => ∃ (d : Addr) (fs : List (Str × V)), H2 a = some (exo a C (some d)) ∧ H2 d = some (exd d fs) ∧ H1 d = none ∧ Q (.ref C) (some d) (upd (del H2 a) d (.xd fs))) F T iC tI F1 hr hb hx hg hm ha I h ?_ hdb he hpl
  intro H1 H2 hp hp2 h2 g1 g2 d1 d2 t1 t2 os1 os2 a I1 hsz kk un hok ho hbare I2 ⟨d, fs, ea, ed, hd1, q2⟩
  exact mk_end (raises_own T.exC T.tyC) I1 hsz kk un hok ho hbare ea ed hd1 q2
end
end Mi


/-! MiV: exceptions as values. -/
namespace Mi
open PySem PySem.Spec PyProof.Rows L2

/-- what an own exception class must say, so that its instances are asked rightly -/
structure ExA (K : PySem.W.Frag) (C : Addr) : Prop where
  ga : PySem.W.findIn K (.ref C) "__getattribute__" = some (some (.builtin "BaseException.__getattribute__"))
  gg : PySem.W.findIn K (.ref C) "__getattr__" = some none
  exC : PySem.W.subIn K (.ref C) (.type "BaseException") = some true
  hd : PySem.W.hasDictIn K C = true
  ha : PySem.W.findIn K (.ref C) "__class__" = some (some (.builtin "object.__class__"))
  hn : PySem.W.specialIn K (.builtin "object.__class__") "__get__" = some (some (.builtin "getset_descriptor.__get__"))
  htk : PySem.W.takesIn K (.builtin "object.__class__") = some true
  hm : PySem.W.mroIn K C (.type "object") = some true
theorem ExA.cl {K : PySem.W.Frag} {C : Addr} (h : ExA K C) : (PySem.W.clsIn K C).isSome = true := by
  obtain ⟨cd, hc, _⟩ := PySem.W.any_some h.hd
  rw [hc]
  rfl
/-- an exception stands at a -/
def XAt (H : Hp) (a C : Addr) : Prop := H a = some (ExO (.ref C) a) ∨ ∃ d fs, H a = some (exo a C (some d)) ∧ H d = some (exd d fs)
section
variable {X : Cx} {pins : List (Addr × Obj)} {σ : St} {H : Hp} {s : Shared}
theorem XAt.inst {a C : Addr} (I : Inv X pins σ H s) (h : XAt H a C) : ∃ ox od, PySem.W.InstAt s.heap a ox C od := by
  rcases h with h | ⟨d, fs, h1, h2⟩
  · obtain ⟨⟨oe, vs, e, z, dd, _⟩, _, _⟩ := I.hok a _ h
    obtain ⟨oc, od, oda, osl⟩ := oe
    obtain ⟨z1, z2⟩ := z
    dsimp only at z1 z2 dd
    subst z1 z2 dd
    exact ⟨_, none, e, rfl, rfl, trivial⟩
  · obtain ⟨t1, e⟩ := exo_at I.hok h1
    obtain ⟨mA, ⟨o, _, _, ho, _⟩, _⟩ := exd_at I.hok h2
    exact ⟨_, some o, e, rfl, rfl, ho⟩
/-- isinstance(e, c) -/
def rIsX (K : PySem.W.Frag) : List V → Hp → VK → Prop := fun xs H Q => ∃ (a C : Addr) (c : V) (u : Value) (b : Bool), xs = [.ref a, c] ∧ ClsV c u ∧ XAt H a C ∧ ExA K C ∧ PySem.W.kitOne K (.ref C) u = some b ∧ Q (.bl b) H
theorem call_isX : CallR X (.builtin "isinstance") (rIsX X.K) := by
  intro pins s σ H xs us Q I r h
  obtain ⟨a, C, c, u, b, rfl, k, hx, T, e, q⟩ := h
  obtain ⟨u1, u2, rfl, r1, r2⟩ := vals2 r
  have e2 := k.eq r2
  subst e2
  cases r1
  obtain ⟨ox, od, J⟩ := hx.inst I
  exact PySem.W.kia_one (PySem.W.kitx_exc T.cl T.ga T.gg T.exC T.ha T.hn T.htk T.hm) I.kIn J e (fun z => nomatch z) fun tk => ⟨.bl b, H, I.tok tk, rfl, q⟩
/-- e.f -/
def tXg (K : PySem.W.Frag) (f : Str) (te : TE) : TE := fun σ H Q => te σ H fun x H1 => ∃ (a C d : Addr) (fs : List (Str × V)) (v : V), x = .ref a ∧ ExA K C ∧ PySem.W.findIn K (.ref C) f = some none ∧ H1 a = some (exo a C (some d)) ∧ H1 d = some (exd d fs) ∧ fs.lookup f = some v ∧ Q v H1
theorem pe_xg {e : Expr} {te : TE} {pos : Pos} {n : Str} (he : PE X e te) (hb : attributeBase e n X.env (eval e X.env) = eval e X.env := by rfl) : PE X (.Attribute e n pos) (tXg X.K n te) := by
  refine ⟨fun pins s σ H Q I h => ?_⟩
  refine attr_of hb (thn (he.run pins s σ H _ I h) fun u s1 hh => ?_)
  obtain ⟨x, H1, I1, rx, a, C, d, fs, v, ex, T, hno, h1, h2, l, q⟩ := hh
  subst ex
  obtain rfl : u = Value.ref a := rx
  obtain ⟨t1, ha⟩ := exo_at I1.hok h1
  obtain ⟨mA, hns, hr⟩ := exd_at I1.hok h2
  obtain ⟨od, ho, hl⟩ := lookIn_ns hns
  obtain ⟨u, hu, ru⟩ := RelO.some_of (v := v) (o := mA n) (by rw [← l]; exact hr n)
  have J : PySem.W.InstAt s1.heap a _ C (some od) := ⟨ha, rfl, rfl, ho⟩
  exact HandSPX.exc_get I1.kIn J T.ga T.gg T.exC (PySem.W.findObj_own T.hd hno rfl (by rw [hl, hu])) (handed_of ru) ⟨v, H1, I1.tok _, ru, q⟩
end

/-! ### the rules -/
/-- X(e), without own __init__ -/
def mExc (c : Str) (fa : E (List D)) : E D := fun en S => (fa en S).bind fun l S1 => match l with
  | [_] => .ok (.exc c [] []) S1
  | _ => .bad
/-- X(e), its own __init__ keeps e as f -/
def mExcF (c f : Str) (fa : E (List D)) : E D := fun en S => (fa en S).bind fun l S1 => match l with
  | [d] => .ok (.exc c [f] [d]) S1
  | _ => .bad
def mIsX (g : Str → Bool) (fe : E D) : E D := fun en S => (fe en S).bind fun d S1 => match d with
  | .exc c _ _ => .ok (.bl (g c)) S1
  | _ => .bad
def mXf (f : Str) (fe : E D) : E D := fun en S => (fe en S).bind fun d S1 => match d with
  | .exc _ [g] [v] => if g = f then .ok v S1 else .bad
  | _ => .bad
section
variable {cm : Cm} {X : Cx} {x : Str} {C fI : Addr} {k : Nat} {fd : FuncData} {ps : List Str} {e : Expr} {es : List Expr} {fe : E D} {p p1 pos : Pos} {B newId initId : String} {bmB : List Value} {bm' : List Value}
theorem re_exc1 (F : ExcBaseFacts B newId initId bmB) (q : PySem.W.excIn X.K C bmB newId = true) (gC : X.mg x = some (.ref C)) (kC : PySem.W.keepIn X.K (.ref C) = true) (hC : cm.exc x = some C) (hg : Gl X x)
    (he : RE cm X e fe) (hs : starEach [e] X.env = (false, eval e X.env) :: starEach [] X.env := by rfl) (hdb : (x == ("__debug__" : Str)) = false := by decide) :
    RE cm X (.Call (.Name x p) [e] [] pos) (mExc x (aCons fe aNil)) := fun W tk m S H σ en Q C' h => by
  refine wE_of (pe_exc1 F q gC kC hg pe_w hs hdb) ?_
  have h0 : PQ (Rep (ct X cm)) (ct X cm) m S H σ W ((fe en S).bind fun d S1 => .ok (.exc x [] []) S1) Q := by
    have : mExc x (aCons fe aNil) en S = (fe en S).bind fun d S1 => .ok (.exc x [] []) S1 := by
      unfold mExc aCons aNil
      cases fe en S <;> rfl
    rw [this] at h
    exact h
  refine he W tk m S H σ en _ C' (PQ.bind h0 fun d S1 y m1 H1 e1 A1 R1 r1 h1 => ?_)
  intro a ha
  refine h1 _ m1 _ (Adv.new ha) (R1.grow (grow_upd ha)) ?_
  simp only [Rep]
  exact ⟨a, C, rfl, hC, R1.free_new ha, .inl ⟨trivial, trivial, upd_same⟩⟩
theorem re_excF {f : Str} (F : XB newId initId bmB) (T : OxC X.K C bmB newId) (iC : PySem.W.findIn X.K (.ref C) "__init__" = some (some (.ref fI))) (tI : PySem.W.isFn X.K (.ref fI) = true) (hno : PySem.W.findIn X.K (.ref C) f = some none)
    (F1 : FnOk X.prog X.w X.K X.mg X.base (L2.CX X.prog X.w) k fI fd ps (spXi X.K bmB newId f)) (hr : Room (k + 1) X.A) (hb : Binds X.K fd ps []) (hC : cm.exc x = some C) (hg : Gl X x) (hm : X.mg x = some (.ref C)) (he' : RE cm X e fe)
    (hdb : (x == ("__debug__" : Str)) = false := by decide) (he : starEach [e] X.env = (false, eval e X.env) :: starEach [] X.env := by rfl) (hpl : (backTo pos (starEach [] X.env)).any (·.1) = false := by rfl) :
    RE cm X (.Call (.Name x p) [e] [] pos) (mExcF x f (aCons fe aNil)) := fun W tk m S H σ en Q C' h => by
  refine wE_of (pe_oexV F T iC tI F1 hr hb (passes_call (E := fun _ _ _ => False) tk fun _ _ _ _ z => z.elim) hg hm (pa_cons pe_w pa_nil he) hdb he hpl) ?_
  have h0 : PQ (Rep (ct X cm)) (ct X cm) m S H σ W ((fe en S).bind fun d S1 => .ok (.exc x [f] [d]) S1) Q := by
    have : mExcF x f (aCons fe aNil) en S = (fe en S).bind fun d S1 => .ok (.exc x [f] [d]) S1 := by
      unfold mExcF aCons aNil
      cases fe en S <;> rfl
    rw [this] at h
    exact h
  refine he' W tk m S H σ en _ C' (PQ.bind h0 fun d S1 y m1 H1 e1 A1 R1 r1 h1 => ?_)
  refine ⟨by show 1 ≤ 1000; decide, fun a ha => ⟨a, C, y, rfl, T, hno, upd_same, fun dx hdx hne => ⟨rfl, ?_⟩⟩⟩
  have hdx1 : H1 dx = none := by rw [upd_ne hne] at hdx; exact hdx
  have kp : ∀ b o, H1 b = some o → (upd (upd (upd H1 a (exo a C none)) dx (exd dx [(f, y)])) a (exo a C (some dx))) b = some o := fun b o q => by
    rw [upd_ne (ne_of_none q ha), upd_ne (ne_of_none q hdx1), upd_ne (ne_of_none q ha)]
    exact q
  refine h1 _ m1 _ (Adv.grow kp) (R1.grow kp) ?_
  simp only [Rep]
  refine ⟨a, C, rfl, hC, R1.free_new ha, .inr ⟨dx, [(f, y)], upd_same, ?_, R1.free_new hdx1, rfl, Reps.cons (Rep.adv (Adv.grow kp) _ _ r1) Reps.nil⟩⟩
  rw [upd_ne hne, upd_same]
theorem exc_v {m : Am} {S : So} {H : Hp} {c : Str} {ks : List Str} {l : List D} {x : V} (r : Rep (ct X cm) m S H (.exc c ks l) x) : ∃ a C, x = .ref a ∧ cm.exc c = some C ∧ XAt H a C := by
  simp only [Rep] at r
  obtain ⟨a, C, e, hc, f, h | ⟨d, fs, h1, h2, f2, h3, h4⟩⟩ := r
  · exact ⟨a, C, e, hc, .inl h.2.2⟩
  · exact ⟨a, C, e, hc, .inr ⟨d, fs, h1, h2⟩⟩
/-- isinstance of an exception: c a built-in class or an own one -/
theorem re_isX {g : Str → Bool} {cv : V} {cu : Value} (ho : ∀ c C, cm.exc c = some C → ExA X.K C ∧ PySem.W.kitOne X.K (.ref C) cu = some (g c)) (k : ClsV cv cu) (hg : Gl X "isinstance") (hm : X.mg "isinstance" = none) (hx : PE X (.Name x p1) (tC cv)) (he : RE cm X e fe)
    (hs : starEach [e, .Name x p1] X.env = (false, eval e X.env) :: starEach [.Name x p1] X.env := by rfl) (hs2 : starEach [.Name x p1] X.env = (false, eval (.Name x p1) X.env) :: starEach [] X.env := by rfl)
    (hpl : (backTo pos (starEach [.Name x p1] X.env)).any (·.1) = false := by rfl) :
    RE cm X (.Call (.Name "isinstance" p) [e, .Name x p1] [] pos) (mIsX g fe) := fun W tk m S H σ en Q C h => by
  refine wE_of (pe_callB call_isX hg hm PyProof.Rows.boot_isinstance (pa_cons pe_w (pa_cons hx pa_nil hs2) hs) (by decide) (by decide) hs hpl) ?_
  refine he W tk m S H σ en _ C (PQ.bind h fun d S1 y m1 H1 e1 A1 R1 r1 h1 => ?_)
  split at h1
  · obtain ⟨a, C2, rfl, hc, hX⟩ := exc_v r1
    obtain ⟨T, hk⟩ := ho _ _ hc
    exact ⟨a, C2, cv, cu, _, rfl, k, hX, T, hk, PQ.now h1 R1 (by simp only [Rep])⟩
  · exact h1.elim
theorem re_xf {f : Str} (ho : ∀ c C, cm.exc c = some C → ExA X.K C ∧ PySem.W.findIn X.K (.ref C) f = some none) (he : RE cm X e fe) (hb : attributeBase e f X.env (eval e X.env) = eval e X.env := by rfl) : RE cm X (.Attribute e f pos) (mXf f fe) := fun W tk m S H σ en Q C h => by
  refine wE_of (pe_xg pe_w hb) ?_
  refine he W tk m S H σ en _ C (PQ.bind h fun d S1 y m1 H1 e1 A1 R1 r1 h1 => ?_)
  split at h1
  · rename_i c g v
    split at h1
    · rename_i hgf
      subst hgf
      simp only [Rep] at r1
      obtain ⟨a, C2, e, hc, f, h | ⟨d, fs, g1, g2, f2, g3, g4⟩⟩ := r1
      · exact absurd h.1 (by simp)
      · obtain ⟨T, hno⟩ := ho _ _ hc
        cases fs with
        | nil => simp at g3
        | cons p fs =>
          obtain ⟨pf, pv⟩ := p
          cases fs with
          | cons _ _ => simp at g3
          | nil =>
            simp only [List.map_cons, List.map_nil, List.cons.injEq, and_true] at g3
            subst g3
            obtain ⟨v', e', r'⟩ := reps1 g4
            cases e'
            exact ⟨a, C2, d, _, pv, e, T, hno, g1, g2, by simp [List.lookup], PQ.now h1 R1 r'⟩
    · exact h1.elim
  · exact h1.elim
end

/-! ### in short -/
def IsXo (K : PySem.W.Frag) (mg : Str → Option Value) (cm : Cm) (x : Str) (g : Str → Bool) : Prop := ∃ C, mg x = some (.ref C) ∧ ∀ c D, cm.exc c = some D → ExA K D ∧ PySem.W.kitOne K (.ref D) (.ref C) = some (g c)
def IsXb (K : PySem.W.Frag) (cm : Cm) (T : String) (g : Str → Bool) : Prop := ∀ c D, cm.exc c = some D → ExA K D ∧ PySem.W.kitOne K (.ref D) (.type T) = some (g c)
def NoX (K : PySem.W.Frag) (cm : Cm) (f : Str) : Prop := ∀ c D, cm.exc c = some D → ExA K D ∧ PySem.W.findIn K (.ref D) f = some none
def Mk1 (K : PySem.W.Frag) (mg : Str → Option Value) (cm : Cm) (x : Str) (bmB : List Value) (newId : String) : Prop := ∃ C, cm.exc x = some C ∧ mg x = some (.ref C) ∧ PySem.W.keepIn K (.ref C) = true ∧ PySem.W.excIn K C bmB newId = true
def MkF (P : Program) (w : World) (K : PySem.W.Frag) (mg : Str → Option Value) (base : Heap) (cm : Cm) (k : Nat) (x f : Str) (bmB : List Value) (newId : String) : Prop := ∃ C fI fd ps, OxC K C bmB newId ∧ PySem.W.findIn K (.ref C) "__init__" = some (some (.ref fI)) ∧ PySem.W.isFn K (.ref fI) = true ∧
  PySem.W.findIn K (.ref C) f = some none ∧ FnOk P w K mg base (L2.CX P w) k fI fd ps (spXi K bmB newId f) ∧ Binds K fd ps [] ∧ cm.exc x = some C ∧ mg x = some (.ref C)
section
variable {cm : Cm} {X : Cx} {x : Str} {k : Nat} {e : Expr} {fe : E D} {p p1 pos : Pos} {B newId initId T : String} {bmB : List Value} {g : Str → Bool}
theorem re_isXo (h : IsXo X.K X.mg cm x g) (hg : Gl X "isinstance") (hm : X.mg "isinstance" = none) (hx : Gl X x) (he : RE cm X e fe) (hd : (x == ("__debug__" : Str)) = false := by decide)
    (hs : starEach [e, .Name x p1] X.env = (false, eval e X.env) :: starEach [.Name x p1] X.env := by rfl) (hs2 : starEach [.Name x p1] X.env = (false, eval (.Name x p1) X.env) :: starEach [] X.env := by rfl)
    (hpl : (backTo pos (starEach [.Name x p1] X.env)).any (·.1) = false := by rfl) : RE cm X (.Call (.Name "isinstance" p) [e, .Name x p1] [] pos) (mIsX g fe) := by
  obtain ⟨C, hC, h⟩ := h
  exact re_isX h (.own C) hg hm (pe_glob (v := .ref C) hx hC rfl hd) he hs hs2 hpl
theorem re_isXb (h : IsXb X.K cm T g) (hg : Gl X "isinstance") (hm : X.mg "isinstance" = none) (hx : Gl X x) (hmx : X.mg x = none) (hv : bootBuiltins x = some (.type T)) (he : RE cm X e fe) (hn : x ≠ "__name__" := by decide) (hd : (x == ("__debug__" : Str)) = false := by decide)
    (hs : starEach [e, .Name x p1] X.env = (false, eval e X.env) :: starEach [.Name x p1] X.env := by rfl) (hs2 : starEach [.Name x p1] X.env = (false, eval (.Name x p1) X.env) :: starEach [] X.env := by rfl)
    (hpl : (backTo pos (starEach [.Name x p1] X.env)).any (·.1) = false := by rfl) : RE cm X (.Call (.Name "isinstance" p) [e, .Name x p1] [] pos) (mIsX g fe) :=
  re_isX h (.ty T) hg hm (pe_bltn (v := .ty T) hx hmx hv rfl hn hd) he hs hs2 hpl
theorem re_exc1o (F : ExcBaseFacts B newId initId bmB) (h : Mk1 X.K X.mg cm x bmB newId) (hg : Gl X x) (he : RE cm X e fe) (hs : starEach [e] X.env = (false, eval e X.env) :: starEach [] X.env := by rfl) (hdb : (x == ("__debug__" : Str)) = false := by decide) :
    RE cm X (.Call (.Name x p) [e] [] pos) (mExc x (aCons fe aNil)) := by
  obtain ⟨C, h1, h2, h3, h4⟩ := h
  exact re_exc1 F h4 h2 h3 h1 hg he hs hdb
theorem re_excFo {f : Str} (F : XB newId initId bmB) (h : MkF X.prog X.w X.K X.mg X.base cm k x f bmB newId) (hr : Room (k + 1) X.A) (hg : Gl X x) (he' : RE cm X e fe)
    (hdb : (x == ("__debug__" : Str)) = false := by decide) (he : starEach [e] X.env = (false, eval e X.env) :: starEach [] X.env := by rfl) (hpl : (backTo pos (starEach [] X.env)).any (·.1) = false := by rfl) :
    RE cm X (.Call (.Name x p) [e] [] pos) (mExcF x f (aCons fe aNil)) := by
  obtain ⟨C, fI, fd, ps, T, h1, h2, h3, h4, h5, h6, h7⟩ := h
  exact re_excF F T h1 h2 h3 h4 hr h5 h6 hg h7 he' hdb he hpl
end
theorem u1 {A : Around} {k : Nat} (hr : Room k A) : A.units + 1 < cLine := by have := hr.un; omega
theorem u64 {A : Around} {k : Nat} (hr : Room k A) : A.units + 64 < cLine := hr.units
theorem u65 {A : Around} {k : Nat} (hr : Room k A) : A.units + 65 < cLine := by have := hr.un; omega

/-- BlkOk, asked in one go -/
def blkB (N : List Str) (sc scope : Scope) (own : List (Str × Nat)) : Bool :=
  decide (scope.kind = .function) && (decide (∀ y ∈ scope.names, scope.names.lookup y.1 = some y.2) && (decide (∀ p ∈ own, N[p.2]? = some p.1) &&
    (decide (∀ y ∈ scope.names, y.2 = .free → sc.names.lookup y.1 = some .cell ∨ sc.names.lookup y.1 = some .free) && decide (∀ y ∈ scope.names, y.2 = .local ∨ y.2 = .cell → y.1 ∈ own.map (·.1) ∨ y.1 ∉ N))))
theorem blk_of {N : List Str} {sc scope : Scope} {own : List (Str × Nat)} (h : blkB N sc scope own = true) : BlkOk N sc scope own := by
  unfold blkB at h
  simp only [Bool.and_eq_true, decide_eq_true_eq] at h
  exact ⟨h.1, h.2.1, h.2.2.1, h.2.2.2.1, h.2.2.2.2⟩

/-! ### many texts -/
def strsIn : List Expr → Option (List Str)
  | [] => some []
  | .Constant (.str x) _ _ :: es => (strsIn es).map (x :: ·)
  | _ => none
def aC (l : List D) : E (List D) := fun _ S => .ok l S
theorem ra_strs {cm : Cm} {X : Cx} : ∀ {es : List Expr} {xs : List Str}, strsIn es = some xs → RA cm X es (aC (xs.map D.str))
  | [], xs, h => by
    simp only [strsIn, Option.some.injEq] at h
    subst h
    exact ra_nil
  | e :: es, xs, h => by
    unfold strsIn at h
    split at h
    · rename_i e'
      cases e'
    · rename_i x j p es' e'
      cases e'
      simp only [Option.map_eq_some_iff] at h
      obtain ⟨ys, h1, rfl⟩ := h
      exact ra_cons (f := mC (.str x)) re_str (ra_strs h1) rfl
    · cases h
end Mi

set_option maxHeartbeats 4000000

/-! KeyE: KeyError as the base of an own class. -/
namespace PySem
namespace KeyX
open HandSPX Builtin Builtin.ObjectAttr PySem.F
abbrev keyMro : List Value := [.type "KeyError", .type "LookupError", .type "Exception", .type "BaseException", .type "object"]
theorem slot_ki : Slot "KeyError" "__init__" "KeyError.__init__" := .of (owner := "KeyError") (n := "__init__") (by rw [typeLookup_type, builtinLookup_eq_fast]; kernel_rfl) (by decide +kernel) (by decide +kernel) (by decide +kernel)
    (by first | exact .inl (by decide +kernel) | exact .inr (by decide +kernel)) (by rw [isSubtype_type]; kernel_rfl)
theorem entry_ki : entryFor table "KeyError.__init__" = some Builtin.«BaseException.__init__» := entryFor_alias (id' := "BaseException.__init__") (by rw [fastTable_eq_tree]; kernel_rfl) (by first | rfl | decide +kernel) (by decide +kernel) (by rw [fastTable_eq_tree]; kernel_rfl)
theorem kind_ki : builtinKind "KeyError.__init__" = some .slot := by kernel_rfl
theorem split_ki : splitId "KeyError.__init__" = some ("KeyError", "__init__") := by kernel_rfl
theorem row_ki : Manifest.signature? "KeyError.__init__" = some ⟨.positional, "*", "KeyError", .self, [⟨"args", .varPos, false⟩]⟩ := by kernel_rfl
section
variable {M : Model} {A : Around} {E : Value → Shared → Prop} {h : Heap} {g : Array GenState} {d : Drawn} {t : Nat} {os : OsState}
variable {nm q : Str} {C N : Addr} {bs bm : List Value} {hdct : Bool} {sn : List Str} {sub : List Value} {ab : Bool} {col : Option Bool} {dd : Option Addr} {k0 k1 k2 k3 k5 : Option Value}
theorem check_new (hT : ∀ X : String, bm.contains (.type X) = keyMro.contains (.type X)) {rest : List Value} {Q : Unit → Shared → Prop}
    (hC : h.get? C = some (excClassObj nm q C N bs bm hdct sn sub ab col dd k0 k1 k2 k3 k5 "LookupError.__new__")) (hq : Q () ⟨h, g, d, t, os⟩) : wpAny M A (checkBuiltinCall "LookupError.__new__" ⟨.ref C :: rest, []⟩) Q E ⟨h, g, d, t, os⟩ := by
  have F := excBase_LookupError
  have hcont : (Value.ref C :: bm).contains (.type "LookupError") = true := by rw [List.contains_cons, hT, show keyMro.contains (.type "LookupError") = true from by decide +kernel, Bool.or_true]
  have hstar := F.noStar
  simp only [checkBuiltinCall, F.newKind, F.newSplit, F.newRow]
  repeat (first | refine wpAny_loadPart_at hC ?_ | (refine wpAny_isSubtype_exc hC ?_; rw [hcont]) | refine wpAny_staticBase_exc hC ?_ | refine wpAny_madeBy_exc hC ?_ | simp only [bne_self_eq_false, Bool.false_eq_true, if_false] | wp_step)
  exact hq
theorem check_init (hT : ∀ X : String, bm.contains (.type X) = keyMro.contains (.type X)) {e : Addr} {oe : Obj} {rest : List Value} {Q : Unit → Shared → Prop}
    (hC : h.get? C = some (excClassObj nm q C N bs bm hdct sn sub ab col dd k0 k1 k2 k3 k5 "LookupError.__new__")) (he : h.get? e = some oe) (hcls : oe.cls = .ref C) (hq : Q () ⟨h, g, d, t, os⟩) :
    wpAny M A (checkBuiltinCall "KeyError.__init__" ⟨.ref e :: rest, []⟩) Q E ⟨h, g, d, t, os⟩ := by
  have hcB : (Value.ref C :: bm).contains (.type "KeyError") = true := by rw [List.contains_cons, hT, show keyMro.contains (.type "KeyError") = true from by decide +kernel, Bool.or_true]
  have hshort : ("KeyError" != "*") = true := by decide +kernel
  simp only [checkBuiltinCall, kind_ki, split_ki, row_ki]
  repeat (first | (with_reducible refine wpAny_loadPart_at he ?_; rw [hcls]) | with_reducible refine wpAny_loadPart_at hC ?_ | (with_reducible refine wpAny_isSubtype_exc hC ?_; rw [hcB]) | wp_step)
  refine wpAny_onRaise ?_
  rw [show ∀ (a b : String) (n : Nat), Bind.check ⟨.positional, "*", "KeyError", .self, [⟨"args", .varPos, false⟩]⟩ a b n (List.map (fun x => x.fst) ({ pos := Value.ref e :: rest } : Args).kw) = pure () from
    fun a b n => check_star_args _ _ _ _ _ _]
  exact wpAny_pure hq
end
section
variable {prog : Program} {w : World} {A : Around} {E : Value → Shared → Prop} {R : Result → Shared → Prop} {h : Heap} {g : Array GenState} {d : Drawn} {t : Nat} {os : OsState}
variable {nm q : Str} {C N : Addr} {bs bm : List Value} {hdct : Bool} {sn : List Str} {sub : List Value} {ab : Bool} {col : Option Bool} {dd : Option Addr} {k0 k1 k2 k3 k5 : Option Value}
theorem new_key (hT : ∀ X : String, bm.contains (.type X) = keyMro.contains (.type X)) {rest : List Value}
    (hC : h.get? C = some (excClassObj nm q C N bs bm hdct sn sub ab col dd k0 k1 k2 k3 k5 "LookupError.__new__"))
    (hq : R (.ok (.ret (.ref (h.objs.size + 1)))) ⟨(h.push { cls := .type "tuple", data := .seq rest.toArray }).push
      { cls := .ref C, data := .fields #[.ref h.objs.size, .none, .none, .none, .bool false, .none] }, g, d, t, os⟩) (hrest : rest.length ≤ sizeLine) :
    codeAny (model prog w) A (.builtin "LookupError.__new__" ⟨.ref C :: rest, []⟩) R ⟨h, g, d, t, os⟩ := by
  have F := excBase_LookupError
  have hends := F.ends
  have hcB : (Value.ref C :: bm).contains (.type "LookupError") = true := by rw [List.contains_cons, hT, show keyMro.contains (.type "LookupError") = true from by decide +kernel, Bool.or_true]
  have hcA : (Value.ref C :: bm).contains (.type "AttributeError") = false := by rw [List.contains_cons, hT, show keyMro.contains (.type "AttributeError") = false from by decide +kernel]; rfl
  have hcN : (Value.ref C :: bm).contains (.type "NameError") = false := by rw [List.contains_cons, hT, show keyMro.contains (.type "NameError") = false from by decide +kernel]; rfl
  refine codeAny_builtinAt F.entry ?_
  unfold Builtin.«BaseException.__new__»
  refine wpAt_bind ?_
  show wpAt _ _ _ (stack >>= _) _ _ _
  refine wpAt_bind (wpAt_stack fun p below => wpAt_of_wpAny ?_)
  wp_walk
  refine wpAt_of_wpAny ?_
  rw [F.owner]
  repeat (first | with_reducible refine wpAny_madeHere_exc F.canon hC ?_ | with_reducible refine wpAny_loadPart_at hC ?_ | (with_reducible refine wpAny_isSubtype_exc hC ?_; first | rw [hcB] | rw [hcA] | rw [hcN]) | wp_step)
  show R _ _
  rw [Heap.size_push]
  exact hq
theorem type_call_key (hT : ∀ X : String, bm.contains (.type X) = keyMro.contains (.type X)) {rest : List Value} {fI : Addr} {Q : Fin → Shared → Prop}
    (hC : h.get? C = some (excClassObj nm q C N bs bm hdct sn sub ab col dd k0 k1 k2 k3 k5 "LookupError.__new__"))
    (hi : W.Looks (model prog w) h (typeLookup (.ref C) "__init__") (some (.ref fI))) (hb : ∀ self, W.Looks (model prog w) h (bindSpecial (.ref fI) self) (.ref fI, [self])) (hrest : rest.length ≤ sizeLine)
    (hq : codeAny (model prog w) A (.call (.ref fI) ⟨.ref (h.objs.size + 1) :: rest, []⟩)
      (fun r s' => match r with | .ok (.ret v) => v = .none ∧ Q (.done (.ret (.ref (h.objs.size + 1)))) s' | .ok _ => False | .error e => E e s')
      ⟨(h.push (W.kdv_tup rest)).push (excO C h.objs.size), g, d, t, os⟩) :
    wpAny (model prog w) A (Builtin.«type.__call__» ⟨.ref C :: rest, []⟩) Q E ⟨h, g, d, t, os⟩ := by
  have F := excBase_LookupError
  repeat (first | with_reducible refine wpAny_loadPart_at hC ?_ | with_reducible refine wpAny_madeBy_exc hC ?_ | wp_step)
  refine codeAny_call_builtin_code (Code.quiet_builtin _ F.quiet) (check_new hT hC ?_)
  refine new_key hT hC ?_ hrest
  show wpAny _ _ _ _ _ _
  have k : ∀ b o, h.get? b = some o → ((h.push (W.kdv_tup rest)).push (excO C h.objs.size)).get? b = some o := fun b o e => Heap.get?_push_of_some _ (Heap.get?_push_of_some _ e)
  have hC₁ := k _ _ hC
  have hget : ((h.push (W.kdv_tup rest)).push (excO C h.objs.size)).get? (h.objs.size + 1) = some (excO C h.objs.size) := by heap_get
  have hcC : (Value.ref C :: bm).contains (.ref C) = true := by simp
  have i1 := hi.keeps k
  have b1 := (hb (.ref (h.objs.size + 1))).keeps k
  unfold isInstance
  repeat (first | with_reducible refine wpAny_loadPart_at hget ?_ | (with_reducible refine wpAny_isSubtype_exc hC₁ ?_; rw [hcC]) | wp_step)
  show wpAny _ _ (typeLookup (.ref C) _) _ _ _
  refine i1.at ?_
  refine wpAny_holding (wpAny_bind (b1.at ?_))
  refine wpAny_bind (wpAny_call (codeAny_mono hq fun r s' z => ?_))
  rcases r with e | (v | _ | _ | _) <;> first | exact z | exact z.elim | skip
  obtain ⟨rfl, z⟩ := z
  first
    | exact wpAny_pure (wpAny_pure z)
    | (wp_walk; exact z)
theorem call_key (hT : ∀ X : String, bm.contains (.type X) = keyMro.contains (.type X)) {rest : List Value} {fI : Addr}
    (hC : h.get? C = some (excClassObj nm q C N bs bm hdct sn sub ab col dd k0 k1 k2 k3 k5 "LookupError.__new__"))
    (hi : W.Looks (model prog w) h (typeLookup (.ref C) "__init__") (some (.ref fI))) (hb : ∀ self, W.Looks (model prog w) h (bindSpecial (.ref fI) self) (.ref fI, [self])) (hrest : rest.length ≤ sizeLine)
    (hq : codeAny (model prog w) (A.under (.builtin "type.__call__" ⟨.ref C :: rest, []⟩)) (.call (.ref fI) ⟨.ref (h.objs.size + 1) :: rest, []⟩) (W.InitBack (h.objs.size + 1) R)
      ⟨(h.push (W.kdv_tup rest)).push (excO C h.objs.size), g, d, t, os⟩) :
    codeAny (model prog w) A (.call (.ref C) ⟨rest, []⟩) R ⟨h, g, d, t, os⟩ := by
  have f1 := tc_lookup
  have f2 := tc_bind (.ref C)
  have hTy : (⟨h, g, d, t, os⟩ : Shared).TypeIs (.ref C) "type" := ⟨_, hC, rfl⟩
  refine codeAny_of_tree ?_
  show wpAny _ _ (callAny (.ref C) _) _ _ _
  repeat (any_goals (first | assumption | with_reducible refine wpAny_loadPart_at hC ?_ | wp_step))
  refine ⟨rfl, ?_⟩
  refine codeAny_call_builtin_at (Code.quiet_builtin _ (by decide +kernel)) entry_typeCall (wpAny_check_type_call_sub hC (type_call_key hT hC hi hb hrest ?_))
  refine codeAny_mono hq fun r s' z => ?_
  rcases r with e | (v | _ | _ | _) <;> exact z
theorem init_key (hT : ∀ X : String, bm.contains (.type X) = keyMro.contains (.type X)) {e t0 : Addr} {rest : List Value}
    (hC : h.get? C = some (excClassObj nm q C N bs bm hdct sn sub ab col dd k0 k1 k2 k3 k5 "LookupError.__new__")) (he : h.get? e = some (excO C t0)) (hrest : rest.length ≤ sizeLine)
    (hq : ∀ h' t1, (∀ b o, b ≠ e → h.get? b = some o → h'.get? b = some o) → h'.get? e = some (excO C t1) → R (.ok (.ret .none)) ⟨h', g, d, t, os⟩) :
    codeAny (model prog w) A (.call (.builtin "KeyError.__init__") ⟨.ref e :: rest, []⟩) R ⟨h, g, d, t, os⟩ := by
  refine codeAny_call_builtin slot_ki.plain entry_ki (check_init hT hC he rfl ?_)
  wp_walk
  refine hq _ h.objs.size (fun b o hb ho => ?_) ?_
  · rw [Heap.get?_update_other _ _ (Ne.symm hb)]
    exact Heap.get?_push_of_some _ ho
  · rw [Heap.get?_update_self _ (Heap.get?_push_of_some _ he) rfl]
    rfl
end
theorem store_KeyError : StoreFacts "KeyError" keyMro "object.__setattr__" "object" where
  mro := by kernel_rfl
  slot := .of (owner := "object") (n := "__setattr__") (by rw [typeLookup_type, builtinLookup_eq_fast]; kernel_rfl) (by decide +kernel) (by decide +kernel) (by decide +kernel)
    (by first | exact .inl (by decide +kernel) | exact .inr (by decide +kernel)) (by rw [isSubtype_type]; kernel_rfl)
  entry := store_IndexError.entry
  kind := by decide +kernel
  split := by decide +kernel
  hasOwner := by decide +kernel
  args := fun a b c => by unfold argsOk; kernel_rfl
  passes := fun self => by kernel_rfl
end KeyX
end PySem
namespace Mi
open PySem
theorem xb_KeyError : XB "LookupError.__new__" "KeyError.__init__" KeyX.keyMro := ⟨fun hT hC hi hb hr hq => KeyX.call_key hT hC hi hb hr hq, fun hT hC he hr hq => KeyX.init_key hT hC he hr hq⟩
end Mi


namespace K00
open PySem PySem.Spec PyProof.Rows L2 Mi
/-- the classes below x -/
def isSub (x c : Str) : Bool := match ([(("PushError" : Str), (["PushError", "InvalidLayout", "InvalidTape", "InvalidPipeline", "InvalidState", "InvalidBounds", "InvalidStand", "InvalidPaper", "InvalidChain", "InvalidOperation", "ParseError"] : List Str)), (("InvalidLayout" : Str), (["InvalidLayout"] : List Str)), (("InvalidTape" : Str), (["InvalidTape"] : List Str)), (("InvalidPipeline" : Str), (["InvalidPipeline"] : List Str)), (("InvalidState" : Str), (["InvalidState"] : List Str)), (("InvalidBounds" : Str), (["InvalidBounds"] : List Str)), (("InvalidStand" : Str), (["InvalidStand"] : List Str)), (("InvalidPaper" : Str), (["InvalidPaper"] : List Str)), (("InvalidChain" : Str), (["InvalidChain"] : List Str)), (("InvalidOperation" : Str), (["InvalidOperation"] : List Str)), (("ParseError" : Str), (["ParseError"] : List Str)), (("UnknownName" : Str), (["UnknownName"] : List Str)), (("UnknownIndex" : Str), (["UnknownIndex"] : List Str)), (("NothingToUndo" : Str), (["NothingToUndo"] : List Str)), (("TooMany" : Str), (["TooMany"] : List Str)), (("InvalidNumber" : Str), (["InvalidNumber"] : List Str)), (("ValueError" : Str), (["PushError", "InvalidLayout", "InvalidTape", "InvalidPipeline", "InvalidState", "InvalidBounds", "InvalidStand", "InvalidPaper", "InvalidChain", "InvalidOperation", "ParseError"] : List Str)), (("KeyError" : Str), (["UnknownName"] : List Str)), (("IndexError" : Str), (["UnknownIndex"] : List Str)), (("LookupError" : Str), (["UnknownName", "UnknownIndex", "NothingToUndo"] : List Str)), (("OverflowError" : Str), (["TooMany"] : List Str)), (("RuntimeError" : Str), (["InvalidNumber"] : List Str))] : List (Str × List Str)).lookup x with
  | some l => l.contains c
  | none => false
noncomputable def m_law_throw : Fm := bodyM 6 2 (sSeq (sIf (tB' (m2 dGt (m2 dIx (mV 0) (mC (.int 0))) (mC (.int 0)))) (sSeq (sSet 5 (m2 dMod (mB bInt (aCons (m2 dIx (mV 0) (mC (.int 0))) aNil)) (mV 1)))
    (sSeq (sPut (m2 dDiv (m2 dIx (mV 0) (mC (.int 0))) (mV 1)) (mV 0) (mC (.int 0)))
    (sRet (mV 5)))) sNil)
    (sSeq (sPut (m2 dAdd (m2 dIx (mV 0) (mC (.int 2))) (mC (.int 1))) (mV 0) (mC (.int 2)))
    (sSeq (sSet 2 (m2 dMod (mB bInt (aCons (m2 dAdd (m2 dIx (mV 0) (mC (.int 1))) (m2 dMul (mC (.int 1000003)) (m2 dIx (mV 0) (mC (.int 2))))) aNil)) (mC (.int 2305843009213693951))))
    (sSeq (sSet 3 (m2 dMod (mB bInt (aCons (m2 dAdd (m2 dMul (mV 2) (mV 2)) (m2 dMul (mC (.int 12347)) (m2 dIx (mV 0) (mC (.int 2))))) aNil)) (mC (.int 2305843009213693921))))
    (sSeq (sSet 4 (m2 dMod (mB bInt (aCons (m2 dAdd (m2 dMul (mV 3) (mV 2)) (mC (.int 777767777))) aNil)) (mC (.int 2305843009213693951))))
    (sRet (m2 dMod (mB bInt (aCons (m2 dDiv (mV 4) (mC (.int 4096))) aNil)) (mV 1))))))))
noncomputable def m_law_pick : Fm := bodyM 2 2 (sRet (m2 dIx (mV 1) (mCall m_law_throw (aCons (mV 0) (aCons (mB bLen (aCons (mV 1) aNil)) aNil)))))
noncomputable def m_law_words : Fm := bodyM 1 0 (sSeq (sSet 0 (mLst (aC ((["after", "again", "at", "busy", "changes", "else", "every", "first", "fold", "it", "late", "never", "one"] : List Str).map D.str))))
    (sRet (m2 dAdd (mV 0) (mLst (aC ((["only", "pairs", "pick", "quiet", "source", "spaced", "switch", "then", "told", "until"] : List Str).map D.str))))))
noncomputable def m_law_name : Fm := bodyM 8 2 (sSeq (sSet 2 (mC (.str ("abcdefghijklmnopqrstuvwxyz" : Str))))
    (sSeq (sSet 3 (mCall m_law_pick (aCons (mV 0) (aCons (mLst (aCons (mV 2) (aCons (mC (.str ("ab" : Str))) (aCons (mC (.str ("st" : Str))) aNil)))) aNil))))
    (sSeq (sSet 4 (mM "str" mJoin (mC (.str ("" : Str))) (aCons (mComp (iRg1 (aCons (m2 dAdd (mC (.int 1)) (mCall m_law_throw (aCons (mV 0) (aCons (mC (.int 8)) aNil)))) aNil)) (gN 6) tT (mCall m_law_pick (aCons (mV 0) (aCons (mV 3) aNil))) [6]) aNil)))
    (sSeq (sFor (iSeq (m2 dAdd (mLst (aCons (mV 4) aNil)) (mComp (iTxt (mV 2)) (gN 7) tT (m2 dAdd (mSl dSl (mV 4) pNo (pSo (mC (.int 7)))) (mV 7)) [7]))) (gN 5) (sIf (tAnd' (tB' (m2 dNotIn (mV 5) (mV 1))) (tB' (m2 dNotIn (mV 5) (mCall m_law_words aNil)))) (sRet (mV 5)) sNil))
    (sRet (mC (.str ("zzz" : Str))))))))
noncomputable def m_law_value : Fm := bodyM 2 1 (sSeq (sSet 1 (mCall m_law_throw (aCons (mV 0) (aCons (mC (.int 8)) aNil))))
    (sSeq (sIf (tB' (m2 dLt (mV 1) (mC (.int 5)))) (sRet (mCall m_law_throw (aCons (mV 0) (aCons (mC (.int 3)) aNil)))) sNil)
    (sSeq (sIf (tB' (m2 dEq (mV 1) (mC (.int 5)))) (sRet (m2 dSub (m1 dNeg (mC (.int 1))) (mCall m_law_throw (aCons (mV 0) (aCons (mC (.int 3)) aNil))))) sNil)
    (sRet (m2 dMul (mCall m_law_throw (aCons (mV 0) (aCons (m2 dPow (mC (.int 10)) (mC (.int 60))) aNil))) (m2 dSub (mC (.int 13)) (m2 dMul (mC (.int 2)) (mV 1))))))))
noncomputable def m_law_any : Nat → Fm
  | 0 => fBad
  | n + 1 => bodyM 3 2 (sSeq (sSet 2 (mCall m_law_throw (aCons (mV 0) (aCons (mC (.int 6)) aNil))))
    (sSeq (sIf (tAnd' (tB' (m2 dEq (mV 2) (mC (.int 5)))) (tB' (m2 dGt (mV 1) (mC (.int 0))))) (sRet (mTup (aCons (mCall (m_law_any n) (aCons (mV 0) (aCons (m2 dSub (mV 1) (mC (.int 1))) aNil))) (aCons (mCall (m_law_any n) (aCons (mV 0) (aCons (m2 dSub (mV 1) (mC (.int 1))) aNil))) aNil)))) sNil)
    (sRet (m2 dIx (mLst (aCons (mC .non) (aCons (mC (.bl true)) (aCons (mC (.bl false)) (aCons (mCall m_law_value (aCons (mV 0) aNil)) (aCons (mCall m_law_name (aCons (mV 0) (aCons (mLst aNil) aNil))) (aCons (mTup aNil) aNil))))))) (mV 2)))))
noncomputable def m_law_classes : Fm := bodyM 2 1 (sSeq (sSet 1 (mLst (aCons (mIsX (isSub ("PushError" : Str)) (mV 0)) (aCons (mIsX (isSub ("InvalidLayout" : Str)) (mV 0)) (aCons (mIsX (isSub ("InvalidTape" : Str)) (mV 0)) aNil)))))
    (sSeq (sSet 1 (m2 dAdd (mV 1) (mLst (aCons (mIsX (isSub ("InvalidPipeline" : Str)) (mV 0)) (aCons (mIsX (isSub ("InvalidState" : Str)) (mV 0)) aNil)))))
    (sSeq (sSet 1 (m2 dAdd (mV 1) (mLst (aCons (mIsX (isSub ("InvalidBounds" : Str)) (mV 0)) (aCons (mIsX (isSub ("InvalidStand" : Str)) (mV 0)) aNil)))))
    (sSeq (sSet 1 (m2 dAdd (mV 1) (mLst (aCons (mIsX (isSub ("InvalidPaper" : Str)) (mV 0)) (aCons (mIsX (isSub ("InvalidChain" : Str)) (mV 0)) aNil)))))
    (sSeq (sSet 1 (m2 dAdd (mV 1) (mLst (aCons (mIsX (isSub ("InvalidOperation" : Str)) (mV 0)) aNil))))
    (sSeq (sSet 1 (m2 dAdd (mV 1) (mLst (aCons (mIsX (isSub ("ParseError" : Str)) (mV 0)) (aCons (mIsX (isSub ("UnknownName" : Str)) (mV 0)) (aCons (mIsX (isSub ("UnknownIndex" : Str)) (mV 0)) aNil))))))
    (sRet (m2 dAdd (mV 1) (mLst (aCons (mIsX (isSub ("NothingToUndo" : Str)) (mV 0)) (aCons (mIsX (isSub ("TooMany" : Str)) (mV 0)) (aCons (mIsX (isSub ("InvalidNumber" : Str)) (mV 0)) aNil))))))))))))
noncomputable def m_law_same : Nat → Fm
  | 0 => fBad
  | n + 1 => bodyM 3 2 (sSeq (sIf (tTru (mIs .tup (mV 0))) (sSeq (sIf (tOr' (tNot' (tTru (mIs .tup (mV 1)))) (tB' (m2 dNe (mB bLen (aCons (mV 0) aNil)) (mB bLen (aCons (mV 1) aNil))))) (sRet (mC (.bl false))) sNil)
    (sRet (mB bAll (aCons (mComp (iRg1 (aCons (mB bLen (aCons (mV 0) aNil)) aNil)) (gN 2) tT (mCall (m_law_same n) (aCons (m2 dIx (mV 0) (mV 2)) (aCons (m2 dIx (mV 1) (mV 2)) aNil))) [2]) aNil)))) sNil)
    (sSeq (sIf (tOr' (tB' (m2 dIsN (mV 0) (mC .non))) (tB' (m2 dIsN (mV 1) (mC .non)))) (sRet (mAnd (m2 dIsN (mV 0) (mC .non)) (m2 dIsN (mV 1) (mC .non)))) sNil)
    (sSeq (sIf (tOr' (tB' (m2 dNe (mIs .bl (mV 0)) (mIs .bl (mV 1)))) (tB' (m2 dNe (mIs .str (mV 0)) (mIs .str (mV 1))))) (sRet (mC (.bl false))) sNil)
    (sRet (mAnd (mNot (mIs .tup (mV 1))) (m2 dEq (mV 0) (mV 1)))))))
noncomputable def m_law_start : Fm := bodyM 5 2 (sSeq (sSet 2 (mIf (tB' (m2 dLt (mV 1) (mB bLen (aCons (mV 0) aNil)))) (m2 dIx (mV 0) (mV 1)) (m2 dAdd (m2 dMul (mC (.int 53)) (mV 1)) (mC (.int 7)))))
    (sSeq (sSet 3 (m2 dMod (mB bInt (aCons (mB bAbs (aCons (mV 2) aNil)) aNil)) (m2 dPow (m2 dPow (mC (.int 10)) (mC (.int 60))) (mC (.int 10)))))
    (sSeq (sSet 4 (m2 dAdd (m2 dMul (m2 dMod (mB bInt (aCons (mV 3) aNil)) (mC (.int 2305843009213693921))) (mC (.int 3))) (mB bInt (aCons (m2 dLt (mV 2) (mC (.int 0))) aNil))))
    (sRet (mLstN (aCons (mB bMax (aCons (mC (.int 0)) (aCons (m2 dSub (mV 3) (m2 dPow (mC (.int 10)) (mC (.int 18)))) aNil))) (aCons (m2 dMod (mB bInt (aCons (m2 dAdd (m2 dAdd (m2 dMul (mV 4) (mC (.int 40009))) (m2 dMul (mC (.int 7919)) (mV 1))) (mC (.int 17))) aNil)) (mC (.int 2305843009213693951))) (aCons (mC (.int 0)) aNil))))))))
noncomputable def m_law : Fm := bodyM 11 1 (sSeq (sSet 1 (mCall m_law_start (aCons (mV 0) (aCons (mC (.int 0)) aNil))))
    (sSeq (sSet 2 (mCall m_law_name (aCons (mV 1) (aCons (mLst aNil) aNil))))
    (sSeq (sSet 3 (mComp (iRg1 (aCons (mC (.int 6)) aNil)) (gN 9) tT (mCall (m_law_any 3) (aCons (mV 1) (aCons (mC (.int 2)) aNil))) [9]))
    (sSeq (sSet 4 (mLst (aCons (mExc ("PushError" : Str) (aCons (mV 2) aNil)) (aCons (mExc ("InvalidLayout" : Str) (aCons (mV 2) aNil)) (aCons (mExc ("InvalidTape" : Str) (aCons (mV 2) aNil)) (aCons (mExc ("InvalidPipeline" : Str) (aCons (mV 2) aNil)) (aCons (mExc ("InvalidState" : Str) (aCons (mV 2) aNil)) aNil)))))))
    (sSeq (sSet 4 (m2 dAdd (mV 4) (mLst (aCons (mExc ("InvalidBounds" : Str) (aCons (mV 2) aNil)) (aCons (mExc ("InvalidStand" : Str) (aCons (mV 2) aNil)) (aCons (mExc ("InvalidPaper" : Str) (aCons (mV 2) aNil)) (aCons (mExc ("InvalidChain" : Str) (aCons (mV 2) aNil)) aNil)))))))
    (sSeq (sSet 5 (mLst (aCons (mExc ("InvalidOperation" : Str) (aCons (mV 2) aNil)) (aCons (mExcF ("ParseError" : Str) ("index" : Str) (aCons (m2 dIx (mV 3) (mC (.int 0))) aNil)) (aCons (mExcF ("UnknownName" : Str) ("name" : Str) (aCons (m2 dIx (mV 3) (mC (.int 1))) aNil)) (aCons (mExcF ("UnknownIndex" : Str) ("index" : Str) (aCons (m2 dIx (mV 3) (mC (.int 2))) aNil)) aNil))))))
    (sSeq (sSet 6 (mLst (aCons (mExcF ("NothingToUndo" : Str) ("many" : Str) (aCons (m2 dIx (mV 3) (mC (.int 3))) aNil)) (aCons (mExcF ("TooMany" : Str) ("limit" : Str) (aCons (m2 dIx (mV 3) (mC (.int 4))) aNil)) (aCons (mExcF ("InvalidNumber" : Str) ("value" : Str) (aCons (m2 dIx (mV 3) (mC (.int 5))) aNil)) aNil)))))
    (sSeq (sSet 4 (m2 dAdd (m2 dAdd (mV 4) (mV 5)) (mV 6)))
    (sSeq (sFor (iRg1 (aCons (mB bLen (aCons (mV 4) aNil)) aNil)) (gN 7) (sSeq (sIf (tB' (m2 dNe (mCall m_law_classes (aCons (m2 dIx (mV 4) (mV 7)) aNil)) (mComp (iRg1 (aCons (mB bLen (aCons (mV 4) aNil)) aNil)) (gN 10) tT (mOr (m2 dEq (mV 10) (mV 7)) (mAnd (m2 dEq (mV 10) (mC (.int 0))) (m2 dLt (mV 7) (mC (.int 11))))) [10]))) (sRet (mC (.bl false))) sNil)
    (sIf (tB' (m2 dNe (mIsX (isSub ("ValueError" : Str)) (m2 dIx (mV 4) (mV 7))) (m2 dLt (mV 7) (mC (.int 11))))) (sRet (mC (.bl false))) sNil)))
    (sSeq (sIf (tOr' (tNot' (tTru (mIsX (isSub ("KeyError" : Str)) (m2 dIx (mV 5) (mC (.int 2)))))) (tNot' (tTru (mIsX (isSub ("IndexError" : Str)) (m2 dIx (mV 5) (mC (.int 3))))))) (sRet (mC (.bl false))) sNil)
    (sSeq (sIf (tOr' (tNot' (tTru (mIsX (isSub ("LookupError" : Str)) (m2 dIx (mV 6) (mC (.int 0)))))) (tNot' (tTru (mIsX (isSub ("OverflowError" : Str)) (m2 dIx (mV 6) (mC (.int 1))))))) (sRet (mC (.bl false))) sNil)
    (sSeq (sIf (tOr' (tNot' (tTru (mIsX (isSub ("RuntimeError" : Str)) (m2 dIx (mV 6) (mC (.int 2)))))) (tOr' (tTru (mIsX (isSub ("KeyError" : Str)) (m2 dIx (mV 6) (mC (.int 0))))) (tTru (mIsX (isSub ("IndexError" : Str)) (m2 dIx (mV 6) (mC (.int 0))))))) (sRet (mC (.bl false))) sNil)
    (sSeq (sSet 8 (mLst (aCons (mXf ("index" : Str) (m2 dIx (mV 5) (mC (.int 1)))) (aCons (mXf ("name" : Str) (m2 dIx (mV 5) (mC (.int 2)))) (aCons (mXf ("index" : Str) (m2 dIx (mV 5) (mC (.int 3)))) (aCons (mXf ("many" : Str) (m2 dIx (mV 6) (mC (.int 0)))) (aCons (mXf ("limit" : Str) (m2 dIx (mV 6) (mC (.int 1)))) (aCons (mXf ("value" : Str) (m2 dIx (mV 6) (mC (.int 2)))) aNil))))))))
    (sRet (mB bAll (aCons (mComp (iRg1 (aCons (mC (.int 6)) aNil)) (gN 7) tT (mCall (m_law_same 3) (aCons (m2 dIx (mV 8) (mV 7)) (aCons (m2 dIx (mV 3) (mV 7)) aNil))) [7]) aNil))))))))))))))))
end K00


namespace K00
open PySem PySem.Spec PyProof.Rows L2 Mi
/-- the bag of throws stands in the b-th cell -/
def Bag (S : So) (b : Nat) : Prop := ∃ x y z : Int, S[b]? = some (some (.lst [.int x, .int y, .int z]))
theorem bag_set {S : So} {b : Nat} {x y z : Int} (h : Bag S b) : (S.set b (some (.lst [.int x, .int y, .int z])))[b]? = some (some (.lst [.int x, .int y, .int z])) := by
  obtain ⟨_, _, _, e⟩ := h
  exact List.getElem?_set_self (List.getElem?_eq_some_iff.mp e).1
theorem throw_ok {S : So} {b : Nat} {t : Int} (h : Bag S b) (ht : 0 < t) (hl : t.natAbs.log2 < 9000) :
    ∃ r x y z, m_law_throw [.ref b, .int t] S = .ok (.int r) (S.set b (some (.lst [.int x, .int y, .int z]))) ∧ 0 ≤ r ∧ r < t := by
  have h' := h
  obtain ⟨x, y, z, e⟩ := h
  have hb := (List.getElem?_eq_some_iff.mp e).1
  have hs : ∀ X : Option Ob, (S.set b X)[b]? = some X := fun X => List.getElem?_set_self hb
  by_cases hx : 0 < x
  · refine ⟨x % t, x / t, y, z, ?_, Int.emod_nonneg _ (by omega), Int.emod_lt_of_pos _ ht⟩
    simp [m_law_throw, bodyM, bodyR, sSeq, sIf, sSet, sPut, sRet, tB', asB, m2, mV, mC, mB, aCons, aNil, dIx, dctOf, seqOf, e, dGt, dCmp, R.of, R.bind, hx, bInt, dMod, dDiv, ht, hl, putD, atI, ixN]
  · obtain ⟨one, h1⟩ : ∃ one, one = (y + 1000003 * (z + 1)) % 2305843009213693951 := ⟨_, rfl⟩
    obtain ⟨two, h2⟩ : ∃ two, two = (one * one + 12347 * (z + 1)) % 2305843009213693921 := ⟨_, rfl⟩
    have s1 : small64i one = true := by
      have a := Int.emod_nonneg (y + 1000003 * (z + 1)) (b := 2305843009213693951) (by decide)
      have b := Int.emod_lt_of_pos (y + 1000003 * (z + 1)) (b := 2305843009213693951) (by decide)
      rw [← h1] at a b
      simp only [small64i, Bool.and_eq_true, decide_eq_true_eq]
      omega
    have s2 : small64i two = true := by
      have a := Int.emod_nonneg (one * one + 12347 * (z + 1)) (b := 2305843009213693921) (by decide)
      have b := Int.emod_lt_of_pos (one * one + 12347 * (z + 1)) (b := 2305843009213693921) (by decide)
      rw [← h2] at a b
      simp only [small64i, Bool.and_eq_true, decide_eq_true_eq]
      omega
    have c1 : small64i 1000003 = true := by decide
    have c2 : small64i 12347 = true := by decide
    have c3 : Nat.log2 4096 < 9000 := by decide
    refine ⟨(two * one + 777767777) % 2305843009213693951 / 4096 % t, x, y, z + 1, ?_, Int.emod_nonneg _ (by omega), Int.emod_lt_of_pos _ ht⟩
    simp [m_law_throw, bodyM, bodyR, sSeq, sIf, sSet, sPut, sRet, sNil, tB', asB, m2, mV, mC, mB, aCons, aNil, dIx, dctOf, seqOf, e, dGt, dCmp, R.of, R.bind, hx, bInt, dMod, dDiv, dMul, dAdd, ht, hl, putD, atI, ixN, hs, c1, c2, c3, ← h1, s1, ← h2, s2]
end K00


namespace K00
open PySem PySem.Spec PyProof.Rows L2 Mi
/-! loops -/
theorem comp_ok {hold : Option Nat} {S0 : So} {I : So → Prop} {P : D → Prop} {g : TgD} {f : E D} {enw : En} (hst : ∀ S, I S → still hold S0 S = true) : ∀ (l acc : List D) (S : So), (∀ d ∈ l, ∀ S, I S → ∃ en1 y S', g d enw S = some en1 ∧ f en1 S = .ok y S' ∧ P y ∧ I S') → I S → acc.length + l.length ≤ sizeLine →
    ∃ ys S', compM hold S0 g tT f enw l acc S = .ok (acc ++ ys) S' ∧ I S' ∧ ys.length = l.length ∧ ∀ y ∈ ys, P y
  | [], acc, S, _, hI, _ => ⟨[], S, by unfold compM; simp, hI, rfl, by simp⟩
  | d :: l, acc, S, h, hI, hz => by
    obtain ⟨en1, y, S', e1, e2, hP, hI'⟩ := h d (by simp) S hI
    simp only [List.length_cons] at hz
    obtain ⟨ys, S2, e3, hI2, hl, hP2⟩ := comp_ok hst l (acc ++ [y]) S' (fun d' hd => h d' (by simp [hd])) hI' (by simp; omega)
    refine ⟨y :: ys, S2, ?_, hI2, by simp [hl], by simpa using ⟨hP, hP2⟩⟩
    unfold compM
    simp only [e1, tT, e2]
    rw [if_pos ⟨by omega, hst S' hI'⟩, e3]
    simp
/-- a list that only reads -/
theorem comp_map {hold : Option Nat} {S0 S : So} {φ : D → D} {g : TgD} {f : E D} {enw : En} (hst : still hold S0 S = true) : ∀ (l acc : List D), (∀ d ∈ l, ∃ en1, g d enw S = some en1 ∧ f en1 S = .ok (φ d) S) → acc.length + l.length ≤ sizeLine →
    compM hold S0 g tT f enw l acc S = .ok (acc ++ l.map φ) S
  | [], acc, _, _ => by unfold compM; simp
  | d :: l, acc, h, hz => by
    obtain ⟨en1, e1, e2⟩ := h d (by simp)
    simp only [List.length_cons] at hz
    have e3 := comp_map hst l (acc ++ [φ d]) (fun d' hd => h d' (by simp [hd])) (by simp; omega)
    unfold compM
    simp only [e1, tT, e2]
    rw [if_pos ⟨by omega, hst⟩, e3]
    simp
theorem bag_of {S : So} {b : Nat} (h : Bag S b) (x y z : Int) : Bag (S.set b (some (.lst [.int x, .int y, .int z]))) b := ⟨x, y, z, bag_set h⟩
theorem throw_bag {S : So} {b : Nat} {t : Int} (h : Bag S b) (ht : 0 < t) (hl : t.natAbs.log2 < 9000) : ∃ r S', m_law_throw [.ref b, .int t] S = .ok (.int r) S' ∧ Bag S' b ∧ 0 ≤ r ∧ r < t := by
  obtain ⟨r, x, y, z, e, h1, h2⟩ := throw_ok h ht hl
  exact ⟨r, _, e, bag_of h x y z, h1, h2⟩
theorem log_small {n : Nat} (h : n < 2 ^ 9000) : n.log2 < 9000 := by
  by_cases h0 : n = 0
  · subst h0; decide
  · exact (Nat.log2_lt h0).mpr h
theorem atI_of {α : Type} {l : List α} {r : Int} (h0 : 0 ≤ r) (h1 : r < l.length) : ∃ d, atI l r = some d ∧ d ∈ l := by
  have hr : r.toNat < l.length := by omega
  refine ⟨l[r.toNat], ?_, List.getElem_mem hr⟩
  unfold atI ixN
  rw [if_pos h0, if_pos h1]
  simp [List.getElem?_eq_getElem hr]
/-- a pick from a list -/
theorem pick_lst {S : So} {b : Nat} {l : List D} (h : Bag S b) (h0 : l ≠ []) (hz : l.length < 2 ^ 60) : ∃ d S', m_law_pick [.ref b, .lst l] S = .ok d S' ∧ Bag S' b ∧ d ∈ l := by
  have hp : (0 : Int) < l.length := by have := List.length_pos_iff.mpr h0; omega
  obtain ⟨r, S', e, hB, h1, h2⟩ := throw_bag h hp (log_small (by
    have : (2 : Nat) ^ 60 < 2 ^ 9000 := Nat.pow_lt_pow_right (by decide) (by decide)
    simp only [Int.natAbs_natCast]; omega))
  obtain ⟨d, e2, hd⟩ := atI_of h1 h2
  refine ⟨d, S', ?_, hB, hd⟩
  simp [m_law_pick, bodyM, bodyR, sRet, m2, mV, mB, aCons, aNil, R.of, R.bind, mCall, R.at, bLen, seqOf, e, dIx, dctOf, e2]
/-- a pick from a text -/
theorem pick_str {S : So} {b : Nat} {x : Str} (h : Bag S b) (h0 : 0 < x.cps.size) (hz : x.length ≤ sizeLine) : ∃ c S', m_law_pick [.ref b, .str x] S = .ok (.str ⟨#[c]⟩) S' ∧ Bag S' b ∧ c ∈ x.cps.toList := by
  have hl : x.length = x.cps.size := rfl
  have hp : (0 : Int) < x.length := by rw [hl]; omega
  have hs : sizeLine = 16777216 := sizeLine_eq
  obtain ⟨r, S', e, hB, h1, h2⟩ := throw_bag h hp (log_small (by
    have : (2 : Nat) ^ 60 < 2 ^ 9000 := Nat.pow_lt_pow_right (by decide) (by decide)
    simp only [Int.natAbs_natCast]; omega))
  obtain ⟨d, e2, hd⟩ := atI_of (l := x.cps.toList) h1 (by simpa [hl] using h2)
  refine ⟨d, S', ?_, hB, hd⟩
  simp [m_law_pick, bodyM, bodyR, sRet, m2, mV, mB, aCons, aNil, R.of, R.bind, mCall, R.at, bLen, hz, seqOf, e, dIx, dctOf, e2]
end K00


namespace K00
open PySem PySem.Spec PyProof.Rows L2 Mi
theorem value_ok {S : So} {b : Nat} (h : Bag S b) : ∃ r S', m_law_value [.ref b] S = .ok (.int r) S' ∧ Bag S' b := by
  obtain ⟨r, S1, e1, h1, r0, r1⟩ := throw_bag (t := 8) h (by decide) (by decide)
  by_cases c : r < 5
  · obtain ⟨r2, S2, e2, h2, _, _⟩ := throw_bag (t := 3) h1 (by decide) (by decide)
    refine ⟨r2, S2, ?_, h2⟩
    simp [m_law_value, bodyM, bodyR, sSeq, sIf, sSet, sRet, sNil, tB', asB, m2, mV, mC, aCons, aNil, mCall, R.at, R.of, R.bind, e1, e2, dLt, dCmp, c]
  · by_cases c5 : r = 5
    · subst c5
      obtain ⟨r2, S2, e2, h2, _, _⟩ := throw_bag (t := 3) h1 (by decide) (by decide)
      refine ⟨-1 - r2, S2, ?_, h2⟩
      simp [m_law_value, bodyM, bodyR, sSeq, sIf, sSet, sRet, sNil, tB', asB, m2, m1, mV, mC, aCons, aNil, mCall, R.at, R.of, R.bind, e1, e2, dLt, dCmp, dEq, dEqP, toPt, toP, SeqAt.shaped, PyData.canLay0, PyData.depth, PyData.eqv, dNeg, dSub]
    · obtain ⟨r2, S2, e2, h2, _, _⟩ := throw_bag (t := 10 ^ 60) h1 (by decide) (by decide)
      refine ⟨r2 * (13 - 2 * r), S2, ?_, h2⟩
      have p : (Builtin.Int.intBits 10 : Int) * 60 ≤ 134217728 := by decide +kernel
      have c5' : (r == 5) = false := by simpa using c5
      have s2 : small64i 2 = true := by decide
      have s3 : small64i (13 - 2 * r) = true := by
        simp only [small64i, Bool.and_eq_true, decide_eq_true_eq]
        omega
      have e2' : m_law_throw [.ref b, .int 1000000000000000000000000000000000000000000000000000000000000] S1 = .ok (.int r2) S2 := e2
      simp [m_law_value, bodyM, bodyR, sSeq, sIf, sSet, sRet, sNil, tB', asB, m2, m1, mV, mC, aCons, aNil, mCall, R.at, R.of, R.bind, e1, e2', dLt, dCmp, c, c5', dEq, dEqP, toPt, toP, SeqAt.shaped, PyData.canLay0, PyData.depth, PyData.eqv, dPow, p, dSub, dMul, s2, s3]
def W1 : List Str := ["after", "again", "at", "busy", "changes", "else", "every", "first", "fold", "it", "late", "never", "one"]
def W2 : List Str := ["only", "pairs", "pick", "quiet", "source", "spaced", "switch", "then", "told", "until"]
def WD : List D := (W1 ++ W2).map D.str
theorem words_ok {S : So} : m_law_words [] S = .ok (.lst WD) S := by
  unfold WD
  have hs : sizeLine = 16777216 := sizeLine_eq
  simp [m_law_words, bodyM, bodyR, sSeq, sSet, sRet, mLst, aC, m2, mV, R.of, R.bind, dAdd, lstOf, hs, W1, W2]
end K00


namespace K00
open PySem PySem.Spec PyProof.Rows L2 Mi
theorem for_find {S S0 : So} {g : TgD} {body : T} {P : D → Prop} {J : En → Prop} : ∀ (l : List D) (en : En), (∀ d ∈ l, ∀ en, J en → ∃ en1, g d en S = some en1 ∧ ((∃ x, body en1 S = .ok (.rt x) S ∧ P x) ∨ ∃ en2, body en1 S = .ok (.nx en2) S ∧ J en2)) → J en →
    (∃ x, Mi.forM none S0 g body l en S = .ok (.rt x) S ∧ P x) ∨ ∃ en', Mi.forM none S0 g body l en S = .ok (.nx en') S ∧ J en'
  | [], en, _, hJ => .inr ⟨en, by unfold Mi.forM; rfl, hJ⟩
  | d :: l, en, h, hJ => by
    obtain ⟨en1, e1, h1⟩ := h d (by simp) en hJ
    unfold Mi.forM
    simp only [e1]
    rcases h1 with ⟨x, e2, hP⟩ | ⟨en2, e2, hJ2⟩
    · exact .inl ⟨x, by simp [e2], hP⟩
    · simp only [e2, R.bind_ok, still_none, if_true]
      exact for_find l en2 (fun d' hd => h d' (by simp [hd])) hJ2
abbrev one (c : Nat) : Str := ⟨#[c]⟩
theorem ones_of {Q : Nat → Prop} : ∀ {ys : List D}, (∀ y ∈ ys, ∃ c, y = .str (one c) ∧ Q c) → ∃ cs : List Nat, ys = cs.map (fun c => .str (one c)) ∧ ∀ c ∈ cs, Q c
  | [], _ => ⟨[], rfl, by simp⟩
  | y :: ys, h => by
    obtain ⟨c, e, q⟩ := h y (by simp)
    obtain ⟨cs, e2, q2⟩ := ones_of (ys := ys) fun z hz => h z (by simp [hz])
    exact ⟨c :: cs, by simp [e, e2], by simpa using ⟨q, q2⟩⟩
theorem strs_ones : ∀ cs : List Nat, strsOf (cs.map fun c => .str (one c)) = some (cs.map one)
  | [] => rfl
  | c :: cs => by simp [strsOf, strs_ones cs]
theorem join_ones : ∀ cs : List Nat, Txt.join ("" : Str) (cs.map one) = ⟨cs.toArray⟩ := fun cs => by
  have h := SX.join_S [] (cs.map fun c => [c])
  have e1 : (cs.map fun c => [c]).map SX.S = cs.map one := by
    rw [List.map_map]
    rfl
  rw [e1] at h
  have e3 : ∀ cs : List Nat, TL.joinL [] (cs.map fun c => [c]) = cs := by
    intro cs
    induction cs with
    | nil => rfl
    | cons c cs ih =>
      cases cs with
      | nil => rfl
      | cons d cs =>
        show [c] ++ ([] ++ TL.joinL [] ((d :: cs).map fun c => [c])) = _
        rw [ih]
        rfl
  rw [e3] at h
  exact h
theorem sum_ones (cs : List Nat) : ((cs.map one).map (·.length)).sum = cs.length := by
  have : (cs.map one).map (·.length) = cs.map fun _ => 1 := by
    rw [List.map_map]
    rfl
  rw [this, List.map_const', List.sum_replicate_nat]
  omega
def alpha : Str := "abcdefghijklmnopqrstuvwxyz"
end K00


namespace K00
open PySem PySem.Spec PyProof.Rows L2 Mi
def Ok7 (x : Str) : Prop := ∀ c ∈ x.cps.toList, c < 0x110000
theorem Ok7.ok {x : Str} (h : Ok7 x) : PyData.strOk x = true := by
  unfold PyData.strOk
  rw [← Array.all_toList, List.all_eq_true]
  intro c hc
  exact decide_eq_true (h c hc)
theorem len_def (x : Str) : x.length = x.cps.toList.length := by rw [Array.length_toList]; rfl
theorem cut_sub {x : Str} {c : Nat} (h : c ∈ (cutS x none (some 7)).cps.toList) : c ∈ x.cps.toList := by
  unfold cutS at h
  exact List.mem_of_mem_drop (List.mem_of_mem_take h)
theorem app_cps (a b : Str) : (a ++ b).cps.toList = a.cps.toList ++ b.cps.toList := by
  show (a.cps ++ b.cps).toList = _
  exact Array.toList_append
theorem app_len (a b : Str) : (a ++ b).length = a.length + b.length := by
  rw [len_def, len_def, len_def, app_cps, List.length_append]
theorem alpha_ok : ∀ c ∈ alpha.cps.toList, c < 0x110000 := by decide +kernel
theorem words_sh : SeqAt.shaped (.list ((W1 ++ W2).map PyData.str)) = true := by decide +kernel
theorem toPs_strs : ∀ l : List Str, toPs (l.map D.str) = some (l.map PyData.str)
  | [] => by simp [toPs]
  | x :: l => by simp [toPs, toP, toPs_strs l]
/-- the test of a name -/
theorem fresh_ok {x : Str} {S : So} (h : Ok7 x) : dNotIn (.str x) (.lst []) S = some (.bl true, S) ∧ ∃ k, dNotIn (.str x) (.lst WD) S = some (.bl k, S) := by
  have hx : SeqAt.shaped (.str x) = true := by
    unfold SeqAt.shaped
    simp [PyData.canLay0, PyData.depth, h.ok]
  have hn : SeqAt.shaped (.list []) = true := by decide +kernel
  refine ⟨?_, ?_⟩
  · simp [dNotIn, dInB, dctOf, toPt, toP, toPs, hx, hn]
  · have hw := words_sh
    refine ⟨!(((W1 ++ W2).map PyData.str).any fun q => PyData.eqv q (.str x)), ?_⟩
    unfold dNotIn dInB WD
    simp only [dctOf, toPt, toP, toPs_strs, hx, hw, Bool.and_self, if_true, Option.map_some]
def phi (tx : Str) (d : D) : D := match d with
  | .str y => .str (cutS tx none (some 7) ++ y)
  | d => d
theorem name_ok {S : So} {b : Nat} (h : Bag S b) : ∃ x S', m_law_name [.ref b, .lst []] S = .ok (.str x) S' ∧ Bag S' b ∧ Ok7 x := by
  have hs : sizeLine = 16777216 := sizeLine_eq
  obtain ⟨d, S1, e1, h1, hd⟩ := pick_lst (l := [.str alpha, .str "ab", .str "st"]) h (by simp) (by decide)
  obtain ⟨x, rfl, hx0, hxl, hxo⟩ : ∃ x, d = .str x ∧ 0 < x.cps.size ∧ x.length ≤ 26 ∧ Ok7 x := by
    simp only [List.mem_cons, List.not_mem_nil, or_false] at hd
    rcases hd with rfl | rfl | rfl
    · exact ⟨_, rfl, by decide +kernel, by decide +kernel, alpha_ok⟩
    · exact ⟨_, rfl, by decide +kernel, by decide +kernel, by unfold Ok7; decide +kernel⟩
    · exact ⟨_, rfl, by decide +kernel, by decide +kernel, by unfold Ok7; decide +kernel⟩
  obtain ⟨r, S2, e2, h2, r0, r8⟩ := throw_bag (t := 8) h1 (by decide) (by decide)
  have e1' : m_law_pick [.ref b, .lst [.str "abcdefghijklmnopqrstuvwxyz", .str "ab", .str "st"]] S = .ok (.str x) S1 := e1
  have rl : (rngL 0 (1 + r).toNat).length = (1 + r).toNat := by simp [rngL]
  obtain ⟨ys, S3, e3, h3, hl, hP⟩ := comp_ok (hold := none) (S0 := S2) (I := fun S => Bag S b) (P := fun y => ∃ c, y = .str (one c) ∧ c ∈ x.cps.toList) (g := gN 6)
    (f := mCall m_law_pick (aCons (mV 0) (aCons (mV 3) aNil))) (enw := [some (.ref b), some (.lst []), some (.str "abcdefghijklmnopqrstuvwxyz"), some (.str x), none, none, none, none]) (fun _ _ => rfl) (rngL 0 (1 + r).toNat) [] S2
    (fun d _ S hS => by
      obtain ⟨c, S', e, hB, hc⟩ := pick_str hS hx0 (by omega)
      refine ⟨_, .str (one c), S', rfl, ?_, ⟨c, rfl, hc⟩, hB⟩
      simp [mCall, aCons, aNil, mV, R.at, R.bind, e]) h2 (by rw [rl]; simp; omega)
  obtain ⟨cs, rfl, hcs⟩ := ones_of hP
  have hcl : cs.length ≤ 8 := by rw [List.length_map, rl] at hl; omega
  have q1 : -4611686018427387904 ≤ 1 + r := by omega
  have q2 : 1 + r < 4611686018427387904 := by omega
  have hj : mJoin (.str "") [.lst (cs.map fun c => .str (one c))] S3 = some (.str ⟨cs.toArray⟩, S3) := by
    unfold mJoin
    simp only [seqOf, strs_ones]
    rw [if_pos (by rw [sum_ones, List.length_map]; show cs.length + cs.length * 0 ≤ _; omega)]
    rw [join_ones]
  obtain ⟨tx, htx⟩ : ∃ tx : Str, tx = ⟨cs.toArray⟩ := ⟨_, rfl⟩
  rw [← htx] at hj
  have txl : tx.cps.toList = cs := by rw [htx]
  have txn : tx.length ≤ 8 := by rw [len_def, txl]; exact hcl
  have txo : Ok7 tx := fun c hc => hxo c (hcs c (by rw [txl] at hc; exact hc))
  rw [List.nil_append] at e3
  have ex : ∀ (u : Str) (c : Nat), dAdd (.str u) (.str (one c)) S3 = if u.length + 1 ≤ sizeLine then some (.str (u ++ one c), S3) else none := fun u c => rfl
  have e4 := comp_map (hold := none) (S0 := S3) (S := S3) (φ := phi tx) (g := gN 7)
    (f := m2 dAdd (mSl dSl (mV 4) pNo (pSo (mC (.int 7)))) (mV 7)) (enw := [some (.ref b), some (.lst []), some (.str "abcdefghijklmnopqrstuvwxyz"), some (.str x), some (.str tx), none, none, none]) rfl (sgns alpha) []
    (fun d hd => by
      obtain ⟨c, _, rfl⟩ := List.mem_map.mp hd
      refine ⟨_, rfl, ?_⟩
      have h7 := cutS_length tx none (some 7)
      simp only [m2, mSl, mV, mC, pNo, pSo, dSl, R.of, R.bind, List.set_cons_succ, List.set_cons_zero, List.getElem?_cons_succ, List.getElem?_cons_zero]
      rw [if_pos (show tx.length ≤ sizeLine by omega)]
      simp only [ex]
      rw [if_pos (show (cutS tx none (some 7)).length + 1 ≤ sizeLine by omega)]
      rfl) (by rw [show (sgns alpha).length = 26 by decide +kernel]; simp; omega)
  rw [List.nil_append] at e4
  have hL : ∀ d ∈ ([D.str tx] ++ (sgns alpha).map (phi tx)), ∃ y, d = .str y ∧ Ok7 y := fun d hd => by
    rcases List.mem_append.mp hd with hd | hd
    · exact ⟨tx, by simpa using hd, txo⟩
    · obtain ⟨d', hd', rfl⟩ := List.mem_map.mp hd
      obtain ⟨c, hc, rfl⟩ := List.mem_map.mp hd'
      refine ⟨_, rfl, fun z hz => ?_⟩
      rw [app_cps] at hz
      rcases List.mem_append.mp hz with hz | hz
      · exact txo z (cut_sub hz)
      · have : z = c := by simpa using hz
        rw [this]
        exact alpha_ok c hc
  have hLn : ([D.str tx] ++ (sgns alpha).map (phi tx)).length ≤ sizeLine := by
    rw [List.length_append, List.length_map, show (sgns alpha).length = 26 by decide +kernel]
    simp; omega
  obtain ⟨L, eL⟩ : ∃ L, L = ([D.str tx] ++ (sgns alpha).map (phi tx)) := ⟨_, rfl⟩
  rw [← eL] at hL
  have e5 := for_find (S := S3) (S0 := S3) (g := gN 5) (body := sIf (tAnd' (tB' (m2 dNotIn (mV 5) (mV 1))) (tB' (m2 dNotIn (mV 5) (mCall m_law_words aNil)))) (sRet (mV 5)) sNil) (P := fun d => ∃ y, d = .str y ∧ Ok7 y)
    (J := fun en => ∃ o, en = [some (.ref b), some (.lst []), some (.str "abcdefghijklmnopqrstuvwxyz"), some (.str x), some (.str tx), o, none, none]) L
    [some (.ref b), some (.lst []), some (.str "abcdefghijklmnopqrstuvwxyz"), some (.str x), some (.str tx), none, none, none]
    (fun d hd en hJ => by
      obtain ⟨o, rfl⟩ := hJ
      obtain ⟨y, rfl, hy⟩ := hL d hd
      obtain ⟨f1, k, f2⟩ := fresh_ok (S := S3) hy
      refine ⟨_, rfl, ?_⟩
      cases k with
      | true => exact .inl ⟨.str y, by simp [sIf, tAnd', tB', asB, m2, mV, mCall, aNil, R.bind, R.of, R.at, words_ok, f1, f2, sRet], y, rfl, hy⟩
      | false => exact .inr ⟨_, by simp [sIf, tAnd', tB', asB, m2, mV, mCall, aNil, R.bind, R.of, R.at, words_ok, f1, f2, sNil]; rfl, _, rfl⟩) ⟨none, rfl⟩
  have run : ∀ fl, Mi.forM none S3 (gN 5) (sIf (tAnd' (tB' (m2 dNotIn (mV 5) (mV 1))) (tB' (m2 dNotIn (mV 5) (mCall m_law_words aNil)))) (sRet (mV 5)) sNil) L [some (.ref b), some (.lst []), some (.str "abcdefghijklmnopqrstuvwxyz"), some (.str x), some (.str tx), none, none, none] S3 = .ok fl S3 →
      m_law_name [.ref b, .lst []] S = bodyR (match fl with | .nx en1 => .ok (.rt (.str "zzz")) S3 | fl => .ok fl S3) := fun fl hfl => by
    unfold m_law_name
    generalize sIf (tAnd' (tB' (m2 dNotIn (mV 5) (mV 1))) (tB' (m2 dNotIn (mV 5) (mCall m_law_words aNil)))) (sRet (mV 5)) sNil = body at hfl ⊢
    generalize m2 dAdd (mSl dSl (mV 4) pNo (pSo (mC (.int 7)))) (mV 7) = f7 at e4 ⊢
    generalize mCall m_law_pick (aCons (mV 0) (aCons (mV 3) aNil)) = f3 at e3 ⊢
    have hst : (1 : Nat) ≤ sizeLine := by omega
    have hsl : (3 : Nat) ≤ sizeLine := by omega
    simp only [bodyM, List.length_cons, List.length_nil, Nat.reduceAdd, if_true, List.map_cons, List.map_nil, Nat.reduceSub, List.replicate, List.cons_append, List.nil_append, sSeq, sSet, mC, R.bind_ok, List.set_cons_succ, List.set_cons_zero, mCall, aCons, aNil, mV, List.getElem?_cons_succ, List.getElem?_cons_zero, mLst, hsl, e1', R.at]
    have hq1 : -(2 ^ 62 : Int) ≤ 1 + r := by omega
    have hq2 : 1 + r < (2 ^ 62 : Int) := by omega
    simp only [mM, mC, R.bind_ok, isTyp, beq_self_eq_true, if_true, aCons, aNil, mComp, iRg1, m2, mCall, mV, List.getElem?_cons_succ, List.getElem?_cons_zero, R.at, e2, R.of, dAdd, wipeE, List.set_cons_succ, List.set_cons_zero, hq1, hq2, and_self, e3, hj]
    simp only [sFor, iSeq, m2, mLst, aCons, aNil, mV, List.getElem?_cons_succ, List.getElem?_cons_zero, R.bind_ok, List.length_cons, List.length_nil, Nat.reduceAdd, hst, if_true, mComp, iTxt, wipeE, List.set_cons_succ, List.set_cons_zero]
    rw [show sgns ("abcdefghijklmnopqrstuvwxyz" : Str) = sgns alpha from rfl, e4]
    simp only [R.bind_ok, dAdd, lstOf]
    rw [if_pos (by rw [← List.length_append]; exact hLn)]
    simp only [R.of, R.bind_ok, srcOf, ← eL, hfl]
    cases fl <;> rfl
  rcases e5 with ⟨d, e5, y, rfl, hy⟩ | ⟨en', e5, _⟩
  · exact ⟨y, S3, by rw [run _ e5]; rfl, h3, hy⟩
  · exact ⟨"zzz", S3, by rw [run _ e5]; rfl, h3, by unfold Ok7; decide +kernel⟩
end K00


namespace K00
open PySem PySem.Spec PyProof.Rows L2 Mi
/-- the values that are drawn: depth at most n -/
inductive Any : Nat → D → Prop where
  | non {n} : Any n .non
  | bl {n} (b : Bool) : Any n (.bl b)
  | int {n} (i : Int) : Any n (.int i)
  | str {n} (x : Str) (h : Ok7 x) : Any n (.str x)
  | nil {n} : Any n (.tup [])
  | two {n} {d e : D} (h : Any n d) (k : Any n e) : Any (n + 1) (.tup [d, e])
theorem eq_int {S : So} (i j : Int) : dEq (.int i) (.int j) S = some (.bl (i == j), S) := by
  simp [dEq, dEqP, toPt, toP, SeqAt.shaped, PyData.canLay0, PyData.depth, PyData.eqv]
/-- the six ways -/
theorem six_ok {n : Nat} {S : So} {b : Nat} {r : Int} {o : Option D} (h : Bag S b) (r0 : 0 ≤ r) (r6 : r < 6) : ∃ d S', (m2 dIx (mLst (aCons (mC .non) (aCons (mC (.bl true)) (aCons (mC (.bl false)) (aCons (mCall m_law_value (aCons (mV 0) aNil)) (aCons (mCall m_law_name (aCons (mV 0) (aCons (mLst aNil) aNil))) (aCons (mTup aNil) aNil))))))) (mV 2)) [some (.ref b), o, some (.int r)] S = .ok d S' ∧ Bag S' b ∧ Any n d := by
  have hs : sizeLine = 16777216 := sizeLine_eq
  obtain ⟨v, S2, e2, h2⟩ := value_ok h
  obtain ⟨x, S3, e3, h3, hx⟩ := name_ok h2
  have z0 : (0 : Nat) ≤ sizeLine := by omega
  have z6 : (6 : Nat) ≤ sizeLine := by omega
  obtain ⟨d, ed, hd⟩ := atI_of (l := [D.non, .bl true, .bl false, .int v, .str x, .tup []]) r0 (by simpa using r6)
  refine ⟨d, S3, ?_, h3, ?_⟩
  · simp only [m2, mLst, mTup, aCons, aNil, mC, mCall, mV, R.bind_ok, List.getElem?_cons_zero, List.getElem?_cons_succ, e2, R.at, List.length_nil, z0, if_true, e3, List.length_cons, Nat.reduceAdd, z6, dIx, dctOf, seqOf, ed, Option.map_some, R.of]
  · simp only [List.mem_cons, List.not_mem_nil, or_false] at hd
    rcases hd with rfl | rfl | rfl | rfl | rfl | rfl
    · exact .non
    · exact .bl _
    · exact .bl _
    · exact .int _
    · exact .str _ hx
    · exact .nil
theorem any_ok : ∀ (n : Nat) {S : So} {b : Nat}, Bag S b → ∃ d S', m_law_any (n + 1) [.ref b, .int n] S = .ok d S' ∧ Bag S' b ∧ Any n d := by
  have hs : sizeLine = 16777216 := sizeLine_eq
  have z2 : (2 : Nat) ≤ sizeLine := by omega
  intro n
  induction n with
  | zero =>
    intro S b h
    obtain ⟨r, S1, e1, h1, r0, r6⟩ := throw_bag (t := 6) h (by decide) (by decide)
    obtain ⟨d, S2, e2, h2, hd⟩ := six_ok (n := 0) (o := some (.int 0)) h1 r0 r6
    refine ⟨d, S2, ?_, h2, hd⟩
    unfold m_law_any
    generalize m2 dIx (mLst (aCons (mC .non) (aCons (mC (.bl true)) (aCons (mC (.bl false)) (aCons (mCall m_law_value (aCons (mV 0) aNil)) (aCons (mCall m_law_name (aCons (mV 0) (aCons (mLst aNil) aNil))) (aCons (mTup aNil) aNil))))))) (mV 2) = q at e2 ⊢
    cases c : (r == 5) <;> simp [bodyM, bodyR, sSeq, sIf, sSet, sRet, sNil, tAnd', tB', asB, m2, mV, mC, aCons, aNil, mCall, R.at, R.of, R.bind, e1, eq_int, c, dGt, dCmp, e2]
  | succ n ih =>
    intro S b h
    obtain ⟨r, S1, e1, h1, r0, r6⟩ := throw_bag (t := 6) h (by decide) (by decide)
    obtain ⟨d, S2, e2, h2, hd⟩ := six_ok (n := n + 1) (o := some (.int ((n : Int) + 1))) h1 r0 r6
    obtain ⟨d3, S3, e3, h3, hd3⟩ := ih h1
    obtain ⟨d4, S4, e4, h4, hd4⟩ := ih h3
    unfold m_law_any
    generalize m2 dIx (mLst (aCons (mC .non) (aCons (mC (.bl true)) (aCons (mC (.bl false)) (aCons (mCall m_law_value (aCons (mV 0) aNil)) (aCons (mCall m_law_name (aCons (mV 0) (aCons (mLst aNil) aNil))) (aCons (mTup aNil) aNil))))))) (mV 2) = q at e2 ⊢
    have hn : (0 : Int) < (n : Int) + 1 := by omega
    have e3' : m_law_any (n + 1) [.ref b, .int ((n : Int) + 1 - 1)] S1 = .ok d3 S3 := by rw [show (n : Int) + 1 - 1 = n by omega]; exact e3
    have e4' : m_law_any (n + 1) [.ref b, .int ((n : Int) + 1 - 1)] S3 = .ok d4 S4 := by rw [show (n : Int) + 1 - 1 = n by omega]; exact e4
    generalize m_law_any (n + 1) = F at e3' e4' ⊢
    cases c : (r == 5) with
    | true =>
      refine ⟨.tup [d3, d4], S4, ?_, h4, .two hd3 hd4⟩
      simp only [bodyM, bodyR, sSeq, sIf, sSet, sRet, sNil, tAnd', tB', asB, m2, mV, mC, aCons, aNil, mCall, R.at, R.of, R.bind_ok, e1, eq_int, c, dGt, dCmp, hn, List.length_cons, List.length_nil, Nat.reduceAdd, if_true, List.map_cons, List.map_nil, Nat.reduceSub, List.replicate, List.cons_append, List.nil_append, List.set_cons_succ, List.set_cons_zero, List.getElem?_cons_succ, List.getElem?_cons_zero, Int.natCast_add, decide_true, mTup, dSub, e3', e4', z2, Int.natCast_succ, Nat.succ_eq_add_one, Int.ofNat_eq_natCast]
    | false =>
      refine ⟨d, S2, ?_, h2, hd⟩
      simp only [bodyM, bodyR, sSeq, sIf, sSet, sRet, sNil, tAnd', tB', asB, m2, mV, mC, aCons, aNil, mCall, R.at, R.of, R.bind_ok, e1, eq_int, c, dGt, dCmp, hn, List.length_cons, List.length_nil, Nat.reduceAdd, if_true, List.map_cons, List.map_nil, Nat.reduceSub, List.replicate, List.cons_append, List.nil_append, List.set_cons_succ, List.set_cons_zero, List.getElem?_cons_succ, List.getElem?_cons_zero, Int.natCast_add, e2, Int.natCast_succ, Nat.succ_eq_add_one, Int.ofNat_eq_natCast]
end K00


namespace K00
open PySem PySem.Spec PyProof.Rows L2 Mi
theorem eq_bl {S : So} (i j : Bool) : dEq (.bl i) (.bl j) S = some (.bl (i == j), S) := by
  simp [dEq, dEqP, toPt, toP, SeqAt.shaped, PyData.canLay0, PyData.depth, PyData.eqv]
theorem ne_int {S : So} (i j : Int) : dNe (.int i) (.int j) S = some (.bl (!(i == j)), S) := by
  simp [dNe, dEqP, toPt, toP, SeqAt.shaped, PyData.canLay0, PyData.depth, PyData.eqv]
theorem ne_bl {S : So} (i j : Bool) : dNe (.bl i) (.bl j) S = some (.bl (!(i == j)), S) := by
  simp [dNe, dEqP, toPt, toP, SeqAt.shaped, PyData.canLay0, PyData.depth, PyData.eqv]
theorem eq_str {S : So} {x : Str} (h : Ok7 x) : dEq (.str x) (.str x) S = some (.bl true, S) := by
  simp [dEq, dEqP, toPt, toP, SeqAt.shaped, PyData.canLay0, PyData.depth, PyData.eqv, h.ok]
/-- a leaf is the same as itself -/
theorem same_leaf {n : Nat} {d : D} {S : So} (hd : d = .non ∨ (∃ b, d = .bl b) ∨ (∃ i, d = .int i) ∨ ∃ x, d = .str x ∧ Ok7 x) : m_law_same (n + 1) [d, d] S = .ok (.bl true) S := by
  rcases hd with rfl | ⟨b, rfl⟩ | ⟨i, rfl⟩ | ⟨x, rfl, hx⟩
  · simp [m_law_same, bodyM, bodyR, sSeq, sIf, sRet, sNil, tTru, truD, tOr', tB', asB, m2, mV, mC, R.of, R.bind, mIs, isD, tyD, isT, dIsN, Mi.isNon, mAnd]
  · simp [m_law_same, bodyM, bodyR, sSeq, sIf, sRet, sNil, tTru, truD, tOr', tB', asB, m2, mV, mC, R.of, R.bind, mIs, isD, tyD, isT, dIsN, Mi.isNon, mAnd, mNot, ne_bl, eq_bl]
  · simp [m_law_same, bodyM, bodyR, sSeq, sIf, sRet, sNil, tTru, truD, tOr', tB', asB, m2, mV, mC, R.of, R.bind, mIs, isD, tyD, isT, dIsN, Mi.isNon, mAnd, mNot, ne_bl, eq_int]
  · simp [m_law_same, bodyM, bodyR, sSeq, sIf, sRet, sNil, tTru, truD, tOr', tB', asB, m2, mV, mC, R.of, R.bind, mIs, isD, tyD, isT, dIsN, Mi.isNon, mAnd, mNot, ne_bl, eq_str hx]
theorem body_rt {n k : Nat} {f : T} {ds : List D} {S S' : So} {d : D} (hl : ds.length = k) (h : f (ds.map some ++ List.replicate (n - k) none) S = .ok (.rt d) S') : bodyM n k f ds S = .ok d S' := by
  unfold bodyM
  rw [if_pos hl, h]
  rfl
theorem seq_rt {f g : T} {en : En} {S S' : So} {d : D} (h : f en S = .ok (.rt d) S') : sSeq f g en S = .ok (.rt d) S' := by
  unfold sSeq
  rw [h]
  rfl
theorem seq_nx {f g : T} {en en1 : En} {S S1 : So} {r : R Fl} (h : f en S = .ok (.nx en1) S1) (k : g en1 S1 = r) : sSeq f g en S = r := by
  unfold sSeq
  rw [h]
  exact k
theorem if_t {t : E Bool} {f g : T} {en : En} {S S1 : So} {r : R Fl} (h : t en S = .ok true S1) (k : f en S1 = r) : sIf t f g en S = r := by
  unfold sIf
  rw [h]
  exact k
theorem if_f {t : E Bool} {f g : T} {en : En} {S S1 : So} {r : R Fl} (h : t en S = .ok false S1) (k : g en S1 = r) : sIf t f g en S = r := by
  unfold sIf
  rw [h]
  exact k
theorem set_ok {i : Nat} {f : E D} {en : En} {S S1 : So} {d : D} (h : f en S = .ok d S1) : sSet i f en S = .ok (.nx (en.set i (some d))) S1 := by
  unfold sSet
  rw [h]
  rfl
theorem ret_ok {f : E D} {en : En} {S S1 : So} {d : D} (h : f en S = .ok d S1) : sRet f en S = .ok (.rt d) S1 := by
  unfold sRet
  rw [h]
  rfl
theorem rg_len {l : List D} {S : So} {en : En} {g : E (List D)} (hz : l.length < 1000000) (e : g en S = .ok [.int l.length] S) : iRg1 g en S = .ok ⟨none, rngL 0 l.length⟩ S := by
  unfold iRg1
  rw [e, R.bind_ok]
  have q1 : -(2 ^ 62 : Int) ≤ (l.length : Int) := by omega
  have q2 : (l.length : Int) < (2 ^ 62 : Int) := by omega
  show (if -(2 ^ 62) ≤ (l.length : Int) ∧ (l.length : Int) < 2 ^ 62 then _ else _) = _
  rw [if_pos ⟨q1, q2⟩, Int.toNat_natCast]
theorem same_tup {F : Fm} {l : List D} {S : So} {n : Nat} (e : m_law_same n = F) (hz : l.length < 1000000) (h : ∀ d ∈ l, F [d, d] S = .ok (.bl true) S) : m_law_same (n + 1) [.tup l, .tup l] S = .ok (.bl true) S := by
  have hs : sizeLine = 16777216 := sizeLine_eq
  have hl : (rngL 0 l.length).length = l.length := by simp [rngL]
  have e4 := comp_map (hold := none) (S0 := S) (S := S) (φ := fun _ => .bl true) (g := gN 2) (f := mCall F (aCons (m2 dIx (mV 0) (mV 2)) (aCons (m2 dIx (mV 1) (mV 2)) aNil))) (enw := [some (.tup l), some (.tup l), none]) rfl (rngL 0 l.length) []
    (fun d hd => by
      obtain ⟨i, hi, rfl⟩ := List.mem_map.mp hd
      have hi' : i < l.length := List.mem_range.mp hi
      refine ⟨_, rfl, ?_⟩
      obtain ⟨d, ed, hd⟩ := atI_of (l := l) (r := (0 : Int) + (i : Int)) (by omega) (by omega)
      simp only [mCall, aCons, aNil, m2, mV, List.set_cons_succ, List.set_cons_zero, List.getElem?_cons_succ, List.getElem?_cons_zero, R.bind_ok, dIx, dctOf, seqOf, ed, Option.map_some, R.of, h d hd, R.at]) (by rw [hl]; simp; omega)
  rw [List.nil_append] at e4
  have hb : ∀ k : List D, blsOf (k.map fun _ => D.bl true) = some (k.map fun _ => true) := fun k => by
    induction k with
    | nil => rfl
    | cons a k ih => simp [blsOf, ih]
  have e5 : mComp (iRg1 (aCons (mB bLen (aCons (mV 0) aNil)) aNil)) (gN 2) tT (mCall F (aCons (m2 dIx (mV 0) (mV 2)) (aCons (m2 dIx (mV 1) (mV 2)) aNil))) [2] [some (.tup l), some (.tup l), none] S = .ok (.lst ((rngL 0 l.length).map fun _ => .bl true)) S := by
    unfold mComp
    rw [rg_len (l := l) hz rfl]
    simp only [R.bind_ok, wipeE, List.set_cons_succ, List.set_cons_zero, e4]
  unfold m_law_same
  rw [e]
  generalize mComp (iRg1 (aCons (mB bLen (aCons (mV 0) aNil)) aNil)) (gN 2) tT (mCall F (aCons (m2 dIx (mV 0) (mV 2)) (aCons (m2 dIx (mV 1) (mV 2)) aNil))) [2] = cc at e5 ⊢
  obtain ⟨k, hk⟩ : ∃ k : Int, bLen [.tup l] S = some (.int k, S) := ⟨_, rfl⟩
  have ha : bAll [.lst ((rngL 0 l.length).map fun _ => .bl true)] S = some (.bl true, S) := by
    unfold bAll
    simp only [lstOf, hb, Option.map_some]
    simp
  generalize D.lst ((rngL 0 l.length).map fun _ => .bl true) = dl at e5 ha
  refine body_rt (S' := S) rfl ?_
  refine seq_rt (if_t (S1 := S) ?_ (seq_nx (if_f (S1 := S) ?_ rfl) ?_))
  · simp [tTru, mIs, mV, R.bind, isD, tyD, isT, truD]
  · simp [tOr', tNot', tTru, tB', asB, m2, mIs, mV, R.bind, R.of, isD, tyD, isT, truD, mB, aCons, aNil, hk, ne_int]
  · have e6 : mB bAll (aCons cc aNil) [some (.tup l), some (.tup l), none] S = .ok (.bl true) S := by
      unfold mB aCons aNil
      rw [e5]
      simp only [R.bind_ok]
      rw [ha]
      rfl
    exact ret_ok e6
theorem same_ok : ∀ (n : Nat) {d : D} {S : So}, Any n d → m_law_same (n + 1) [d, d] S = .ok (.bl true) S := by
  intro n
  induction n with
  | zero =>
    intro d S h
    cases h with
    | non => exact same_leaf (.inl rfl)
    | bl b => exact same_leaf (.inr (.inl ⟨b, rfl⟩))
    | int i => exact same_leaf (.inr (.inr (.inl ⟨i, rfl⟩)))
    | str x hx => exact same_leaf (.inr (.inr (.inr ⟨x, rfl, hx⟩)))
    | nil => exact same_tup (l := []) rfl (by simp) (by simp)
  | succ n ih =>
    intro d S h
    cases h with
    | non => exact same_leaf (.inl rfl)
    | bl b => exact same_leaf (.inr (.inl ⟨b, rfl⟩))
    | int i => exact same_leaf (.inr (.inr (.inl ⟨i, rfl⟩)))
    | str x hx => exact same_leaf (.inr (.inr (.inr ⟨x, rfl, hx⟩)))
    | nil => exact same_tup (l := []) rfl (by simp) (by simp)
    | @two _ d1 d2 h k =>
      refine same_tup (l := [d1, d2]) rfl (by simp) fun d hd => ?_
      rcases List.mem_cons.mp hd with e | hd
      · rw [e]; exact ih h
      · rw [List.mem_singleton.mp hd]; exact ih k
end K00


namespace K00
open PySem PySem.Spec PyProof.Rows L2 Mi
theorem pow_ok {i j : Int} {S : So} (h0 : 0 ≤ j) (h : (Builtin.Int.intBits i : Int) * j ≤ 2 ^ 27) : dPow (.int i) (.int j) S = some (.int (i ^ j.toNat), S) := if_pos ⟨h0, h⟩
theorem mod_ok {i j : Int} {S : So} (h : 0 < j) : dMod (.int i) (.int j) S = some (.int (i % j), S) := if_pos h
theorem mul_small {i j : Int} {S : So} (h : small64i j = true) : dMul (.int i) (.int j) S = some (.int (i * j), S) := if_pos (by rw [h, Bool.or_true])
theorem start_ok (ns : List Int) (hz : ns.length ≤ 63) : ∃ S', m_law_start [.scr ns, .int 0] [] = .ok (.ref 0) S' ∧ Bag S' 0 := by
  have hs : sizeLine = 16777216 := sizeLine_eq
  have z3 : (3 : Nat) ≤ sizeLine := by omega
  have p1 : (Builtin.Int.intBits 10 : Int) * 60 ≤ 2 ^ 27 := by decide +kernel
  have p2 : (Builtin.Int.intBits (10 ^ 60) : Int) * 10 ≤ 2 ^ 27 := by decide +kernel
  have p3 : (Builtin.Int.intBits 10 : Int) * 18 ≤ 2 ^ 27 := by decide +kernel
  have q3 : (0 : Int) < (10 ^ 60) ^ 10 := by decide +kernel
  have c0 : ∃ c : Int, mIf (tB' (m2 dLt (mV 1) (mB bLen (aCons (mV 0) aNil)))) (m2 dIx (mV 0) (mV 1)) (m2 dAdd (m2 dMul (mC (.int 53)) (mV 1)) (mC (.int 7))) [some (.scr ns), some (.int 0), none, none, none] [] = .ok (.int c) [] := by
    have hl : bLen [.scr ns] [] = some (.int ns.length, []) := by
      show some (D.int ((ns.map D.int).length : Nat), ([] : So)) = _
      rw [List.length_map]
    cases ns with
    | nil =>
      refine ⟨7, ?_⟩
      have m0 : dMul (.int 53) (.int 0) [] = some (.int 0, []) := rfl
      simp only [mIf, tB', asB, m2, mV, mB, aCons, aNil, mC, R.bind_ok, List.getElem?_cons_zero, List.getElem?_cons_succ, hl, R.of, dLt, dCmp, m0, dAdd]
      rfl
    | cons n ns =>
      refine ⟨n, ?_⟩
      have hx : dIx (.scr (n :: ns)) (.int 0) [] = some (.int n, []) := by
        show (atI ((n :: ns).map D.int) 0).map (fun d => (d, ([] : So))) = _
        simp [atI, ixN]
      have lt : decide ((0 : Int) < ((n :: ns).length : Int)) = true := decide_eq_true (by rw [List.length_cons]; omega)
      simp only [mIf, tB', asB, m2, mV, mB, aCons, aNil, mC, R.bind_ok, List.getElem?_cons_zero, List.getElem?_cons_succ, hl, R.of, dLt, dCmp, lt, hx]
  obtain ⟨c, hc⟩ := c0
  unfold m_law_start
  generalize mIf (tB' (m2 dLt (mV 1) (mB bLen (aCons (mV 0) aNil)))) (m2 dIx (mV 0) (mV 1)) (m2 dAdd (m2 dMul (mC (.int 53)) (mV 1)) (mC (.int 7))) = cell at hc ⊢
  have e1 : m2 dMod (mB bInt (aCons (mB bAbs (aCons (mV 2) aNil)) aNil)) (m2 dPow (m2 dPow (mC (.int 10)) (mC (.int 60))) (mC (.int 10))) [some (.scr ns), some (.int 0), some (.int c), none, none] [] = .ok (.int ((if c < 0 then -c else c) % (10 ^ 60) ^ 10)) [] := by
    have a1 : dPow (.int 10) (.int 60) [] = some (.int (10 ^ 60), []) := pow_ok (by decide) p1
    have a2 : dPow (.int (10 ^ 60)) (.int 10) [] = some (.int ((10 ^ 60) ^ 10), []) := pow_ok (by decide) p2
    have a3 : ∀ u : Int, dMod (.int u) (.int ((10 ^ 60) ^ 10)) [] = some (.int (u % (10 ^ 60) ^ 10), []) := fun u => mod_ok q3
    simp only [m2, mV, mB, aCons, aNil, mC, R.bind_ok, List.getElem?_cons_zero, List.getElem?_cons_succ, R.of, bAbs, bInt, a1, a2, a3]
  obtain ⟨gr, hg⟩ : ∃ g, g = (if c < 0 then -c else c) % (10 ^ 60) ^ 10 := ⟨_, rfl⟩
  rw [← hg] at e1
  generalize m2 dMod (mB bInt (aCons (mB bAbs (aCons (mV 2) aNil)) aNil)) (m2 dPow (m2 dPow (mC (.int 10)) (mC (.int 60))) (mC (.int 10))) = great at e1 ⊢
  obtain ⟨mx, e2⟩ : ∃ mx : Int, m2 dAdd (m2 dMul (m2 dMod (mB bInt (aCons (mV 3) aNil)) (mC (.int 2305843009213693921))) (mC (.int 3))) (mB bInt (aCons (m2 dLt (mV 2) (mC (.int 0))) aNil)) [some (.scr ns), some (.int 0), some (.int c), some (.int gr), none] [] = .ok (.int mx) [] := by
    refine ⟨gr % 2305843009213693921 * 3 + (if decide (c < 0) = true then 1 else 0), ?_⟩
    have b1 : dMod (.int gr) (.int 2305843009213693921) [] = some (.int (gr % 2305843009213693921), []) := rfl
    have b2 : ∀ u : Int, dMul (.int u) (.int 3) [] = some (.int (u * 3), []) := fun u => mul_small (by decide)
    simp only [m2, mV, mB, aCons, aNil, mC, R.bind_ok, List.getElem?_cons_zero, List.getElem?_cons_succ, R.of, bInt, b1, b2, dLt, dCmp, dAdd]
  generalize m2 dAdd (m2 dMul (m2 dMod (mB bInt (aCons (mV 3) aNil)) (mC (.int 2305843009213693921))) (mC (.int 3))) (mB bInt (aCons (m2 dLt (mV 2) (mC (.int 0))) aNil)) = mixed at e2 ⊢
  obtain ⟨u, v, e3⟩ : ∃ u v : Int, aCons (mB bMax (aCons (mC (.int 0)) (aCons (m2 dSub (mV 3) (m2 dPow (mC (.int 10)) (mC (.int 18)))) aNil))) (aCons (m2 dMod (mB bInt (aCons (m2 dAdd (m2 dAdd (m2 dMul (mV 4) (mC (.int 40009))) (m2 dMul (mC (.int 7919)) (mV 1))) (mC (.int 17))) aNil)) (mC (.int 2305843009213693951))) (aCons (mC (.int 0)) aNil)) [some (.scr ns), some (.int 0), some (.int c), some (.int gr), some (.int mx)] [] = .ok [.int u, .int v, .int 0] [] := by
    refine ⟨if gr - 10 ^ 18 > 0 then gr - 10 ^ 18 else 0, (mx * 40009 + 7919 * 0 + 17) % 2305843009213693951, ?_⟩
    have a1 : dPow (.int 10) (.int 18) [] = some (.int (10 ^ 18), []) := pow_ok (by decide) p3
    have b1 : ∀ u : Int, dMod (.int u) (.int 2305843009213693951) [] = some (.int (u % 2305843009213693951), []) := fun u => rfl
    have b2 : ∀ u : Int, dMul (.int u) (.int 40009) [] = some (.int (u * 40009), []) := fun u => mul_small (by decide)
    have b3 : dMul (.int 7919) (.int 0) [] = some (.int (7919 * 0), []) := rfl
    simp only [m2, mV, mB, aCons, aNil, mC, R.bind_ok, List.getElem?_cons_zero, List.getElem?_cons_succ, R.of, bInt, bMax, a1, b1, b2, b3, dAdd, dSub]
  generalize aCons (mB bMax (aCons (mC (.int 0)) (aCons (m2 dSub (mV 3) (m2 dPow (mC (.int 10)) (mC (.int 18)))) aNil))) (aCons (m2 dMod (mB bInt (aCons (m2 dAdd (m2 dAdd (m2 dMul (mV 4) (mC (.int 40009))) (m2 dMul (mC (.int 7919)) (mV 1))) (mC (.int 17))) aNil)) (mC (.int 2305843009213693951))) (aCons (mC (.int 0)) aNil)) = three at e3 ⊢
  refine ⟨[some (.lst [.int u, .int v, .int 0])], ?_, u, v, 0, rfl⟩
  refine body_rt rfl (seq_nx (set_ok hc) (seq_nx (set_ok e1) (seq_nx (set_ok e2) (ret_ok ?_))))
  show mLstN three [some (.scr ns), some (.int 0), some (.int c), some (.int gr), some (.int mx)] [] = _
  unfold mLstN
  rw [e3, R.bind_ok, if_pos (show [D.int u, .int v, .int 0].length ≤ sizeLine from z3)]
  rfl
end K00


namespace K00
open PySem PySem.Spec PyProof.Rows L2 Mi
def CN : List Str := ["PushError", "InvalidLayout", "InvalidTape", "InvalidPipeline", "InvalidState", "InvalidBounds", "InvalidStand", "InvalidPaper", "InvalidChain", "InvalidOperation", "ParseError", "UnknownName", "UnknownIndex", "NothingToUndo", "TooMany", "InvalidNumber"]
theorem add_lst {l k : List D} {S : So} (h : l.length + k.length ≤ sizeLine) : dAdd (.lst l) (.lst k) S = some (.lst (l ++ k), S) := if_pos h
theorem lst_ok {g : E (List D)} {en : En} {S S1 : So} {l : List D} (h : g en S = .ok l S1) (hz : l.length ≤ sizeLine) : mLst g en S = .ok (.lst l) S1 := by
  unfold mLst
  rw [h]
  exact if_pos hz
theorem m2_ok {o : Op2} {f g : E D} {en : En} {S S1 S2 S3 : So} {a b d : D} (h : f en S = .ok a S1) (k : g en S1 = .ok b S2) (e : o a b S2 = some (d, S3)) : m2 o f g en S = .ok d S3 := by
  unfold m2
  rw [h, R.bind_ok, k, R.bind_ok, e]
  rfl
theorem cons_ok {f : E D} {g : E (List D)} {en : En} {S S1 S2 : So} {d : D} {l : List D} (h : f en S = .ok d S1) (k : g en S1 = .ok l S2) : aCons f g en S = .ok (d :: l) S2 := by
  unfold aCons
  rw [h, R.bind_ok, k]
  rfl
theorem isX_ok {g : Str → Bool} {f : E D} {en : En} {S S1 : So} {c : Str} {ks : List Str} {l : List D} (h : f en S = .ok (.exc c ks l) S1) : mIsX g f en S = .ok (.bl (g c)) S1 := by
  unfold mIsX
  rw [h]
  rfl
theorem classes_ok {c : Str} {ks : List Str} {l : List D} {S : So} : m_law_classes [.exc c ks l] S = .ok (.lst (CN.map fun x => .bl (isSub x c))) S := by
  have hs : sizeLine = 16777216 := sizeLine_eq
  have e0 : ∀ (x : Str) (o : Option D), mIsX (isSub x) (mV 0) [some (.exc c ks l), o] S = .ok (.bl (isSub x c)) S := fun x o => isX_ok rfl
  have nil : ∀ en : En, aNil en S = .ok [] S := fun _ => rfl
  have z : ∀ n : Nat, n ≤ 100 → n ≤ sizeLine := fun n h => by omega
  unfold m_law_classes
  refine body_rt (S' := S) rfl ?_
  refine seq_nx (set_ok (lst_ok (cons_ok (e0 _ _) (cons_ok (e0 _ _) (cons_ok (e0 _ _) (nil _)))) (z _ (Nat.le_of_ble_eq_true rfl)))) ?_
  refine seq_nx (set_ok (m2_ok rfl (lst_ok (cons_ok (e0 _ _) (cons_ok (e0 _ _) (nil _))) (z _ (Nat.le_of_ble_eq_true rfl))) (add_lst (z _ (Nat.le_of_ble_eq_true rfl))))) ?_
  refine seq_nx (set_ok (m2_ok rfl (lst_ok (cons_ok (e0 _ _) (cons_ok (e0 _ _) (nil _))) (z _ (Nat.le_of_ble_eq_true rfl))) (add_lst (z _ (Nat.le_of_ble_eq_true rfl))))) ?_
  refine seq_nx (set_ok (m2_ok rfl (lst_ok (cons_ok (e0 _ _) (cons_ok (e0 _ _) (nil _))) (z _ (Nat.le_of_ble_eq_true rfl))) (add_lst (z _ (Nat.le_of_ble_eq_true rfl))))) ?_
  refine seq_nx (set_ok (m2_ok rfl (lst_ok (cons_ok (e0 _ _) (nil _)) (z _ (Nat.le_of_ble_eq_true rfl))) (add_lst (z _ (Nat.le_of_ble_eq_true rfl))))) ?_
  refine seq_nx (set_ok (m2_ok rfl (lst_ok (cons_ok (e0 _ _) (cons_ok (e0 _ _) (cons_ok (e0 _ _) (nil _)))) (z _ (Nat.le_of_ble_eq_true rfl))) (add_lst (z _ (Nat.le_of_ble_eq_true rfl))))) ?_
  exact ret_ok (m2_ok rfl (lst_ok (cons_ok (e0 _ _) (cons_ok (e0 _ _) (cons_ok (e0 _ _) (nil _)))) (z _ (Nat.le_of_ble_eq_true rfl))) (add_lst (z _ (Nat.le_of_ble_eq_true rfl))))
theorem toPs_bls : ∀ l : List Bool, toPs (l.map D.bl) = some (l.map PyData.bool)
  | [] => by simp [toPs]
  | x :: l => by simp [toPs, toP, toPs_bls l]
theorem can_bls : ∀ l : List Bool, PyData.canLayAll0 (l.map PyData.bool) = true
  | [] => rfl
  | x :: l => by simp [PyData.canLayAll0, PyData.canLay0, can_bls l]
theorem dep_bls : ∀ l : List Bool, PyData.depthAll (l.map PyData.bool) = 0
  | [] => rfl
  | x :: l => by simp [PyData.depthAll, PyData.depth, dep_bls l]
theorem eqv_bls : ∀ l : List Bool, PyData.eqvAll (l.map PyData.bool) (l.map PyData.bool) = true
  | [] => rfl
  | x :: l => by simp [PyData.eqvAll, PyData.eqv, eqv_bls l]
theorem sh_bls (l : List Bool) : SeqAt.shaped (.list (l.map PyData.bool)) = true := by
  unfold SeqAt.shaped
  rw [show PyData.canLay0 (.list (l.map PyData.bool)) = true from can_bls l, show PyData.depth (.list (l.map PyData.bool)) = PyData.depthAll (l.map PyData.bool) + 1 from rfl, dep_bls]
  rfl
theorem ne_bls {l : List Bool} {S : So} : dNe (.lst (l.map D.bl)) (.lst (l.map D.bl)) S = some (.bl false, S) := by
  have e : dEqP (.lst (l.map D.bl)) (.lst (l.map D.bl)) S = some true := by
    unfold dEqP
    simp only [toPt, toP, toPs_bls, sh_bls, Bool.and_self, if_true]
    rw [show PyData.eqv (.list (l.map PyData.bool)) (.list (l.map PyData.bool)) = PyData.eqvAll (l.map PyData.bool) (l.map PyData.bool) from rfl, eqv_bls]
  unfold dNe
  rw [e]
  rfl
/-- which classes the k-th error belongs to -/
theorem table : ∀ k : Fin 16, CN.map (fun x => isSub x (CN.getD k "")) = (List.range 16).map fun j => (decide (j = k.val) || (decide (j = 0) && decide (k.val < 11))) := by decide +kernel
theorem table2 : ∀ k : Fin 16, isSub "ValueError" (CN.getD k "") = decide (k.val < 11) := by decide +kernel
end K00


namespace K00
open PySem PySem.Spec PyProof.Rows L2 Mi
theorem six_of {α : Type} {l : List α} (h : l.length = 6) : ∃ a b c d e f, l = [a, b, c, d, e, f] := by
  match l, h with
  | [a, b, c, d, e, f], _ => exact ⟨a, b, c, d, e, f, rfl⟩
theorem call_ok {F : Fm} {fa : E (List D)} {en : En} {S S1 S2 : So} {l : List D} {d : D} (h : fa en S = .ok l S1) (k : F l S1 = .ok d S2) : mCall F fa en S = .ok d S2 := by
  unfold mCall
  rw [h, R.bind_ok, k]
  rfl
theorem b_ok {o : OpL} {fa : E (List D)} {en : En} {S S1 S2 : So} {l : List D} {d : D} (h : fa en S = .ok l S1) (k : o l S1 = some (d, S2)) : mB o fa en S = .ok d S2 := by
  unfold mB
  rw [h, R.bind_ok, k]
  rfl
theorem exc_ok {c : Str} {f : E D} {en : En} {S S1 : So} {d : D} (h : f en S = .ok d S1) : mExc c (aCons f aNil) en S = .ok (.exc c [] []) S1 := by
  unfold mExc aCons aNil
  rw [h]
  rfl
theorem excF_ok {c g : Str} {f : E D} {en : En} {S S1 : So} {d : D} (h : f en S = .ok d S1) : mExcF c g (aCons f aNil) en S = .ok (.exc c [g] [d]) S1 := by
  unfold mExcF aCons aNil
  rw [h]
  rfl
theorem tst_ok {f : E D} {en : En} {S S1 : So} {b : Bool} (h : f en S = .ok (.bl b) S1) : tB' f en S = .ok b S1 := by
  unfold tB'
  rw [h]
  rfl
theorem tru_bl {f : E D} {en : En} {S S1 : So} {b : Bool} (h : f en S = .ok (.bl b) S1) : tTru f en S = .ok b S1 := by
  unfold tTru
  rw [h]
  rfl
theorem table3 : ∀ k : Fin 16, CN.map (fun x => isSub x (CN.getD k "")) = (List.range 16).map fun (j : Nat) => ((((0 : Int) + (j : Int)) == ((k.val : Nat) : Int)) || ((((0 : Int) + (j : Int)) == 0) && decide (((k.val : Nat) : Int) < 11))) := by decide +kernel
theorem for_all {S S0 : So} {g : TgD} {body : T} {J : En → Prop} : ∀ (l : List D) (en : En), (∀ d ∈ l, ∀ en, J en → ∃ en1 en2, g d en S = some en1 ∧ body en1 S = .ok (.nx en2) S ∧ J en2) → J en → ∃ en', Mi.forM none S0 g body l en S = .ok (.nx en') S ∧ J en'
  | [], en, _, hJ => ⟨en, by unfold Mi.forM; rfl, hJ⟩
  | d :: l, en, h, hJ => by
    obtain ⟨en1, en2, e1, e2, hJ2⟩ := h d (by simp) en hJ
    unfold Mi.forM
    simp only [e1, e2, R.bind_ok, still_none, if_true]
    exact for_all l en2 (fun d' hd => h d' (by simp [hd])) hJ2
def ER (g0 g1 g2 g3 g4 g5 : D) : List D := [.exc "PushError" [] [], .exc "InvalidLayout" [] [], .exc "InvalidTape" [] [], .exc "InvalidPipeline" [] [], .exc "InvalidState" [] [], .exc "InvalidBounds" [] [], .exc "InvalidStand" [] [], .exc "InvalidPaper" [] [], .exc "InvalidChain" [] [], .exc "InvalidOperation" [] [], .exc "ParseError" ["index"] [g0], .exc "UnknownName" ["name"] [g1], .exc "UnknownIndex" ["index"] [g2], .exc "NothingToUndo" ["many"] [g3], .exc "TooMany" ["limit"] [g4], .exc "InvalidNumber" ["value"] [g5]]
theorem er_at (g0 g1 g2 g3 g4 g5 : D) (S : So) : ∀ i : Nat, i < 16 → ∃ ks l, dIx (.lst (ER g0 g1 g2 g3 g4 g5)) (.int (0 + (i : Int))) S = some (.exc (CN.getD i "") ks l, S)
  | 0, _ => ⟨_, _, rfl⟩
  | 1, _ => ⟨_, _, rfl⟩
  | 2, _ => ⟨_, _, rfl⟩
  | 3, _ => ⟨_, _, rfl⟩
  | 4, _ => ⟨_, _, rfl⟩
  | 5, _ => ⟨_, _, rfl⟩
  | 6, _ => ⟨_, _, rfl⟩
  | 7, _ => ⟨_, _, rfl⟩
  | 8, _ => ⟨_, _, rfl⟩
  | 9, _ => ⟨_, _, rfl⟩
  | 10, _ => ⟨_, _, rfl⟩
  | 11, _ => ⟨_, _, rfl⟩
  | 12, _ => ⟨_, _, rfl⟩
  | 13, _ => ⟨_, _, rfl⟩
  | 14, _ => ⟨_, _, rfl⟩
  | 15, _ => ⟨_, _, rfl⟩
  | n + 16, h => absurd h (by omega)
theorem body_ok {g0 g1 g2 g3 g4 g5 : D} {S : So} {en : En} {i : Nat} (hi : i < 16) (h4 : en[4]? = some (some (.lst (ER g0 g1 g2 g3 g4 g5)))) (h7 : en[7]? = some (some (.int (0 + (i : Int))))) (hl : en.length = 11) (h10 : en[10]? = some none) :
    (sSeq (sIf (tB' (m2 dNe (mCall m_law_classes (aCons (m2 dIx (mV 4) (mV 7)) aNil)) (mComp (iRg1 (aCons (mB bLen (aCons (mV 4) aNil)) aNil)) (gN 10) tT (mOr (m2 dEq (mV 10) (mV 7)) (mAnd (m2 dEq (mV 10) (mC (.int 0))) (m2 dLt (mV 7) (mC (.int 11))))) [10]))) (sRet (mC (.bl false))) sNil)
    (sIf (tB' (m2 dNe (mIsX (isSub ("ValueError" : Str)) (m2 dIx (mV 4) (mV 7))) (m2 dLt (mV 7) (mC (.int 11))))) (sRet (mC (.bl false))) sNil)) en S = .ok (.nx en) S := by
  have hs : sizeLine = 16777216 := sizeLine_eq
  obtain ⟨ks, l, ee⟩ := er_at g0 g1 g2 g3 g4 g5 S i hi
  have v4 : (mV 4) en S = .ok (.lst (ER g0 g1 g2 g3 g4 g5)) S := by unfold mV; rw [h4]
  have v7 : (mV 7) en S = .ok (.int (0 + (i : Int))) S := by unfold mV; rw [h7]
  have ix : (m2 dIx (mV 4) (mV 7)) en S = .ok (.exc (CN.getD i "") ks l) S := m2_ok v4 v7 ee
  have e1 : mCall m_law_classes (aCons (m2 dIx (mV 4) (mV 7)) aNil) en S = .ok (.lst (CN.map fun x => .bl (isSub x (CN.getD i "")))) S := call_ok (cons_ok ix rfl) classes_ok
  have hn : (0 : Int) + (i : Int) = (i : Int) := by omega
  have e2 := comp_map (hold := none) (S0 := S) (S := S) (φ := fun d => match d with | .int j => .bl ((j == (i : Int)) || ((j == 0) && decide ((i : Int) < 11))) | d => d) (g := gN 10)
    (f := mOr (m2 dEq (mV 10) (mV 7)) (mAnd (m2 dEq (mV 10) (mC (.int 0))) (m2 dLt (mV 7) (mC (.int 11))))) (enw := wipeE en [10]) rfl (rngL 0 16) []
    (fun d hd => by
      obtain ⟨j, hj, rfl⟩ := List.mem_map.mp hd
      refine ⟨_, rfl, ?_⟩
      have w10 : (mV 10) ((wipeE en [10]).set 10 (some (.int ((0 : Int) + (j : Int))))) S = .ok (.int ((0 : Int) + (j : Int))) S := by
        unfold mV
        rw [List.getElem?_set_self (by rw [wipeE_len, hl]; decide)]
      have w7 : (mV 7) ((wipeE en [10]).set 10 (some (.int ((0 : Int) + (j : Int))))) S = .ok (.int (i : Int)) S := by
        unfold mV
        rw [List.getElem?_set_ne (by decide)]
        show (match (en.set 10 none)[7]? with | some (some d) => R.ok d S | _ => R.bad) = _
        rw [List.getElem?_set_ne (by decide), h7, hn]
      have a1 := m2_ok (o := dEq) w10 w7 (eq_int _ _)
      have a2 := m2_ok (o := dEq) w10 (show (mC (.int 0)) _ S = .ok (.int 0) S from rfl) (eq_int _ _)
      have a3 := m2_ok (o := dLt) w7 (show (mC (.int 11)) _ S = .ok (.int 11) S from rfl) (show dLt (.int (i : Int)) (.int 11) S = some (.bl (decide ((i : Int) < 11)), S) from rfl)
      unfold mOr
      rw [a1, R.bind_ok]
      cases c1 : ((0 : Int) + (j : Int) == (i : Int)) with
      | true => simp only [c1, Bool.true_or]
      | false =>
        simp only [c1, Bool.false_or]
        unfold mAnd
        rw [a2, R.bind_ok]
        cases c2 : ((0 : Int) + (j : Int) == 0) with
        | true => simp only [c2, Bool.true_and, a3]
        | false => simp only [c2, Bool.false_and]) (by rw [show (rngL 0 16).length = 16 from rfl]; simp; omega)
  rw [List.nil_append] at e2
  have e3 : mComp (iRg1 (aCons (mB bLen (aCons (mV 4) aNil)) aNil)) (gN 10) tT (mOr (m2 dEq (mV 10) (mV 7)) (mAnd (m2 dEq (mV 10) (mC (.int 0))) (m2 dLt (mV 7) (mC (.int 11))))) [10] en S = .ok (.lst (CN.map fun x => .bl (isSub x (CN.getD i "")))) S := by
    unfold mComp
    rw [rg_len (l := ER g0 g1 g2 g3 g4 g5) (by show 16 < 1000000; decide) (cons_ok (b_ok (cons_ok v4 rfl) rfl) rfl)]
    rw [R.bind_ok, show rngL 0 (ER g0 g1 g2 g3 g4 g5).length = rngL 0 16 from rfl]
    show (compM none S (gN 10) tT _ (wipeE en [10]) (rngL 0 16) [] S).bind _ = _
    rw [e2, R.bind_ok]
    have t := table3 ⟨i, hi⟩
    have : ((rngL 0 16).map fun d => match d with | .int j => D.bl ((j == (i : Int)) || ((j == 0) && decide ((i : Int) < 11))) | d => d) = (CN.map fun x => isSub x (CN.getD i "")).map D.bl := by
      rw [show (CN.map fun x => isSub x (CN.getD i "")) = _ from t]
      unfold rngL
      rw [List.map_map, List.map_map]
      rfl
    rw [this, List.map_map]
    rfl
  have n1 : dNe (.lst (CN.map fun x => .bl (isSub x (CN.getD i "")))) (.lst (CN.map fun x => .bl (isSub x (CN.getD i "")))) S = some (.bl false, S) := by
    have := ne_bls (l := CN.map fun x => isSub x (CN.getD i "")) (S := S)
    rw [List.map_map] at this
    exact this
  refine seq_nx (if_f (tst_ok (m2_ok e1 e3 n1)) rfl) (if_f (tst_ok (m2_ok (isX_ok ix) (m2_ok v7 (show (mC (.int 11)) _ S = .ok (.int 11) S from rfl) (show dLt (.int (0 + (i : Int))) (.int 11) S = some (.bl (decide ((0 + (i : Int)) < 11)), S) from rfl)) ?_)) rfl)
  rw [ne_bl, show isSub "ValueError" (CN.getD i "") = decide (i < 11) from table2 ⟨i, hi⟩]
  have : decide ((0 + (i : Int)) < 11) = decide (i < 11) := by
    rw [hn]
    exact decide_eq_decide.mpr (by omega)
  rw [this]
  simp
end K00


namespace K00
open PySem PySem.Spec PyProof.Rows L2 Mi
theorem xf_ok {f c : Str} {e : E D} {en : En} {S S1 : So} {v : D} (h : e en S = .ok (.exc c [f] [v]) S1) : mXf f e en S = .ok v S1 := by
  unfold mXf
  rw [h]
  exact if_pos rfl
theorem or_ff {s t : E Bool} {en : En} {S : So} (h : s en S = .ok false S) (k : t en S = .ok false S) : tOr' s t en S = .ok false S := by
  unfold tOr'
  rw [h]
  exact k
theorem not_t {s : E Bool} {en : En} {S : So} (h : s en S = .ok true S) : tNot' s en S = .ok false S := by
  unfold tNot'
  rw [h]
  rfl
theorem isX_b {g : Str → Bool} {f : E D} {en : En} {S S1 : So} {c : Str} {ks : List Str} {l : List D} {b : Bool} (h : f en S = .ok (.exc c ks l) S1) (e : g c = b) : mIsX g f en S = .ok (.bl b) S1 := by
  rw [← e]
  exact isX_ok h
theorem law_ok (ns : List Int) (hz : ns.length ≤ 63) : ∃ S', m_law [.scr ns] [] = .ok (.bl true) S' := by
  have hs : sizeLine = 16777216 := sizeLine_eq
  have z : ∀ n : Nat, n ≤ 100 → n ≤ sizeLine := fun n h => by omega
  obtain ⟨S1, e1, h1⟩ := start_ok ns hz
  obtain ⟨x, S2, e2, h2, hx⟩ := name_ok h1
  obtain ⟨gs, S3, e3, h3, hl, hP⟩ := comp_ok (hold := none) (S0 := S2) (I := fun S => Bag S 0) (P := fun y => Any 2 y) (g := gN 9)
    (f := mCall (m_law_any 3) (aCons (mV 1) (aCons (mC (.int 2)) aNil))) (enw := [some (.scr ns), some (.ref 0), some (.str x), none, none, none, none, none, none, none, none]) (fun _ _ => rfl) (rngL 0 6) [] S2
    (fun d _ S hS => by
      obtain ⟨d', S', e, hB, hA⟩ := any_ok 2 hS
      exact ⟨_, d', S', rfl, call_ok (cons_ok rfl (cons_ok rfl rfl)) e, hA, hB⟩) h2 (by rw [show (rngL 0 6).length = 6 from rfl]; exact z _ (by decide))
  rw [List.nil_append] at e3
  obtain ⟨g0, g1, g2, g3, g4, g5, rfl⟩ := six_of (l := gs) (by rw [hl]; rfl)
  refine ⟨S3, ?_⟩
  have vw : ∀ {a b c d e f g h : Option D}, mV 2 [some (.scr ns), some (.ref 0), some (.str x), a, b, c, d, e, f, g, h] S3 = .ok (.str x) S3 := rfl
  have vg : ∀ {b c d e f g h : Option D}, mV 3 [some (.scr ns), some (.ref 0), some (.str x), some (.lst [g0, g1, g2, g3, g4, g5]), b, c, d, e, f, g, h] S3 = .ok (.lst [g0, g1, g2, g3, g4, g5]) S3 := rfl
  have c3 : mComp (iRg1 (aCons (mC (.int 6)) aNil)) (gN 9) tT (mCall (m_law_any 3) (aCons (mV 1) (aCons (mC (.int 2)) aNil))) [9] [some (.scr ns), some (.ref 0), some (.str x), none, none, none, none, none, none, none, none] S2 = .ok (.lst [g0, g1, g2, g3, g4, g5]) S3 := by
    unfold mComp
    rw [rg_len (l := [D.non, .non, .non, .non, .non, .non]) (by decide) rfl, R.bind_ok]
    show (compM none S2 (gN 9) tT _ [some (.scr ns), some (.ref 0), some (.str x), none, none, none, none, none, none, none, none] (rngL 0 6) [] S2).bind _ = _
    rw [e3]
    rfl
  unfold m_law
  refine body_rt (S' := S3) rfl ?_
  refine seq_nx (set_ok (call_ok (cons_ok rfl (cons_ok rfl rfl)) e1)) ?_
  refine seq_nx (set_ok (call_ok (cons_ok rfl (cons_ok (lst_ok rfl (Nat.zero_le _)) rfl)) e2)) ?_
  refine seq_nx (set_ok c3) ?_
  refine seq_nx (set_ok (lst_ok (cons_ok (exc_ok vw) (cons_ok (exc_ok vw) (cons_ok (exc_ok vw) (cons_ok (exc_ok vw) (cons_ok (exc_ok vw) rfl))))) (z _ (Nat.le_of_ble_eq_true rfl)))) ?_
  refine seq_nx (set_ok (m2_ok rfl (lst_ok (cons_ok (exc_ok vw) (cons_ok (exc_ok vw) (cons_ok (exc_ok vw) (cons_ok (exc_ok vw) rfl)))) (z _ (Nat.le_of_ble_eq_true rfl))) (add_lst (z _ (Nat.le_of_ble_eq_true rfl))))) ?_
  refine seq_nx (set_ok (lst_ok (cons_ok (exc_ok vw) (cons_ok (excF_ok (m2_ok vg rfl rfl)) (cons_ok (excF_ok (m2_ok vg rfl rfl)) (cons_ok (excF_ok (m2_ok vg rfl rfl)) rfl)))) (z _ (Nat.le_of_ble_eq_true rfl)))) ?_
  refine seq_nx (set_ok (lst_ok (cons_ok (excF_ok (m2_ok vg rfl rfl)) (cons_ok (excF_ok (m2_ok vg rfl rfl)) (cons_ok (excF_ok (m2_ok vg rfl rfl)) rfl))) (z _ (Nat.le_of_ble_eq_true rfl)))) ?_
  refine seq_nx (set_ok (m2_ok (m2_ok rfl rfl (add_lst (z _ (Nat.le_of_ble_eq_true rfl)))) rfl (add_lst (z _ (Nat.le_of_ble_eq_true rfl))))) ?_
  show sSeq _ _ [some (.scr ns), some (.ref 0), some (.str x), some (.lst [g0, g1, g2, g3, g4, g5]), some (.lst (ER g0 g1 g2 g3 g4 g5)), some (.lst [.exc "InvalidOperation" [] [], .exc "ParseError" ["index"] [g0], .exc "UnknownName" ["name"] [g1], .exc "UnknownIndex" ["index"] [g2]]), some (.lst [.exc "NothingToUndo" ["many"] [g3], .exc "TooMany" ["limit"] [g4], .exc "InvalidNumber" ["value"] [g5]]), none, none, none, none] S3 = _
  obtain ⟨en', ef, o, rfl⟩ := for_all (S := S3) (S0 := S3) (g := gN 7) (body := sSeq (sIf (tB' (m2 dNe (mCall m_law_classes (aCons (m2 dIx (mV 4) (mV 7)) aNil)) (mComp (iRg1 (aCons (mB bLen (aCons (mV 4) aNil)) aNil)) (gN 10) tT (mOr (m2 dEq (mV 10) (mV 7)) (mAnd (m2 dEq (mV 10) (mC (.int 0))) (m2 dLt (mV 7) (mC (.int 11))))) [10]))) (sRet (mC (.bl false))) sNil)
    (sIf (tB' (m2 dNe (mIsX (isSub ("ValueError" : Str)) (m2 dIx (mV 4) (mV 7))) (m2 dLt (mV 7) (mC (.int 11))))) (sRet (mC (.bl false))) sNil))
    (J := fun en => ∃ o, en = [some (.scr ns), some (.ref 0), some (.str x), some (.lst [g0, g1, g2, g3, g4, g5]), some (.lst (ER g0 g1 g2 g3 g4 g5)), some (.lst [.exc "InvalidOperation" [] [], .exc "ParseError" ["index"] [g0], .exc "UnknownName" ["name"] [g1], .exc "UnknownIndex" ["index"] [g2]]), some (.lst [.exc "NothingToUndo" ["many"] [g3], .exc "TooMany" ["limit"] [g4], .exc "InvalidNumber" ["value"] [g5]]), o, none, none, none]) (rngL 0 16)
    [some (.scr ns), some (.ref 0), some (.str x), some (.lst [g0, g1, g2, g3, g4, g5]), some (.lst (ER g0 g1 g2 g3 g4 g5)), some (.lst [.exc "InvalidOperation" [] [], .exc "ParseError" ["index"] [g0], .exc "UnknownName" ["name"] [g1], .exc "UnknownIndex" ["index"] [g2]]), some (.lst [.exc "NothingToUndo" ["many"] [g3], .exc "TooMany" ["limit"] [g4], .exc "InvalidNumber" ["value"] [g5]]), none, none, none, none]
    (fun d hd en hJ => by
      obtain ⟨o, rfl⟩ := hJ
      obtain ⟨i, hi, rfl⟩ := List.mem_map.mp hd
      exact ⟨_, _, rfl, body_ok (List.mem_range.mp hi) rfl rfl rfl rfl, _, rfl⟩) ⟨none, rfl⟩
  refine seq_nx (en1 := [some (.scr ns), some (.ref 0), some (.str x), some (.lst [g0, g1, g2, g3, g4, g5]), some (.lst (ER g0 g1 g2 g3 g4 g5)), some (.lst [.exc "InvalidOperation" [] [], .exc "ParseError" ["index"] [g0], .exc "UnknownName" ["name"] [g1], .exc "UnknownIndex" ["index"] [g2]]), some (.lst [.exc "NothingToUndo" ["many"] [g3], .exc "TooMany" ["limit"] [g4], .exc "InvalidNumber" ["value"] [g5]]), o, none, none, none]) (S1 := S3) ?_ ?_
  · unfold sFor
    rw [rg_len (l := ER g0 g1 g2 g3 g4 g5) (by show 16 < 1000000; decide) (cons_ok (b_ok (cons_ok rfl rfl) rfl) rfl), R.bind_ok]
    exact ef
  refine seq_nx (if_f (or_ff (not_t (tru_bl (isX_b (m2_ok rfl rfl rfl) (by decide +kernel)))) (not_t (tru_bl (isX_b (m2_ok rfl rfl rfl) (by decide +kernel))))) rfl) ?_
  refine seq_nx (if_f (or_ff (not_t (tru_bl (isX_b (m2_ok rfl rfl rfl) (by decide +kernel)))) (not_t (tru_bl (isX_b (m2_ok rfl rfl rfl) (by decide +kernel))))) rfl) ?_
  refine seq_nx (if_f (or_ff (not_t (tru_bl (isX_b (m2_ok rfl rfl rfl) (by decide +kernel)))) (or_ff (tru_bl (isX_b (m2_ok rfl rfl rfl) (by decide +kernel))) (tru_bl (isX_b (m2_ok rfl rfl rfl) (by decide +kernel))))) rfl) ?_
  refine seq_nx (set_ok (lst_ok (cons_ok (xf_ok (m2_ok rfl rfl rfl)) (cons_ok (xf_ok (m2_ok rfl rfl rfl)) (cons_ok (xf_ok (m2_ok rfl rfl rfl)) (cons_ok (xf_ok (m2_ok rfl rfl rfl)) (cons_ok (xf_ok (m2_ok rfl rfl rfl)) (cons_ok (xf_ok (m2_ok rfl rfl rfl)) rfl)))))) (z _ (Nat.le_of_ble_eq_true rfl)))) ?_
  have e4 := comp_map (hold := none) (S0 := S3) (S := S3) (φ := fun _ => .bl true) (g := gN 7) (f := mCall (m_law_same 3) (aCons (m2 dIx (mV 8) (mV 7)) (aCons (m2 dIx (mV 3) (mV 7)) aNil)))
    (enw := [some (.scr ns), some (.ref 0), some (.str x), some (.lst [g0, g1, g2, g3, g4, g5]), some (.lst (ER g0 g1 g2 g3 g4 g5)), some (.lst [.exc "InvalidOperation" [] [], .exc "ParseError" ["index"] [g0], .exc "UnknownName" ["name"] [g1], .exc "UnknownIndex" ["index"] [g2]]), some (.lst [.exc "NothingToUndo" ["many"] [g3], .exc "TooMany" ["limit"] [g4], .exc "InvalidNumber" ["value"] [g5]]), none, some (.lst [g0, g1, g2, g3, g4, g5]), none, none]) rfl (rngL 0 6) []
    (fun d hd => by
      obtain ⟨i, hi, rfl⟩ := List.mem_map.mp hd
      have hi' : i < 6 := List.mem_range.mp hi
      refine ⟨_, rfl, ?_⟩
      obtain ⟨d, ed, hd⟩ := atI_of (l := [g0, g1, g2, g3, g4, g5]) (r := (0 : Int) + (i : Int)) (by omega) (by show (0 : Int) + (i : Int) < ((6 : Nat) : Int); omega)
      have ix : dIx (.lst [g0, g1, g2, g3, g4, g5]) (.int (0 + (i : Int))) S3 = some (d, S3) := by
        show (atI [g0, g1, g2, g3, g4, g5] (0 + (i : Int))).map (fun d => (d, S3)) = _
        rw [ed]
        rfl
      exact call_ok (cons_ok (m2_ok rfl rfl ix) (cons_ok (m2_ok rfl rfl ix) rfl)) (same_ok 2 (hP d hd))) (by rw [show (rngL 0 6).length = 6 from rfl]; exact z _ (by decide))
  refine ret_ok (b_ok (l := [.lst ((rngL 0 6).map fun _ => .bl true)]) (cons_ok ?_ rfl) rfl)
  unfold mComp
  rw [rg_len (l := [D.non, .non, .non, .non, .non, .non]) (by decide) rfl, R.bind_ok]
  show (compM none S3 (gN 7) tT _ [some (.scr ns), some (.ref 0), some (.str x), some (.lst [g0, g1, g2, g3, g4, g5]), some (.lst (ER g0 g1 g2 g3 g4 g5)), some (.lst [.exc "InvalidOperation" [] [], .exc "ParseError" ["index"] [g0], .exc "UnknownName" ["name"] [g1], .exc "UnknownIndex" ["index"] [g2]]), some (.lst [.exc "NothingToUndo" ["many"] [g3], .exc "TooMany" ["limit"] [g4], .exc "InvalidNumber" ["value"] [g5]]), none, some (.lst [g0, g1, g2, g3, g4, g5]), none, none] (rngL 0 6) [] S3).bind _ = _
  rw [e4]
  rfl
end K00


namespace K00
open PySem PySem.Spec PyProof.Rows L2 Mi
def top (i : Nat) : Stmt := PySem.Challenge.pw_pushalike_k00_errors.main.body.getD i (.Pass ⟨0, 0, 0, 0⟩)
abbrev s_law_throw : Stmt := top 19
theorem sc_law_throw : FnScope ["bag", "total", "one", "two", "three", "found"] ["bag", "total"] (defScope s_law_throw) := ⟨rfl, rfl, rfl, by decide +kernel, rfl, by decide +kernel, by decide +kernel⟩
abbrev s_law_pick : Stmt := top 20
theorem sc_law_pick : FnScope ["bag", "items"] ["bag", "items"] (defScope s_law_pick) := ⟨rfl, rfl, rfl, by decide +kernel, rfl, by decide +kernel, by decide +kernel⟩
abbrev s_law_words : Stmt := top 21
theorem sc_law_words : FnScope ["words"] [] (defScope s_law_words) := ⟨rfl, rfl, rfl, by decide +kernel, rfl, by decide +kernel, by decide +kernel⟩
abbrev s_law_name : Stmt := top 22
theorem sc_law_name : FnScope ["bag", "known", "alphabet", "signs", "text", "name", "turn", "sign"] ["bag", "known"] (defScope s_law_name) := ⟨rfl, rfl, rfl, by decide +kernel, rfl, by decide +kernel, by decide +kernel⟩
abbrev s_law_value : Stmt := top 23
theorem sc_law_value : FnScope ["bag", "way"] ["bag"] (defScope s_law_value) := ⟨rfl, rfl, rfl, by decide +kernel, rfl, by decide +kernel, by decide +kernel⟩
abbrev s_law_any : Stmt := top 24
theorem sc_law_any : FnScope ["bag", "depth", "way"] ["bag", "depth"] (defScope s_law_any) := ⟨rfl, rfl, rfl, by decide +kernel, rfl, by decide +kernel, by decide +kernel⟩
abbrev s_law_classes : Stmt := top 26
theorem sc_law_classes : FnScope ["error", "found"] ["error"] (defScope s_law_classes) := ⟨rfl, rfl, rfl, by decide +kernel, rfl, by decide +kernel, by decide +kernel⟩
abbrev s_law_same : Stmt := top 25
theorem sc_law_same : FnScope ["one", "other", "k"] ["one", "other"] (defScope s_law_same) := ⟨rfl, rfl, rfl, by decide +kernel, rfl, by decide +kernel, by decide +kernel⟩
abbrev s_law_start : Stmt := top 18
theorem sc_law_start : FnScope ["script", "at", "cell", "great", "mixed"] ["script", "at"] (defScope s_law_start) := ⟨rfl, rfl, rfl, by decide +kernel, rfl, by decide +kernel, by decide +kernel⟩
abbrev s_law : Stmt := top 27
theorem sc_law : FnScope ["script", "bag", "word", "given", "errors", "told", "more", "k", "kept", "turn", "j"] ["script"] (defScope s_law) := ⟨rfl, rfl, rfl, by decide +kernel, rfl, by decide +kernel, by decide +kernel⟩
structure Txt (K : PySem.W.Frag) (mg : Str → Option Value) (cm : Cm) : Prop where
  z_IndexError : mg "IndexError" = none
  z_KeyError : mg "KeyError" = none
  z_LookupError : mg "LookupError" = none
  z_OverflowError : mg "OverflowError" = none
  z_RuntimeError : mg "RuntimeError" = none
  z_ValueError : mg "ValueError" = none
  z_abs : mg "abs" = none
  z_all : mg "all" = none
  z_bool : mg "bool" = none
  z_int : mg "int" = none
  z_isinstance : mg "isinstance" = none
  z_len : mg "len" = none
  z_max : mg "max" = none
  z_range : mg "range" = none
  z_str : mg "str" = none
  z_tuple : mg "tuple" = none
  f_law_throw : Fnd K mg "_law_throw" "_law_throw" s_law_throw ["bag", "total"]
  f_law_pick : Fnd K mg "_law_pick" "_law_pick" s_law_pick ["bag", "items"]
  f_law_words : Fnd K mg "_law_words" "_law_words" s_law_words []
  f_law_name : Fnd K mg "_law_name" "_law_name" s_law_name ["bag", "known"]
  f_law_value : Fnd K mg "_law_value" "_law_value" s_law_value ["bag"]
  f_law_any : Fnd K mg "_law_any" "_law_any" s_law_any ["bag", "depth"]
  f_law_classes : Fnd K mg "_law_classes" "_law_classes" s_law_classes ["error"]
  f_law_same : Fnd K mg "_law_same" "_law_same" s_law_same ["one", "other"]
  f_law_start : Fnd K mg "_law_start" "_law_start" s_law_start ["script", "at"]
  f_law : Fnd K mg "law" "law" s_law ["script"]
  own : OwnAll K cm
  is_PushError : IsXo K mg cm "PushError" (isSub "PushError")
  is_InvalidLayout : IsXo K mg cm "InvalidLayout" (isSub "InvalidLayout")
  is_InvalidTape : IsXo K mg cm "InvalidTape" (isSub "InvalidTape")
  is_InvalidPipeline : IsXo K mg cm "InvalidPipeline" (isSub "InvalidPipeline")
  is_InvalidState : IsXo K mg cm "InvalidState" (isSub "InvalidState")
  is_InvalidBounds : IsXo K mg cm "InvalidBounds" (isSub "InvalidBounds")
  is_InvalidStand : IsXo K mg cm "InvalidStand" (isSub "InvalidStand")
  is_InvalidPaper : IsXo K mg cm "InvalidPaper" (isSub "InvalidPaper")
  is_InvalidChain : IsXo K mg cm "InvalidChain" (isSub "InvalidChain")
  is_InvalidOperation : IsXo K mg cm "InvalidOperation" (isSub "InvalidOperation")
  is_ParseError : IsXo K mg cm "ParseError" (isSub "ParseError")
  is_UnknownName : IsXo K mg cm "UnknownName" (isSub "UnknownName")
  is_UnknownIndex : IsXo K mg cm "UnknownIndex" (isSub "UnknownIndex")
  is_NothingToUndo : IsXo K mg cm "NothingToUndo" (isSub "NothingToUndo")
  is_TooMany : IsXo K mg cm "TooMany" (isSub "TooMany")
  is_InvalidNumber : IsXo K mg cm "InvalidNumber" (isSub "InvalidNumber")
  isb_ValueError : IsXb K cm "ValueError" (isSub "ValueError")
  isb_KeyError : IsXb K cm "KeyError" (isSub "KeyError")
  isb_IndexError : IsXb K cm "IndexError" (isSub "IndexError")
  isb_LookupError : IsXb K cm "LookupError" (isSub "LookupError")
  isb_OverflowError : IsXb K cm "OverflowError" (isSub "OverflowError")
  isb_RuntimeError : IsXb K cm "RuntimeError" (isSub "RuntimeError")
  nox_index : NoX K cm "index"
  nox_name : NoX K cm "name"
  nox_many : NoX K cm "many"
  nox_limit : NoX K cm "limit"
  nox_value : NoX K cm "value"
  mk_PushError : Mk1 K mg cm "PushError" [Value.type "ValueError", Value.type "Exception", Value.type "BaseException", Value.type "object"] "ValueError.__new__"
  mk_InvalidLayout : Mk1 K mg cm "InvalidLayout" [Value.type "ValueError", Value.type "Exception", Value.type "BaseException", Value.type "object"] "ValueError.__new__"
  mk_InvalidTape : Mk1 K mg cm "InvalidTape" [Value.type "ValueError", Value.type "Exception", Value.type "BaseException", Value.type "object"] "ValueError.__new__"
  mk_InvalidPipeline : Mk1 K mg cm "InvalidPipeline" [Value.type "ValueError", Value.type "Exception", Value.type "BaseException", Value.type "object"] "ValueError.__new__"
  mk_InvalidState : Mk1 K mg cm "InvalidState" [Value.type "ValueError", Value.type "Exception", Value.type "BaseException", Value.type "object"] "ValueError.__new__"
  mk_InvalidBounds : Mk1 K mg cm "InvalidBounds" [Value.type "ValueError", Value.type "Exception", Value.type "BaseException", Value.type "object"] "ValueError.__new__"
  mk_InvalidStand : Mk1 K mg cm "InvalidStand" [Value.type "ValueError", Value.type "Exception", Value.type "BaseException", Value.type "object"] "ValueError.__new__"
  mk_InvalidPaper : Mk1 K mg cm "InvalidPaper" [Value.type "ValueError", Value.type "Exception", Value.type "BaseException", Value.type "object"] "ValueError.__new__"
  mk_InvalidChain : Mk1 K mg cm "InvalidChain" [Value.type "ValueError", Value.type "Exception", Value.type "BaseException", Value.type "object"] "ValueError.__new__"
  mk_InvalidOperation : Mk1 K mg cm "InvalidOperation" [Value.type "ValueError", Value.type "Exception", Value.type "BaseException", Value.type "object"] "ValueError.__new__"
  mk_ParseError : ∀ (P : Program) (w : World) (base : Heap), MkF P w K mg base cm 1 "ParseError" "index" [Value.type "ValueError", Value.type "Exception", Value.type "BaseException", Value.type "object"] "ValueError.__new__"
  mk_UnknownName : ∀ (P : Program) (w : World) (base : Heap), MkF P w K mg base cm 1 "UnknownName" "name" [Value.type "KeyError", Value.type "LookupError", Value.type "Exception", Value.type "BaseException", Value.type "object"] "LookupError.__new__"
  mk_UnknownIndex : ∀ (P : Program) (w : World) (base : Heap), MkF P w K mg base cm 1 "UnknownIndex" "index" [Value.type "IndexError", Value.type "LookupError", Value.type "Exception", Value.type "BaseException", Value.type "object"] "IndexError.__new__"
  mk_NothingToUndo : ∀ (P : Program) (w : World) (base : Heap), MkF P w K mg base cm 1 "NothingToUndo" "many" [Value.type "LookupError", Value.type "Exception", Value.type "BaseException", Value.type "object"] "LookupError.__new__"
  mk_TooMany : ∀ (P : Program) (w : World) (base : Heap), MkF P w K mg base cm 1 "TooMany" "limit" [Value.type "OverflowError", Value.type "ArithmeticError", Value.type "Exception", Value.type "BaseException", Value.type "object"] "OverflowError.__new__"
  mk_InvalidNumber : ∀ (P : Program) (w : World) (base : Heap), MkF P w K mg base cm 1 "InvalidNumber" "value" [Value.type "RuntimeError", Value.type "Exception", Value.type "BaseException", Value.type "object"] "RuntimeError.__new__"
section
variable {P : Program} {w : World} {K : PySem.W.Frag} {mg : Str → Option Value} {base : Heap} {cm : Cm}
theorem d_law_throw (T : Txt K mg cm) : DefM P w K mg base cm 1 "_law_throw" m_law_throw :=
  DefM.of (N := ["bag", "total", "one", "two", "three", "found"]) (ps := ["bag", "total"]) (k := 0) T.f_law_throw sc_law_throw fun f cdv A outer s H E hr =>
    (by refine rss_cons ?_ ?_; exact (rs_if (rt_cmp od_gt (re_ix (u1 hr) (re_v 0) re_int (fun _ _ => rfl)) re_int rfl) (by refine rss_cons ?_ ?_; exact (by refine rs_set 5 ?_ ?_ ?_ ?_ ?_ ?_; exact sc_law_throw.nd; exact rfl; exact (by first | exact .inl rfl | exact .inr rfl); exact (re_op od_mod (re_ty cd_int rfl T.z_int (by decide +kernel) (ra_cons (re_ix (u1 hr) (re_v 0) re_int (fun _ _ => rfl)) ra_nil)) (re_v 1)); exact rfl; exact (by first | exact .inl rfl | exact .inr rfl)); exact (by refine rss_cons ?_ ?_; exact (rs_put (u1 hr) (re_op od_div (re_ix (u1 hr) (re_v 0) re_int (fun _ _ => rfl)) (re_v 1)) (re_v 0) re_int); exact (rss_one (rs_ret (re_v 5))))) rss_nil); exact (by refine rss_cons ?_ ?_; exact (rs_put (u1 hr) (re_op od_add (re_ix (u1 hr) (re_v 0) re_int (fun _ _ => rfl)) re_int) (re_v 0) re_int); exact (by refine rss_cons ?_ ?_; exact (by refine rs_set 2 ?_ ?_ ?_ ?_ ?_ ?_; exact sc_law_throw.nd; exact rfl; exact (by first | exact .inl rfl | exact .inr rfl); exact (re_op od_mod (re_ty cd_int rfl T.z_int (by decide +kernel) (ra_cons (re_op od_add (re_ix (u1 hr) (re_v 0) re_int (fun _ _ => rfl)) (re_op od_mul re_int (re_ix (u1 hr) (re_v 0) re_int (fun _ _ => rfl)))) ra_nil)) re_int); exact rfl; exact (by first | exact .inl rfl | exact .inr rfl)); exact (by refine rss_cons ?_ ?_; exact (by refine rs_set 3 ?_ ?_ ?_ ?_ ?_ ?_; exact sc_law_throw.nd; exact rfl; exact (by first | exact .inl rfl | exact .inr rfl); exact (re_op od_mod (re_ty cd_int rfl T.z_int (by decide +kernel) (ra_cons (re_op od_add (re_op od_mul (re_v 2) (re_v 2)) (re_op od_mul re_int (re_ix (u1 hr) (re_v 0) re_int (fun _ _ => rfl)))) ra_nil)) re_int); exact rfl; exact (by first | exact .inl rfl | exact .inr rfl)); exact (by refine rss_cons ?_ ?_; exact (by refine rs_set 4 ?_ ?_ ?_ ?_ ?_ ?_; exact sc_law_throw.nd; exact rfl; exact (by first | exact .inl rfl | exact .inr rfl); exact (re_op od_mod (re_ty cd_int rfl T.z_int (by decide +kernel) (ra_cons (re_op od_add (re_op od_mul (re_v 3) (re_v 2)) re_int) ra_nil)) re_int); exact rfl; exact (by first | exact .inl rfl | exact .inr rfl)); exact (rss_one (rs_ret (re_op od_mod (re_ty cd_int rfl T.z_int (by decide +kernel) (ra_cons (re_op od_div (re_v 4) re_int) ra_nil)) (re_v 1)))))))))
theorem d_law_pick (T : Txt K mg cm) : DefM P w K mg base cm 2 "_law_pick" m_law_pick :=
  DefM.of (N := ["bag", "items"]) (ps := ["bag", "items"]) (k := 1) T.f_law_pick sc_law_pick fun f cdv A outer s H E hr =>
    (rss_one (rs_ret (re_ix (u1 hr) (re_v 1) (re_call (d_law_throw T) (hr.mono (by omega)) rfl (ra_cons (re_v 0) (ra_cons (re_b cd_len rfl T.z_len (by decide +kernel) (ra_cons (re_v 1) ra_nil)) ra_nil))) (fun _ _ => rfl))))
theorem d_law_words (T : Txt K mg cm) : DefM P w K mg base cm 1 "_law_words" m_law_words :=
  DefM.of (N := ["words"]) (ps := []) (k := 0) T.f_law_words sc_law_words fun f cdv A outer s H E hr =>
    (by refine rss_cons ?_ ?_; exact (by refine rs_set 0 ?_ ?_ ?_ ?_ ?_ ?_; exact sc_law_words.nd; exact rfl; exact (by first | exact .inl rfl | exact .inr rfl); exact (by refine re_lst ?_; exact (by refine ra_strs (xs := ["after", "again", "at", "busy", "changes", "else", "every", "first", "fold", "it", "late", "never", "one"]) ?_; kernel_rfl)); exact rfl; exact (by first | exact .inl rfl | exact .inr rfl)); exact (rss_one (rs_ret (re_op od_add (re_v 0) (by refine re_lst ?_; exact (by refine ra_strs (xs := ["only", "pairs", "pick", "quiet", "source", "spaced", "switch", "then", "told", "until"]) ?_; kernel_rfl))))))
theorem d_law_name (T : Txt K mg cm) : DefM P w K mg base cm 3 "_law_name" m_law_name :=
  DefM.of (N := ["bag", "known", "alphabet", "signs", "text", "name", "turn", "sign"]) (ps := ["bag", "known"]) (k := 2) T.f_law_name sc_law_name fun f cdv A outer s H E hr =>
    (by refine rss_cons ?_ ?_; exact (by refine rs_set 2 ?_ ?_ ?_ ?_ ?_ ?_; exact sc_law_name.nd; exact rfl; exact (by first | exact .inl rfl | exact .inr rfl); exact re_str; exact rfl; exact (by first | exact .inl rfl | exact .inr rfl)); exact (by refine rss_cons ?_ ?_; exact (by refine rs_set 3 ?_ ?_ ?_ ?_ ?_ ?_; exact sc_law_name.nd; exact rfl; exact (by first | exact .inl rfl | exact .inr rfl); exact (re_call (d_law_pick T) (hr.mono (by omega)) rfl (ra_cons (re_v 0) (ra_cons (re_lst (ra_cons (re_v 2) (ra_cons re_str (ra_cons re_str ra_nil)))) ra_nil))); exact rfl; exact (by first | exact .inl rfl | exact .inr rfl)); exact (by refine rss_cons ?_ ?_; exact (by refine rs_set 4 ?_ ?_ ?_ ?_ ?_ ?_; exact sc_law_name.nd; exact rfl; exact (by first | exact .inl rfl | exact .inr rfl); exact (re_m PySem.F.plainAttrs_str PySem.F.slot_str_join PySem.F.type_str_join md_join re_str (ra_cons (re_comp (own := [(("turn" : Str), 6)]) rfl sc_law_name.nd (ri_rg1 rfl T.z_range (ra_cons (re_op od_add re_int (re_call (d_law_throw T) (hr.mono (by omega)) rfl (ra_cons (re_v 0) (ra_cons re_int ra_nil)))) ra_nil)) (blk_of (by kernel_rfl)) (fun _ _ _ _ _ => (rg_n 6 sc_law_name.nd rfl (by first | exact .inl rfl | exact .inr rfl))) (fun _ _ _ _ _ => rts_nil) (fun _ _ _ _ _ => (re_call (d_law_pick T) (hr.mono (by omega)) rfl (ra_cons (re_v 0) (ra_cons (re_v 3) ra_nil))))) ra_nil)); exact rfl; exact (by first | exact .inl rfl | exact .inr rfl)); exact (by refine rss_cons ?_ ?_; exact (rs_for (passes_of rfl) rfl (ri_seq (re_op od_add (re_lst (ra_cons (re_v 4) ra_nil)) (re_comp (own := [(("sign" : Str), 7)]) rfl sc_law_name.nd (ri_str (re_v 2)) (blk_of (by kernel_rfl)) (fun _ _ _ _ _ => (rg_n 7 sc_law_name.nd rfl (by first | exact .inl rfl | exact .inr rfl))) (fun _ _ _ _ _ => rts_nil) (fun _ _ _ _ _ => (re_op od_add (re_sl sd_sl (re_v 4) ro_none (ro_some re_int)) (re_v 7)))))) (rg_n 5 sc_law_name.nd rfl (by first | exact .inl rfl | exact .inr rfl)) (rss_one (rs_if (rt_w (rw_and (rt_cmp (od_notIn (u65 hr)) (re_v 5) (re_v 1) rfl) (rw_and1 (rt_cmp (od_notIn (u65 hr)) (re_v 5) (re_call0 (d_law_words T) (hr.mono (by omega)) rfl) rfl)))) (rss_one (rs_ret (re_v 5))) rss_nil))); exact (rss_one (rs_ret re_str))))))
theorem d_law_value (T : Txt K mg cm) : DefM P w K mg base cm 2 "_law_value" m_law_value :=
  DefM.of (N := ["bag", "way"]) (ps := ["bag"]) (k := 1) T.f_law_value sc_law_value fun f cdv A outer s H E hr =>
    (by refine rss_cons ?_ ?_; exact (by refine rs_set 1 ?_ ?_ ?_ ?_ ?_ ?_; exact sc_law_value.nd; exact rfl; exact (by first | exact .inl rfl | exact .inr rfl); exact (re_call (d_law_throw T) (hr.mono (by omega)) rfl (ra_cons (re_v 0) (ra_cons re_int ra_nil))); exact rfl; exact (by first | exact .inl rfl | exact .inr rfl)); exact (by refine rss_cons ?_ ?_; exact (rs_if (rt_cmp od_lt (re_v 1) re_int rfl) (rss_one (rs_ret (re_call (d_law_throw T) (hr.mono (by omega)) rfl (ra_cons (re_v 0) (ra_cons re_int ra_nil))))) rss_nil); exact (by refine rss_cons ?_ ?_; exact (rs_if (rt_cmp (od_eq (u64 hr)) (re_v 1) re_int rfl) (rss_one (rs_ret (re_op od_sub (re_un ud_neg re_int) (re_call (d_law_throw T) (hr.mono (by omega)) rfl (ra_cons (re_v 0) (ra_cons re_int ra_nil)))))) rss_nil); exact (rss_one (rs_ret (re_op od_mul (re_call (d_law_throw T) (hr.mono (by omega)) rfl (ra_cons (re_v 0) (ra_cons (re_op od_pow re_int re_int) ra_nil))) (re_op od_sub re_int (re_op od_mul re_int (re_v 1)))))))))
theorem d_law_any (T : Txt K mg cm) : ∀ n, DefM P w K mg base cm (3 + n) "_law_any" (m_law_any n)
  | 0 => (DefM.zero T.f_law_any).mono (Nat.zero_le _)
  | n + 1 => DefM.of (N := ["bag", "depth", "way"]) (ps := ["bag", "depth"]) (k := 3 + n) T.f_law_any sc_law_any fun f cdv A outer s H E hr => by
    have dn := d_law_any T n
    exact (by refine rss_cons ?_ ?_; exact (by refine rs_set 2 ?_ ?_ ?_ ?_ ?_ ?_; exact sc_law_any.nd; exact rfl; exact (by first | exact .inl rfl | exact .inr rfl); exact (re_call (d_law_throw T) (hr.mono (by omega)) rfl (ra_cons (re_v 0) (ra_cons re_int ra_nil))); exact rfl; exact (by first | exact .inl rfl | exact .inr rfl)); exact (by refine rss_cons ?_ ?_; exact (rs_if (rt_w (rw_and (rt_cmp (od_eq (u64 hr)) (re_v 2) re_int rfl) (rw_and1 (rt_cmp od_gt (re_v 1) re_int rfl)))) (rss_one (rs_ret (re_tup (ra_cons (re_call dn (hr.mono (by omega)) rfl (ra_cons (re_v 0) (ra_cons (re_op od_sub (re_v 1) re_int) ra_nil))) (ra_cons (re_call dn (hr.mono (by omega)) rfl (ra_cons (re_v 0) (ra_cons (re_op od_sub (re_v 1) re_int) ra_nil))) ra_nil))))) rss_nil); exact (rss_one (rs_ret (re_ix (u1 hr) (by refine re_lst ?_; exact (ra_cons re_non (ra_cons re_bl (ra_cons re_bl (ra_cons (re_call (d_law_value T) (hr.mono (by omega)) rfl (ra_cons (re_v 0) ra_nil)) (ra_cons (re_call (d_law_name T) (hr.mono (by omega)) rfl (ra_cons (re_v 0) (ra_cons (re_lst ra_nil) ra_nil))) (ra_cons (re_tup ra_nil) ra_nil))))))) (re_v 2) (fun _ _ => rfl))))))
theorem d_law_classes (T : Txt K mg cm) : DefM P w K mg base cm 1 "_law_classes" m_law_classes :=
  DefM.of (N := ["error", "found"]) (ps := ["error"]) (k := 0) T.f_law_classes sc_law_classes fun f cdv A outer s H E hr =>
    (by refine rss_cons ?_ ?_; exact (by refine rs_set 1 ?_ ?_ ?_ ?_ ?_ ?_; exact sc_law_classes.nd; exact rfl; exact (by first | exact .inl rfl | exact .inr rfl); exact (re_lst (ra_cons (re_isXo T.is_PushError rfl T.z_isinstance rfl (re_v 0)) (ra_cons (re_isXo T.is_InvalidLayout rfl T.z_isinstance rfl (re_v 0)) (ra_cons (re_isXo T.is_InvalidTape rfl T.z_isinstance rfl (re_v 0)) ra_nil)))); exact rfl; exact (by first | exact .inl rfl | exact .inr rfl)); exact (by refine rss_cons ?_ ?_; exact (by refine rs_set 1 ?_ ?_ ?_ ?_ ?_ ?_; exact sc_law_classes.nd; exact rfl; exact (by first | exact .inl rfl | exact .inr rfl); exact (re_op od_add (re_v 1) (re_lst (ra_cons (re_isXo T.is_InvalidPipeline rfl T.z_isinstance rfl (re_v 0)) (ra_cons (re_isXo T.is_InvalidState rfl T.z_isinstance rfl (re_v 0)) ra_nil)))); exact rfl; exact (by first | exact .inl rfl | exact .inr rfl)); exact (by refine rss_cons ?_ ?_; exact (by refine rs_set 1 ?_ ?_ ?_ ?_ ?_ ?_; exact sc_law_classes.nd; exact rfl; exact (by first | exact .inl rfl | exact .inr rfl); exact (re_op od_add (re_v 1) (re_lst (ra_cons (re_isXo T.is_InvalidBounds rfl T.z_isinstance rfl (re_v 0)) (ra_cons (re_isXo T.is_InvalidStand rfl T.z_isinstance rfl (re_v 0)) ra_nil)))); exact rfl; exact (by first | exact .inl rfl | exact .inr rfl)); exact (by refine rss_cons ?_ ?_; exact (by refine rs_set 1 ?_ ?_ ?_ ?_ ?_ ?_; exact sc_law_classes.nd; exact rfl; exact (by first | exact .inl rfl | exact .inr rfl); exact (re_op od_add (re_v 1) (re_lst (ra_cons (re_isXo T.is_InvalidPaper rfl T.z_isinstance rfl (re_v 0)) (ra_cons (re_isXo T.is_InvalidChain rfl T.z_isinstance rfl (re_v 0)) ra_nil)))); exact rfl; exact (by first | exact .inl rfl | exact .inr rfl)); exact (by refine rss_cons ?_ ?_; exact (by refine rs_set 1 ?_ ?_ ?_ ?_ ?_ ?_; exact sc_law_classes.nd; exact rfl; exact (by first | exact .inl rfl | exact .inr rfl); exact (re_op od_add (re_v 1) (re_lst (ra_cons (re_isXo T.is_InvalidOperation rfl T.z_isinstance rfl (re_v 0)) ra_nil))); exact rfl; exact (by first | exact .inl rfl | exact .inr rfl)); exact (by refine rss_cons ?_ ?_; exact (by refine rs_set 1 ?_ ?_ ?_ ?_ ?_ ?_; exact sc_law_classes.nd; exact rfl; exact (by first | exact .inl rfl | exact .inr rfl); exact (re_op od_add (re_v 1) (re_lst (ra_cons (re_isXo T.is_ParseError rfl T.z_isinstance rfl (re_v 0)) (ra_cons (re_isXo T.is_UnknownName rfl T.z_isinstance rfl (re_v 0)) (ra_cons (re_isXo T.is_UnknownIndex rfl T.z_isinstance rfl (re_v 0)) ra_nil))))); exact rfl; exact (by first | exact .inl rfl | exact .inr rfl)); exact (rss_one (rs_ret (re_op od_add (re_v 1) (re_lst (ra_cons (re_isXo T.is_NothingToUndo rfl T.z_isinstance rfl (re_v 0)) (ra_cons (re_isXo T.is_TooMany rfl T.z_isinstance rfl (re_v 0)) (ra_cons (re_isXo T.is_InvalidNumber rfl T.z_isinstance rfl (re_v 0)) ra_nil)))))))))))))
theorem d_law_same (T : Txt K mg cm) : ∀ n, DefM P w K mg base cm (0 + n) "_law_same" (m_law_same n)
  | 0 => (DefM.zero T.f_law_same).mono (Nat.zero_le _)
  | n + 1 => DefM.of (N := ["one", "other", "k"]) (ps := ["one", "other"]) (k := 0 + n) T.f_law_same sc_law_same fun f cdv A outer s H E hr => by
    have dn := d_law_same T n
    exact (by refine rss_cons ?_ ?_; exact (rs_if (rt_tru (re_is .tup T.own rfl T.z_isinstance rfl T.z_tuple (by decide +kernel) (re_v 0))) (by refine rss_cons ?_ ?_; exact (rs_if (rt_w (rw_or (rt_not (rt_tru (re_is .tup T.own rfl T.z_isinstance rfl T.z_tuple (by decide +kernel) (re_v 1)))) (rw_or1 (rt_cmp (od_ne (u64 hr)) (re_b cd_len rfl T.z_len (by decide +kernel) (ra_cons (re_v 0) ra_nil)) (re_b cd_len rfl T.z_len (by decide +kernel) (ra_cons (re_v 1) ra_nil)) rfl)))) (rss_one (rs_ret re_bl)) rss_nil); exact (rss_one (rs_ret (re_b (cd_all rfl) rfl T.z_all (by decide +kernel) (ra_cons (re_comp (own := [(("k" : Str), 2)]) rfl sc_law_same.nd (ri_rg1 rfl T.z_range (ra_cons (re_b cd_len rfl T.z_len (by decide +kernel) (ra_cons (re_v 0) ra_nil)) ra_nil)) (blk_of (by kernel_rfl)) (fun _ _ _ _ _ => (rg_n 2 sc_law_same.nd rfl (by first | exact .inl rfl | exact .inr rfl))) (fun _ _ _ _ _ => rts_nil) (fun _ _ _ _ _ => (re_call dn (hr.mono (by omega)) rfl (ra_cons (re_ix (u1 hr) (re_v 0) (re_v 2) (fun _ _ => rfl)) (ra_cons (re_ix (u1 hr) (re_v 1) (re_v 2) (fun _ _ => rfl)) ra_nil))))) ra_nil))))) rss_nil); exact (by refine rss_cons ?_ ?_; exact (rs_if (rt_w (rw_or (rt_cmp od_isN (re_v 0) re_non rfl) (rw_or1 (rt_cmp od_isN (re_v 1) re_non rfl)))) (rss_one (rs_ret (re_and (re_cmp od_isN (re_v 0) re_non rfl) (re_one (re_cmp od_isN (re_v 1) re_non rfl))))) rss_nil); exact (by refine rss_cons ?_ ?_; exact (rs_if (rt_w (rw_or (rt_cmp (od_ne (u64 hr)) (re_is .bl T.own rfl T.z_isinstance rfl T.z_bool (by decide +kernel) (re_v 0)) (re_is .bl T.own rfl T.z_isinstance rfl T.z_bool (by decide +kernel) (re_v 1)) rfl) (rw_or1 (rt_cmp (od_ne (u64 hr)) (re_is .str T.own rfl T.z_isinstance rfl T.z_str (by decide +kernel) (re_v 0)) (re_is .str T.own rfl T.z_isinstance rfl T.z_str (by decide +kernel) (re_v 1)) rfl)))) (rss_one (rs_ret re_bl)) rss_nil); exact (rss_one (rs_ret (re_and (re_not (re_is .tup T.own rfl T.z_isinstance rfl T.z_tuple (by decide +kernel) (re_v 1))) (re_one (re_cmp (od_eq (u64 hr)) (re_v 0) (re_v 1) rfl))))))))
theorem d_law_start (T : Txt K mg cm) : DefM P w K mg base cm 1 "_law_start" m_law_start :=
  DefM.of (N := ["script", "at", "cell", "great", "mixed"]) (ps := ["script", "at"]) (k := 0) T.f_law_start sc_law_start fun f cdv A outer s H E hr =>
    (by refine rss_cons ?_ ?_; exact (by refine rs_set 2 ?_ ?_ ?_ ?_ ?_ ?_; exact sc_law_start.nd; exact rfl; exact (by first | exact .inl rfl | exact .inr rfl); exact (re_if (rt_cmp od_lt (re_v 1) (re_b cd_len rfl T.z_len (by decide +kernel) (ra_cons (re_v 0) ra_nil)) rfl) (re_ix (u1 hr) (re_v 0) (re_v 1) (fun _ _ => rfl)) (re_op od_add (re_op od_mul re_int (re_v 1)) re_int)); exact rfl; exact (by first | exact .inl rfl | exact .inr rfl)); exact (by refine rss_cons ?_ ?_; exact (by refine rs_set 3 ?_ ?_ ?_ ?_ ?_ ?_; exact sc_law_start.nd; exact rfl; exact (by first | exact .inl rfl | exact .inr rfl); exact (re_op od_mod (re_ty cd_int rfl T.z_int (by decide +kernel) (ra_cons (re_b cd_abs rfl T.z_abs (by decide +kernel) (ra_cons (re_v 2) ra_nil)) ra_nil)) (re_op od_pow (re_op od_pow re_int re_int) re_int)); exact rfl; exact (by first | exact .inl rfl | exact .inr rfl)); exact (by refine rss_cons ?_ ?_; exact (by refine rs_set 4 ?_ ?_ ?_ ?_ ?_ ?_; exact sc_law_start.nd; exact rfl; exact (by first | exact .inl rfl | exact .inr rfl); exact (re_op od_add (re_op od_mul (re_op od_mod (re_ty cd_int rfl T.z_int (by decide +kernel) (ra_cons (re_v 3) ra_nil)) re_int) re_int) (re_ty cd_int rfl T.z_int (by decide +kernel) (ra_cons (re_cmp od_lt (re_v 2) re_int rfl) ra_nil))); exact rfl; exact (by first | exact .inl rfl | exact .inr rfl)); exact (rss_one (rs_ret (re_lstN (ra_cons (re_b (cd_max rfl) rfl T.z_max (by decide +kernel) (ra_cons re_int (ra_cons (re_op od_sub (re_v 3) (re_op od_pow re_int re_int)) ra_nil))) (ra_cons (re_op od_mod (re_ty cd_int rfl T.z_int (by decide +kernel) (ra_cons (re_op od_add (re_op od_add (re_op od_mul (re_v 4) re_int) (re_op od_mul re_int (re_v 1))) re_int) ra_nil)) re_int) (ra_cons re_int ra_nil)))))))))
theorem d_law (T : Txt K mg cm) {f : Addr} {fd : FuncData} (b : Fun K "law" "law" s_law f fd) : FnOk P w K mg base (L2.CX P w) 7 f fd ["script"] (spF ⟨K, cm.cls, cm.exc⟩ 1 m_law) :=
  fnm_of (N := ["script", "bag", "word", "given", "errors", "told", "more", "k", "kept", "turn", "j"]) (ps := ["script"]) (k := 6) b sc_law fun f cdv A outer s H E hr =>
    (by refine rss_cons ?_ ?_; exact (by refine rs_set 1 ?_ ?_ ?_ ?_ ?_ ?_; exact sc_law.nd; exact rfl; exact (by first | exact .inl rfl | exact .inr rfl); exact (re_call (d_law_start T) (hr.mono (by omega)) rfl (ra_cons (re_v 0) (ra_cons re_int ra_nil))); exact rfl; exact (by first | exact .inl rfl | exact .inr rfl)); exact (by refine rss_cons ?_ ?_; exact (by refine rs_set 2 ?_ ?_ ?_ ?_ ?_ ?_; exact sc_law.nd; exact rfl; exact (by first | exact .inl rfl | exact .inr rfl); exact (re_call (d_law_name T) (hr.mono (by omega)) rfl (ra_cons (re_v 1) (ra_cons (re_lst ra_nil) ra_nil))); exact rfl; exact (by first | exact .inl rfl | exact .inr rfl)); exact (by refine rss_cons ?_ ?_; exact (by refine rs_set 3 ?_ ?_ ?_ ?_ ?_ ?_; exact sc_law.nd; exact rfl; exact (by first | exact .inl rfl | exact .inr rfl); exact (re_comp (own := [(("turn" : Str), 9)]) rfl sc_law.nd (ri_rg1 rfl T.z_range (ra_cons re_int ra_nil)) (blk_of (by kernel_rfl)) (fun _ _ _ _ _ => (rg_n 9 sc_law.nd rfl (by first | exact .inl rfl | exact .inr rfl))) (fun _ _ _ _ _ => rts_nil) (fun _ _ _ _ _ => (re_call (d_law_any T 3) (hr.mono (by omega)) rfl (ra_cons (re_v 1) (ra_cons re_int ra_nil))))); exact rfl; exact (by first | exact .inl rfl | exact .inr rfl)); exact (by refine rss_cons ?_ ?_; exact (by refine rs_set 4 ?_ ?_ ?_ ?_ ?_ ?_; exact sc_law.nd; exact rfl; exact (by first | exact .inl rfl | exact .inr rfl); exact (by refine re_lst ?_; exact (ra_cons (re_exc1o PySem.F.excBase_ValueError T.mk_PushError rfl (re_v 2)) (ra_cons (re_exc1o PySem.F.excBase_ValueError T.mk_InvalidLayout rfl (re_v 2)) (ra_cons (re_exc1o PySem.F.excBase_ValueError T.mk_InvalidTape rfl (re_v 2)) (ra_cons (re_exc1o PySem.F.excBase_ValueError T.mk_InvalidPipeline rfl (re_v 2)) (ra_cons (re_exc1o PySem.F.excBase_ValueError T.mk_InvalidState rfl (re_v 2)) ra_nil)))))); exact rfl; exact (by first | exact .inl rfl | exact .inr rfl)); exact (by refine rss_cons ?_ ?_; exact (by refine rs_set 4 ?_ ?_ ?_ ?_ ?_ ?_; exact sc_law.nd; exact rfl; exact (by first | exact .inl rfl | exact .inr rfl); exact (re_op od_add (re_v 4) (by refine re_lst ?_; exact (ra_cons (re_exc1o PySem.F.excBase_ValueError T.mk_InvalidBounds rfl (re_v 2)) (ra_cons (re_exc1o PySem.F.excBase_ValueError T.mk_InvalidStand rfl (re_v 2)) (ra_cons (re_exc1o PySem.F.excBase_ValueError T.mk_InvalidPaper rfl (re_v 2)) (ra_cons (re_exc1o PySem.F.excBase_ValueError T.mk_InvalidChain rfl (re_v 2)) ra_nil)))))); exact rfl; exact (by first | exact .inl rfl | exact .inr rfl)); exact (by refine rss_cons ?_ ?_; exact (by refine rs_set 5 ?_ ?_ ?_ ?_ ?_ ?_; exact sc_law.nd; exact rfl; exact (by first | exact .inl rfl | exact .inr rfl); exact (by refine re_lst ?_; exact (ra_cons (re_exc1o PySem.F.excBase_ValueError T.mk_InvalidOperation rfl (re_v 2)) (ra_cons (re_excFo (XB.of PySem.F.excBase_ValueError) (T.mk_ParseError P w base) (hr.mono (by omega)) rfl (re_ix (u1 hr) (re_v 3) re_int (fun _ _ => rfl))) (ra_cons (re_excFo xb_KeyError (T.mk_UnknownName P w base) (hr.mono (by omega)) rfl (re_ix (u1 hr) (re_v 3) re_int (fun _ _ => rfl))) (ra_cons (re_excFo (XB.of PySem.F.excBase_IndexError) (T.mk_UnknownIndex P w base) (hr.mono (by omega)) rfl (re_ix (u1 hr) (re_v 3) re_int (fun _ _ => rfl))) ra_nil))))); exact rfl; exact (by first | exact .inl rfl | exact .inr rfl)); exact (by refine rss_cons ?_ ?_; exact (by refine rs_set 6 ?_ ?_ ?_ ?_ ?_ ?_; exact sc_law.nd; exact rfl; exact (by first | exact .inl rfl | exact .inr rfl); exact (re_lst (ra_cons (re_excFo (XB.of PySem.F.excBase_LookupError) (T.mk_NothingToUndo P w base) (hr.mono (by omega)) rfl (re_ix (u1 hr) (re_v 3) re_int (fun _ _ => rfl))) (ra_cons (re_excFo (XB.of PySem.F.excBase_OverflowError) (T.mk_TooMany P w base) (hr.mono (by omega)) rfl (re_ix (u1 hr) (re_v 3) re_int (fun _ _ => rfl))) (ra_cons (re_excFo (XB.of PySem.F.excBase_RuntimeError) (T.mk_InvalidNumber P w base) (hr.mono (by omega)) rfl (re_ix (u1 hr) (re_v 3) re_int (fun _ _ => rfl))) ra_nil)))); exact rfl; exact (by first | exact .inl rfl | exact .inr rfl)); exact (by refine rss_cons ?_ ?_; exact (by refine rs_set 4 ?_ ?_ ?_ ?_ ?_ ?_; exact sc_law.nd; exact rfl; exact (by first | exact .inl rfl | exact .inr rfl); exact (re_op od_add (re_op od_add (re_v 4) (re_v 5)) (re_v 6)); exact rfl; exact (by first | exact .inl rfl | exact .inr rfl)); exact (by refine rss_cons ?_ ?_; exact (rs_for (passes_of rfl) rfl (ri_rg1 rfl T.z_range (ra_cons (re_b cd_len rfl T.z_len (by decide +kernel) (ra_cons (re_v 4) ra_nil)) ra_nil)) (rg_n 7 sc_law.nd rfl (by first | exact .inl rfl | exact .inr rfl)) (by refine rss_cons ?_ ?_; exact (rs_if (rt_cmp (od_ne (u64 hr)) (re_call (d_law_classes T) (hr.mono (by omega)) rfl (ra_cons (re_ix (u1 hr) (re_v 4) (re_v 7) (fun _ _ => rfl)) ra_nil)) (re_comp (own := [(("j" : Str), 10)]) rfl sc_law.nd (ri_rg1 rfl T.z_range (ra_cons (re_b cd_len rfl T.z_len (by decide +kernel) (ra_cons (re_v 4) ra_nil)) ra_nil)) (blk_of (by kernel_rfl)) (fun _ _ _ _ _ => (rg_n 10 sc_law.nd rfl (by first | exact .inl rfl | exact .inr rfl))) (fun _ _ _ _ _ => rts_nil) (fun _ _ _ _ _ => (re_or (re_cmp (od_eq (u64 hr)) (re_v 10) (re_v 7) rfl) (re_one (re_and (re_cmp (od_eq (u64 hr)) (re_v 10) re_int rfl) (re_one (re_cmp od_lt (re_v 7) re_int rfl))))))) rfl) (rss_one (rs_ret re_bl)) rss_nil); exact (rss_one (rs_if (rt_cmp (od_ne (u64 hr)) (re_isXb (T := "ValueError") T.isb_ValueError rfl T.z_isinstance rfl T.z_ValueError (by decide +kernel) (re_ix (u1 hr) (re_v 4) (re_v 7) (fun _ _ => rfl))) (re_cmp od_lt (re_v 7) re_int rfl) rfl) (rss_one (rs_ret re_bl)) rss_nil)))); exact (by refine rss_cons ?_ ?_; exact (rs_if (rt_w (rw_or (rt_not (rt_tru (re_isXb (T := "KeyError") T.isb_KeyError rfl T.z_isinstance rfl T.z_KeyError (by decide +kernel) (re_ix (u1 hr) (re_v 5) re_int (fun _ _ => rfl))))) (rw_or1 (rt_not (rt_tru (re_isXb (T := "IndexError") T.isb_IndexError rfl T.z_isinstance rfl T.z_IndexError (by decide +kernel) (re_ix (u1 hr) (re_v 5) re_int (fun _ _ => rfl)))))))) (rss_one (rs_ret re_bl)) rss_nil); exact (by refine rss_cons ?_ ?_; exact (rs_if (rt_w (rw_or (rt_not (rt_tru (re_isXb (T := "LookupError") T.isb_LookupError rfl T.z_isinstance rfl T.z_LookupError (by decide +kernel) (re_ix (u1 hr) (re_v 6) re_int (fun _ _ => rfl))))) (rw_or1 (rt_not (rt_tru (re_isXb (T := "OverflowError") T.isb_OverflowError rfl T.z_isinstance rfl T.z_OverflowError (by decide +kernel) (re_ix (u1 hr) (re_v 6) re_int (fun _ _ => rfl)))))))) (rss_one (rs_ret re_bl)) rss_nil); exact (by refine rss_cons ?_ ?_; exact (rs_if (rt_w (rw_or (rt_not (rt_tru (re_isXb (T := "RuntimeError") T.isb_RuntimeError rfl T.z_isinstance rfl T.z_RuntimeError (by decide +kernel) (re_ix (u1 hr) (re_v 6) re_int (fun _ _ => rfl))))) (rw_or (rt_tru (re_isXb (T := "KeyError") T.isb_KeyError rfl T.z_isinstance rfl T.z_KeyError (by decide +kernel) (re_ix (u1 hr) (re_v 6) re_int (fun _ _ => rfl)))) (rw_or1 (rt_tru (re_isXb (T := "IndexError") T.isb_IndexError rfl T.z_isinstance rfl T.z_IndexError (by decide +kernel) (re_ix (u1 hr) (re_v 6) re_int (fun _ _ => rfl)))))))) (rss_one (rs_ret re_bl)) rss_nil); exact (by refine rss_cons ?_ ?_; exact (by refine rs_set 8 ?_ ?_ ?_ ?_ ?_ ?_; exact sc_law.nd; exact rfl; exact (by first | exact .inl rfl | exact .inr rfl); exact (by refine re_lst ?_; exact (ra_cons (re_xf T.nox_index (re_ix (u1 hr) (re_v 5) re_int (fun _ _ => rfl))) (ra_cons (re_xf T.nox_name (re_ix (u1 hr) (re_v 5) re_int (fun _ _ => rfl))) (ra_cons (re_xf T.nox_index (re_ix (u1 hr) (re_v 5) re_int (fun _ _ => rfl))) (ra_cons (re_xf T.nox_many (re_ix (u1 hr) (re_v 6) re_int (fun _ _ => rfl))) (ra_cons (re_xf T.nox_limit (re_ix (u1 hr) (re_v 6) re_int (fun _ _ => rfl))) (ra_cons (re_xf T.nox_value (re_ix (u1 hr) (re_v 6) re_int (fun _ _ => rfl))) ra_nil))))))); exact rfl; exact (by first | exact .inl rfl | exact .inr rfl)); exact (rss_one (rs_ret (re_b (cd_all rfl) rfl T.z_all (by decide +kernel) (ra_cons (re_comp (own := [(("k" : Str), 7)]) rfl sc_law.nd (ri_rg1 rfl T.z_range (ra_cons re_int ra_nil)) (blk_of (by kernel_rfl)) (fun _ _ _ _ _ => (rg_n 7 sc_law.nd rfl (by first | exact .inl rfl | exact .inr rfl))) (fun _ _ _ _ _ => rts_nil) (fun _ _ _ _ _ => (re_call (d_law_same T 3) (hr.mono (by omega)) rfl (ra_cons (re_ix (u1 hr) (re_v 8) (re_v 7) (fun _ _ => rfl)) (ra_cons (re_ix (u1 hr) (re_v 3) (re_v 7) (fun _ _ => rfl)) ra_nil))))) ra_nil)))))))))))))))))
end
end K00


namespace K00
open PySem PySem.Spec PyProof.Rows L2 Mi
section
variable {P : Program} {w : World} {K : PySem.W.Frag} {mg : Str → Option Value} {base : Heap}
abbrev i_ParseError : Stmt := inClass (top 11) 0
theorem sci_ParseError : FnScope ["self", "index"] ["self", "index"] (defScope i_ParseError) := ⟨rfl, rfl, rfl, by decide +kernel, rfl, by decide +kernel, by decide +kernel⟩
theorem xi_ParseError {fI : Addr} {fd : FuncData} (Fn : Fun K "__init__" "ParseError.__init__" i_ParseError fI fd) {D : Addr} (hm : mg "PushError" = some (.ref D)) (hs : PySem.W.specialIn K (.ref D) "__getattribute__" = some (some (.builtin "type.__getattribute__"))) (hr : PySem.W.readsIn K D (.type "type") = true) (vV : PySem.W.findCls K (.ref D) (.type "type") "__init__" = some (.val (.builtin "ValueError.__init__"))) : FnOk P w K mg base (L2.CX P w) 1 fI fd ["self", "index"] (spXi K [Value.type "ValueError", Value.type "Exception", Value.type "BaseException", Value.type "object"] "ValueError.__new__" "index") := by
  refine Fn.okX sci_ParseError (fun vs H Q E h => by obtain ⟨a, C, v, rfl, _⟩ := h; rfl) fun cdv A outer s H vs Q E hr' h => ?_
  obtain ⟨a, C, v, rfl, T, hno, ha, q⟩ := h
  refine ⟨_, pss_cons (ps_expr (pe_owinit (XB.of PySem.F.excBase_ValueError) rfl hm hs hr (by decide +kernel) vV (pa_cons (pv 0) (pa_cons pe_str pa_nil)))) (pss_one (ps_exf (newId := "ValueError.__new__") PySem.F.store_ValueError (pv 0) (pv 1))), ?_⟩
  exact ⟨_, rfl, a, C, [.str _], rfl, (by show 1 ≤ 1000; decide), T, ha, _, rfl, _, rfl, a, C, rfl, T, hno, ha, fun dx n ne => q dx n ne⟩
abbrev i_UnknownName : Stmt := inClass (top 12) 0
theorem sci_UnknownName : FnScope ["self", "name"] ["self", "name"] (defScope i_UnknownName) := ⟨rfl, rfl, rfl, by decide +kernel, rfl, by decide +kernel, by decide +kernel⟩
theorem xi_UnknownName {fI : Addr} {fd : FuncData} (Fn : Fun K "__init__" "UnknownName.__init__" i_UnknownName fI fd) (hz : mg "KeyError" = none) (vV : PySem.W.findCls K (.type "KeyError") (.type "type") "__init__" = some (.val (.builtin "KeyError.__init__"))) : FnOk P w K mg base (L2.CX P w) 1 fI fd ["self", "name"] (spXi K [Value.type "KeyError", Value.type "LookupError", Value.type "Exception", Value.type "BaseException", Value.type "object"] "LookupError.__new__" "name") := by
  refine Fn.okX sci_UnknownName (fun vs H Q E h => by obtain ⟨a, C, v, rfl, _⟩ := h; rfl) fun cdv A outer s H vs Q E hr' h => ?_
  obtain ⟨a, C, v, rfl, T, hno, ha, q⟩ := h
  refine ⟨_, pss_cons (ps_expr (pe_biinit (B := "KeyError") xb_KeyError rfl hz (by decide +kernel) (by kernel_rfl) (by decide +kernel) (by decide +kernel) vV (pa_cons (pv 0) (pa_cons pe_str pa_nil)))) (pss_one (ps_exf (newId := "LookupError.__new__") PySem.KeyX.store_KeyError (pv 0) (pv 1))), ?_⟩
  exact ⟨_, rfl, a, C, [.str _], rfl, (by show 1 ≤ 1000; decide), T, ha, _, rfl, _, rfl, a, C, rfl, T, hno, ha, fun dx n ne => q dx n ne⟩
abbrev i_UnknownIndex : Stmt := inClass (top 13) 0
theorem sci_UnknownIndex : FnScope ["self", "index"] ["self", "index"] (defScope i_UnknownIndex) := ⟨rfl, rfl, rfl, by decide +kernel, rfl, by decide +kernel, by decide +kernel⟩
theorem xi_UnknownIndex {fI : Addr} {fd : FuncData} (Fn : Fun K "__init__" "UnknownIndex.__init__" i_UnknownIndex fI fd) (hz : mg "IndexError" = none) (vV : PySem.W.findCls K (.type "IndexError") (.type "type") "__init__" = some (.val (.builtin "IndexError.__init__"))) : FnOk P w K mg base (L2.CX P w) 1 fI fd ["self", "index"] (spXi K [Value.type "IndexError", Value.type "LookupError", Value.type "Exception", Value.type "BaseException", Value.type "object"] "IndexError.__new__" "index") := by
  refine Fn.okX sci_UnknownIndex (fun vs H Q E h => by obtain ⟨a, C, v, rfl, _⟩ := h; rfl) fun cdv A outer s H vs Q E hr' h => ?_
  obtain ⟨a, C, v, rfl, T, hno, ha, q⟩ := h
  refine ⟨_, pss_cons (ps_expr (pe_biinit (B := "IndexError") (XB.of PySem.F.excBase_IndexError) rfl hz (by decide +kernel) (by kernel_rfl) (by decide +kernel) (by decide +kernel) vV (pa_cons (pv 0) (pa_cons pe_str pa_nil)))) (pss_one (ps_exf (newId := "IndexError.__new__") PySem.F.store_IndexError (pv 0) (pv 1))), ?_⟩
  exact ⟨_, rfl, a, C, [.str _], rfl, (by show 1 ≤ 1000; decide), T, ha, _, rfl, _, rfl, a, C, rfl, T, hno, ha, fun dx n ne => q dx n ne⟩
abbrev i_NothingToUndo : Stmt := inClass (top 14) 0
theorem sci_NothingToUndo : FnScope ["self", "many"] ["self", "many"] (defScope i_NothingToUndo) := ⟨rfl, rfl, rfl, by decide +kernel, rfl, by decide +kernel, by decide +kernel⟩
theorem xi_NothingToUndo {fI : Addr} {fd : FuncData} (Fn : Fun K "__init__" "NothingToUndo.__init__" i_NothingToUndo fI fd) (hz : mg "LookupError" = none) (vV : PySem.W.findCls K (.type "LookupError") (.type "type") "__init__" = some (.val (.builtin "LookupError.__init__"))) : FnOk P w K mg base (L2.CX P w) 1 fI fd ["self", "many"] (spXi K [Value.type "LookupError", Value.type "Exception", Value.type "BaseException", Value.type "object"] "LookupError.__new__" "many") := by
  refine Fn.okX sci_NothingToUndo (fun vs H Q E h => by obtain ⟨a, C, v, rfl, _⟩ := h; rfl) fun cdv A outer s H vs Q E hr' h => ?_
  obtain ⟨a, C, v, rfl, T, hno, ha, q⟩ := h
  refine ⟨_, pss_cons (ps_expr (pe_biinit (B := "LookupError") (XB.of PySem.F.excBase_LookupError) rfl hz (by decide +kernel) (by kernel_rfl) (by decide +kernel) (by decide +kernel) vV (pa_cons (pv 0) (pa_cons pe_str pa_nil)))) (pss_one (ps_exf (newId := "LookupError.__new__") PySem.F.store_LookupError (pv 0) (pv 1))), ?_⟩
  exact ⟨_, rfl, a, C, [.str _], rfl, (by show 1 ≤ 1000; decide), T, ha, _, rfl, _, rfl, a, C, rfl, T, hno, ha, fun dx n ne => q dx n ne⟩
abbrev i_TooMany : Stmt := inClass (top 15) 0
theorem sci_TooMany : FnScope ["self", "limit"] ["self", "limit"] (defScope i_TooMany) := ⟨rfl, rfl, rfl, by decide +kernel, rfl, by decide +kernel, by decide +kernel⟩
theorem xi_TooMany {fI : Addr} {fd : FuncData} (Fn : Fun K "__init__" "TooMany.__init__" i_TooMany fI fd) (hz : mg "OverflowError" = none) (vV : PySem.W.findCls K (.type "OverflowError") (.type "type") "__init__" = some (.val (.builtin "OverflowError.__init__"))) : FnOk P w K mg base (L2.CX P w) 1 fI fd ["self", "limit"] (spXi K [Value.type "OverflowError", Value.type "ArithmeticError", Value.type "Exception", Value.type "BaseException", Value.type "object"] "OverflowError.__new__" "limit") := by
  refine Fn.okX sci_TooMany (fun vs H Q E h => by obtain ⟨a, C, v, rfl, _⟩ := h; rfl) fun cdv A outer s H vs Q E hr' h => ?_
  obtain ⟨a, C, v, rfl, T, hno, ha, q⟩ := h
  refine ⟨_, pss_cons (ps_expr (pe_biinit (B := "OverflowError") (XB.of PySem.F.excBase_OverflowError) rfl hz (by decide +kernel) (by kernel_rfl) (by decide +kernel) (by decide +kernel) vV (pa_cons (pv 0) (pa_cons pe_str pa_nil)))) (pss_one (ps_exf (newId := "OverflowError.__new__") PySem.F.store_OverflowError (pv 0) (pv 1))), ?_⟩
  exact ⟨_, rfl, a, C, [.str _], rfl, (by show 1 ≤ 1000; decide), T, ha, _, rfl, _, rfl, a, C, rfl, T, hno, ha, fun dx n ne => q dx n ne⟩
abbrev i_InvalidNumber : Stmt := inClass (top 16) 0
theorem sci_InvalidNumber : FnScope ["self", "value"] ["self", "value"] (defScope i_InvalidNumber) := ⟨rfl, rfl, rfl, by decide +kernel, rfl, by decide +kernel, by decide +kernel⟩
theorem xi_InvalidNumber {fI : Addr} {fd : FuncData} (Fn : Fun K "__init__" "InvalidNumber.__init__" i_InvalidNumber fI fd) (hz : mg "RuntimeError" = none) (vV : PySem.W.findCls K (.type "RuntimeError") (.type "type") "__init__" = some (.val (.builtin "RuntimeError.__init__"))) : FnOk P w K mg base (L2.CX P w) 1 fI fd ["self", "value"] (spXi K [Value.type "RuntimeError", Value.type "Exception", Value.type "BaseException", Value.type "object"] "RuntimeError.__new__" "value") := by
  refine Fn.okX sci_InvalidNumber (fun vs H Q E h => by obtain ⟨a, C, v, rfl, _⟩ := h; rfl) fun cdv A outer s H vs Q E hr' h => ?_
  obtain ⟨a, C, v, rfl, T, hno, ha, q⟩ := h
  refine ⟨_, pss_cons (ps_expr (pe_biinit (B := "RuntimeError") (XB.of PySem.F.excBase_RuntimeError) rfl hz (by decide +kernel) (by kernel_rfl) (by decide +kernel) (by decide +kernel) vV (pa_cons (pv 0) (pa_cons pe_str pa_nil)))) (pss_one (ps_exf (newId := "RuntimeError.__new__") PySem.F.store_RuntimeError (pv 0) (pv 1))), ?_⟩
  exact ⟨_, rfl, a, C, [.str _], rfl, (by show 1 ≤ 1000; decide), T, ha, _, rfl, _, rfl, a, C, rfl, T, hno, ha, fun dx n ne => q dx n ne⟩
end
/-! ### the classes, asked in one go -/
def exaB (K : PySem.W.Frag) (C : Addr) : Bool := decide (PySem.W.findIn K (.ref C) "__getattribute__" = some (some (.builtin "BaseException.__getattribute__"))) && (decide (PySem.W.findIn K (.ref C) "__getattr__" = some none) && (decide (PySem.W.subIn K (.ref C) (.type "BaseException") = some true) && (PySem.W.hasDictIn K C &&
  (decide (PySem.W.findIn K (.ref C) "__class__" = some (some (.builtin "object.__class__"))) && (decide (PySem.W.specialIn K (.builtin "object.__class__") "__get__" = some (some (.builtin "getset_descriptor.__get__"))) && (decide (PySem.W.takesIn K (.builtin "object.__class__") = some true) && decide (PySem.W.mroIn K C (.type "object") = some true)))))))
theorem exaB_ok {K : PySem.W.Frag} {C : Addr} (h : exaB K C = true) : ExA K C := by
  simp only [exaB, Bool.and_eq_true, decide_eq_true_eq] at h
  obtain ⟨h1, h2, h3, h4, h5, h6, h7, h8⟩ := h
  exact ⟨h1, h2, h3, h4, h5, h6, h7, h8⟩
def oxB (K : PySem.W.Frag) (C : Addr) (bmB : List Value) (newId : String) : Bool := PySem.W.excInitIn K C bmB newId && (PySem.W.excOver K C bmB && (decide (PySem.W.findIn K (.ref C) "__setattr__" = some (some (.builtin "object.__setattr__"))) && (PySem.W.hasDictIn K C && (decide (PySem.W.subIn K (.ref C) (.type "BaseException") = some true) && (decide (PySem.W.typeIn K (.ref C) = some (.type "type")) && PySem.W.keepIn K (.ref C))))))
theorem oxB_ok {K : PySem.W.Frag} {C : Addr} {bmB : List Value} {newId : String} (h : oxB K C bmB newId = true) : OxC K C bmB newId := by
  simp only [oxB, Bool.and_eq_true, decide_eq_true_eq] at h
  obtain ⟨h1, h2, h3, h4, h5, h6, h7⟩ := h
  exact ⟨h1, h2, h3, h4, h5, h6, h7⟩
def rowB (K : PySem.W.Frag) (tab : List (Str × Addr)) (p : Str × Addr) : Bool := exaB K p.2 && (tab.all (fun q => decide (PySem.W.kitOne K (.ref p.2) (.ref q.2) = some (isSub q.1 p.1))) &&
  ((["ValueError", "KeyError", "IndexError", "LookupError", "OverflowError", "RuntimeError"] : List String).all (fun T => decide (PySem.W.kitOne K (.ref p.2) (.type T) = some (isSub (Str.ofString T) p.1))) &&
   (["index", "name", "many", "limit", "value"] : List Str).all fun f => decide (PySem.W.findIn K (.ref p.2) f = some none)))
def tabB (K : PySem.W.Frag) (tab : List (Str × Addr)) : Bool := tab.all (rowB K tab)
abbrev cmOf (tab : List (Str × Addr)) : Cm := ⟨fun _ => none, fun c => tab.lookup c⟩
section
variable {K : PySem.W.Frag} {tab : List (Str × Addr)} {mg : Str → Option Value}
theorem row_of (h : tabB K tab = true) {c : Str} {D : Addr} (e : (cmOf tab).exc c = some D) : rowB K tab (c, D) = true := List.all_eq_true.mp h _ (PySem.mem_of_lookup e)
theorem is_of (h : tabB K tab = true) {x : Str} {C : Addr} (hx : (x, C) ∈ tab) (hm : mg x = some (.ref C)) : IsXo K mg (cmOf tab) x (isSub x) := ⟨C, hm, fun c D e => by
  have r := row_of h e
  simp only [rowB, Bool.and_eq_true] at r
  exact ⟨exaB_ok r.1, of_decide_eq_true (List.all_eq_true.mp r.2.1 _ hx)⟩⟩
theorem isb_of (h : tabB K tab = true) {T : String} (hT : T ∈ (["ValueError", "KeyError", "IndexError", "LookupError", "OverflowError", "RuntimeError"] : List String)) : IsXb K (cmOf tab) T (isSub (Str.ofString T)) := fun c D e => by
  have r := row_of h e
  simp only [rowB, Bool.and_eq_true] at r
  exact ⟨exaB_ok r.1, of_decide_eq_true (List.all_eq_true.mp r.2.2.1 _ hT)⟩
theorem nox_of (h : tabB K tab = true) {f : Str} (hf : f ∈ (["index", "name", "many", "limit", "value"] : List Str)) : NoX K (cmOf tab) f := fun c D e => by
  have r := row_of h e
  simp only [rowB, Bool.and_eq_true] at r
  exact ⟨exaB_ok r.1, of_decide_eq_true (List.all_eq_true.mp r.2.2.2 _ hf)⟩
end
def mk1B (K : PySem.W.Frag) (C : Addr) (bmB : List Value) (newId : String) : Bool := PySem.W.keepIn K (.ref C) && PySem.W.excIn K C bmB newId
/-- law's promise -/
def spL (K : PySem.W.Frag) : Sp := fun vs H Q _ => ∃ (a : Addr) (ns : List Int), vs = [.ref a] ∧ SqS K H a (ns.map V.int) ∧ (∀ b, H b ≠ none → True) ∧ ns.length ≤ 63 ∧ ∀ H', Q (.bl true) H'
theorem spL_imp {K : PySem.W.Frag} {cls exc : Str → Option Addr} (vs : List V) (H : Hp) (Q : VK) (E : XK) (h : spL K vs H Q E) : spF ⟨K, cls, exc⟩ 1 m_law vs H Q E := by
  obtain ⟨a, ns, rfl, hS, _, hl, q⟩ := h
  obtain ⟨S', e⟩ := law_ok ns hl
  refine ⟨rfl, ⟨fun _ => 0, fun _ => False⟩, [], [.scr ns], ⟨fun n o z => by simp at z, fun n k o u z => by simp at z, fun _ z => z.elim, fun _ z => z.elim⟩, Reps.cons (by simp only [Rep]; exact ⟨a, rfl, hS⟩) Reps.nil, ?_⟩
  rw [e]
  intro v m' H' A R r
  simp only [Rep] at r
  rw [r]
  exact q H'
theorem all_mk {l : PySem.W.OpenLaw} {w : World} {K : PySem.W.Frag} {h : Heap} {mg : Str → Option Value} {fa : Addr} (X : K.In h) (G : h.Ns mainGlobals mg) (hfa : mg "law" = some (.ref fa))
    {C_PushError : Addr}
    {C_InvalidLayout : Addr}
    {C_InvalidTape : Addr}
    {C_InvalidPipeline : Addr}
    {C_InvalidState : Addr}
    {C_InvalidBounds : Addr}
    {C_InvalidStand : Addr}
    {C_InvalidPaper : Addr}
    {C_InvalidChain : Addr}
    {C_InvalidOperation : Addr}
    {C_ParseError : Addr}
    {C_UnknownName : Addr}
    {C_UnknownIndex : Addr}
    {C_NothingToUndo : Addr}
    {C_TooMany : Addr}
    {C_InvalidNumber : Addr}
    {f_law_throw : Addr} {od_law_throw an_law_throw : Option Addr} {sl_law_throw : Array (Option Value)} {oc_law_throw kV_law_throw dc_law_throw pm_law_throw cd_law_throw ct_law_throw : Value}
    {f_law_pick : Addr} {od_law_pick an_law_pick : Option Addr} {sl_law_pick : Array (Option Value)} {oc_law_pick kV_law_pick dc_law_pick pm_law_pick cd_law_pick ct_law_pick : Value}
    {f_law_words : Addr} {od_law_words an_law_words : Option Addr} {sl_law_words : Array (Option Value)} {oc_law_words kV_law_words dc_law_words pm_law_words cd_law_words ct_law_words : Value}
    {f_law_name : Addr} {od_law_name an_law_name : Option Addr} {sl_law_name : Array (Option Value)} {oc_law_name kV_law_name dc_law_name pm_law_name cd_law_name ct_law_name : Value}
    {f_law_value : Addr} {od_law_value an_law_value : Option Addr} {sl_law_value : Array (Option Value)} {oc_law_value kV_law_value dc_law_value pm_law_value cd_law_value ct_law_value : Value}
    {f_law_any : Addr} {od_law_any an_law_any : Option Addr} {sl_law_any : Array (Option Value)} {oc_law_any kV_law_any dc_law_any pm_law_any cd_law_any ct_law_any : Value}
    {f_law_classes : Addr} {od_law_classes an_law_classes : Option Addr} {sl_law_classes : Array (Option Value)} {oc_law_classes kV_law_classes dc_law_classes pm_law_classes cd_law_classes ct_law_classes : Value}
    {f_law_same : Addr} {od_law_same an_law_same : Option Addr} {sl_law_same : Array (Option Value)} {oc_law_same kV_law_same dc_law_same pm_law_same cd_law_same ct_law_same : Value}
    {f_law_start : Addr} {od_law_start an_law_start : Option Addr} {sl_law_start : Array (Option Value)} {oc_law_start kV_law_start dc_law_start pm_law_start cd_law_start ct_law_start : Value}
    {f_law : Addr} {od_law an_law : Option Addr} {sl_law : Array (Option Value)} {oc_law kV_law dc_law pm_law cd_law ct_law : Value}
    {f_iParseError : Addr} {od_iParseError an_iParseError : Option Addr} {sl_iParseError : Array (Option Value)} {oc_iParseError kV_iParseError dc_iParseError pm_iParseError cd_iParseError ct_iParseError : Value}
    {f_iUnknownName : Addr} {od_iUnknownName an_iUnknownName : Option Addr} {sl_iUnknownName : Array (Option Value)} {oc_iUnknownName kV_iUnknownName dc_iUnknownName pm_iUnknownName cd_iUnknownName ct_iUnknownName : Value}
    {f_iUnknownIndex : Addr} {od_iUnknownIndex an_iUnknownIndex : Option Addr} {sl_iUnknownIndex : Array (Option Value)} {oc_iUnknownIndex kV_iUnknownIndex dc_iUnknownIndex pm_iUnknownIndex cd_iUnknownIndex ct_iUnknownIndex : Value}
    {f_iNothingToUndo : Addr} {od_iNothingToUndo an_iNothingToUndo : Option Addr} {sl_iNothingToUndo : Array (Option Value)} {oc_iNothingToUndo kV_iNothingToUndo dc_iNothingToUndo pm_iNothingToUndo cd_iNothingToUndo ct_iNothingToUndo : Value}
    {f_iTooMany : Addr} {od_iTooMany an_iTooMany : Option Addr} {sl_iTooMany : Array (Option Value)} {oc_iTooMany kV_iTooMany dc_iTooMany pm_iTooMany cd_iTooMany ct_iTooMany : Value}
    {f_iInvalidNumber : Addr} {od_iInvalidNumber an_iInvalidNumber : Option Addr} {sl_iInvalidNumber : Array (Option Value)} {oc_iInvalidNumber kV_iInvalidNumber dc_iInvalidNumber pm_iInvalidNumber cd_iInvalidNumber ct_iInvalidNumber : Value}
    (n_PushError : PySem.W.nsIn K mainGlobals "PushError" = some (some (.ref C_PushError)))
    (n_InvalidLayout : PySem.W.nsIn K mainGlobals "InvalidLayout" = some (some (.ref C_InvalidLayout)))
    (n_InvalidTape : PySem.W.nsIn K mainGlobals "InvalidTape" = some (some (.ref C_InvalidTape)))
    (n_InvalidPipeline : PySem.W.nsIn K mainGlobals "InvalidPipeline" = some (some (.ref C_InvalidPipeline)))
    (n_InvalidState : PySem.W.nsIn K mainGlobals "InvalidState" = some (some (.ref C_InvalidState)))
    (n_InvalidBounds : PySem.W.nsIn K mainGlobals "InvalidBounds" = some (some (.ref C_InvalidBounds)))
    (n_InvalidStand : PySem.W.nsIn K mainGlobals "InvalidStand" = some (some (.ref C_InvalidStand)))
    (n_InvalidPaper : PySem.W.nsIn K mainGlobals "InvalidPaper" = some (some (.ref C_InvalidPaper)))
    (n_InvalidChain : PySem.W.nsIn K mainGlobals "InvalidChain" = some (some (.ref C_InvalidChain)))
    (n_InvalidOperation : PySem.W.nsIn K mainGlobals "InvalidOperation" = some (some (.ref C_InvalidOperation)))
    (n_ParseError : PySem.W.nsIn K mainGlobals "ParseError" = some (some (.ref C_ParseError)))
    (n_UnknownName : PySem.W.nsIn K mainGlobals "UnknownName" = some (some (.ref C_UnknownName)))
    (n_UnknownIndex : PySem.W.nsIn K mainGlobals "UnknownIndex" = some (some (.ref C_UnknownIndex)))
    (n_NothingToUndo : PySem.W.nsIn K mainGlobals "NothingToUndo" = some (some (.ref C_NothingToUndo)))
    (n_TooMany : PySem.W.nsIn K mainGlobals "TooMany" = some (some (.ref C_TooMany)))
    (n_InvalidNumber : PySem.W.nsIn K mainGlobals "InvalidNumber" = some (some (.ref C_InvalidNumber)))
    (a_law_throw : PySem.W.nsIn K mainGlobals "_law_throw" = some (some (.ref f_law_throw)))
    (l_law_throw : K.lookup f_law_throw = some ⟨oc_law_throw, od_law_throw, .func (PySem.W.fnOf "_law_throw" "_law_throw" (defArgs s_law_throw) (defBody s_law_throw) (defScope s_law_throw) .none kV_law_throw dc_law_throw pm_law_throw an_law_throw cd_law_throw ct_law_throw), sl_law_throw⟩)
    (c_law_throw : PySem.W.codeIn K cd_law_throw "_law_throw" = true) (k_law_throw : PySem.W.keepIn K (.ref f_law_throw) = true)
    (a_law_pick : PySem.W.nsIn K mainGlobals "_law_pick" = some (some (.ref f_law_pick)))
    (l_law_pick : K.lookup f_law_pick = some ⟨oc_law_pick, od_law_pick, .func (PySem.W.fnOf "_law_pick" "_law_pick" (defArgs s_law_pick) (defBody s_law_pick) (defScope s_law_pick) .none kV_law_pick dc_law_pick pm_law_pick an_law_pick cd_law_pick ct_law_pick), sl_law_pick⟩)
    (c_law_pick : PySem.W.codeIn K cd_law_pick "_law_pick" = true) (k_law_pick : PySem.W.keepIn K (.ref f_law_pick) = true)
    (a_law_words : PySem.W.nsIn K mainGlobals "_law_words" = some (some (.ref f_law_words)))
    (l_law_words : K.lookup f_law_words = some ⟨oc_law_words, od_law_words, .func (PySem.W.fnOf "_law_words" "_law_words" (defArgs s_law_words) (defBody s_law_words) (defScope s_law_words) .none kV_law_words dc_law_words pm_law_words an_law_words cd_law_words ct_law_words), sl_law_words⟩)
    (c_law_words : PySem.W.codeIn K cd_law_words "_law_words" = true) (k_law_words : PySem.W.keepIn K (.ref f_law_words) = true)
    (a_law_name : PySem.W.nsIn K mainGlobals "_law_name" = some (some (.ref f_law_name)))
    (l_law_name : K.lookup f_law_name = some ⟨oc_law_name, od_law_name, .func (PySem.W.fnOf "_law_name" "_law_name" (defArgs s_law_name) (defBody s_law_name) (defScope s_law_name) .none kV_law_name dc_law_name pm_law_name an_law_name cd_law_name ct_law_name), sl_law_name⟩)
    (c_law_name : PySem.W.codeIn K cd_law_name "_law_name" = true) (k_law_name : PySem.W.keepIn K (.ref f_law_name) = true)
    (a_law_value : PySem.W.nsIn K mainGlobals "_law_value" = some (some (.ref f_law_value)))
    (l_law_value : K.lookup f_law_value = some ⟨oc_law_value, od_law_value, .func (PySem.W.fnOf "_law_value" "_law_value" (defArgs s_law_value) (defBody s_law_value) (defScope s_law_value) .none kV_law_value dc_law_value pm_law_value an_law_value cd_law_value ct_law_value), sl_law_value⟩)
    (c_law_value : PySem.W.codeIn K cd_law_value "_law_value" = true) (k_law_value : PySem.W.keepIn K (.ref f_law_value) = true)
    (a_law_any : PySem.W.nsIn K mainGlobals "_law_any" = some (some (.ref f_law_any)))
    (l_law_any : K.lookup f_law_any = some ⟨oc_law_any, od_law_any, .func (PySem.W.fnOf "_law_any" "_law_any" (defArgs s_law_any) (defBody s_law_any) (defScope s_law_any) .none kV_law_any dc_law_any pm_law_any an_law_any cd_law_any ct_law_any), sl_law_any⟩)
    (c_law_any : PySem.W.codeIn K cd_law_any "_law_any" = true) (k_law_any : PySem.W.keepIn K (.ref f_law_any) = true)
    (a_law_classes : PySem.W.nsIn K mainGlobals "_law_classes" = some (some (.ref f_law_classes)))
    (l_law_classes : K.lookup f_law_classes = some ⟨oc_law_classes, od_law_classes, .func (PySem.W.fnOf "_law_classes" "_law_classes" (defArgs s_law_classes) (defBody s_law_classes) (defScope s_law_classes) .none kV_law_classes dc_law_classes pm_law_classes an_law_classes cd_law_classes ct_law_classes), sl_law_classes⟩)
    (c_law_classes : PySem.W.codeIn K cd_law_classes "_law_classes" = true) (k_law_classes : PySem.W.keepIn K (.ref f_law_classes) = true)
    (a_law_same : PySem.W.nsIn K mainGlobals "_law_same" = some (some (.ref f_law_same)))
    (l_law_same : K.lookup f_law_same = some ⟨oc_law_same, od_law_same, .func (PySem.W.fnOf "_law_same" "_law_same" (defArgs s_law_same) (defBody s_law_same) (defScope s_law_same) .none kV_law_same dc_law_same pm_law_same an_law_same cd_law_same ct_law_same), sl_law_same⟩)
    (c_law_same : PySem.W.codeIn K cd_law_same "_law_same" = true) (k_law_same : PySem.W.keepIn K (.ref f_law_same) = true)
    (a_law_start : PySem.W.nsIn K mainGlobals "_law_start" = some (some (.ref f_law_start)))
    (l_law_start : K.lookup f_law_start = some ⟨oc_law_start, od_law_start, .func (PySem.W.fnOf "_law_start" "_law_start" (defArgs s_law_start) (defBody s_law_start) (defScope s_law_start) .none kV_law_start dc_law_start pm_law_start an_law_start cd_law_start ct_law_start), sl_law_start⟩)
    (c_law_start : PySem.W.codeIn K cd_law_start "_law_start" = true) (k_law_start : PySem.W.keepIn K (.ref f_law_start) = true)
    (a_law : PySem.W.nsIn K mainGlobals "law" = some (some (.ref f_law)))
    (l_law : K.lookup f_law = some ⟨oc_law, od_law, .func (PySem.W.fnOf "law" "law" (defArgs s_law) (defBody s_law) (defScope s_law) .none kV_law dc_law pm_law an_law cd_law ct_law), sl_law⟩)
    (c_law : PySem.W.codeIn K cd_law "law" = true) (k_law : PySem.W.keepIn K (.ref f_law) = true)
    (a_iParseError : PySem.W.findIn K (.ref C_ParseError) "__init__" = some (some (.ref f_iParseError)))
    (l_iParseError : K.lookup f_iParseError = some ⟨oc_iParseError, od_iParseError, .func (PySem.W.fnOf "__init__" "ParseError.__init__" (defArgs i_ParseError) (defBody i_ParseError) (defScope i_ParseError) .none kV_iParseError dc_iParseError pm_iParseError an_iParseError cd_iParseError ct_iParseError), sl_iParseError⟩)
    (c_iParseError : PySem.W.codeIn K cd_iParseError "ParseError.__init__" = true) (k_iParseError : PySem.W.keepIn K (.ref f_iParseError) = true)
    (w_ParseError : PySem.W.isFn K (.ref f_iParseError) = true)
    (a_iUnknownName : PySem.W.findIn K (.ref C_UnknownName) "__init__" = some (some (.ref f_iUnknownName)))
    (l_iUnknownName : K.lookup f_iUnknownName = some ⟨oc_iUnknownName, od_iUnknownName, .func (PySem.W.fnOf "__init__" "UnknownName.__init__" (defArgs i_UnknownName) (defBody i_UnknownName) (defScope i_UnknownName) .none kV_iUnknownName dc_iUnknownName pm_iUnknownName an_iUnknownName cd_iUnknownName ct_iUnknownName), sl_iUnknownName⟩)
    (c_iUnknownName : PySem.W.codeIn K cd_iUnknownName "UnknownName.__init__" = true) (k_iUnknownName : PySem.W.keepIn K (.ref f_iUnknownName) = true)
    (w_UnknownName : PySem.W.isFn K (.ref f_iUnknownName) = true)
    (v_UnknownName : PySem.W.findCls K (.type "KeyError") (.type "type") "__init__" = some (.val (.builtin "KeyError.__init__")))
    (a_iUnknownIndex : PySem.W.findIn K (.ref C_UnknownIndex) "__init__" = some (some (.ref f_iUnknownIndex)))
    (l_iUnknownIndex : K.lookup f_iUnknownIndex = some ⟨oc_iUnknownIndex, od_iUnknownIndex, .func (PySem.W.fnOf "__init__" "UnknownIndex.__init__" (defArgs i_UnknownIndex) (defBody i_UnknownIndex) (defScope i_UnknownIndex) .none kV_iUnknownIndex dc_iUnknownIndex pm_iUnknownIndex an_iUnknownIndex cd_iUnknownIndex ct_iUnknownIndex), sl_iUnknownIndex⟩)
    (c_iUnknownIndex : PySem.W.codeIn K cd_iUnknownIndex "UnknownIndex.__init__" = true) (k_iUnknownIndex : PySem.W.keepIn K (.ref f_iUnknownIndex) = true)
    (w_UnknownIndex : PySem.W.isFn K (.ref f_iUnknownIndex) = true)
    (v_UnknownIndex : PySem.W.findCls K (.type "IndexError") (.type "type") "__init__" = some (.val (.builtin "IndexError.__init__")))
    (a_iNothingToUndo : PySem.W.findIn K (.ref C_NothingToUndo) "__init__" = some (some (.ref f_iNothingToUndo)))
    (l_iNothingToUndo : K.lookup f_iNothingToUndo = some ⟨oc_iNothingToUndo, od_iNothingToUndo, .func (PySem.W.fnOf "__init__" "NothingToUndo.__init__" (defArgs i_NothingToUndo) (defBody i_NothingToUndo) (defScope i_NothingToUndo) .none kV_iNothingToUndo dc_iNothingToUndo pm_iNothingToUndo an_iNothingToUndo cd_iNothingToUndo ct_iNothingToUndo), sl_iNothingToUndo⟩)
    (c_iNothingToUndo : PySem.W.codeIn K cd_iNothingToUndo "NothingToUndo.__init__" = true) (k_iNothingToUndo : PySem.W.keepIn K (.ref f_iNothingToUndo) = true)
    (w_NothingToUndo : PySem.W.isFn K (.ref f_iNothingToUndo) = true)
    (v_NothingToUndo : PySem.W.findCls K (.type "LookupError") (.type "type") "__init__" = some (.val (.builtin "LookupError.__init__")))
    (a_iTooMany : PySem.W.findIn K (.ref C_TooMany) "__init__" = some (some (.ref f_iTooMany)))
    (l_iTooMany : K.lookup f_iTooMany = some ⟨oc_iTooMany, od_iTooMany, .func (PySem.W.fnOf "__init__" "TooMany.__init__" (defArgs i_TooMany) (defBody i_TooMany) (defScope i_TooMany) .none kV_iTooMany dc_iTooMany pm_iTooMany an_iTooMany cd_iTooMany ct_iTooMany), sl_iTooMany⟩)
    (c_iTooMany : PySem.W.codeIn K cd_iTooMany "TooMany.__init__" = true) (k_iTooMany : PySem.W.keepIn K (.ref f_iTooMany) = true)
    (w_TooMany : PySem.W.isFn K (.ref f_iTooMany) = true)
    (v_TooMany : PySem.W.findCls K (.type "OverflowError") (.type "type") "__init__" = some (.val (.builtin "OverflowError.__init__")))
    (a_iInvalidNumber : PySem.W.findIn K (.ref C_InvalidNumber) "__init__" = some (some (.ref f_iInvalidNumber)))
    (l_iInvalidNumber : K.lookup f_iInvalidNumber = some ⟨oc_iInvalidNumber, od_iInvalidNumber, .func (PySem.W.fnOf "__init__" "InvalidNumber.__init__" (defArgs i_InvalidNumber) (defBody i_InvalidNumber) (defScope i_InvalidNumber) .none kV_iInvalidNumber dc_iInvalidNumber pm_iInvalidNumber an_iInvalidNumber cd_iInvalidNumber ct_iInvalidNumber), sl_iInvalidNumber⟩)
    (c_iInvalidNumber : PySem.W.codeIn K cd_iInvalidNumber "InvalidNumber.__init__" = true) (k_iInvalidNumber : PySem.W.keepIn K (.ref f_iInvalidNumber) = true)
    (w_InvalidNumber : PySem.W.isFn K (.ref f_iInvalidNumber) = true)
    (v_InvalidNumber : PySem.W.findCls K (.type "RuntimeError") (.type "type") "__init__" = some (.val (.builtin "RuntimeError.__init__")))
    (hs : PySem.W.specialIn K (.ref C_PushError) "__getattribute__" = some (some (.builtin "type.__getattribute__"))) (hr : PySem.W.readsIn K C_PushError (.type "type") = true) (v_ParseError : PySem.W.findCls K (.ref C_PushError) (.type "type") "__init__" = some (.val (.builtin "ValueError.__init__")))
    (z_IndexError : PySem.W.nsIn K mainGlobals "IndexError" = some none)
    (z_KeyError : PySem.W.nsIn K mainGlobals "KeyError" = some none)
    (z_LookupError : PySem.W.nsIn K mainGlobals "LookupError" = some none)
    (z_OverflowError : PySem.W.nsIn K mainGlobals "OverflowError" = some none)
    (z_RuntimeError : PySem.W.nsIn K mainGlobals "RuntimeError" = some none)
    (z_ValueError : PySem.W.nsIn K mainGlobals "ValueError" = some none)
    (z_abs : PySem.W.nsIn K mainGlobals "abs" = some none)
    (z_all : PySem.W.nsIn K mainGlobals "all" = some none)
    (z_bool : PySem.W.nsIn K mainGlobals "bool" = some none)
    (z_int : PySem.W.nsIn K mainGlobals "int" = some none)
    (z_isinstance : PySem.W.nsIn K mainGlobals "isinstance" = some none)
    (z_len : PySem.W.nsIn K mainGlobals "len" = some none)
    (z_max : PySem.W.nsIn K mainGlobals "max" = some none)
    (z_range : PySem.W.nsIn K mainGlobals "range" = some none)
    (z_str : PySem.W.nsIn K mainGlobals "str" = some none)
    (z_tuple : PySem.W.nsIn K mainGlobals "tuple" = some none)
    (ck : tabB K [(("PushError" : Str), C_PushError), (("InvalidLayout" : Str), C_InvalidLayout), (("InvalidTape" : Str), C_InvalidTape), (("InvalidPipeline" : Str), C_InvalidPipeline), (("InvalidState" : Str), C_InvalidState), (("InvalidBounds" : Str), C_InvalidBounds), (("InvalidStand" : Str), C_InvalidStand), (("InvalidPaper" : Str), C_InvalidPaper), (("InvalidChain" : Str), C_InvalidChain), (("InvalidOperation" : Str), C_InvalidOperation), (("ParseError" : Str), C_ParseError), (("UnknownName" : Str), C_UnknownName), (("UnknownIndex" : Str), C_UnknownIndex), (("NothingToUndo" : Str), C_NothingToUndo), (("TooMany" : Str), C_TooMany), (("InvalidNumber" : Str), C_InvalidNumber)] = true)
    (m_PushError : mk1B K C_PushError [Value.type "ValueError", Value.type "Exception", Value.type "BaseException", Value.type "object"] "ValueError.__new__" = true)
    (m_InvalidLayout : mk1B K C_InvalidLayout [Value.type "ValueError", Value.type "Exception", Value.type "BaseException", Value.type "object"] "ValueError.__new__" = true)
    (m_InvalidTape : mk1B K C_InvalidTape [Value.type "ValueError", Value.type "Exception", Value.type "BaseException", Value.type "object"] "ValueError.__new__" = true)
    (m_InvalidPipeline : mk1B K C_InvalidPipeline [Value.type "ValueError", Value.type "Exception", Value.type "BaseException", Value.type "object"] "ValueError.__new__" = true)
    (m_InvalidState : mk1B K C_InvalidState [Value.type "ValueError", Value.type "Exception", Value.type "BaseException", Value.type "object"] "ValueError.__new__" = true)
    (m_InvalidBounds : mk1B K C_InvalidBounds [Value.type "ValueError", Value.type "Exception", Value.type "BaseException", Value.type "object"] "ValueError.__new__" = true)
    (m_InvalidStand : mk1B K C_InvalidStand [Value.type "ValueError", Value.type "Exception", Value.type "BaseException", Value.type "object"] "ValueError.__new__" = true)
    (m_InvalidPaper : mk1B K C_InvalidPaper [Value.type "ValueError", Value.type "Exception", Value.type "BaseException", Value.type "object"] "ValueError.__new__" = true)
    (m_InvalidChain : mk1B K C_InvalidChain [Value.type "ValueError", Value.type "Exception", Value.type "BaseException", Value.type "object"] "ValueError.__new__" = true)
    (m_InvalidOperation : mk1B K C_InvalidOperation [Value.type "ValueError", Value.type "Exception", Value.type "BaseException", Value.type "object"] "ValueError.__new__" = true)
    (m_ParseError : oxB K C_ParseError [Value.type "ValueError", Value.type "Exception", Value.type "BaseException", Value.type "object"] "ValueError.__new__" = true)
    (m_UnknownName : oxB K C_UnknownName [Value.type "KeyError", Value.type "LookupError", Value.type "Exception", Value.type "BaseException", Value.type "object"] "LookupError.__new__" = true)
    (m_UnknownIndex : oxB K C_UnknownIndex [Value.type "IndexError", Value.type "LookupError", Value.type "Exception", Value.type "BaseException", Value.type "object"] "IndexError.__new__" = true)
    (m_NothingToUndo : oxB K C_NothingToUndo [Value.type "LookupError", Value.type "Exception", Value.type "BaseException", Value.type "object"] "LookupError.__new__" = true)
    (m_TooMany : oxB K C_TooMany [Value.type "OverflowError", Value.type "ArithmeticError", Value.type "Exception", Value.type "BaseException", Value.type "object"] "OverflowError.__new__" = true)
    (m_InvalidNumber : oxB K C_InvalidNumber [Value.type "RuntimeError", Value.type "Exception", Value.type "BaseException", Value.type "object"] "RuntimeError.__new__" = true) :
    ∃ fd : FuncData, (∀ (s : Shared) (v : Value), BindsTo s fd ⟨[v], []⟩ [("script", v)]) ∧ ∀ base : Heap, K.In base → base.Ns mainGlobals mg → FnOk l.prog w K mg base (L2.CX l.prog w) 7 fa fd ["script"] (spL K) := by
  have e := hfa.symm.trans (PySem.W.mg_of X G a_law)
  cases e
  have g_PushError := PySem.W.mg_of X G n_PushError
  have g_InvalidLayout := PySem.W.mg_of X G n_InvalidLayout
  have g_InvalidTape := PySem.W.mg_of X G n_InvalidTape
  have g_InvalidPipeline := PySem.W.mg_of X G n_InvalidPipeline
  have g_InvalidState := PySem.W.mg_of X G n_InvalidState
  have g_InvalidBounds := PySem.W.mg_of X G n_InvalidBounds
  have g_InvalidStand := PySem.W.mg_of X G n_InvalidStand
  have g_InvalidPaper := PySem.W.mg_of X G n_InvalidPaper
  have g_InvalidChain := PySem.W.mg_of X G n_InvalidChain
  have g_InvalidOperation := PySem.W.mg_of X G n_InvalidOperation
  have g_ParseError := PySem.W.mg_of X G n_ParseError
  have g_UnknownName := PySem.W.mg_of X G n_UnknownName
  have g_UnknownIndex := PySem.W.mg_of X G n_UnknownIndex
  have g_NothingToUndo := PySem.W.mg_of X G n_NothingToUndo
  have g_TooMany := PySem.W.mg_of X G n_TooMany
  have g_InvalidNumber := PySem.W.mg_of X G n_InvalidNumber
  have F_law_throw := fun_mk (st := s_law_throw) l_law_throw c_law_throw k_law_throw
  have b_law_throw := F_law_throw.binds (ps := ["bag", "total"]) fun _ _ _ _ _ _ us hl => match us, hl with | [_, _], _ => rfl
  have F_law_pick := fun_mk (st := s_law_pick) l_law_pick c_law_pick k_law_pick
  have b_law_pick := F_law_pick.binds (ps := ["bag", "items"]) fun _ _ _ _ _ _ us hl => match us, hl with | [_, _], _ => rfl
  have F_law_words := fun_mk (st := s_law_words) l_law_words c_law_words k_law_words
  have b_law_words := F_law_words.binds (ps := []) fun _ _ _ _ _ _ us hl => match us, hl with | [], _ => rfl
  have F_law_name := fun_mk (st := s_law_name) l_law_name c_law_name k_law_name
  have b_law_name := F_law_name.binds (ps := ["bag", "known"]) fun _ _ _ _ _ _ us hl => match us, hl with | [_, _], _ => rfl
  have F_law_value := fun_mk (st := s_law_value) l_law_value c_law_value k_law_value
  have b_law_value := F_law_value.binds (ps := ["bag"]) fun _ _ _ _ _ _ us hl => match us, hl with | [_], _ => rfl
  have F_law_any := fun_mk (st := s_law_any) l_law_any c_law_any k_law_any
  have b_law_any := F_law_any.binds (ps := ["bag", "depth"]) fun _ _ _ _ _ _ us hl => match us, hl with | [_, _], _ => rfl
  have F_law_classes := fun_mk (st := s_law_classes) l_law_classes c_law_classes k_law_classes
  have b_law_classes := F_law_classes.binds (ps := ["error"]) fun _ _ _ _ _ _ us hl => match us, hl with | [_], _ => rfl
  have F_law_same := fun_mk (st := s_law_same) l_law_same c_law_same k_law_same
  have b_law_same := F_law_same.binds (ps := ["one", "other"]) fun _ _ _ _ _ _ us hl => match us, hl with | [_, _], _ => rfl
  have F_law_start := fun_mk (st := s_law_start) l_law_start c_law_start k_law_start
  have b_law_start := F_law_start.binds (ps := ["script", "at"]) fun _ _ _ _ _ _ us hl => match us, hl with | [_, _], _ => rfl
  have F_law := fun_mk (st := s_law) l_law c_law k_law
  have b_law := F_law.binds (ps := ["script"]) fun _ _ _ _ _ _ us hl => match us, hl with | [_], _ => rfl
  have F_iParseError := fun_mk (st := i_ParseError) l_iParseError c_iParseError k_iParseError
  have b_iParseError := F_iParseError.binds (ps := ["self", "index"]) fun _ _ _ _ _ _ us hl => match us, hl with | [_, _], _ => rfl
  have F_iUnknownName := fun_mk (st := i_UnknownName) l_iUnknownName c_iUnknownName k_iUnknownName
  have b_iUnknownName := F_iUnknownName.binds (ps := ["self", "name"]) fun _ _ _ _ _ _ us hl => match us, hl with | [_, _], _ => rfl
  have F_iUnknownIndex := fun_mk (st := i_UnknownIndex) l_iUnknownIndex c_iUnknownIndex k_iUnknownIndex
  have b_iUnknownIndex := F_iUnknownIndex.binds (ps := ["self", "index"]) fun _ _ _ _ _ _ us hl => match us, hl with | [_, _], _ => rfl
  have F_iNothingToUndo := fun_mk (st := i_NothingToUndo) l_iNothingToUndo c_iNothingToUndo k_iNothingToUndo
  have b_iNothingToUndo := F_iNothingToUndo.binds (ps := ["self", "many"]) fun _ _ _ _ _ _ us hl => match us, hl with | [_, _], _ => rfl
  have F_iTooMany := fun_mk (st := i_TooMany) l_iTooMany c_iTooMany k_iTooMany
  have b_iTooMany := F_iTooMany.binds (ps := ["self", "limit"]) fun _ _ _ _ _ _ us hl => match us, hl with | [_, _], _ => rfl
  have F_iInvalidNumber := fun_mk (st := i_InvalidNumber) l_iInvalidNumber c_iInvalidNumber k_iInvalidNumber
  have b_iInvalidNumber := F_iInvalidNumber.binds (ps := ["self", "value"]) fun _ _ _ _ _ _ us hl => match us, hl with | [_, _], _ => rfl
  have T : Txt K mg (cmOf [(("PushError" : Str), C_PushError), (("InvalidLayout" : Str), C_InvalidLayout), (("InvalidTape" : Str), C_InvalidTape), (("InvalidPipeline" : Str), C_InvalidPipeline), (("InvalidState" : Str), C_InvalidState), (("InvalidBounds" : Str), C_InvalidBounds), (("InvalidStand" : Str), C_InvalidStand), (("InvalidPaper" : Str), C_InvalidPaper), (("InvalidChain" : Str), C_InvalidChain), (("InvalidOperation" : Str), C_InvalidOperation), (("ParseError" : Str), C_ParseError), (("UnknownName" : Str), C_UnknownName), (("UnknownIndex" : Str), C_UnknownIndex), (("NothingToUndo" : Str), C_NothingToUndo), (("TooMany" : Str), C_TooMany), (("InvalidNumber" : Str), C_InvalidNumber)]) := {
    z_IndexError := PySem.W.mg_none_of X G z_IndexError
    z_KeyError := PySem.W.mg_none_of X G z_KeyError
    z_LookupError := PySem.W.mg_none_of X G z_LookupError
    z_OverflowError := PySem.W.mg_none_of X G z_OverflowError
    z_RuntimeError := PySem.W.mg_none_of X G z_RuntimeError
    z_ValueError := PySem.W.mg_none_of X G z_ValueError
    z_abs := PySem.W.mg_none_of X G z_abs
    z_all := PySem.W.mg_none_of X G z_all
    z_bool := PySem.W.mg_none_of X G z_bool
    z_int := PySem.W.mg_none_of X G z_int
    z_isinstance := PySem.W.mg_none_of X G z_isinstance
    z_len := PySem.W.mg_none_of X G z_len
    z_max := PySem.W.mg_none_of X G z_max
    z_range := PySem.W.mg_none_of X G z_range
    z_str := PySem.W.mg_none_of X G z_str
    z_tuple := PySem.W.mg_none_of X G z_tuple
    f_law_throw := ⟨_, _, PySem.W.mg_of X G a_law_throw, F_law_throw, b_law_throw⟩
    f_law_pick := ⟨_, _, PySem.W.mg_of X G a_law_pick, F_law_pick, b_law_pick⟩
    f_law_words := ⟨_, _, PySem.W.mg_of X G a_law_words, F_law_words, b_law_words⟩
    f_law_name := ⟨_, _, PySem.W.mg_of X G a_law_name, F_law_name, b_law_name⟩
    f_law_value := ⟨_, _, PySem.W.mg_of X G a_law_value, F_law_value, b_law_value⟩
    f_law_any := ⟨_, _, PySem.W.mg_of X G a_law_any, F_law_any, b_law_any⟩
    f_law_classes := ⟨_, _, PySem.W.mg_of X G a_law_classes, F_law_classes, b_law_classes⟩
    f_law_same := ⟨_, _, PySem.W.mg_of X G a_law_same, F_law_same, b_law_same⟩
    f_law_start := ⟨_, _, PySem.W.mg_of X G a_law_start, F_law_start, b_law_start⟩
    f_law := ⟨_, _, PySem.W.mg_of X G a_law, F_law, b_law⟩
    own := fun c C e => by cases e
    is_PushError := is_of ck (by simp) g_PushError
    is_InvalidLayout := is_of ck (by simp) g_InvalidLayout
    is_InvalidTape := is_of ck (by simp) g_InvalidTape
    is_InvalidPipeline := is_of ck (by simp) g_InvalidPipeline
    is_InvalidState := is_of ck (by simp) g_InvalidState
    is_InvalidBounds := is_of ck (by simp) g_InvalidBounds
    is_InvalidStand := is_of ck (by simp) g_InvalidStand
    is_InvalidPaper := is_of ck (by simp) g_InvalidPaper
    is_InvalidChain := is_of ck (by simp) g_InvalidChain
    is_InvalidOperation := is_of ck (by simp) g_InvalidOperation
    is_ParseError := is_of ck (by simp) g_ParseError
    is_UnknownName := is_of ck (by simp) g_UnknownName
    is_UnknownIndex := is_of ck (by simp) g_UnknownIndex
    is_NothingToUndo := is_of ck (by simp) g_NothingToUndo
    is_TooMany := is_of ck (by simp) g_TooMany
    is_InvalidNumber := is_of ck (by simp) g_InvalidNumber
    isb_ValueError := isb_of ck (by decide)
    isb_KeyError := isb_of ck (by decide)
    isb_IndexError := isb_of ck (by decide)
    isb_LookupError := isb_of ck (by decide)
    isb_OverflowError := isb_of ck (by decide)
    isb_RuntimeError := isb_of ck (by decide)
    nox_index := nox_of ck (by simp)
    nox_name := nox_of ck (by simp)
    nox_many := nox_of ck (by simp)
    nox_limit := nox_of ck (by simp)
    nox_value := nox_of ck (by simp)
    mk_PushError := ⟨C_PushError, rfl, g_PushError, (Bool.and_eq_true_iff.mp m_PushError).1, (Bool.and_eq_true_iff.mp m_PushError).2⟩
    mk_InvalidLayout := ⟨C_InvalidLayout, rfl, g_InvalidLayout, (Bool.and_eq_true_iff.mp m_InvalidLayout).1, (Bool.and_eq_true_iff.mp m_InvalidLayout).2⟩
    mk_InvalidTape := ⟨C_InvalidTape, rfl, g_InvalidTape, (Bool.and_eq_true_iff.mp m_InvalidTape).1, (Bool.and_eq_true_iff.mp m_InvalidTape).2⟩
    mk_InvalidPipeline := ⟨C_InvalidPipeline, rfl, g_InvalidPipeline, (Bool.and_eq_true_iff.mp m_InvalidPipeline).1, (Bool.and_eq_true_iff.mp m_InvalidPipeline).2⟩
    mk_InvalidState := ⟨C_InvalidState, rfl, g_InvalidState, (Bool.and_eq_true_iff.mp m_InvalidState).1, (Bool.and_eq_true_iff.mp m_InvalidState).2⟩
    mk_InvalidBounds := ⟨C_InvalidBounds, rfl, g_InvalidBounds, (Bool.and_eq_true_iff.mp m_InvalidBounds).1, (Bool.and_eq_true_iff.mp m_InvalidBounds).2⟩
    mk_InvalidStand := ⟨C_InvalidStand, rfl, g_InvalidStand, (Bool.and_eq_true_iff.mp m_InvalidStand).1, (Bool.and_eq_true_iff.mp m_InvalidStand).2⟩
    mk_InvalidPaper := ⟨C_InvalidPaper, rfl, g_InvalidPaper, (Bool.and_eq_true_iff.mp m_InvalidPaper).1, (Bool.and_eq_true_iff.mp m_InvalidPaper).2⟩
    mk_InvalidChain := ⟨C_InvalidChain, rfl, g_InvalidChain, (Bool.and_eq_true_iff.mp m_InvalidChain).1, (Bool.and_eq_true_iff.mp m_InvalidChain).2⟩
    mk_InvalidOperation := ⟨C_InvalidOperation, rfl, g_InvalidOperation, (Bool.and_eq_true_iff.mp m_InvalidOperation).1, (Bool.and_eq_true_iff.mp m_InvalidOperation).2⟩
    mk_ParseError := fun P w base => ⟨C_ParseError, f_iParseError, _, _, oxB_ok m_ParseError, a_iParseError, w_ParseError, (nox_of ck (f := "index") (by simp) "ParseError" C_ParseError rfl).2, xi_ParseError F_iParseError g_PushError hs hr v_ParseError, b_iParseError, rfl, g_ParseError⟩
    mk_UnknownName := fun P w base => ⟨C_UnknownName, f_iUnknownName, _, _, oxB_ok m_UnknownName, a_iUnknownName, w_UnknownName, (nox_of ck (f := "name") (by simp) "UnknownName" C_UnknownName rfl).2, xi_UnknownName F_iUnknownName (PySem.W.mg_none_of X G z_KeyError) v_UnknownName, b_iUnknownName, rfl, g_UnknownName⟩
    mk_UnknownIndex := fun P w base => ⟨C_UnknownIndex, f_iUnknownIndex, _, _, oxB_ok m_UnknownIndex, a_iUnknownIndex, w_UnknownIndex, (nox_of ck (f := "index") (by simp) "UnknownIndex" C_UnknownIndex rfl).2, xi_UnknownIndex F_iUnknownIndex (PySem.W.mg_none_of X G z_IndexError) v_UnknownIndex, b_iUnknownIndex, rfl, g_UnknownIndex⟩
    mk_NothingToUndo := fun P w base => ⟨C_NothingToUndo, f_iNothingToUndo, _, _, oxB_ok m_NothingToUndo, a_iNothingToUndo, w_NothingToUndo, (nox_of ck (f := "many") (by simp) "NothingToUndo" C_NothingToUndo rfl).2, xi_NothingToUndo F_iNothingToUndo (PySem.W.mg_none_of X G z_LookupError) v_NothingToUndo, b_iNothingToUndo, rfl, g_NothingToUndo⟩
    mk_TooMany := fun P w base => ⟨C_TooMany, f_iTooMany, _, _, oxB_ok m_TooMany, a_iTooMany, w_TooMany, (nox_of ck (f := "limit") (by simp) "TooMany" C_TooMany rfl).2, xi_TooMany F_iTooMany (PySem.W.mg_none_of X G z_OverflowError) v_TooMany, b_iTooMany, rfl, g_TooMany⟩
    mk_InvalidNumber := fun P w base => ⟨C_InvalidNumber, f_iInvalidNumber, _, _, oxB_ok m_InvalidNumber, a_iInvalidNumber, w_InvalidNumber, (nox_of ck (f := "value") (by simp) "InvalidNumber" C_InvalidNumber rfl).2, xi_InvalidNumber F_iInvalidNumber (PySem.W.mg_none_of X G z_RuntimeError) v_InvalidNumber, b_iInvalidNumber, rfl, g_InvalidNumber⟩ }
  exact ⟨PySem.W.fnOf "law" "law" (defArgs s_law) (defBody s_law) (defScope s_law) .none kV_law dc_law pm_law an_law cd_law ct_law, fun s v => .of_eq rfl, fun base _ _ => (d_law T F_law).imp spL_imp⟩
theorem walk {l : PySem.W.OpenLaw} {q : Program} {loose : List Str} {XP : (Str → Option Value) → Heap → Prop} {YP : World → Heap → Prop} {d : DefRec} {K : Params → PySem.W.Frag} (hn : l.most = some 63) (hdf : d.params.defaults = [])
    (hY : ∀ (w : World) (h : Heap), YP w h → (K w.params).In h)
    (F : ∀ (w : World) (mg : Str → Option Value) (fa : Addr) (h : Heap), (K w.params).In h → h.Ns mainGlobals mg → mg d.name = some (.ref fa) →
      ∃ fd : FuncData, (∀ (s : Shared) (u : Value), BindsTo s fd ⟨[u], []⟩ [("script", u)]) ∧ ∀ base : Heap, (K w.params).In base → base.Ns mainGlobals mg → FnOk l.prog w (K w.params) mg base (L2.CX l.prog w) 7 fa fd ["script"] (spL (K w.params))) :
    PySem.W.WalkO q loose XP YP l.row.toRowW d [] (fun f vs => PySem.call f vs) :=
  L2.walk_of (n := 63) (k := 7) (x := "script") (CX := fun w => L2.CX l.prog w) (sp := fun w => spL (K w.params)) hn (by decide) hdf ⟨rfl, by decide, by decide⟩ hY F (fun w H a ns hl hO hS => ⟨a, ns, rfl, (by
    rcases hS with (h | ⟨o, h⟩) | h
    · rcases hO a with z | ⟨o, xs, z⟩
      · rw [z] at h; cases h
      · rw [z] at h; cases h
    · exact .inl ⟨o, h⟩
    · exact .inr h), fun _ _ => trivial, hl, fun _ => rfl⟩) fun w H s e s' z => by
    obtain ⟨_, _, _, _, _, _, _, _, _, _, _, _, z⟩ := z
    exact z
end K00
open PySem PySem.W PyProof.Rows
set_option maxRecDepth 100000 in
set_option maxHeartbeats 0 in
theorem PySem.Challenge.cw_pushalike_k00_errors_holds : PySem.Challenge.rw_pushalike_k00_errors.Holds := by
  w_on; o_law; k_head; (case hw => w_witness2)
  k_fill
  refine K00.walk (l := PySem.Challenge.rw_pushalike_k00_errors) rfl rfl (fun w h Y => PySem.W.kIn_of Y) ?F
  case F =>
    intro w mg fa h KX G hmg
    refine' K00.all_mk KX G hmg ?n_PushError ?n_InvalidLayout ?n_InvalidTape ?n_InvalidPipeline ?n_InvalidState ?n_InvalidBounds ?n_InvalidStand ?n_InvalidPaper ?n_InvalidChain ?n_InvalidOperation ?n_ParseError ?n_UnknownName ?n_UnknownIndex ?n_NothingToUndo ?n_TooMany ?n_InvalidNumber ?a_law_throw ?l_law_throw ?c_law_throw ?k_law_throw ?a_law_pick ?l_law_pick ?c_law_pick ?k_law_pick ?a_law_words ?l_law_words ?c_law_words ?k_law_words ?a_law_name ?l_law_name ?c_law_name ?k_law_name ?a_law_value ?l_law_value ?c_law_value ?k_law_value ?a_law_any ?l_law_any ?c_law_any ?k_law_any ?a_law_classes ?l_law_classes ?c_law_classes ?k_law_classes ?a_law_same ?l_law_same ?c_law_same ?k_law_same ?a_law_start ?l_law_start ?c_law_start ?k_law_start ?a_law ?l_law ?c_law ?k_law ?a_iParseError ?l_iParseError ?c_iParseError ?k_iParseError ?w_ParseError ?a_iUnknownName ?l_iUnknownName ?c_iUnknownName ?k_iUnknownName ?w_UnknownName ?v_UnknownName ?a_iUnknownIndex ?l_iUnknownIndex ?c_iUnknownIndex ?k_iUnknownIndex ?w_UnknownIndex ?v_UnknownIndex ?a_iNothingToUndo ?l_iNothingToUndo ?c_iNothingToUndo ?k_iNothingToUndo ?w_NothingToUndo ?v_NothingToUndo ?a_iTooMany ?l_iTooMany ?c_iTooMany ?k_iTooMany ?w_TooMany ?v_TooMany ?a_iInvalidNumber ?l_iInvalidNumber ?c_iInvalidNumber ?k_iInvalidNumber ?w_InvalidNumber ?v_InvalidNumber ?hs ?hr ?v_ParseError ?z_IndexError ?z_KeyError ?z_LookupError ?z_OverflowError ?z_RuntimeError ?z_ValueError ?z_abs ?z_all ?z_bool ?z_int ?z_isinstance ?z_len ?z_max ?z_range ?z_str ?z_tuple ?ck ?m_PushError ?m_InvalidLayout ?m_InvalidTape ?m_InvalidPipeline ?m_InvalidState ?m_InvalidBounds ?m_InvalidStand ?m_InvalidPaper ?m_InvalidChain ?m_InvalidOperation ?m_ParseError ?m_UnknownName ?m_UnknownIndex ?m_NothingToUndo ?m_TooMany ?m_InvalidNumber
    (case n_PushError => k_is)
    (case n_InvalidLayout => k_is)
    (case n_InvalidTape => k_is)
    (case n_InvalidPipeline => k_is)
    (case n_InvalidState => k_is)
    (case n_InvalidBounds => k_is)
    (case n_InvalidStand => k_is)
    (case n_InvalidPaper => k_is)
    (case n_InvalidChain => k_is)
    (case n_InvalidOperation => k_is)
    (case n_ParseError => k_is)
    (case n_UnknownName => k_is)
    (case n_UnknownIndex => k_is)
    (case n_NothingToUndo => k_is)
    (case n_TooMany => k_is)
    (case n_InvalidNumber => k_is)
    (case a_law_throw => k_is)
    (case l_law_throw => k_is)
    (case c_law_throw => k_is)
    (case k_law_throw => k_is)
    (case a_law_pick => k_is)
    (case l_law_pick => k_is)
    (case c_law_pick => k_is)
    (case k_law_pick => k_is)
    (case a_law_words => k_is)
    (case l_law_words => k_is)
    (case c_law_words => k_is)
    (case k_law_words => k_is)
    (case a_law_name => k_is)
    (case l_law_name => k_is)
    (case c_law_name => k_is)
    (case k_law_name => k_is)
    (case a_law_value => k_is)
    (case l_law_value => k_is)
    (case c_law_value => k_is)
    (case k_law_value => k_is)
    (case a_law_any => k_is)
    (case l_law_any => k_is)
    (case c_law_any => k_is)
    (case k_law_any => k_is)
    (case a_law_classes => k_is)
    (case l_law_classes => k_is)
    (case c_law_classes => k_is)
    (case k_law_classes => k_is)
    (case a_law_same => k_is)
    (case l_law_same => k_is)
    (case c_law_same => k_is)
    (case k_law_same => k_is)
    (case a_law_start => k_is)
    (case l_law_start => k_is)
    (case c_law_start => k_is)
    (case k_law_start => k_is)
    (case a_law => k_is)
    (case l_law => k_is)
    (case c_law => k_is)
    (case k_law => k_is)
    (case a_iParseError => k_is)
    (case l_iParseError => k_is)
    (case c_iParseError => k_is)
    (case k_iParseError => k_is)
    (case w_ParseError => k_is)
    (case a_iUnknownName => k_is)
    (case l_iUnknownName => k_is)
    (case c_iUnknownName => k_is)
    (case k_iUnknownName => k_is)
    (case w_UnknownName => k_is)
    (case v_UnknownName => k_is)
    (case a_iUnknownIndex => k_is)
    (case l_iUnknownIndex => k_is)
    (case c_iUnknownIndex => k_is)
    (case k_iUnknownIndex => k_is)
    (case w_UnknownIndex => k_is)
    (case v_UnknownIndex => k_is)
    (case a_iNothingToUndo => k_is)
    (case l_iNothingToUndo => k_is)
    (case c_iNothingToUndo => k_is)
    (case k_iNothingToUndo => k_is)
    (case w_NothingToUndo => k_is)
    (case v_NothingToUndo => k_is)
    (case a_iTooMany => k_is)
    (case l_iTooMany => k_is)
    (case c_iTooMany => k_is)
    (case k_iTooMany => k_is)
    (case w_TooMany => k_is)
    (case v_TooMany => k_is)
    (case a_iInvalidNumber => k_is)
    (case l_iInvalidNumber => k_is)
    (case c_iInvalidNumber => k_is)
    (case k_iInvalidNumber => k_is)
    (case w_InvalidNumber => k_is)
    (case v_InvalidNumber => k_is)
    (case hs => k_is)
    (case hr => k_is)
    (case v_ParseError => k_is)
    (case z_IndexError => k_is)
    (case z_KeyError => k_is)
    (case z_LookupError => k_is)
    (case z_OverflowError => k_is)
    (case z_RuntimeError => k_is)
    (case z_ValueError => k_is)
    (case z_abs => k_is)
    (case z_all => k_is)
    (case z_bool => k_is)
    (case z_int => k_is)
    (case z_isinstance => k_is)
    (case z_len => k_is)
    (case z_max => k_is)
    (case z_range => k_is)
    (case z_str => k_is)
    (case z_tuple => k_is)
    (case ck => kernel_rfl)
    (case m_PushError => kernel_rfl)
    (case m_InvalidLayout => kernel_rfl)
    (case m_InvalidTape => kernel_rfl)
    (case m_InvalidPipeline => kernel_rfl)
    (case m_InvalidState => kernel_rfl)
    (case m_InvalidBounds => kernel_rfl)
    (case m_InvalidStand => kernel_rfl)
    (case m_InvalidPaper => kernel_rfl)
    (case m_InvalidChain => kernel_rfl)
    (case m_InvalidOperation => kernel_rfl)
    (case m_ParseError => kernel_rfl)
    (case m_UnknownName => kernel_rfl)
    (case m_UnknownIndex => kernel_rfl)
    (case m_NothingToUndo => kernel_rfl)
    (case m_TooMany => kernel_rfl)
    (case m_InvalidNumber => kernel_rfl)
#print axioms PySem.Challenge.cw_pushalike_k00_errors_holds

