import PyProof.Rows.All
import Wide.All
import OpenK.AllK
import Wide.FinOn
import HandS.ForMost
import HandS.Exc
import HandS.ExcOwn
import HandS.WordsExc
import HandS.CallSlots
import HandS.ExcInit
import HandS.ExcValue
import HandS.Records
import HandS.Wide
import HandS.TupAny
import HandS.TupMul
import HandS.IsInst
import HandS.StrMore
import HandS.Style
import HandS.Iter
import HandS.Zip
import HandS.Text
import HandS.More
import PyProof.ListStr
import PyProof.DictTruth
import HandS.Small
import KE.KExcInit
import HandS.ExcIs
import PyProof.ExcClass
import KE.KExcIs
import HandS.ExcField
import HandS.TryOnly
import HandS.TryMany
import KE.KOpsOwn
import HandS.Property
import HandS.MakeKwOnly
import KE.GoesMore
import KE.GoesEnum
import PyProof.InstNe
import KE.KCallOwn
import HandS.FStr
import PyProof.CallStr
import HandS.SetTxt0
import HandS.SetFor
import HandS.Strs
import HandS.Ends
import PyProof.ReprRoads
import HandS.Conv
import HandS.ClsMeth
import KE.SortCalls
import KE.KxText
import HandS.Codes
import HandS.HeadHook2
import PySem.Challenge.RW_pushalike_k25_whole_histories_of_bounds
set_option Elab.async false
set_option linter.all false
set_option maxRecDepth 100000
set_option maxHeartbeats 4000000
/-! Mi0: deep data, the store, what stands for what. -/
namespace Mi
open PySem PySem.Spec PyProof.Rows L2

/-- deep data; ref n: the n-th cell of the store -/
inductive D where
  | non | bl (b : Bool) | int (i : Int) | str (s : Str)
  | tup (l : List D) | lst (l : List D)
  | dct (ks : List Key) (l : List D)
  | ins (c : Str) (ks : List Str) (l : List D)
  | ref (n : Nat)
  | scr (ns : List Int)
  | exc (c : Str) (ks : List Str) (l : List D)
  | cls (c : Str)
/-- a cell -/
inductive Ob where
  | lst (l : List D) | dct (ks : List Key) (l : List D) | ins (c : Str) (ks : List Str) (l : List D)
  /-- a tuple of ints that is known as an object; a dict with such keys, True at each -/
  | tt (l : List Int) | tdt (ks : List (List Int))
abbrev So := List (Option Ob)
structure Cm where
  cls : Str → Option Addr
  exc : Str → Option Addr
structure Ct where
  K : PySem.W.Frag
  cls : Str → Option Addr
  exc : Str → Option Addr
/-- where the cells stand; what is being made and shown to nobody yet -/
structure Am where
  p : Nat → Addr
  hid : Addr → Prop

/-- no live cell stands at a -/
def Off (m : Am) (S : So) (a : Addr) : Prop := ∀ (n : Nat) (o : Ob), S[n]? = some (some o) → m.p n ≠ a
def Free (m : Am) (S : So) (a : Addr) : Prop := Off m S a ∧ ¬ m.hid a

/-- a list that never changes: the script -/
def SqS (K : PySem.W.Frag) (H : Hp) (a : Addr) (xs : List V) : Prop :=
  (∃ o, H a = some (.frz o (.lst xs))) ∨
    ∃ (o : Obj) (its : Array Value) (n : Nat), K.lookup a = some o ∧ o.cls = .type "list" ∧ o.dict = none ∧ o.data = .seq its n ∧ its.size ≤ sizeLine ∧ Vals xs its.toList
theorem SqS.l {K : PySem.W.Frag} {H : Hp} {a : Addr} {xs : List V} (h : SqS K H a xs) : SqL K H a xs := by
  rcases h with ⟨o, h⟩ | h
  · exact .inl (.inr ⟨o, h⟩)
  · exact .inr h
mutual
def Rep (cm : Ct) (m : Am) (S : So) (H : Hp) : D → V → Prop
  | .non, v => v = .non
  | .bl b, v => v = .bl b
  | .int i, v => v = .int i
  | .str s, v => v = .str s
  | .tup l, v => ∃ a vs, v = .ref a ∧ SqT cm.K H a vs ∧ Reps cm m S H l vs
  | .lst l, v => ∃ a vs, v = .ref a ∧ H a = some (.lst vs) ∧ Free m S a ∧ Reps cm m S H l vs
  | .dct ks l, v => ∃ a kvs, v = .ref a ∧ Rd H a (.dK kvs) ∧ Free m S a ∧ kvs.map (·.1) = ks ∧ Reps cm m S H l (kvs.map (·.2))
  | .ins c ks l, v => ∃ a C dx fs, v = .ref a ∧ cm.cls c = some C ∧ H a = some (.ins C dx fs) ∧ Free m S a ∧ fs.map (·.1) = ks ∧ Reps cm m S H l (fs.map (·.2))
  | .ref n, v => n < S.length ∧ v = .ref (m.p n)
  | .scr ns, v => ∃ a, v = .ref a ∧ SqS cm.K H a (ns.map V.int)
  | .cls c, v => ∃ C, v = .ref C ∧ cm.cls c = some C
  | .exc c ks l, v => ∃ a C, v = .ref a ∧ cm.exc c = some C ∧ Free m S a ∧ ((ks = [] ∧ l = [] ∧ H a = some (ExO (.ref C) a)) ∨
      ∃ d fs, H a = some (exo a C (some d)) ∧ H d = some (exd d fs) ∧ Free m S d ∧ fs.map (·.1) = ks ∧ Reps cm m S H l (fs.map (·.2)))
def Reps (cm : Ct) (m : Am) (S : So) (H : Hp) : List D → List V → Prop
  | [], vs => vs = []
  | d :: l, vs => ∃ v r, vs = v :: r ∧ Rep cm m S H d v ∧ Reps cm m S H l r
end

/-- what stands at a live cell's address -/
def ObAt (cm : Ct) (m : Am) (S : So) (H : Hp) (a : Addr) : Ob → Prop
  | .lst l => ∃ vs, H a = some (.lst vs) ∧ Reps cm m S H l vs
  | .dct ks l => ∃ kvs, H a = some (.dK kvs) ∧ kvs.map (·.1) = ks ∧ Reps cm m S H l (kvs.map (·.2))
  | .ins c ks l => ∃ C dx fs, cm.cls c = some C ∧ H a = some (.ins C dx fs) ∧ fs.map (·.1) = ks ∧ Reps cm m S H l (fs.map (·.2))
  | .tt l => H a = some (.tup (l.map V.int))
  | .tdt ks => H a = some (.dT (ks.map fun k => (k.map Sum.inl, V.bl true)))

structure RelS (cm : Ct) (m : Am) (S : So) (H : Hp) : Prop where
  at_ : ∀ (n : Nat) (o : Ob), S[n]? = some (some o) → ObAt cm m S H (m.p n) o
  inj : ∀ (n k : Nat) (o u : Ob), S[n]? = some (some o) → S[k]? = some (some u) → m.p n = m.p k → n = k
  hid : ∀ a, m.hid a → H a ≠ none
  hoff : ∀ a, m.hid a → Off m S a

/-- at a there is o still; a dict may have been locked -/
def Sm (H' : Hp) (a : Addr) (o : HO) : Prop := H' a = some o ∨ ∃ kvs od, o = .dK kvs ∧ H' a = some (.frz od o)
theorem Sm.lst {H' : Hp} {a : Addr} {l : List V} (h : Sm H' a (.lst l)) : H' a = some (.lst l) := by
  rcases h with h | ⟨_, _, e, _⟩
  · exact h
  · cases e
theorem Sm.ins {H' : Hp} {a C d : Addr} {l : List (Str × V)} (h : Sm H' a (.ins C d l)) : H' a = some (.ins C d l) := by
  rcases h with h | ⟨_, _, e, _⟩
  · exact h
  · cases e
theorem Sm.ext {H' : Hp} {a : Addr} {φ : Heap → Prop} (h : Sm H' a (.ext φ)) : H' a = some (.ext φ) := by
  rcases h with h | ⟨_, _, e, _⟩
  · exact h
  · cases e
theorem Sm.rd {H' : Hp} {a : Addr} {l : List (Key × V)} (h : Sm H' a (.dK l)) : Rd H' a (.dK l) := by
  rcases h with h | ⟨_, od, e, h⟩
  · exact .inl h
  · exact .inr ⟨od, h⟩
/-- what a run may change -/
structure Adv (m : Am) (S : So) (H : Hp) (m' : Am) (S' : So) (H' : Hp) : Prop where
  len : S.length ≤ S'.length
  mm : ∀ n, n < S.length → m'.p n = m.p n
  al : ∀ (n : Nat) (o : Ob), S'[n]? = some (some o) → (n < S.length ∧ ∃ o0, S[n]? = some (some o0)) ∨ (S.length ≤ n ∧ H (m'.p n) = none)
  fr : ∀ a o, H a = some o → Off m S a → Sm H' a o
  tr : ∀ a, H a ≠ none → H' a ≠ none
  tp : ∀ a xs, H a = some (.tup xs) → H' a = some (.tup xs)
  fz : ∀ a o u, H a = some (.frz o u) → H' a = some (.frz o u)
  hd1 : ∀ a, m.hid a → m'.hid a
  hd2 : ∀ a, m'.hid a → m.hid a ∨ H a = none
  hd3 : ∀ a o, m.hid a → H a = some o → H' a = some o

section
variable {cm : Ct} {m m' m'' : Am} {S S' S'' : So} {H H' H'' : Hp}
theorem Adv.off (A : Adv m S H m' S' H') {a : Addr} {o : HO} (h : H a = some o) (f : Off m S a) : Off m' S' a := fun n u e z => by
  rcases A.al n u e with ⟨h1, o0, h2⟩ | ⟨_, h2⟩
  · exact f n o0 h2 (by rw [← A.mm n h1]; exact z)
  · rw [z, h] at h2
    cases h2
theorem Adv.free (A : Adv m S H m' S' H') {a : Addr} {o : HO} (h : H a = some o) (f : Free m S a) : Free m' S' a := ⟨A.off h f.1, fun z => (A.hd2 a z).elim f.2 fun q => by rw [q] at h; cases h⟩
theorem Adv.refl : Adv m S H m S H := ⟨Nat.le_refl _, fun _ _ => rfl, fun n o e => .inl ⟨(List.getElem?_eq_some_iff.mp e).1, o, e⟩, fun _ _ h _ => .inl h, fun _ h => h, fun _ _ h => h, fun _ _ _ h => h, fun _ h => h, fun _ h => .inl h, fun _ _ _ h => h⟩
theorem Adv.trans (A : Adv m S H m' S' H') (B : Adv m' S' H' m'' S'' H'') : Adv m S H m'' S'' H'' where
  len := Nat.le_trans A.len B.len
  mm := fun n h => (B.mm n (Nat.lt_of_lt_of_le h A.len)).trans (A.mm n h)
  al := fun n o e => by
    rcases B.al n o e with ⟨h1, o0, h2⟩ | ⟨h1, h2⟩
    · rcases A.al n o0 h2 with z | ⟨h3, h4⟩
      · exact .inl z
      · exact .inr ⟨h3, by rw [B.mm n h1]; exact h4⟩
    · refine .inr ⟨Nat.le_trans A.len h1, ?_⟩
      cases q : H (m''.p n) with
      | none => rfl
      | some o => exact absurd h2 (A.tr _ (by rw [q]; exact fun z => by cases z))
  fr := fun a o h f => by
    rcases A.fr a o h f with h' | ⟨kvs, od, e, h'⟩
    · exact B.fr a o h' (A.off h f)
    · exact .inr ⟨kvs, od, e, B.fz _ _ _ h'⟩
  tr := fun a h => B.tr a (A.tr a h)
  tp := fun a xs h => B.tp a xs (A.tp a xs h)
  fz := fun a o u h => B.fz a o u (A.fz a o u h)
  hd1 := fun a h => B.hd1 a (A.hd1 a h)
  hd2 := fun a h => by
    rcases B.hd2 a h with z | z
    · exact A.hd2 a z
    · refine .inr ?_
      cases q : H a with
      | none => rfl
      | some o => exact absurd z (A.tr a (by rw [q]; exact fun z => by cases z))
  hd3 := fun a o h e => B.hd3 a o (A.hd1 a h) (A.hd3 a o h e)
/-- the heap grows, the store stays -/
theorem Adv.grow (k : ∀ a o, H a = some o → H' a = some o) : Adv m S H m S H' where
  len := Nat.le_refl _
  mm := fun _ _ => rfl
  al := fun n o e => .inl ⟨(List.getElem?_eq_some_iff.mp e).1, o, e⟩
  fr := fun a o h _ => .inl (k a o h)
  tr := fun a h z => by
    cases q : H a with
    | none => exact h q
    | some o => rw [k a o q] at z; cases z
  tp := fun a xs h => k a _ h
  fz := fun a o u h => k a _ h
  hd1 := fun _ h => h
  hd2 := fun _ h => .inl h
  hd3 := fun a o _ e => k a o e
theorem grow_upd {p : Addr} {o : HO} (h : H p = none) : ∀ a u, H a = some u → (upd H p o) a = some u := fun a u e => by
  rw [upd_ne (ne_of_none e h)]
  exact e
theorem Adv.new {p : Addr} {o : HO} (h : H p = none) : Adv m S H m S (upd H p o) := Adv.grow (grow_upd h)
theorem SqT.adv {K : PySem.W.Frag} (A : Adv m S H m' S' H') {a : Addr} {xs : List V} (h : SqT K H a xs) : SqT K H' a xs := by
  rcases h with (h | ⟨o, h⟩) | h
  · exact .inl (.inl (A.tp _ _ h))
  · exact .inl (.inr ⟨o, A.fz _ _ _ h⟩)
  · exact .inr h
theorem SqS.adv {K : PySem.W.Frag} (A : Adv m S H m' S' H') {a : Addr} {xs : List V} (h : SqS K H a xs) : SqS K H' a xs := by
  rcases h with ⟨o, h⟩ | h
  · exact .inl ⟨o, A.fz _ _ _ h⟩
  · exact .inr h
/-- what keeps every representation -/
structure Kp (m : Am) (S : So) (H : Hp) (m' : Am) (S' : So) (H' : Hp) : Prop where
  ob : ∀ a o, H a = some o → Free m S a → Sm H' a o ∧ Free m' S' a
  tp : ∀ a xs, H a = some (.tup xs) → H' a = some (.tup xs)
  fz : ∀ a o u, H a = some (.frz o u) → H' a = some (.frz o u)
  len : S.length ≤ S'.length
  mm : ∀ n, n < S.length → m'.p n = m.p n
theorem Adv.kp (A : Adv m S H m' S' H') : Kp m S H m' S' H' := ⟨fun a o h f => ⟨A.fr a o h f.1, A.free h f⟩, A.tp, A.fz, A.len, A.mm⟩
theorem Kp.sqT {K : PySem.W.Frag} (A : Kp m S H m' S' H') {a : Addr} {xs : List V} (h : SqT K H a xs) : SqT K H' a xs := by
  rcases h with (h | ⟨o, h⟩) | h
  · exact .inl (.inl (A.tp _ _ h))
  · exact .inl (.inr ⟨o, A.fz _ _ _ h⟩)
  · exact .inr h
theorem Kp.sqS {K : PySem.W.Frag} (A : Kp m S H m' S' H') {a : Addr} {xs : List V} (h : SqS K H a xs) : SqS K H' a xs := by
  rcases h with ⟨o, h⟩ | h
  · exact .inl ⟨o, A.fz _ _ _ h⟩
  · exact .inr h
mutual
theorem Rep.kp (A : Kp m S H m' S' H') : ∀ (d : D) (v : V), Rep cm m S H d v → Rep cm m' S' H' d v
  | .non, _, h => h
  | .bl _, _, h => h
  | .int _, _, h => h
  | .str _, _, h => h
  | .tup l, v, h => by
    simp only [Rep] at h ⊢
    obtain ⟨a, vs, e, h1, h3⟩ := h
    exact ⟨a, vs, e, A.sqT h1, Reps.kp A l vs h3⟩
  | .lst l, v, h => by
    simp only [Rep] at h ⊢
    obtain ⟨a, vs, e, h1, h2, h3⟩ := h
    exact ⟨a, vs, e, (A.ob _ _ h1 h2).1.lst, (A.ob _ _ h1 h2).2, Reps.kp A l vs h3⟩
  | .dct ks l, v, h => by
    simp only [Rep] at h ⊢
    obtain ⟨a, kvs, e, h1, h2, h3, h4⟩ := h
    rcases h1 with h1 | ⟨o, h1⟩
    · exact ⟨a, kvs, e, (A.ob _ _ h1 h2).1.rd, (A.ob _ _ h1 h2).2, h3, Reps.kp A l _ h4⟩
    · exact ⟨a, kvs, e, .inr ⟨o, A.fz _ _ _ h1⟩, (A.ob _ _ h1 h2).2, h3, Reps.kp A l _ h4⟩
  | .ins c ks l, v, h => by
    simp only [Rep] at h ⊢
    obtain ⟨a, C, dx, fs, e, hc, h1, h2, h3, h4⟩ := h
    exact ⟨a, C, dx, fs, e, hc, (A.ob _ _ h1 h2).1.ins, (A.ob _ _ h1 h2).2, h3, Reps.kp A l _ h4⟩
  | .ref n, v, h => by
    simp only [Rep] at h ⊢
    exact ⟨Nat.lt_of_lt_of_le h.1 A.len, by rw [A.mm n h.1]; exact h.2⟩
  | .scr ns, v, h => by
    simp only [Rep] at h ⊢
    obtain ⟨a, e, h1⟩ := h
    exact ⟨a, e, A.sqS h1⟩
  | .cls c, v, h => by
    simp only [Rep] at h ⊢
    exact h
  | .exc c ks l, v, h => by
    simp only [Rep] at h ⊢
    obtain ⟨a, C, e, hc, f, h | ⟨d, fs, h1, h2, f2, h3, h4⟩⟩ := h
    · exact ⟨a, C, e, hc, (A.ob _ _ h.2.2 f).2, .inl ⟨h.1, h.2.1, (A.ob _ _ h.2.2 f).1.ext⟩⟩
    · exact ⟨a, C, e, hc, (A.ob _ _ h1 f).2, .inr ⟨d, fs, (A.ob _ _ h1 f).1.ext, (A.ob _ _ h2 f2).1.ext, (A.ob _ _ h2 f2).2, h3, Reps.kp A l _ h4⟩⟩
theorem Reps.kp (A : Kp m S H m' S' H') : ∀ (l : List D) (vs : List V), Reps cm m S H l vs → Reps cm m' S' H' l vs
  | [], _, h => h
  | d :: l, vs, h => by
    simp only [Reps] at h ⊢
    obtain ⟨v, r, e, h1, h2⟩ := h
    exact ⟨v, r, e, Rep.kp A d v h1, Reps.kp A l r h2⟩
end
theorem Rep.adv (A : Adv m S H m' S' H') (d : D) (v : V) (h : Rep cm m S H d v) : Rep cm m' S' H' d v := Rep.kp A.kp d v h
theorem Reps.adv (A : Adv m S H m' S' H') (l : List D) (v : List V) (h : Reps cm m S H l v) : Reps cm m' S' H' l v := Reps.kp A.kp l v h
theorem Reps.length : ∀ {l : List D} {vs : List V}, Reps cm m S H l vs → l.length = vs.length
  | [], vs, h => by simp only [Reps] at h; subst h; rfl
  | d :: l, vs, h => by
    simp only [Reps] at h
    obtain ⟨v, r, rfl, _, h2⟩ := h
    simp only [List.length_cons]
    rw [Reps.length h2]
theorem Reps.get : ∀ {l : List D} {vs : List V} {i : Nat} {d : D}, Reps cm m S H l vs → l[i]? = some d → ∃ v, vs[i]? = some v ∧ Rep cm m S H d v
  | [], _, _, _, _, e => by simp at e
  | d :: l, vs, 0, x, h, e => by
    simp only [Reps] at h
    obtain ⟨v, r, rfl, h1, _⟩ := h
    simp at e
    subst e
    exact ⟨v, rfl, h1⟩
  | d :: l, vs, i + 1, x, h, e => by
    simp only [Reps] at h
    obtain ⟨v, r, rfl, _, h2⟩ := h
    obtain ⟨w, e1, e2⟩ := Reps.get (i := i) h2 (by simpa using e)
    exact ⟨w, by simpa using e1, e2⟩
theorem Reps.get' : ∀ {l : List D} {vs : List V} {i : Nat} {v : V}, Reps cm m S H l vs → vs[i]? = some v → ∃ d, l[i]? = some d ∧ Rep cm m S H d v := fun {l vs i v} h e => by
  have hl := h.length
  have hi : i < l.length := by rw [hl]; exact (List.getElem?_eq_some_iff.mp e).1
  obtain ⟨w, e1, r⟩ := h.get (List.getElem?_eq_getElem hi)
  rw [e] at e1
  cases e1
  exact ⟨_, List.getElem?_eq_getElem hi, r⟩
theorem Reps.nil : Reps cm m S H [] [] := by simp only [Reps]
theorem Reps.cons {d : D} {v : V} {l : List D} {vs : List V} (h : Rep cm m S H d v) (t : Reps cm m S H l vs) : Reps cm m S H (d :: l) (v :: vs) := by
  simp only [Reps]
  exact ⟨v, vs, rfl, h, t⟩
theorem Reps.append : ∀ {l k : List D} {vs ws : List V}, Reps cm m S H l vs → Reps cm m S H k ws → Reps cm m S H (l ++ k) (vs ++ ws)
  | [], k, vs, ws, h, t => by simp only [Reps] at h; subst h; exact t
  | d :: l, k, vs, ws, h, t => by
    simp only [Reps] at h
    obtain ⟨v, r, rfl, h1, h2⟩ := h
    exact Reps.cons h1 (Reps.append h2 t)
theorem Reps.take : ∀ {l : List D} {vs : List V} (n : Nat), Reps cm m S H l vs → Reps cm m S H (l.take n) (vs.take n)
  | _, _, 0, _ => by simp [Reps]
  | [], vs, n + 1, h => by simp only [Reps] at h; subst h; simp [Reps]
  | d :: l, vs, n + 1, h => by
    simp only [Reps] at h
    obtain ⟨v, r, rfl, h1, h2⟩ := h
    exact Reps.cons h1 (Reps.take n h2)
theorem Reps.drop : ∀ {l : List D} {vs : List V} (n : Nat), Reps cm m S H l vs → Reps cm m S H (l.drop n) (vs.drop n)
  | _, _, 0, h => h
  | [], vs, n + 1, h => by simp only [Reps] at h; subst h; simp [Reps]
  | d :: l, vs, n + 1, h => by
    simp only [Reps] at h
    obtain ⟨v, r, rfl, h1, h2⟩ := h
    exact Reps.drop n h2
theorem Reps.set : ∀ {l : List D} {vs : List V} {d : D} {v : V} (n : Nat), Reps cm m S H l vs → Rep cm m S H d v → Reps cm m S H (l.set n d) (vs.set n v)
  | [], vs, _, _, n, h, _ => by simp only [Reps] at h; subst h; simp [Reps]
  | d :: l, vs, _, _, 0, h, t => by
    simp only [Reps] at h
    obtain ⟨v, r, rfl, h1, h2⟩ := h
    exact Reps.cons t h2
  | d :: l, vs, _, _, n + 1, h, t => by
    simp only [Reps] at h
    obtain ⟨v, r, rfl, h1, h2⟩ := h
    exact Reps.cons h1 (Reps.set n h2 t)
theorem Reps.eraseIdx : ∀ {l : List D} {vs : List V} (n : Nat), Reps cm m S H l vs → Reps cm m S H (l.eraseIdx n) (vs.eraseIdx n)
  | [], vs, n, h => by simp only [Reps] at h; subst h; simp [Reps]
  | d :: l, vs, 0, h => by
    simp only [Reps] at h
    obtain ⟨v, r, rfl, h1, h2⟩ := h
    exact h2
  | d :: l, vs, n + 1, h => by
    simp only [Reps] at h
    obtain ⟨v, r, rfl, h1, h2⟩ := h
    exact Reps.cons h1 (Reps.eraseIdx n h2)
theorem Reps.reverse : ∀ {l : List D} {vs : List V}, Reps cm m S H l vs → Reps cm m S H l.reverse vs.reverse
  | [], vs, h => by simp only [Reps] at h; subst h; simp [Reps]
  | d :: l, vs, h => by
    simp only [Reps] at h
    obtain ⟨v, r, rfl, h1, h2⟩ := h
    rw [List.reverse_cons, List.reverse_cons]
    exact (Reps.reverse h2).append (Reps.cons h1 Reps.nil)

/-- the store stands where its own objects do -/
theorem ObAt.kp (A : Kp m S H m' S' H') {a : Addr} {o : Ob} (h : ObAt cm m S H a o) (e : H' a = H a) : ObAt cm m' S' H' a o := by
  cases o with
  | lst l =>
    obtain ⟨vs, h1, h2⟩ := h
    exact ⟨vs, by rw [e]; exact h1, Reps.kp A l vs h2⟩
  | dct ks l =>
    obtain ⟨kvs, h1, h2, h3⟩ := h
    exact ⟨kvs, by rw [e]; exact h1, h2, Reps.kp A l _ h3⟩
  | ins c ks l =>
    obtain ⟨C, dx, fs, hc, h1, h2, h3⟩ := h
    exact ⟨C, dx, fs, hc, by rw [e]; exact h1, h2, Reps.kp A l _ h3⟩
  | tt l => exact e.trans h
  | tdt ks => exact e.trans h
/-- the store stands over a grown heap -/
theorem RelS.adv (R : RelS cm m S H) (A : Adv m S H m S H') (k : ∀ (n : Nat) (o : Ob), S[n]? = some (some o) → H' (m.p n) = H (m.p n)) : RelS cm m S H' := by
  refine ⟨fun n o e => ?_, R.inj, fun a h => A.tr a (R.hid a h), R.hoff⟩
  have h := R.at_ n o e
  cases o with
  | lst l =>
    obtain ⟨vs, h1, h2⟩ := h
    exact ⟨vs, by rw [k n _ e]; exact h1, Reps.adv A l vs h2⟩
  | dct ks l =>
    obtain ⟨kvs, h1, h2, h3⟩ := h
    exact ⟨kvs, by rw [k n _ e]; exact h1, h2, Reps.adv A l _ h3⟩
  | ins c ks l =>
    obtain ⟨C, dx, fs, hc, h1, h2, h3⟩ := h
    exact ⟨C, dx, fs, hc, by rw [k n _ e]; exact h1, h2, Reps.adv A l _ h3⟩
  | tt l => exact (k n _ e).trans h
  | tdt ks => exact (k n _ e).trans h
theorem RelS.there (R : RelS cm m S H) {n : Nat} {o : Ob} (e : S[n]? = some (some o)) : ∃ u, H (m.p n) = some u := by
  have h := R.at_ n o e
  cases o with
  | lst l => obtain ⟨vs, h1, _⟩ := h; exact ⟨_, h1⟩
  | dct ks l => obtain ⟨vs, h1, _⟩ := h; exact ⟨_, h1⟩
  | ins c ks l => obtain ⟨C, dx, fs, hc, h1, _⟩ := h; exact ⟨_, h1⟩
  | tt l => exact ⟨_, h⟩
  | tdt ks => exact ⟨_, h⟩
theorem RelS.grow (R : RelS cm m S H) (k : ∀ a o, H a = some o → H' a = some o) : RelS cm m S H' :=
  R.adv (Adv.grow k) fun n o e => by
    obtain ⟨u, h⟩ := R.there e
    rw [h, k _ _ h]
theorem RelS.off_new (R : RelS cm m S H) {p : Addr} (h : H p = none) : Off m S p := fun n o e z => by
  obtain ⟨u, q⟩ := R.there e
  rw [z, h] at q
  cases q
theorem RelS.free_new (R : RelS cm m S H) {p : Addr} (h : H p = none) : Free m S p := ⟨R.off_new h, fun z => R.hid p z h⟩
end
end Mi

/-! Mi1: runs, judgements, the small rules. -/
namespace Mi
open PySem PySem.Spec PyProof.Rows L2

abbrev St := L2.St
structure Ex where
  c : Str
  ks : List Str
  l : List D
abbrev En := List (Option D)
/-- what a run gives -/
inductive R (α : Type) where
  | ok (a : α) (s : So) | err (x : Ex) (en : En) (s : So) | bad
def R.bind {α β : Type} (r : R α) (k : α → So → R β) : R β := match r with
  | .ok a s => k a s
  | .err x en s => .err x en s
  | .bad => .bad
@[simp] theorem R.bind_ok {α β : Type} (a : α) (s : So) (k : α → So → R β) : (R.ok a s).bind k = k a s := rfl
@[simp] theorem R.bind_err {α β : Type} (x : Ex) (en : En) (s : So) (k : α → So → R β) : (R.err x en s : R α).bind k = .err x en s := rfl
@[simp] theorem R.bind_bad {α β : Type} (k : α → So → R β) : (R.bad : R α).bind k = .bad := rfl
/-- of a partial operation -/
def R.of {α : Type} (o : Option (α × So)) : R α := match o with
  | some (a, s) => .ok a s
  | none => .bad
@[simp] theorem R.of_some {α : Type} (a : α) (s : So) : R.of (some (a, s)) = .ok a s := rfl
@[simp] theorem R.of_none {α : Type} : (R.of none : R α) = .bad := rfl
/-- an expression -/
abbrev E (α : Type) := En → So → R α

structure Cond (cm : Ct) (m : Am) (S : So) (H : Hp) (σ : St) (en : En) : Prop where
  rel : RelS cm m S H
  len : en.length = σ.length
  env : ∀ (i : Nat) (d : D), en[i]? = some (some d) → ∃ v, σ[i]? = some (some v) ∧ Rep cm m S H d v

def RepX (cm : Ct) (m : Am) (S : So) (H : Hp) (x : Ex) (cls : Value) (dd : Option Addr) : Prop :=
  ∃ C, cm.exc x.c = some C ∧ cls = .ref C ∧ ((dd = none ∧ x.ks = [] ∧ x.l = []) ∨
    ∃ d fs, dd = some d ∧ H d = some (.xd fs) ∧ Free m S d ∧ fs.map (·.1) = x.ks ∧ Reps cm m S H x.l (fs.map (·.2)))

abbrev Rp (α β : Type) := Am → So → Hp → α → β → Prop
def rB : Rp Bool Bool := fun _ _ _ a b => a = b
def rO : Rp (Option Int) (Option Int) := fun _ _ _ a b => a = b

def PQ {α β : Type} (rp : Rp α β) (cm : Ct) (m : Am) (S : So) (H : Hp) (σ : St) (W : WX) (r : R α) (Q : β → Hp → Prop) : Prop := match r with
  | .ok a S' => ∀ v m' H', Adv m S H m' S' H' → RelS cm m' S' H' → rp m' S' H' a v → Q v H'
  | .err x en' S' => ∀ cls dd m' H', Adv m S H m' S' H' → Cond cm m' S' H' σ en' → RepX cm m' S' H' x cls dd → W cls dd σ H'
  | .bad => False

section
variable {α β γ δ : Type} {cm : Ct} {m m1 : Am} {S S1 : So} {H H1 : Hp} {σ : St} {en : En} {W : WX}
theorem Cond.adv (C : Cond cm m S H σ en) (A : Adv m S H m1 S1 H1) (R : RelS cm m1 S1 H1) : Cond cm m1 S1 H1 σ en :=
  ⟨R, C.len, fun i d e => let ⟨v, h1, h2⟩ := C.env i d e; ⟨v, h1, Rep.adv A d v h2⟩⟩
theorem PQ.after {rp : Rp α β} {r : R α} {Q : β → Hp → Prop} (A : Adv m S H m1 S1 H1) (h : PQ rp cm m S H σ W r Q) : PQ rp cm m1 S1 H1 σ W r Q := by
  cases r with
  | ok a S' => exact fun v m' H' A' => h v m' H' (A.trans A')
  | err x en' S' => exact fun c d m' H' A' => h c d m' H' (A.trans A')
  | bad => exact h
theorem PQ.bind {rp1 : Rp α γ} {rp2 : Rp β δ} {r : R α} {k : α → So → R β} {Q : δ → Hp → Prop} {Q1 : γ → Hp → Prop} (h : PQ rp2 cm m S H σ W (r.bind k) Q)
    (hk : ∀ a S1 x m1 H1, r = .ok a S1 → Adv m S H m1 S1 H1 → RelS cm m1 S1 H1 → rp1 m1 S1 H1 a x → PQ rp2 cm m1 S1 H1 σ W (k a S1) Q → Q1 x H1) : PQ rp1 cm m S H σ W r Q1 := by
  cases r with
  | ok a S' => exact fun v m' H' A Rl rp => hk a S' v m' H' rfl A Rl rp (PQ.after A h)
  | err x en' S' => exact h
  | bad => exact h
theorem PQ.now {rp : Rp α β} {a : α} {v : β} {Q : β → Hp → Prop} (h : PQ rp cm m S H σ W (.ok a S) Q) (R : RelS cm m S H) (q : rp m S H a v) : Q v H := h v m H Adv.refl R q
theorem PQ.grown {rp : Rp α β} {a : α} {v : β} {Q : β → Hp → Prop} (h : PQ rp cm m S H σ W (.ok a S) Q) (R : RelS cm m S H) (k : ∀ a o, H a = some o → H1 a = some o) (q : RelS cm m S H1 → rp m S H1 a v) : Q v H1 :=
  h v m H1 (Adv.grow k) (R.grow k) (q (R.grow k))
end

/-! ### the weakest readings -/
def wE (X : Cx) (e : Expr) : TE := fun σ H Q => ∀ pins s, Inv X pins σ H s → wpAny (model X.prog X.w) X.A (eval e X.env) (EP X pins σ Q) X.xe s
def wT (X : Cx) (e : Expr) : TT := fun σ H Q => ∀ pins s, Inv X pins σ H s → wpAny (model X.prog X.w) X.A (isTrue e X.env (eval e X.env)) (TP X pins σ Q) X.xe s
def wW (X : Cx) (e : Expr) : TT := fun σ H Q => ∀ whole pins s, Inv X pins σ H s → wpAny (model X.prog X.w) X.A (isTrue e X.env whole) (TP X pins σ Q) X.xe s
def wA (X : Cx) (es : List Expr) : TA := fun σ H Q => ∀ pos pins s, Inv X pins σ H s → wpAny (model X.prog X.w) X.A (spliced (backTo pos (starEach es X.env))) (AP X pins σ Q) X.xe s
theorem pe_w {X : Cx} {e : Expr} : PE X e (wE X e) := ⟨fun pins s _ _ _ I h => h pins s I⟩
theorem pt_w {X : Cx} {e : Expr} : PT X e (wT X e) := ⟨fun pins s _ _ _ I h => h pins s I⟩
theorem pw_w {X : Cx} {e : Expr} : PW X e (wW X e) := ⟨fun wh pins s _ _ _ I h => h wh pins s I⟩
theorem pa_w {X : Cx} {es : List Expr} : PA X es (wA X es) := ⟨fun pos pins s _ _ _ I h => h pos pins s I⟩
section
variable {X : Cx} {σ : St} {H : Hp}
theorem wE_of {e : Expr} {t : TE} {Q : VK} (h : PE X e t) (q : t σ H Q) : wE X e σ H Q := fun pins s I => h.run pins s σ H Q I q
theorem wT_of {e : Expr} {t : TT} {Q : Bool → Hp → Prop} (h : PT X e t) (q : t σ H Q) : wT X e σ H Q := fun pins s I => h.run pins s σ H Q I q
theorem wW_of {e : Expr} {t : TT} {Q : Bool → Hp → Prop} (h : PW X e t) (q : t σ H Q) : wW X e σ H Q := fun wh pins s I => h.run wh pins s σ H Q I q
theorem wA_of {es : List Expr} {t : TA} {Q : List V → Hp → Prop} (h : PA X es t) (q : t σ H Q) : wA X es σ H Q := fun pos pins s I => h.run pos pins s σ H Q I q
end

/-! ### judgements -/
abbrev ct (X : Cx) (cm : Cm) : Ct := ⟨X.K, cm.cls, cm.exc⟩
def RE (cm : Cm) (X : Cx) (e : Expr) (f : E D) : Prop := ∀ W, Takes X W → ∀ m S H σ en Q, Cond (ct X cm) m S H σ en → PQ (Rep (ct X cm)) (ct X cm) m S H σ W (f en S) Q → wE X e σ H Q
def RT (cm : Cm) (X : Cx) (e : Expr) (f : E Bool) : Prop := ∀ W, Takes X W → ∀ m S H σ en Q, Cond (ct X cm) m S H σ en → PQ rB (ct X cm) m S H σ W (f en S) Q → wT X e σ H Q
def RW (cm : Cm) (X : Cx) (e : Expr) (f : E Bool) : Prop := ∀ W, Takes X W → ∀ m S H σ en Q, Cond (ct X cm) m S H σ en → PQ rB (ct X cm) m S H σ W (f en S) Q → wW X e σ H Q
def RA (cm : Cm) (X : Cx) (es : List Expr) (f : E (List D)) : Prop := ∀ W, Takes X W → ∀ m S H σ en Q, Cond (ct X cm) m S H σ en → PQ (Reps (ct X cm)) (ct X cm) m S H σ W (f en S) Q → wA X es σ H Q

/-! ### names and constants -/
def mV (i : Nat) : E D := fun en S => match en[i]? with
  | some (some d) => .ok d S
  | _ => .bad
def mC (d : D) : E D := fun _ S => .ok d S
section
variable {cm : Cm} {X : Cx} {pos : Pos}
theorem re_v (i : Nat) {x : Str} (hN : X.N[i]? = some x := by rfl) (hv : Vis X.env.scope x := by first | exact Or.inl rfl | exact Or.inr (Or.inl rfl) | exact Or.inr (Or.inr rfl)) (hd : (x == ("__debug__" : Str)) = false := by decide)
    (hcd : (x == ("__classdict__" : Str)) = false := by decide) : RE cm X (.Name x pos) (mV i) := fun W tk m S H σ en Q C h => by
  refine wE_of (pe_var hN hv hd hcd) ?_
  unfold mV at h
  split at h
  · rename_i d e
    obtain ⟨v, h1, h2⟩ := C.env i d e
    exact ⟨v, h1, h.now C.rel h2⟩
  · exact h.elim
theorem re_int {i j} : RE cm X (.Constant (.int i) j pos) (mC (.int i)) := fun W tk m S H σ en Q C h => wE_of pe_int (h.now C.rel (by simp only [Rep]))
theorem re_bl {b j} : RE cm X (.Constant (.bool b) j pos) (mC (.bl b)) := fun W tk m S H σ en Q C h => wE_of pe_bl (h.now C.rel (by simp only [Rep]))
theorem re_non {j} : RE cm X (.Constant .none j pos) (mC .non) := fun W tk m S H σ en Q C h => wE_of pe_non (h.now C.rel (by simp only [Rep]))
theorem re_str {x j} : RE cm X (.Constant (.str x) j pos) (mC (.str x)) := fun W tk m S H σ en Q C h => wE_of pe_str (h.now C.rel (by simp only [Rep]))
/-- a constant of the module: an int, a text -/
theorem re_gint {x : Str} {i : Int} {t : Tok} (hg : Gl X x) (hm : X.mg x = some (.int i t)) (hd : (x == ("__debug__" : Str)) = false := by decide) : RE cm X (.Name x pos) (mC (.int i)) := fun W tk m S H σ en Q C h =>
  wE_of (pe_glob (v := .int i) hg hm ⟨_, rfl⟩ hd) (h.now C.rel (by simp only [Rep]))
theorem re_gstr {x y : Str} {t : Tok} (hg : Gl X x) (hm : X.mg x = some (.str y t)) (hd : (x == ("__debug__" : Str)) = false := by decide) : RE cm X (.Name x pos) (mC (.str y)) := fun W tk m S H σ en Q C h =>
  wE_of (pe_glob (v := .str y) hg hm ⟨_, rfl⟩ hd) (h.now C.rel (by simp only [Rep]))
end

/-! ### operators -/
/-- what a pure operation gives -/
abbrev Op1 := D → So → Option (D × So)
abbrev Op2 := D → D → So → Option (D × So)
def POk {α β : Type} (rp : Rp α β) (cm : Ct) (m : Am) (S : So) (H : Hp) (o : Option (α × So)) (Q : β → Hp → Prop) : Prop := ∀ σ W, PQ rp cm m S H σ W (R.of o) Q
def wO2 (X : Cx) (f : Value → Value → Sem Value) : R2 := fun x y H Q => ∀ pins s σ v u, Inv X pins σ H s → RelV x v → RelV y u → wpAny (model X.prog X.w) X.A (f v u) (EP X pins σ Q) X.xe s
def wO1 (X : Cx) (f : Value → Sem Value) : V → Hp → VK → Prop := fun x H Q => ∀ pins s σ v, Inv X pins σ H s → RelV x v → wpAny (model X.prog X.w) X.A (f v) (EP X pins σ Q) X.xe s
theorem op_w {X : Cx} {f : Value → Value → Sem Value} : OpR X f (wO2 X f) := fun pins s σ H x y v u Q I rx ry h => h pins s σ v u I rx ry
theorem un_w {X : Cx} {f : Value → Sem Value} : UnR X f (wO1 X f) := fun pins s σ H x v Q I rx h => h pins s σ v I rx
theorem wO2_of {X : Cx} {f : Value → Value → Sem Value} {r : R2} {x y : V} {H : Hp} {Q : VK} (h : OpR X f r) (q : r x y H Q) : wO2 X f x y H Q := fun pins s σ v u I rx ry => h pins s σ H x y v u Q I rx ry q
theorem wO1_of {X : Cx} {f : Value → Sem Value} {r : V → Hp → VK → Prop} {x : V} {H : Hp} {Q : VK} (h : UnR X f r) (q : r x H Q) : wO1 X f x H Q := fun pins s σ v I rx => h pins s σ H x v Q I rx q
def OpD (cm : Cm) (X : Cx) (f : Value → Value → Sem Value) (g : Op2) : Prop := ∀ m S H a b x y Q, RelS (ct X cm) m S H → Rep (ct X cm) m S H a x → Rep (ct X cm) m S H b y → POk (Rep (ct X cm)) (ct X cm) m S H (g a b S) Q → wO2 X f x y H Q
def UnD (cm : Cm) (X : Cx) (f : Value → Sem Value) (g : Op1) : Prop := ∀ m S H a x Q, RelS (ct X cm) m S H → Rep (ct X cm) m S H a x → POk (Rep (ct X cm)) (ct X cm) m S H (g a S) Q → wO1 X f x H Q
def m2 (g : Op2) (fa fb : E D) : E D := fun en S => (fa en S).bind fun a S1 => (fb en S1).bind fun b S2 => R.of (g a b S2)
def m1 (g : Op1) (fa : E D) : E D := fun en S => (fa en S).bind fun a S1 => R.of (g a S1)
section
variable {α β : Type} {cm : Ct} {m : Am} {S : So} {H : Hp} {rp : Rp α β} {Q : β → Hp → Prop}
theorem PQ.pok {σ : St} {W : WX} {o : Option (α × So)} (h : PQ rp cm m S H σ W (R.of o) Q) : POk rp cm m S H o Q := fun σ' W' => by
  cases o with
  | none => exact h
  | some p => exact h
theorem POk.no (h : POk rp cm m S H none Q) : False := h [] (fun _ _ _ _ => False)
theorem POk.at {a : α} {S' : So} {v : β} {m' : Am} {H' : Hp} (h : POk rp cm m S H (some (a, S')) Q) (A : Adv m S H m' S' H') (R : RelS cm m' S' H') (q : rp m' S' H' a v) : Q v H' := h [] (fun _ _ _ _ => False) v m' H' A R q
theorem POk.now {a : α} {v : β} (h : POk rp cm m S H (some (a, S)) Q) (R : RelS cm m S H) (q : rp m S H a v) : Q v H := h.at Adv.refl R q
end
section
variable {cm : Cm} {X : Cx} {pos : Pos} {a b : Expr} {fa fb : E D}
theorem re_op {op : Operator} {g : Op2} (ho : OpD cm X (binaryOp op) g) (ha : RE cm X a fa) (hb : RE cm X b fb) : RE cm X (.BinOp a op b pos) (m2 g fa fb) := fun W tk m S H σ en Q C h => by
  refine wE_of (pe_op op_w pe_w pe_w) ?_
  refine ha W tk m S H σ en _ C (PQ.bind h fun da S1 x m1 H1 e1 A1 R1 r1 h1 => ?_)
  refine hb W tk m1 S1 H1 σ en _ (C.adv A1 R1) (PQ.bind h1 fun db S2 y m2 H2 e2 A2 R2 r2 h2 => ?_)
  exact ho m2 S2 H2 da db x y Q R2 (Rep.adv A2 _ _ r1) r2 h2.pok
theorem re_un {op : UnaryOp} {g : Op1} (ho : UnD cm X (unaryOp op) g) (ha : RE cm X a fa) : RE cm X (.UnaryOp op a pos) (m1 g fa) := fun W tk m S H σ en Q C h => by
  refine wE_of (pe_un un_w pe_w) ?_
  refine ha W tk m S H σ en _ C (PQ.bind h fun da S1 x m1 H1 e1 A1 R1 r1 h1 => ?_)
  exact ho m1 S1 H1 da x Q R1 r1 h1.pok
/-- a comparison -/
theorem re_cmp {op : CmpOp} {g : Op2} (ho : OpD cm X (compareOp op) g) (ha : RE cm X a fa) (hb : RE cm X b fb) (hm : behindInMarks op b = false) : RE cm X (.Compare a [op] [b] pos) (m2 g fa fb) := fun W tk m S H σ en Q C h => by
  refine wE_of (pe_cmpR op_w pe_w pe_w hm) ?_
  refine ha W tk m S H σ en _ C (PQ.bind h fun da S1 x m1 H1 e1 A1 R1 r1 h1 => ?_)
  refine hb W tk m1 S1 H1 σ en _ (C.adv A1 R1) (PQ.bind h1 fun db S2 y m2 H2 e2 A2 R2 r2 h2 => ?_)
  exact ho m2 S2 H2 da db x y Q R2 (Rep.adv A2 _ _ r1) r2 h2.pok
end

/-! ### tests -/
/-- a bool's own -/
def asB (d : D) (S : So) : Option (Bool × So) := match d with
  | .bl b => some (b, S)
  | _ => none
def tB' (fa : E D) : E Bool := fun en S => (fa en S).bind fun a S1 => R.of (asB a S1)
/-- truth -/
def truD (d : D) (S : So) : Option Bool := match d with
  | .non => some false
  | .bl b => some b
  | .int i => some (i != 0)
  | .str y => if y.length ≤ sizeLine then some ((y.length : Int) != 0) else none
  | .tup l => some (!l.isEmpty)
  | .lst l => some (!l.isEmpty)
  | .dct ks _ => some (!ks.isEmpty)
  | .ref n => match S[n]? with
    | some (some (.lst l)) => some (!l.isEmpty)
    | some (some (.dct ks _)) => some (!ks.isEmpty)
    | _ => none
  | _ => none
def tTru (fa : E D) : E Bool := fun en S => (fa en S).bind fun a S1 => match truD a S1 with
  | some b => .ok b S1
  | none => .bad
theorem empty_of {cm : Ct} {m : Am} {S : So} {H : Hp} {l : List D} {vs : List V} (h : Reps cm m S H l vs) : l.isEmpty = vs.isEmpty := by
  have e := h.length
  cases l <;> cases vs <;> simp_all
/-- .. a locked dict too -/
def TruV2 (K : PySem.W.Frag) (x : V) (H : Hp) (k : Bool) : Prop := TruV K x H k ∨ ∃ p kvs, x = .ref p ∧ Rd H p (.dK kvs) ∧ k = !kvs.isEmpty
theorem tru_ok2 {X : Cx} : TruR X (fun x H Q => ∃ k, TruV2 X.K x H k ∧ Q k H) := by
  intro pins s σ H x v Q I rx h
  obtain ⟨k, e | ⟨p, kvs, ex, hd, ek⟩, q⟩ := h
  · exact tru_ok pins s σ H x v Q I rx ⟨k, e, q⟩
  · subst ex
    cases rx
    subst ek
    have hl := line63
    have hs : sizeLine = 16777216 := sizeLine_eq
    obtain ⟨hz, hS, vs, r, m⟩ := dk_rd I.hok hd
    have hlen : kvs.length = vs.length := Paired.length r
    exact wpAny_truthy_dict hS m (by omega) ⟨H, I.tok _, by rw [isEmpty_kv r]; exact q⟩
theorem tru_v {cm : Ct} {m : Am} {S : So} {H : Hp} {d : D} {x : V} {b : Bool} (R : RelS cm m S H) (r : Rep cm m S H d x) (h : truD d S = some b) : TruV2 cm.K x H b := by
  cases d with
  | non => simp only [Rep] at r; subst r; simp only [truD, Option.some.injEq] at h; exact .inl h.symm
  | bl c => simp only [Rep] at r; subst r; simp only [truD, Option.some.injEq] at h; exact .inl h.symm
  | int i => simp only [Rep] at r; subst r; simp only [truD, Option.some.injEq] at h; exact .inl h.symm
  | str y =>
    simp only [Rep] at r; subst r
    simp only [truD] at h
    split at h
    · rename_i hl
      exact .inl ⟨hl, (Option.some.inj h).symm⟩
    · cases h
  | tup l =>
    simp only [Rep] at r
    obtain ⟨a, vs, rfl, h1, h3⟩ := r
    simp only [truD, Option.some.injEq] at h
    exact .inl (.inr (.inl ⟨vs, h1, by rw [← empty_of h3]; exact h.symm⟩))
  | lst l =>
    simp only [Rep] at r
    obtain ⟨a, vs, rfl, h1, _, h3⟩ := r
    simp only [truD, Option.some.injEq] at h
    exact .inl (.inl ⟨vs, .inl (.inl h1), by rw [← empty_of h3]; exact h.symm⟩)
  | dct ks l =>
    simp only [Rep] at r
    obtain ⟨a, kvs, rfl, h1, _, h3, _⟩ := r
    simp only [truD, Option.some.injEq] at h
    exact .inr ⟨a, kvs, rfl, h1, by rw [← h, ← h3]; cases kvs <;> rfl⟩
  | ins c ks l => simp [truD] at h
  | scr ns => simp [truD] at h
  | exc c ks l => simp [truD] at h
  | cls c => simp [truD] at h
  | ref n =>
    simp only [Rep] at r
    obtain ⟨_, rfl⟩ := r
    simp only [truD] at h
    split at h
    · rename_i l e
      obtain ⟨vs, h1, h2⟩ := R.at_ n _ e
      exact .inl (.inl ⟨vs, .inl (.inl h1), by rw [← empty_of h2]; exact (Option.some.inj h).symm⟩)
    · rename_i ks l e
      obtain ⟨kvs, h1, h2, h3⟩ := R.at_ n _ e
      exact .inr ⟨_, kvs, rfl, .inl h1, by rw [← Option.some.inj h, ← h2]; cases kvs <;> rfl⟩
    · cases h
def tAnd' (f g : E Bool) : E Bool := fun en S => (f en S).bind fun b S1 => match b with
  | true => g en S1
  | false => .ok false S1
def tOr' (f g : E Bool) : E Bool := fun en S => (f en S).bind fun b S1 => match b with
  | true => .ok true S1
  | false => g en S1
def tNot' (f : E Bool) : E Bool := fun en S => (f en S).bind fun b S1 => .ok (!b) S1
section
variable {cm : Cm} {X : Cx} {pos : Pos} {a b : Expr} {rest : List Expr} {fa fb : E D} {ta tb : E Bool}
/-- an expression that gives a bool -/
theorem rt_val (ha : RE cm X a fa) (he : ∀ whole, isTrue a X.env whole = (do let v ← whole; standAt a.pos; holding [v] (truthy v)) := by intro _; rfl) : RT cm X a (tB' fa) := fun W tk m S H σ en Q C h => by
  refine wT_of (pt_val pe_w he) ?_
  refine ha W tk m S H σ en _ C (PQ.bind h fun da S1 x m1 H1 e1 A1 R1 r1 h1 => ?_)
  unfold asB at h1
  split at h1
  · simp only [Rep] at r1
    exact ⟨_, r1, PQ.now h1 R1 rfl⟩
  · exact h1.elim
theorem rt_tru (ha : RE cm X a fa) (he : ∀ whole, isTrue a X.env whole = (do let v ← whole; standAt a.pos; holding [v] (truthy v)) := by intro _; rfl) : RT cm X a (tTru fa) := fun W tk m S H σ en Q C h => by
  refine wT_of (pt_truthR pe_w tru_ok2 he) ?_
  refine ha W tk m S H σ en _ C (PQ.bind h fun da S1 x m1 H1 e1 A1 R1 r1 h1 => ?_)
  cases e : truD da S1 with
  | none => rw [e] at h1; exact h1.elim
  | some k =>
    rw [e] at h1
    exact ⟨k, tru_v R1 r1 e, PQ.now h1 R1 rfl⟩
theorem rt_cmp {op : CmpOp} {g : Op2} (ho : OpD cm X (compareOp op) g) (ha : RE cm X a fa) (hb : RE cm X b fb) (hm : behindInMarks op b = false) : RT cm X (.Compare a [op] [b] pos) (tB' (m2 g fa fb)) := fun W tk m S H σ en Q C h => by
  refine wT_of (pt_cmpR op_w pe_w pe_w hm) ?_
  have h' : PQ rB (ct X cm) m S H σ W ((fa en S).bind fun a S1 => ((fb en S1).bind fun b S2 => (R.of (g a b S2)).bind fun a S1 => R.of (asB a S1))) Q := by
    have e : tB' (m2 g fa fb) en S = (fa en S).bind fun a S1 => ((fb en S1).bind fun b S2 => (R.of (g a b S2)).bind fun a S1 => R.of (asB a S1)) := by
      unfold tB' m2
      cases fa en S with
      | ok a S1 => simp only [R.bind_ok]; cases fb en S1 <;> simp
      | err _ _ _ => rfl
      | bad => rfl
    rw [← e]; exact h
  refine ha W tk m S H σ en _ C (PQ.bind h' fun da S1 x m1 H1 e1 A1 R1 r1 h1 => ?_)
  refine hb W tk m1 S1 H1 σ en _ (C.adv A1 R1) (PQ.bind h1 fun db S2 y m2 H2 e2 A2 R2 r2 h2 => ?_)
  refine ho m2 S2 H2 da db x y _ R2 (Rep.adv A2 _ _ r1) r2 (PQ.pok (σ := σ) (W := W) ?_)
  refine PQ.bind h2 fun dc S3 z m3 H3 e3 A3 R3 r3 h3 => ?_
  unfold asB at h3
  split at h3
  · simp only [Rep] at r3
    exact ⟨_, r3, PQ.now h3 R3 rfl⟩
  · exact h3.elim
theorem rt_w (h : RW cm X a ta) : RT cm X a ta := fun W tk m S H σ en Q C q pins s I => h W tk m S H σ en Q C q _ pins s I
theorem rw_and1 (ha : RT cm X a ta) : RW cm X (.BoolOp .And [a] pos) ta := fun W tk m S H σ en Q C h => wW_of (pw_and1 pt_w) (ha W tk m S H σ en Q C h)
theorem rw_or1 (ha : RT cm X a ta) : RW cm X (.BoolOp .Or [a] pos) ta := fun W tk m S H σ en Q C h => wW_of (pw_or1 pt_w) (ha W tk m S H σ en Q C h)
theorem rw_and (ha : RT cm X a ta) (hb : RW cm X (.BoolOp .And (b :: rest) pos) tb) : RW cm X (.BoolOp .And (a :: b :: rest) pos) (tAnd' ta tb) := fun W tk m S H σ en Q C h => by
  refine wW_of (pw_and pt_w pw_w) ?_
  refine ha W tk m S H σ en _ C (PQ.bind h fun k S1 x m1 H1 e1 A1 R1 r1 h1 => ?_)
  obtain rfl : k = x := r1
  cases k with
  | true => rw [if_pos rfl]; exact hb W tk m1 S1 H1 σ en Q (C.adv A1 R1) h1
  | false => rw [if_neg Bool.false_ne_true]; exact PQ.now h1 R1 rfl
theorem rw_or (ha : RT cm X a ta) (hb : RW cm X (.BoolOp .Or (b :: rest) pos) tb) : RW cm X (.BoolOp .Or (a :: b :: rest) pos) (tOr' ta tb) := fun W tk m S H σ en Q C h => by
  refine wW_of (pw_or pt_w pw_w) ?_
  refine ha W tk m S H σ en _ C (PQ.bind h fun k S1 x m1 H1 e1 A1 R1 r1 h1 => ?_)
  obtain rfl : k = x := r1
  cases k with
  | false => rw [if_neg Bool.false_ne_true]; exact hb W tk m1 S1 H1 σ en Q (C.adv A1 R1) h1
  | true => rw [if_pos rfl]; exact PQ.now h1 R1 rfl
theorem rt_not (ha : RT cm X a ta) : RT cm X (.UnaryOp .Not a pos) (tNot' ta) := fun W tk m S H σ en Q C h => by
  refine wT_of (pt_not pt_w) ?_
  refine ha W tk m S H σ en _ C (PQ.bind h fun k S1 x m1 H1 e1 A1 R1 r1 h1 => ?_)
  obtain rfl : k = x := r1
  exact PQ.now h1 R1 rfl
/-- and, or, not as values of bools -/
def mAnd (f g : E D) : E D := fun en S => (f en S).bind fun d S1 => match d with
  | .bl true => g en S1
  | .bl false => .ok (.bl false) S1
  | _ => .bad
def mOr (f g : E D) : E D := fun en S => (f en S).bind fun d S1 => match d with
  | .bl true => .ok (.bl true) S1
  | .bl false => g en S1
  | _ => .bad
def mNot (f : E D) : E D := fun en S => (f en S).bind fun d S1 => match d with
  | .bl b => .ok (.bl (!b)) S1
  | _ => .bad
theorem re_one {op} (ha : RE cm X a fa) : RE cm X (.BoolOp op [a] pos) fa := fun W tk m S H σ en Q C h => wE_of (pe_one pe_w) (ha W tk m S H σ en Q C h)
theorem re_and (ha : RE cm X a fa) (hb : RE cm X (.BoolOp .And (b :: rest) pos) fb) : RE cm X (.BoolOp .And (a :: b :: rest) pos) (mAnd fa fb) := fun W tk m S H σ en Q C h => by
  refine wE_of (pe_and pe_w pe_w) ?_
  refine ha W tk m S H σ en _ C (PQ.bind h fun d S1 x m1 H1 e1 A1 R1 r1 h1 => ?_)
  split at h1
  · simp only [Rep] at r1
    refine ⟨true, r1, ?_⟩
    rw [if_pos rfl]; exact hb W tk m1 S1 H1 σ en Q (C.adv A1 R1) h1
  · simp only [Rep] at r1
    refine ⟨false, r1, ?_⟩
    rw [if_neg Bool.false_ne_true]; exact PQ.now h1 R1 (by simp only [Rep])
  · exact h1.elim
theorem re_or (ha : RE cm X a fa) (hb : RE cm X (.BoolOp .Or (b :: rest) pos) fb) : RE cm X (.BoolOp .Or (a :: b :: rest) pos) (mOr fa fb) := fun W tk m S H σ en Q C h => by
  refine wE_of (pe_or pe_w pe_w) ?_
  refine ha W tk m S H σ en _ C (PQ.bind h fun d S1 x m1 H1 e1 A1 R1 r1 h1 => ?_)
  split at h1
  · simp only [Rep] at r1
    refine ⟨true, r1, ?_⟩
    rw [if_pos rfl]; exact PQ.now h1 R1 (by simp only [Rep])
  · simp only [Rep] at r1
    refine ⟨false, r1, ?_⟩
    rw [if_neg Bool.false_ne_true]; exact hb W tk m1 S1 H1 σ en Q (C.adv A1 R1) h1
  · exact h1.elim
theorem re_not (ha : RE cm X a fa) : RE cm X (.UnaryOp .Not a pos) (mNot fa) := fun W tk m S H σ en Q C h => by
  refine wE_of (pe_not pe_w) ?_
  refine ha W tk m S H σ en _ C (PQ.bind h fun d S1 x m1 H1 e1 A1 R1 r1 h1 => ?_)
  split at h1
  · simp only [Rep] at r1
    exact ⟨_, r1, PQ.now h1 R1 (by simp only [Rep])⟩
  · exact h1.elim
/-- a if t else b -/
def mIf (t : E Bool) (f g : E D) : E D := fun en S => (t en S).bind fun b S1 => match b with
  | true => f en S1
  | false => g en S1
theorem re_if {c : Expr} {t : E Bool} (hc : RT cm X c t) (ha : RE cm X a fa) (hb : RE cm X b fb) : RE cm X (.IfExp c a b pos) (mIf t fa fb) := fun W tk m S H σ en Q C h => by
  refine wE_of (pe_ifExp pt_w pe_w pe_w) ?_
  refine hc W tk m S H σ en _ C (PQ.bind h fun k S1 x m1 H1 e1 A1 R1 r1 h1 => ?_)
  obtain rfl : k = x := r1
  cases k with
  | true => rw [if_pos rfl]; exact ha W tk m1 S1 H1 σ en Q (C.adv A1 R1) h1
  | false => rw [if_neg Bool.false_ne_true]; exact hb W tk m1 S1 H1 σ en Q (C.adv A1 R1) h1
end

/-! ### argument lists, displays -/
def aNil : E (List D) := fun _ S => .ok [] S
def aCons (f : E D) (g : E (List D)) : E (List D) := fun en S => (f en S).bind fun d S1 => (g en S1).bind fun l S2 => .ok (d :: l) S2
section
variable {cm : Cm} {X : Cx} {pos : Pos} {e : Expr} {es : List Expr} {f : E D} {g : E (List D)}
theorem ra_nil : RA cm X [] aNil := fun W tk m S H σ en Q C h => wA_of pa_nil (h.now C.rel Reps.nil)
theorem ra_cons (h1 : RE cm X e f) (h2 : RA cm X es g) (hs : starEach (e :: es) X.env = (false, eval e X.env) :: starEach es X.env := by rfl) : RA cm X (e :: es) (aCons f g) := fun W tk m S H σ en Q C h => by
  refine wA_of (pa_cons pe_w pa_w hs) ?_
  refine h1 W tk m S H σ en _ C (PQ.bind h fun d S1 x m1 H1 e1 A1 R1 r1 k1 => ?_)
  refine h2 W tk m1 S1 H1 σ en _ (C.adv A1 R1) (PQ.bind k1 fun l S2 xs m2 H2 e2 A2 R2 r2 k2 => ?_)
  exact PQ.now k2 R2 (Reps.cons (Rep.adv A2 _ _ r1) r2)
/-- (a, b, ..); [a, b, ..] as a value; as a cell -/
def mTup (g : E (List D)) : E D := fun en S => (g en S).bind fun l S1 => if l.length ≤ sizeLine then .ok (.tup l) S1 else .bad
def mLst (g : E (List D)) : E D := fun en S => (g en S).bind fun l S1 => if l.length ≤ sizeLine then .ok (.lst l) S1 else .bad
def mLstN (g : E (List D)) : E D := fun en S => (g en S).bind fun l S1 => if l.length ≤ sizeLine then .ok (.ref S1.length) (S1 ++ [some (.lst l)]) else .bad
def Am.put (m : Am) (k : Nat) (a : Addr) : Am := { m with p := fun n => if n = k then a else m.p n }
theorem new_adv {m : Am} {S : So} {H : Hp} {p : Addr} {u : HO} {o : Ob} (hp : H p = none) : Adv m S H (m.put S.length p) (S ++ [some o]) (upd H p u) := by
  refine ⟨by simp, fun n hn => by simp [Am.put, Nat.ne_of_lt hn], fun n v e => ?_, fun a v h f => .inl (grow_upd hp a v h), fun a h z => ?_, fun a xs h => grow_upd hp a _ h, fun a o u h => grow_upd hp a _ h, fun _ h => h, fun _ h => .inl h, fun a o _ h => grow_upd hp a _ h⟩
  · by_cases hn : n < S.length
    · rw [List.getElem?_append_left hn] at e
      exact .inl ⟨hn, v, e⟩
    · have hl : n < (S ++ [some o]).length := (List.getElem?_eq_some_iff.mp e).1
      have e' : n = S.length := by simp at hl; omega
      exact .inr ⟨by omega, by simp [Am.put, e', hp]⟩
  · by_cases e : a = p
    · subst e; exact h hp
    · rw [upd_ne e] at z; exact h z
/-- a new cell -/
theorem new_cell {cm : Ct} {m : Am} {S : So} {H : Hp} {p : Addr} {u : HO} {o : Ob} (R : RelS cm m S H) (hp : H p = none)
    (ho : ∀ m' S' H', Adv m S H m' S' H' → H' p = some u → ObAt cm m' S' H' p o) : RelS cm (m.put S.length p) (S ++ [some o]) (upd H p u) := by
  have A : Adv m S H (m.put S.length p) (S ++ [some o]) (upd H p u) := new_adv hp
  have cases_ : ∀ (n : Nat) (v : Ob), (S ++ [some o])[n]? = some (some v) → (n < S.length ∧ S[n]? = some (some v)) ∨ (n = S.length ∧ v = o) := fun n v e => by
    by_cases hn : n < S.length
    · rw [List.getElem?_append_left hn] at e
      exact .inl ⟨hn, e⟩
    · have hl : n < (S ++ [some o]).length := (List.getElem?_eq_some_iff.mp e).1
      have e' : n = S.length := by simp at hl; omega
      subst e'
      simp at e
      exact .inr ⟨rfl, e.symm⟩
  refine ⟨fun n v e => ?_, fun n k v w e1 e2 q => ?_, fun a h => A.tr a (R.hid a h), fun a h k v e z => by
    rcases cases_ k v e with ⟨hk, e⟩ | ⟨hk, rfl⟩
    · simp only [Am.put, Nat.ne_of_lt hk, if_false] at z
      exact R.hoff a h k v e z
    · simp only [Am.put, hk, if_true] at z
      exact R.hid a h (by rw [← z]; exact hp)⟩
  · rcases cases_ n v e with ⟨hn, e⟩ | ⟨hn, rfl⟩
    · have h := R.at_ n v e
      have nm : (m.put S.length p).p n = m.p n := by simp [Am.put, Nat.ne_of_lt hn]
      rw [nm]
      cases v with
      | lst l =>
        obtain ⟨vs, h1, h2⟩ := h
        exact ⟨vs, grow_upd hp _ _ h1, Reps.adv A l vs h2⟩
      | dct ks l =>
        obtain ⟨kvs, h1, h2, h3⟩ := h
        exact ⟨kvs, grow_upd hp _ _ h1, h2, Reps.adv A l _ h3⟩
      | ins c ks l =>
        obtain ⟨C, dx, fs, hc, h1, h2, h3⟩ := h
        exact ⟨C, dx, fs, hc, grow_upd hp _ _ h1, h2, Reps.adv A l _ h3⟩
      | tt l => exact grow_upd hp _ _ h
      | tdt ks => exact grow_upd hp _ _ h
    · have nm : (m.put S.length p).p n = p := by simp [Am.put, hn]
      rw [nm]
      exact ho _ _ _ A upd_same
  · rcases cases_ n v e1 with ⟨hn, e1⟩ | ⟨hn, rfl⟩ <;> rcases cases_ k w e2 with ⟨hk, e2⟩ | ⟨hk, rfl⟩
    · simp only [Am.put, Nat.ne_of_lt hn, Nat.ne_of_lt hk, if_false] at q
      exact R.inj n k v w e1 e2 q
    · skip
      simp only [Am.put, Nat.ne_of_lt hn, hk, if_false, if_true] at q
      exact absurd q (R.off_new hp n v (by assumption))
    · simp only [Am.put, Nat.ne_of_lt hk, hn, if_false, if_true] at q
      exact absurd q.symm (R.off_new hp k w (by assumption))
    · omega
theorem re_tup {k} (h : RA cm X es g) : RE cm X (.Tuple es k pos) (mTup g) := fun W tk m S H σ en Q C hq => by
  refine wE_of (pe_tup pa_w) ?_
  refine h W tk m S H σ en _ C (PQ.bind hq fun l S1 xs m1 H1 e1 A1 R1 r1 k1 => ?_)
  split at k1
  · rename_i hl
    refine ⟨by rw [← Reps.length r1]; exact hl, fun p hp => ?_⟩
    refine PQ.grown k1 R1 (grow_upd hp) fun R2 => ?_
    simp only [Rep]
    exact ⟨p, xs, rfl, .inl (.inl upd_same), Reps.adv (Adv.new hp) _ _ r1⟩
  · exact k1.elim
theorem re_lst (h : RA cm X es g) : RE cm X (.List es pos) (mLst g) := fun W tk m S H σ en Q C hq => by
  refine wE_of (pe_lst pa_w) ?_
  refine h W tk m S H σ en _ C (PQ.bind hq fun l S1 xs m1 H1 e1 A1 R1 r1 k1 => ?_)
  split at k1
  · rename_i hl
    refine ⟨by rw [← Reps.length r1]; exact hl, fun p hp => ?_⟩
    refine PQ.grown k1 R1 (grow_upd hp) fun R2 => ?_
    simp only [Rep]
    exact ⟨p, xs, rfl, upd_same, R1.free_new hp, Reps.adv (Adv.new hp) _ _ r1⟩
  · exact k1.elim
theorem PQ.cell {cm : Ct} {σ : St} {W : WX} {m : Am} {S : So} {H : Hp} {p : Addr} {u : HO} {o : Ob} {Q : VK} (k : PQ (Rep cm) cm m S H σ W (.ok (.ref S.length) (S ++ [some o])) Q) (R : RelS cm m S H) (hp : H p = none)
    (ho : ∀ m' S' H', Adv m S H m' S' H' → H' p = some u → ObAt cm m' S' H' p o) : Q (.ref p) (upd H p u) :=
  k (.ref p) _ _ (new_adv hp) (new_cell R hp ho) (by simp [Rep, Am.put])
theorem re_lstN (h : RA cm X es g) : RE cm X (.List es pos) (mLstN g) := fun W tk m S H σ en Q C hq => by
  refine wE_of (pe_lst pa_w) ?_
  refine h W tk m S H σ en _ C (PQ.bind hq fun l S1 xs m1 H1 e1 A1 R1 r1 k1 => ?_)
  split at k1
  · rename_i hl
    refine ⟨by rw [← Reps.length r1]; exact hl, fun p hp => ?_⟩
    exact PQ.cell k1 R1 hp fun m' S' H' A e => ⟨xs, e, Reps.adv A _ _ r1⟩
  · exact k1.elim
end
end Mi

/-! Mi2: operators on deep data. -/
namespace Mi
open PySem PySem.Spec PyProof.Rows L2

/-! ### what may be read as a list, a sequence -/
def lstOf (d : D) (S : So) : Option (List D) := match d with
  | .lst l => some l
  | .ref n => match S[n]? with
    | some (some (.lst l)) => some l
    | _ => none
  | _ => none
def seqOf (d : D) (S : So) : Option (List D) := match d with
  | .lst l => some l
  | .tup l => some l
  | .scr ns => some (ns.map D.int)
  | .ref n => match S[n]? with
    | some (some (.lst l)) => some l
    | _ => none
  | _ => none
section
variable {cm : Ct} {m : Am} {S : So} {H : Hp} {d : D} {x : V} {l : List D}
theorem lst_at (R : RelS cm m S H) (r : Rep cm m S H d x) (h : lstOf d S = some l) : ∃ a vs, x = .ref a ∧ H a = some (.lst vs) ∧ Reps cm m S H l vs := by
  cases d with
  | lst k =>
    simp only [lstOf, Option.some.injEq] at h
    subst h
    simp only [Rep] at r
    obtain ⟨a, vs, e, h1, _, h3⟩ := r
    exact ⟨a, vs, e, h1, h3⟩
  | ref n =>
    simp only [lstOf] at h
    split at h
    · rename_i k e
      simp only [Option.some.injEq] at h
      subst h
      simp only [Rep] at r
      obtain ⟨vs, h1, h2⟩ := R.at_ n _ e
      exact ⟨m.p n, vs, r.2, h1, h2⟩
    · cases h
  | _ => simp [lstOf] at h
theorem reps_ints : ∀ (ns : List Int), Reps cm m S H (ns.map D.int) (ns.map V.int)
  | [] => Reps.nil
  | n :: ns => Reps.cons (by simp only [Rep]) (reps_ints ns)
theorem seq_at (R : RelS cm m S H) (r : Rep cm m S H d x) (h : seqOf d S = some l) : ∃ a vs, x = .ref a ∧ (SqL cm.K H a vs ∨ SqT cm.K H a vs) ∧ Reps cm m S H l vs := by
  cases d with
  | lst k =>
    simp only [seqOf, Option.some.injEq] at h
    subst h
    simp only [Rep] at r
    obtain ⟨a, vs, e, h1, _, h3⟩ := r
    exact ⟨a, vs, e, .inl (.inl (.inl h1)), h3⟩
  | tup k =>
    simp only [seqOf, Option.some.injEq] at h
    subst h
    simp only [Rep] at r
    obtain ⟨a, vs, e, h1, h3⟩ := r
    exact ⟨a, vs, e, .inr h1, h3⟩
  | scr ns =>
    simp only [seqOf, Option.some.injEq] at h
    subst h
    simp only [Rep] at r
    obtain ⟨a, e, h1⟩ := r
    exact ⟨a, _, e, .inl h1.l, reps_ints ns⟩
  | ref n =>
    simp only [seqOf] at h
    split at h
    · rename_i k e
      simp only [Option.some.injEq] at h
      subst h
      simp only [Rep] at r
      obtain ⟨vs, h1, h2⟩ := R.at_ n _ e
      exact ⟨m.p n, vs, r.2, .inl (.inl (.inl h1)), h2⟩
    · cases h
  | _ => simp [seqOf] at h
/-- a new list as a value, a new tuple -/
theorem POk.lst {p : Addr} {vs : List V} {Q : VK} (h : POk (Rep cm) cm m S H (some (.lst l, S)) Q) (R : RelS cm m S H) (hp : H p = none) (r : Reps cm m S H l vs) : Q (.ref p) (upd H p (.lst vs)) :=
  h.at (Adv.new hp) (R.grow (grow_upd hp)) (by
    simp only [Rep]
    exact ⟨p, vs, rfl, upd_same, R.free_new hp, Reps.adv (Adv.new hp) _ _ r⟩)
theorem POk.tup {p : Addr} {vs : List V} {Q : VK} (h : POk (Rep cm) cm m S H (some (.tup l, S)) Q) (R : RelS cm m S H) (hp : H p = none) (r : Reps cm m S H l vs) : Q (.ref p) (upd H p (.tup vs)) :=
  h.at (Adv.new hp) (R.grow (grow_upd hp)) (by
    simp only [Rep]
    exact ⟨p, vs, rfl, .inl (.inl upd_same), Reps.adv (Adv.new hp) _ _ r⟩)
theorem POk.int {i : Int} {Q : VK} (h : POk (Rep cm) cm m S H (some (.int i, S)) Q) (R : RelS cm m S H) : Q (.int i) H := h.now R (by simp only [Rep])
theorem POk.bl {i : Bool} {Q : VK} (h : POk (Rep cm) cm m S H (some (.bl i, S)) Q) (R : RelS cm m S H) : Q (.bl i) H := h.now R (by simp only [Rep])
theorem POk.str {i : Str} {Q : VK} (h : POk (Rep cm) cm m S H (some (.str i, S)) Q) (R : RelS cm m S H) : Q (.str i) H := h.now R (by simp only [Rep])
end

/-! ### arithmetic -/
def dAdd : Op2 := fun a b S => match a, b with
  | .int i, .int j => some (.int (i + j), S)
  | .str i, .str j => if i.length + j.length ≤ sizeLine then some (.str (i ++ j), S) else none
  | .tup l, .tup k => if l.length + k.length ≤ sizeLine then some (.tup (l ++ k), S) else none
  | a, b => match lstOf a S, lstOf b S with
    | some l, some k => if l.length + k.length ≤ sizeLine then some (.lst (l ++ k), S) else none
    | _, _ => none
def dSub : Op2 := fun a b S => match a, b with
  | .int i, .int j => some (.int (i - j), S)
  | _, _ => none
def small64i (i : Int) : Bool := decide (-(2 ^ 64) < i) && decide (i < 2 ^ 64)
def dMul : Op2 := fun a b S => match a, b with
  | .int i, .int j => if small64i i || small64i j then some (.int (i * j), S) else if i.natAbs.log2 + j.natAbs.log2 < 1000000 then some (.int (i * j), S) else none
  | .tup l, .int k => if l ≠ [] ∧ 2 ≤ k ∧ k ≤ 1000 ∧ l.length ≤ 1000 then some (.tup (List.replicate k.toNat l).flatten, S) else none
  | a, .int k => match lstOf a S with
    | some l => if 0 ≤ k ∧ k < 2 ^ 63 ∧ l.length * k.toNat ≤ sizeLine then some (.lst (List.replicate k.toNat l).flatten, S) else none
    | none => none
  | _, _ => none
def dDiv : Op2 := fun a b S => match a, b with
  | .int i, .int j => if 0 < j ∧ j.natAbs.log2 < 9000 then some (.int (i / j), S) else none
  | _, _ => none
def dMod : Op2 := fun a b S => match a, b with
  | .int i, .int j => if 0 < j then some (.int (i % j), S) else none
  | _, _ => none
def dPow : Op2 := fun a b S => match a, b with
  | .int i, .int j => if 0 ≤ j ∧ (Builtin.Int.intBits i : Int) * j ≤ 2 ^ 27 then some (.int (i ^ j.toNat), S) else none
  | _, _ => none
def dNeg : Op1 := fun a S => match a with
  | .int i => some (.int (-i), S)
  | _ => none
theorem Reps.rep {cm : Ct} {m : Am} {S : So} {H : Hp} {l : List D} {vs : List V} (h : Reps cm m S H l vs) : ∀ k : Nat, Reps cm m S H (List.replicate k l).flatten (List.replicate k vs).flatten
  | 0 => by simp [Reps]
  | k + 1 => by
    rw [List.replicate_succ, List.replicate_succ, List.flatten_cons, List.flatten_cons]
    exact h.append (Reps.rep h k)
section
variable {cm : Cm} {X : Cx}
theorem od_add : OpD cm X (binaryOp .Add) dAdd := fun m S H a b x y Q R ra rb h => by
  unfold dAdd at h
  split at h
  · simp only [Rep] at ra rb
    exact wO2_of op_add ⟨_, _, ra, rb, h.int R⟩
  · simp only [Rep] at ra rb
    split at h
    · rename_i hl
      exact wO2_of op_add_str ⟨_, _, ra, rb, hl, h.str R⟩
    · exact h.no.elim
  · rename_i l k
    simp only [Rep] at ra rb
    split at h
    · rename_i hl
      obtain ⟨p, xs, rfl, hx, rx⟩ := ra
      obtain ⟨q, ys, rfl, hy, ry⟩ := rb
      refine wO2_of op_catA ⟨p, q, xs, ys, rfl, rfl, hx, hy, by rw [← rx.length, ← ry.length]; exact hl, fun e => ?_, fun _ e => ?_, fun _ _ z hz => ?_⟩
      · subst e
        have e : l = [] := List.eq_nil_of_length_eq_zero rx.length
        subst e
        exact h.now R (by simp only [Rep]; exact ⟨q, ys, rfl, hy, ry⟩)
      · subst e
        have e : k = [] := List.eq_nil_of_length_eq_zero ry.length
        subst e
        exact h.now R (by simp only [Rep, List.append_nil]; exact ⟨p, xs, rfl, hx, rx⟩)
      · exact h.tup R hz (rx.append ry)
    · exact h.no.elim
  · split at h
    · rename_i l k e1 e2
      split at h
      · rename_i hl
        obtain ⟨p, xs, rfl, hx, rx⟩ := lst_at R ra e1
        obtain ⟨q, ys, rfl, hy, ry⟩ := lst_at R rb e2
        exact wO2_of op_cat ⟨p, q, xs, ys, rfl, rfl, hx, hy, by rw [← rx.length, ← ry.length]; exact hl, fun z hz => h.lst R hz (rx.append ry)⟩
      · exact h.no.elim
    · exact h.no.elim
theorem od_sub : OpD cm X (binaryOp .Sub) dSub := fun m S H a b x y Q R ra rb h => by
  unfold dSub at h
  split at h
  · simp only [Rep] at ra rb
    exact wO2_of op_sub ⟨_, _, ra, rb, h.int R⟩
  · exact h.no.elim
theorem od_mul : OpD cm X (binaryOp .Mult) dMul := fun m S H a b x y Q R ra rb h => by
  unfold dMul at h
  split at h
  · simp only [Rep] at ra rb
    split at h
    · rename_i hc
      refine wO2_of op_mul ⟨_, _, ra, rb, ?_, h.int R⟩
      unfold small64i at hc
      simp only [Bool.or_eq_true, Bool.and_eq_true, decide_eq_true_eq] at hc
      exact hc
    · split at h
      · rename_i hc
        exact wO2_of op_mulW ⟨_, _, ra, rb, hc, h.int R⟩
      · exact h.no.elim
  · rename_i l k
    split at h
    · rename_i hc
      simp only [Rep] at ra rb
      obtain ⟨p, xs, rfl, hx, rx⟩ := ra
      have e := rx.length
      exact wO2_of (op_repT) ⟨p, k, xs, rfl, rb, hx, fun z => hc.1 (List.eq_nil_of_length_eq_zero (by rw [e, z]; rfl)), hc.2.1, hc.2.2.1, by rw [← e]; exact hc.2.2.2, fun z hz => h.tup R hz (rx.rep _)⟩
    · exact h.no.elim
  · rename_i k _ _
    split at h
    · rename_i l e1
      split at h
      · rename_i hc
        obtain ⟨p, xs, rfl, hx, rx⟩ := lst_at R ra e1
        simp only [Rep] at rb
        exact wO2_of op_rep ⟨p, k, xs, rfl, rb, hx, by have := hc.1; omega, hc.2.1, by rw [← rx.length]; exact hc.2.2, fun z hz => h.lst R hz (rx.rep _)⟩
      · exact h.no.elim
    · exact h.no.elim
  · exact h.no.elim
theorem od_div : OpD cm X (binaryOp .FloorDiv) dDiv := fun m S H a b x y Q R ra rb h => by
  unfold dDiv at h
  split at h
  · split at h
    · rename_i hc
      simp only [Rep] at ra rb
      exact wO2_of op_fdivW ⟨_, _, ra, rb, hc, h.int R⟩
    · exact h.no.elim
  · exact h.no.elim
theorem od_mod : OpD cm X (binaryOp .Mod) dMod := fun m S H a b x y Q R ra rb h => by
  unfold dMod at h
  split at h
  · split at h
    · rename_i hc
      simp only [Rep] at ra rb
      exact wO2_of op_mod ⟨_, _, ra, rb, hc, h.int R⟩
    · exact h.no.elim
  · exact h.no.elim
theorem op_powG : OpR X (binaryOp .Pow) (rI (fun i j => 0 ≤ j ∧ (Builtin.Int.intBits i : Int) * j ≤ 2 ^ 27) fun i j => .int (i ^ j.toNat)) := opI fun _ _ _ _ _ _ _ hc q => PyProof.Rows.pow_int hc.1 hc.2 q
theorem od_pow : OpD cm X (binaryOp .Pow) dPow := fun m S H a b x y Q R ra rb h => by
  unfold dPow at h
  split at h
  · split at h
    · rename_i hc
      simp only [Rep] at ra rb
      exact wO2_of op_powG ⟨_, _, ra, rb, hc, h.int R⟩
    · exact h.no.elim
  · exact h.no.elim
theorem ud_neg : UnD cm X (unaryOp .USub) dNeg := fun m S H a x Q R ra h => by
  unfold dNeg at h
  split at h
  · simp only [Rep] at ra
    exact wO1_of un_neg ⟨_, ra, h.int R⟩
  · exact h.no.elim
end

/-! ### order -/
def dCmp (pi : Int → Int → Bool) (ps : Str → Str → Bool) : Op2 := fun a b S => match a, b with
  | .int i, .int j => some (.bl (pi i j), S)
  | .str i, .str j => some (.bl (ps i j), S)
  | _, _ => none
def sLt (i j : Str) : Bool := decide (i.cps.toList < j.cps.toList)
def sLe (i j : Str) : Bool := !decide (j.cps.toList < i.cps.toList)
def dLt : Op2 := dCmp (fun i j => decide (i < j)) sLt
def dLe : Op2 := dCmp (fun i j => decide (i ≤ j)) sLe
def dGt : Op2 := dCmp (fun i j => decide (j < i)) fun i j => sLt j i
def dGe : Op2 := dCmp (fun i j => decide (j ≤ i)) fun i j => sLe j i
section
variable {cm : Cm} {X : Cx}
theorem od_cmp {f : Value → Value → Sem Value} {pi : Int → Int → Bool} {ps : Str → Str → Bool} (h1 : OpR X f (rI0 fun i j => .bl (pi i j))) (h2 : OpR X f (fun x y H Q => ∃ i j, x = .str i ∧ y = .str j ∧ Q (.bl (ps i j)) H)) : OpD cm X f (dCmp pi ps) := fun m S H a b x y Q R ra rb h => by
  unfold dCmp at h
  split at h
  · simp only [Rep] at ra rb
    exact wO2_of h1 ⟨_, _, ra, rb, h.bl R⟩
  · simp only [Rep] at ra rb
    exact wO2_of h2 ⟨_, _, ra, rb, h.bl R⟩
  · exact h.no.elim
theorem od_lt : OpD cm X (compareOp .Lt) dLt := od_cmp op_lt op_lt_str
theorem od_le : OpD cm X (compareOp .LtE) dLe := od_cmp op_le op_le_str
theorem od_gt : OpD cm X (compareOp .Gt) dGt := od_cmp op_gt op_gt_str
theorem od_ge : OpD cm X (compareOp .GtE) dGe := od_cmp op_ge op_ge_str
end

/-! ### equality of data -/
mutual
/-- as the library's data; none: not such -/
def toP : D → Option PyData
  | .non => some .none
  | .bl b => some (.bool b)
  | .int i => some (.int i)
  | .str s => some (.str s)
  | .tup l => match toPs l with
    | some ps => some (.tuple ps)
    | none => none
  | .lst l => match toPs l with
    | some ps => some (.list ps)
    | none => none
  | _ => none
def toPs : List D → Option (List PyData)
  | [] => some []
  | d :: l => match toP d, toPs l with
    | some p, some ps => some (p :: ps)
    | _, _ => none
end
/-- one with cells at its top -/
def toPt (d : D) (S : So) : Option PyData := match d with
  | .ref n => match S[n]? with
    | some (some (.lst l)) => match toPs l with
      | some ps => some (.list ps)
      | none => none
    | _ => none
  | d => toP d
section
variable {cm : Ct} {m : Am} {S : So} {H : Hp}
mutual
theorem toP_dp : ∀ (d : D) (v : V) (p : PyData), Rep cm m S H d v → toP d = some p → Dp cm.K H v p
  | .non, v, p, h, e => by
    simp only [Rep] at h; subst h
    simp only [toP, Option.some.injEq] at e; subst e
    exact .non
  | .bl b, v, p, h, e => by
    simp only [Rep] at h; subst h
    simp only [toP, Option.some.injEq] at e; subst e
    exact .bl b
  | .int b, v, p, h, e => by
    simp only [Rep] at h; subst h
    simp only [toP, Option.some.injEq] at e; subst e
    exact .int b
  | .str b, v, p, h, e => by
    simp only [Rep] at h; subst h
    simp only [toP, Option.some.injEq] at e; subst e
    exact .str b
  | .tup l, v, p, h, e => by
    simp only [Rep] at h
    obtain ⟨a, vs, rfl, h1, h2⟩ := h
    simp only [toP] at e
    split at e
    · rename_i ps eq
      simp only [Option.some.injEq] at e; subst e
      exact .tup h1 (toPs_dp l vs ps h2 eq)
    · cases e
  | .lst l, v, p, h, e => by
    simp only [Rep] at h
    obtain ⟨a, vs, rfl, h1, _, h2⟩ := h
    simp only [toP] at e
    split at e
    · rename_i ps eq
      simp only [Option.some.injEq] at e; subst e
      exact .lst (.inl (.inl h1)) (toPs_dp l vs ps h2 eq)
    · cases e
  | .dct _ _, _, _, _, e => by simp [toP] at e
  | .ins _ _ _, _, _, _, e => by simp [toP] at e
  | .ref _, _, _, _, e => by simp [toP] at e
  | .scr _, _, _, _, e => by simp [toP] at e
  | .exc _ _ _, _, _, _, e => by simp [toP] at e
  | .cls _, _, _, _, e => by simp [toP] at e
theorem toPs_dp : ∀ (l : List D) (vs : List V) (ps : List PyData), Reps cm m S H l vs → toPs l = some ps → DpAll cm.K H vs ps
  | [], vs, ps, h, e => by
    simp only [Reps] at h; subst h
    simp only [toPs, Option.some.injEq] at e; subst e
    exact .nil
  | d :: l, vs, ps, h, e => by
    simp only [Reps] at h
    obtain ⟨v, r, rfl, h1, h2⟩ := h
    simp only [toPs] at e
    split at e
    · rename_i p qs e1 e2
      simp only [Option.some.injEq] at e; subst e
      exact .cons (toP_dp d v p h1 e1) (toPs_dp l r qs h2 e2)
    · cases e
end
theorem toPt_dp {d : D} {v : V} {p : PyData} (R : RelS cm m S H) (h : Rep cm m S H d v) (e : toPt d S = some p) : Dp cm.K H v p := by
  unfold toPt at e
  split at e
  · split at e
    · rename_i n l e1
      split at e
      · rename_i ps eq
        simp only [Option.some.injEq] at e; subst e
        simp only [Rep] at h
        obtain ⟨vs, h1, h2⟩ := R.at_ _ _ e1
        rw [h.2]
        exact .lst (.inl (.inl h1)) (toPs_dp l vs ps h2 eq)
      · cases e
    · cases e
  · exact toP_dp d v p h e
end
def dEqP (a b : D) (S : So) : Option Bool := match toPt a S, toPt b S with
  | some p, some q => if SeqAt.shaped p && SeqAt.shaped q then some (PyData.eqv p q) else none
  | _, _ => none
def dEq : Op2 := fun a b S => match dEqP a b S with
  | some k => some (.bl k, S)
  | none => none
def dNe : Op2 := fun a b S => match dEqP a b S with
  | some k => some (.bl (!k), S)
  | none => none
section
variable {cm : Cm} {X : Cx}
theorem eqP_run {m : Am} {S : So} {H : Hp} {a b : D} {x y : V} {k : Bool} (R : RelS (ct X cm) m S H) (ra : Rep (ct X cm) m S H a x) (rb : Rep (ct X cm) m S H b y) (e : dEqP a b S = some k) :
    ∃ d e, Dp X.K H x d ∧ Dp X.K H y e ∧ SeqAt.shaped d = true ∧ SeqAt.shaped e = true ∧ PyData.eqv d e = k := by
  unfold dEqP at e
  split at e
  · rename_i p q e1 e2
    split at e
    · rename_i hc
      simp only [Bool.and_eq_true] at hc
      exact ⟨p, q, toPt_dp (cm := ct X cm) R ra e1, toPt_dp (cm := ct X cm) R rb e2, hc.1, hc.2, Option.some.inj e⟩
    · cases e
  · cases e
theorem od_eq (hu : X.A.units + 64 < cLine) : OpD cm X (compareOp .Eq) dEq := fun m S H a b x y Q R ra rb h => by
  unfold dEq at h
  split at h
  · rename_i k e
    obtain ⟨d, e', h1, h2, h3, h4, h5⟩ := eqP_run R ra rb e
    refine wO2_of (op_eqD hu) ⟨d, e', h1, h2, h3, h4, ?_⟩
    rw [h5]
    exact h.bl R
  · exact h.no.elim
theorem od_ne (hu : X.A.units + 64 < cLine) : OpD cm X (compareOp .NotEq) dNe := fun m S H a b x y Q R ra rb h => by
  unfold dNe at h
  split at h
  · rename_i k e
    obtain ⟨d, e', h1, h2, h3, h4, h5⟩ := eqP_run R ra rb e
    refine wO2_of (op_neD hu) ⟨d, e', h1, h2, h3, h4, ?_⟩
    rw [h5]
    exact h.bl R
  · exact h.no.elim
end

/-! ### is None -/
def isNon (d : D) : Bool := match d with
  | .non => true
  | _ => false
def dIsN : Op2 := fun a b S => match b with
  | .non => some (.bl (isNon a), S)
  | _ => none
def dNotN : Op2 := fun a b S => match b with
  | .non => some (.bl (!isNon a), S)
  | _ => none
theorem isNon_v {cm : Ct} {m : Am} {S : So} {H : Hp} {a : D} {x : V} (r : Rep cm m S H a x) : decide (x = .non) = isNon a := by
  cases a with
  | non => simp only [Rep] at r; subst r; rfl
  | bl _ => simp only [Rep] at r; subst r; rfl
  | int _ => simp only [Rep] at r; subst r; rfl
  | str _ => simp only [Rep] at r; subst r; rfl
  | tup _ => simp only [Rep] at r; obtain ⟨a, vs, rfl, _⟩ := r; rfl
  | lst _ => simp only [Rep] at r; obtain ⟨a, vs, rfl, _⟩ := r; rfl
  | dct _ _ => simp only [Rep] at r; obtain ⟨a, vs, rfl, _⟩ := r; rfl
  | ins _ _ _ => simp only [Rep] at r; obtain ⟨a, C, dx, fs, rfl, _⟩ := r; rfl
  | ref _ => simp only [Rep] at r; obtain ⟨_, rfl⟩ := r; rfl
  | scr _ => simp only [Rep] at r; obtain ⟨a, rfl, _⟩ := r; rfl
  | exc _ _ _ => simp only [Rep] at r; obtain ⟨a, C, rfl, _⟩ := r; rfl
  | cls _ => simp only [Rep] at r; obtain ⟨C, rfl, _⟩ := r; rfl
section
variable {cm : Cm} {X : Cx}
theorem od_isN : OpD cm X (compareOp .Is) dIsN := fun m S H a b x y Q R ra rb h => by
  unfold dIsN at h
  split at h
  · simp only [Rep] at rb
    refine wO2_of op_isN ⟨rb, ?_⟩
    rw [isNon_v ra]
    exact h.bl R
  · exact h.no.elim
theorem od_notN : OpD cm X (compareOp .IsNot) dNotN := fun m S H a b x y Q R ra rb h => by
  unfold dNotN at h
  split at h
  · simp only [Rep] at rb
    refine wO2_of op_notN ⟨rb, ?_⟩
    rw [isNon_v ra]
    exact h.bl R
  · exact h.no.elim
end

/-! ### chains: a < b < c -/
def mChain (g g' : Op2) (fa fb fc : E D) : E D := fun en S => (fa en S).bind fun a S1 => (fb en S1).bind fun b S2 => match g a b S2 with
  | some (.bl true, S3) => (fc en S3).bind fun c S4 => R.of (g' b c S4)
  | some (.bl false, S3) => .ok (.bl false) S3
  | _ => .bad
section
variable {cm : Cm} {X : Cx} {a b c : Expr} {fa fb fc : E D} {pos : Pos}
theorem chain_run {op op' : CmpOp} {g g' : Op2} (ho : OpD cm X (compareOp op) g) (ho' : OpD cm X (compareOp op') g') (ha : RE cm X a fa) (hb : RE cm X b fb) (hc : RE cm X c fc)
    {W : WX} (tk : Takes X W) {m : Am} {S : So} {H : Hp} {σ : St} {en : En} {Q : VK} (C : Cond (ct X cm) m S H σ en) (h : PQ (Rep (ct X cm)) (ct X cm) m S H σ W (mChain g g' fa fb fc en S) Q) :
    tChain (wO2 X (compareOp op)) (wO2 X (compareOp op')) (wE X a) (wE X b) (wE X c) σ H Q := by
  refine ha W tk m S H σ en _ C (PQ.bind h fun da S1 x m1 H1 e1 A1 R1 r1 k1 => ?_)
  refine hb W tk m1 S1 H1 σ en _ (C.adv A1 R1) (PQ.bind k1 fun db S2 y m2 H2 e2 A2 R2 r2 k2 => ?_)
  split at k2
  · rename_i S3 e3
    refine ho m2 S2 H2 da db x y _ R2 (Rep.adv A2 _ _ r1) r2 ?_
    rw [e3]
    intro σ' W' z m3 H3 A3 R3 r3
    simp only [Rep] at r3
    refine ⟨true, r3, ?_⟩
    rw [if_pos rfl]
    have k3 := PQ.after A3 k2
    refine hc W tk m3 S3 H3 σ en _ (((C.adv A1 R1).adv A2 R2).adv A3 R3) (PQ.bind k3 fun dc S4 w m4 H4 e4 A4 R4 r4 k4 => ?_)
    exact ho' m4 S4 H4 db dc y w Q R4 (Rep.adv (A3.trans A4) _ _ r2) r4 k4.pok
  · rename_i S3 e3
    refine ho m2 S2 H2 da db x y _ R2 (Rep.adv A2 _ _ r1) r2 ?_
    rw [e3]
    intro σ' W' z m3 H3 A3 R3 r3
    simp only [Rep] at r3
    refine ⟨false, r3, ?_⟩
    rw [if_neg Bool.false_ne_true]
    exact k2 _ m3 H3 A3 R3 (by simp only [Rep])
  · exact k2.elim
theorem re_chain {op op' : CmpOp} {g g' : Op2} (ho : OpD cm X (compareOp op) g) (ho' : OpD cm X (compareOp op') g') (ha : RE cm X a fa) (hb : RE cm X b fb) (hc : RE cm X c fc)
    (hm : lastMarks [op, op'] [b, c] = false := by with_unfolding_all rfl) : RE cm X (.Compare a [op, op'] [b, c] pos) (mChain g g' fa fb fc) := fun W tk m S H σ en Q C h =>
  wE_of (pe_chain op_w op_w pe_w pe_w pe_w hm) (chain_run ho ho' ha hb hc tk C h)
theorem rt_chain {op op' : CmpOp} {g g' : Op2} (ho : OpD cm X (compareOp op) g) (ho' : OpD cm X (compareOp op') g') (ha : RE cm X a fa) (hb : RE cm X b fb) (hc : RE cm X c fc)
    (hm : lastMarks [op, op'] [b, c] = false := by with_unfolding_all rfl) : RT cm X (.Compare a [op, op'] [b, c] pos) (tB' (mChain g g' fa fb fc)) := fun W tk m S H σ en Q C h => by
  refine wT_of (pt_chain op_w op_w pe_w pe_w pe_w hm) (chain_run ho ho' ha hb hc tk C (PQ.bind h fun da S1 x m1 H1 e1 A1 R1 r1 h1 => ?_))
  unfold asB at h1
  split at h1
  · simp only [Rep] at r1
    exact ⟨_, r1, PQ.now h1 R1 rfl⟩
  · exact h1.elim
end
end Mi

/-! Mi3: subscripts, slices, membership, built-in calls. -/
namespace Mi
open PySem PySem.Spec PyProof.Rows L2

/-! ### dicts -/
def keyOf (d : D) : Option Key := match d with
  | .int i => some (.inl i)
  | .str s => some (.inr s)
  | _ => none
def dctOf (d : D) (S : So) : Option (List Key × List D) := match d with
  | .dct ks l => some (ks, l)
  | .ref n => match S[n]? with
    | some (some (.dct ks l)) => some (ks, l)
    | _ => none
  | _ => none
def lookK : List Key → List D → Key → Option D
  | k :: ks, d :: l, x => if k = x then some d else lookK ks l x
  | _, _, _ => none
section
variable {cm : Ct} {m : Am} {S : So} {H : Hp} {d : D} {x : V}
theorem key_v {k : Key} (r : Rep cm m S H d x) (h : keyOf d = some k) : x = kV k := by
  cases d with
  | int i => simp only [Rep] at r; simp only [keyOf, Option.some.injEq] at h; subst h; exact r
  | str i => simp only [Rep] at r; simp only [keyOf, Option.some.injEq] at h; subst h; exact r
  | _ => simp [keyOf] at h
theorem dct_at {ks : List Key} {l : List D} (R : RelS cm m S H) (r : Rep cm m S H d x) (h : dctOf d S = some (ks, l)) : ∃ a kvs, x = .ref a ∧ Rd H a (.dK kvs) ∧ kvs.map (·.1) = ks ∧ Reps cm m S H l (kvs.map (·.2)) := by
  cases d with
  | dct ks' l' =>
    simp only [dctOf, Option.some.injEq, Prod.mk.injEq] at h
    obtain ⟨rfl, rfl⟩ := h
    simp only [Rep] at r
    obtain ⟨a, kvs, e, h1, _, h3, h4⟩ := r
    exact ⟨a, kvs, e, h1, h3, h4⟩
  | ref n =>
    simp only [dctOf] at h
    split at h
    · rename_i ks' l' e
      simp only [Option.some.injEq, Prod.mk.injEq] at h
      obtain ⟨rfl, rfl⟩ := h
      simp only [Rep] at r
      obtain ⟨kvs, h1, h2, h3⟩ := R.at_ n _ e
      exact ⟨m.p n, kvs, r.2, .inl h1, h2, h3⟩
    · cases h
  | _ => simp [dctOf] at h
theorem look_v : ∀ {kvs : List (Key × V)} {ks : List Key} {l : List D} {k : Key}, kvs.map (·.1) = ks → Reps cm m S H l (kvs.map (·.2)) →
    (lookK ks l k = none ∧ valV kvs k = none) ∨ ∃ d v, lookK ks l k = some d ∧ valV kvs k = some v ∧ Rep cm m S H d v
  | [], ks, l, k, e, h => by
    simp only [List.map_nil] at e
    subst e
    exact .inl ⟨by unfold lookK; rfl, rfl⟩
  | p :: kvs, ks, l, k, e, h => by
    simp only [List.map_cons] at e h
    subst e
    cases l with
    | nil => simp [Reps] at h
    | cons d l =>
      simp only [Reps, List.cons.injEq] at h
      obtain ⟨v, r, ⟨e1, e2⟩, h1, h2⟩ := h
      subst e1 e2
      by_cases c : p.1 = k
      · refine .inr ⟨d, p.2, ?_, valV_pos c, h1⟩
        unfold lookK
        rw [if_pos c]
      · have q := look_v (kvs := kvs) (k := k) rfl h2
        rw [valV_neg c]
        unfold lookK
        rw [if_neg c]
        exact q
end

/-! ### a[b] -/
def dIx : Op2 := fun a b S => match dctOf a S with
  | some (ks, l) => match keyOf b with
    | some k => (lookK ks l k).map fun d => (d, S)
    | none => none
  | none => match b with
    | .int i => match a with
      | .str z => if z.length ≤ sizeLine then (atI z.cps.toList i).map fun c => (.str ⟨#[c]⟩, S) else none
      | a => match seqOf a S with
        | some l => (atI l i).map fun d => (d, S)
        | none => none
    | _ => none
def wIx (X : Cx) : R2 := fun x y H Q => ∀ value slice pins s σ v u, Inv X pins σ H s → RelV x v → RelV y u → subscripted slice false v u = operate [v, u] (getItem v u) → wpAny (model X.prog X.w) X.A (subscriptTail value slice v u) (EP X pins σ Q) X.xe s
theorem ix_w {X : Cx} : IxR X (wIx X) := fun value slice pins s σ H x y v u Q I rx ry h hs => h value slice pins s σ v u I rx ry hs
theorem wIx_of {X : Cx} {r : R2} {x y : V} {H : Hp} {Q : VK} (h : IxR X r) (q : r x y H Q) : wIx X x y H Q := fun value slice pins s σ v u I rx ry hs => h value slice pins s σ H x y v u Q I rx ry q hs
theorem ix_dict {X : Cx} (hu : X.A.units + 1 < cLine) : IxR X (fun x y H Q => ∃ a v, x = .ref a ∧ DGet H a y (some v) ∧ Q v H) := by
  intro value slice pins s σ H x y v u Q I rx ry h hs
  obtain ⟨a, w', rfl, g, q⟩ := h
  cases rx
  exact tail_any (dict_typeIs I g) slot_dict_getitem.lookup (d_getItem hu I g ry fun w2 s3 I3 rw' => ⟨w', H, I3, rw', q⟩) hs
theorem atI_rep {cm : Ct} {m : Am} {S : So} {H : Hp} {l : List D} {vs : List V} {i : Int} {d : D} (r : Reps cm m S H l vs) (h : atI l i = some d) : ∃ v, atI vs i = some v ∧ Rep cm m S H d v := by
  unfold atI at h ⊢
  rw [← r.length]
  cases e : ixN l.length i with
  | none => rw [e] at h; cases h
  | some j =>
    rw [e] at h
    exact r.get h
section
variable {cm : Cm} {X : Cx} {a b : Expr} {fa fb : E D} {pos : Pos}
theorem od_ix (hu : X.A.units + 1 < cLine) : ∀ m S H a b x y Q, RelS (ct X cm) m S H → Rep (ct X cm) m S H a x → Rep (ct X cm) m S H b y → POk (Rep (ct X cm)) (ct X cm) m S H (dIx a b S) Q → wIx X x y H Q := fun m S H a b x y Q R ra rb h => by
  unfold dIx at h
  split at h
  · rename_i ks l e
    split at h
    · rename_i k ek
      obtain ⟨p, kvs, rfl, h1, h2, h3⟩ := dct_at R ra e
      have ey := key_v rb ek
      subst ey
      rcases look_v (k := k) h2 h3 with ⟨z, _⟩ | ⟨d, v, e1, e2, rd⟩
      · rw [z] at h
        exact h.no.elim
      · rw [e1] at h
        exact wIx_of (ix_dict hu) ⟨p, v, rfl, .inl ⟨kvs, k, h1, rfl, e2.symm⟩, h.now R rd⟩
    · exact h.no.elim
  · split at h
    · rename_i i
      simp only [Rep] at rb
      split at h
      · simp only [Rep] at ra
        split at h
        · rename_i z _ hz
          cases e : atI z.cps.toList i with
          | none => rw [e] at h; exact h.no.elim
          | some c =>
            rw [e] at h
            exact wIx_of ix_str ⟨z, i, c, ra, rb, hz, e, h.str R⟩
        · exact h.no.elim
      · split at h
        · rename_i l el
          cases e : atI l i with
          | none => rw [e] at h; exact h.no.elim
          | some d =>
            rw [e] at h
            obtain ⟨p, vs, rfl, h1, h2⟩ := seq_at R ra el
            obtain ⟨v, e2, rd⟩ := atI_rep h2 e
            rcases h1 with h1 | h1
            · exact wIx_of ix_list ⟨p, vs, i, v, rfl, rb, h1, e2, h.now R rd⟩
            · exact wIx_of ix_tup ⟨p, vs, i, v, rfl, rb, h1, e2, h.now R rd⟩
        · exact h.no.elim
    · exact h.no.elim
theorem re_ix (hu : X.A.units + 1 < cLine) (ha : RE cm X a fa) (hb : RE cm X b fb) (hs : PlainIx b) : RE cm X (.Subscript a b pos) (m2 dIx fa fb) := fun W tk m S H σ en Q C h => by
  refine wE_of (pe_ix ix_w pe_w pe_w hs) ?_
  refine ha W tk m S H σ en _ C (PQ.bind h fun da S1 x m1 H1 e1 A1 R1 r1 h1 => ?_)
  refine hb W tk m1 S1 H1 σ en _ (C.adv A1 R1) (PQ.bind h1 fun db S2 y m2 H2 e2 A2 R2 r2 h2 => ?_)
  exact od_ix hu m2 S2 H2 da db x y Q R2 (Rep.adv A2 _ _ r1) r2 h2.pok
end

/-! ### a[lo:hi] -/
def cutD (l : List D) (lo hi : Option Int) : List D := (l.drop (HT.sIx l.length 0 lo)).take (HT.sIx l.length l.length hi - HT.sIx l.length 0 lo)
abbrev OpS := D → Option Int → Option Int → So → Option (D × So)
def dSl : OpS := fun a lo hi S => match a with
  | .str z => if z.length ≤ sizeLine then some (.str (cutS z lo hi), S) else none
  | .tup l => some (.tup (cutD l lo hi), S)
  | a => match lstOf a S with
    | some l => some (.lst (cutD l lo hi), S)
    | none => none
/-- the list's slice as a cell -/
def dSlN : OpS := fun a lo hi S => match lstOf a S with
  | some l => some (.ref S.length, S ++ [some (.lst (cutD l lo hi))])
  | none => none
def pNo : E (Option Int) := fun _ S => .ok none S
def pSo (f : E D) : E (Option Int) := fun en S => (f en S).bind fun d S1 => match d with
  | .int i => .ok (some i) S1
  | _ => .bad
def mSl (g : OpS) (fa : E D) (fl fh : E (Option Int)) : E D := fun en S => (fa en S).bind fun a S1 => (fl en S1).bind fun lo S2 => (fh en S2).bind fun hi S3 => R.of (g a lo hi S3)
def wO (X : Cx) (e : Option Expr) : TO := fun σ H Q => ∀ pins s, Inv X pins σ H s → wpAny (model X.prog X.w) X.A (evalPart e X.env) (fun u s' => ∃ o H', Inv X pins σ H' s' ∧ IsPart u o ∧ Q o H') X.xe s
theorem po_w {X : Cx} {e : Option Expr} : PO X e (wO X e) := ⟨fun pins s σ H Q I h => h pins s I⟩
theorem wO_of {X : Cx} {e : Option Expr} {t : TO} {σ : St} {H : Hp} {Q : Option Int → Hp → Prop} (h : PO X e t) (q : t σ H Q) : wO X e σ H Q := fun pins s I => h.run pins s σ H Q I q
def RO (cm : Cm) (X : Cx) (e : Option Expr) (f : E (Option Int)) : Prop := ∀ W, Takes X W → ∀ m S H σ en Q, Cond (ct X cm) m S H σ en → PQ rO (ct X cm) m S H σ W (f en S) Q → wO X e σ H Q
def wSl (X : Cx) : V → Option Int → Option Int → Hp → VK → Prop := fun x lo hi H Q => ∀ (pins : List (Addr × Obj)) (s : Shared) (σ : St) (v vl vu : Value) (sl : Addr), Inv X pins σ H s → RelV x v → s.heap.IsSliceOf sl vl vu .none → IsPart vl lo → IsPart vu hi →
    ∃ T id, typeLookup (.type T) "__getitem__" = pure (some (.builtin id)) ∧ s.TypeIs v T ∧ wpAny (model X.prog X.w) X.A (getItem v (.ref sl)) (EP X pins σ Q) X.xe s
theorem sl_w {X : Cx} : SlR X (wSl X) := fun pins s σ H x v vl vu lo hi sl Q I rx hs pl pu h => h pins s σ v vl vu sl I rx hs pl pu
theorem wSl_of {X : Cx} {r : V → Option Int → Option Int → Hp → VK → Prop} {x : V} {lo hi : Option Int} {H : Hp} {Q : VK} (h : SlR X r) (q : r x lo hi H Q) : wSl X x lo hi H Q := fun pins s σ v vl vu sl I rx hs pl pu => h pins s σ H x v vl vu lo hi sl Q I rx hs pl pu q
def SlD (cm : Cm) (X : Cx) (g : OpS) : Prop := ∀ m S H a x lo hi Q, RelS (ct X cm) m S H → Rep (ct X cm) m S H a x → POk (Rep (ct X cm)) (ct X cm) m S H (g a lo hi S) Q → wSl X x lo hi H Q
theorem cutD_rep {cm : Ct} {m : Am} {S : So} {H : Hp} {l : List D} {vs : List V} {lo hi : Option Int} (r : Reps cm m S H l vs) : Reps cm m S H (cutD l lo hi) (cutV vs lo hi) := by
  unfold cutD cutV
  rw [← r.length]
  exact (r.drop _).take _
section
variable {cm : Cm} {X : Cx} {a : Expr} {lo hi : Option Expr} {fa : E D} {fl fh : E (Option Int)} {pos p2 : Pos}
theorem ro_none : RO cm X none pNo := fun W tk m S H σ en Q C h => wO_of po_none (PQ.now h C.rel rfl)
theorem ro_some (ha : RE cm X a fa) : RO cm X (some a) (pSo fa) := fun W tk m S H σ en Q C h => by
  refine wO_of (po_some pe_w) ?_
  refine ha W tk m S H σ en _ C (PQ.bind h fun d S1 x m1 H1 e1 A1 R1 r1 h1 => ?_)
  split at h1
  · simp only [Rep] at r1
    exact ⟨_, r1, PQ.now h1 R1 rfl⟩
  · exact h1.elim
theorem re_sl {g : OpS} (hg : SlD cm X g) (ha : RE cm X a fa) (hl : RO cm X lo fl) (hh : RO cm X hi fh) : RE cm X (.Subscript a (.Slice lo hi none p2) pos) (mSl g fa fl fh) := fun W tk m S H σ en Q C h => by
  refine wE_of (pe_slice sl_w pe_w po_w po_w) ?_
  refine ha W tk m S H σ en _ C (PQ.bind h fun d S1 x m1 H1 e1 A1 R1 r1 h1 => ?_)
  refine hl W tk m1 S1 H1 σ en _ (C.adv A1 R1) (PQ.bind h1 fun l S2 l' m2 H2 e2 A2 R2 r2 h2 => ?_)
  obtain rfl : l = l' := r2
  refine hh W tk m2 S2 H2 σ en _ ((C.adv A1 R1).adv A2 R2) (PQ.bind h2 fun u S3 u' m3 H3 e3 A3 R3 r3 h3 => ?_)
  obtain rfl : u = u' := r3
  exact hg m3 S3 H3 d x l u Q R3 (Rep.adv (A2.trans A3) _ _ r1) h3.pok
theorem sd_sl : SlD cm X dSl := fun m S H a x lo hi Q R ra h => by
  unfold dSl at h
  split at h
  · simp only [Rep] at ra
    split at h
    · rename_i z hz
      exact wSl_of sl_str ⟨z, ra, hz, h.str R⟩
    · exact h.no.elim
  · rename_i l
    simp only [Rep] at ra
    obtain ⟨p, vs, rfl, h1, h2⟩ := ra
    refine wSl_of sl_tupA ⟨p, vs, rfl, h1, fun hw => ?_, fun _ z hz => h.tup R hz (cutD_rep h2)⟩
    refine h.now R ?_
    have e : cutD l lo hi = l := by
      unfold cutD
      rw [h2.length, hw.1, hw.2]
      simp [← h2.length]
    rw [e]
    simp only [Rep]
    exact ⟨p, vs, rfl, h1, h2⟩
  · split at h
    · rename_i l e
      obtain ⟨p, vs, rfl, h1, h2⟩ := lst_at R ra e
      exact wSl_of sl_list ⟨p, vs, rfl, .inl (.inl h1), fun z hz => h.lst R hz (cutD_rep h2)⟩
    · exact h.no.elim
end

/-! ### membership -/
def strIn (y z : Str) : Bool := !(Builtin.Str.occurrences z y 0 z.length 1).isEmpty
def dInB (a b : D) (S : So) : Option Bool := match b with
  | .str z => match a with
    | .str y => some (strIn y z)
    | _ => none
  | b => match dctOf b S with
    | some (ks, _) => match keyOf a with
      | some k => some (ks.any fun j => decide (j = k))
      | none => none
    | none => match toPt b S, toPt a S with
      | some (.list ps), some p => if SeqAt.shaped p && SeqAt.shaped (.list ps) then some (ps.any fun q => PyData.eqv q p) else none
      | some (.tuple ps), some p => if SeqAt.shaped p && SeqAt.shaped (.tuple ps) then some (ps.any fun q => PyData.eqv q p) else none
      | _, _ => none
def dIn : Op2 := fun a b S => (dInB a b S).map fun k => (.bl k, S)
def dNotIn : Op2 := fun a b S => (dInB a b S).map fun k => (.bl (!k), S)
section
variable {X : Cx}
theorem op_inT (hu : X.A.units + 65 < cLine) : OpR X (compareOp .In) (fun x y H Q => ∃ d ds, Dp X.K H x d ∧ Dp X.K H y (.tuple ds) ∧ SeqAt.shaped d = true ∧ SeqAt.shaped (.tuple ds) = true ∧ Q (.bl (ds.any fun z => PyData.eqv z d)) H) := by
  intro pins s σ H x y v u Q I rx ry h
  obtain ⟨d, ds, hd, he, sd, se, q⟩ := h
  obtain ⟨as, r1⟩ := Dp.reads I d x v hd rx
  obtain ⟨bs, r2⟩ := Dp.reads I (.tuple ds) y u he ry
  exact SeqAt.in_tuple_reads r2 r1 (SeqAt.canLay_of_shaped se) (SeqAt.canLay_of_shaped sd) (room_in_shaped sd hu) ⟨.bl _, H, I, rfl, q⟩
theorem op_notInT (hu : X.A.units + 65 < cLine) : OpR X (compareOp .NotIn) (fun x y H Q => ∃ d ds, Dp X.K H x d ∧ Dp X.K H y (.tuple ds) ∧ SeqAt.shaped d = true ∧ SeqAt.shaped (.tuple ds) = true ∧ Q (.bl (!ds.any fun z => PyData.eqv z d)) H) := by
  intro pins s σ H x y v u Q I rx ry h
  obtain ⟨d, ds, hd, he, sd, se, q⟩ := h
  obtain ⟨as, r1⟩ := Dp.reads I d x v hd rx
  obtain ⟨bs, r2⟩ := Dp.reads I (.tuple ds) y u he ry
  exact SeqAt.notIn_tuple_reads r2 r1 (SeqAt.canLay_of_shaped se) (SeqAt.canLay_of_shaped sd) (room_in_shaped sd hu) ⟨.bl _, H, I, rfl, q⟩
theorem op_inL (hu : X.A.units + 65 < cLine) : OpR X (compareOp .In) (fun x y H Q => ∃ d ds, Dp X.K H x d ∧ Dp X.K H y (.list ds) ∧ SeqAt.shaped d = true ∧ SeqAt.shaped (.list ds) = true ∧ Q (.bl (ds.any fun z => PyData.eqv z d)) H) := by
  intro pins s σ H x y v u Q I rx ry h
  obtain ⟨d, ds, hd, he, sd, se, q⟩ := h
  obtain ⟨as, r1⟩ := Dp.reads I d x v hd rx
  obtain ⟨bs, r2⟩ := Dp.reads I (.list ds) y u he ry
  exact SeqAt.in_list_reads r2 r1 (SeqAt.canLay_of_shaped se) (SeqAt.canLay_of_shaped sd) (room_in_shaped sd hu) ⟨.bl _, H, I, rfl, q⟩
theorem op_notInL (hu : X.A.units + 65 < cLine) : OpR X (compareOp .NotIn) (fun x y H Q => ∃ d ds, Dp X.K H x d ∧ Dp X.K H y (.list ds) ∧ SeqAt.shaped d = true ∧ SeqAt.shaped (.list ds) = true ∧ Q (.bl (!ds.any fun z => PyData.eqv z d)) H) := by
  intro pins s σ H x y v u Q I rx ry h
  obtain ⟨d, ds, hd, he, sd, se, q⟩ := h
  obtain ⟨as, r1⟩ := Dp.reads I d x v hd rx
  obtain ⟨bs, r2⟩ := Dp.reads I (.list ds) y u he ry
  exact SeqAt.notIn_list_reads r2 r1 (SeqAt.canLay_of_shaped se) (SeqAt.canLay_of_shaped sd) (room_in_shaped sd hu) ⟨.bl _, H, I, rfl, q⟩
theorem op_dIn (hu : X.A.units + 1 < cLine) : OpR X (compareOp .In) (fun y x H Q => ∃ a o, x = .ref a ∧ DGet H a y o ∧ Q (.bl o.isSome) H) := by
  intro pins s σ H y x v u Q I ry rx h
  obtain ⟨a, o, rfl, g, q⟩ := h
  cases rx
  exact d_in hu I g ry fun s3 I3 => ⟨.bl o.isSome, H, I3, rfl, q⟩
theorem op_dNotIn (hu : X.A.units + 1 < cLine) : OpR X (compareOp .NotIn) (fun y x H Q => ∃ a o, x = .ref a ∧ DGet H a y o ∧ Q (.bl (!o.isSome)) H) := by
  intro pins s σ H y x v u Q I ry rx h
  obtain ⟨a, o, rfl, g, q⟩ := h
  cases rx
  exact d_notIn hu I g ry fun s3 I3 => ⟨.bl (!o.isSome), H, I3, rfl, q⟩
end
theorem any_keys {κ : Type} [DecidableEq κ] (k : κ) (kvs : List (κ × V)) : ((kvs.map (·.1)).any fun j => decide (j = k)) = (valV kvs k).isSome := by
  rw [← valV_any, List.any_map]
  rfl
/-- the four roads of in -/
theorem inB_run {cm : Ct} {m : Am} {S : So} {H : Hp} {a b : D} {x y : V} {k : Bool} (R : RelS cm m S H) (ra : Rep cm m S H a x) (rb : Rep cm m S H b y) (e : dInB a b S = some k) :
    (∃ i j, x = .str i ∧ y = .str j ∧ (!(Builtin.Str.occurrences j i 0 j.length 1).isEmpty) = k) ∨ (∃ p o, y = .ref p ∧ DGet H p x o ∧ o.isSome = k) ∨
    (∃ d ds, Dp cm.K H x d ∧ Dp cm.K H y (.list ds) ∧ SeqAt.shaped d = true ∧ SeqAt.shaped (.list ds) = true ∧ (ds.any fun z => PyData.eqv z d) = k) ∨
    (∃ d ds, Dp cm.K H x d ∧ Dp cm.K H y (.tuple ds) ∧ SeqAt.shaped d = true ∧ SeqAt.shaped (.tuple ds) = true ∧ (ds.any fun z => PyData.eqv z d) = k) := by
  unfold dInB at e
  split at e
  · split at e
    · simp only [Rep] at ra rb
      simp only [Option.some.injEq] at e
      exact .inl ⟨_, _, ra, rb, e⟩
    · cases e
  · split at e
    · rename_i ks l ed
      split at e
      · rename_i k' ek
        simp only [Option.some.injEq] at e
        obtain ⟨p, kvs, rfl, h1, h2, h3⟩ := dct_at R rb ed
        have ex := key_v ra ek
        subst ex
        refine .inr (.inl ⟨p, _, rfl, .inl ⟨kvs, k', h1, rfl, rfl⟩, ?_⟩)
        rw [← e, ← h2, any_keys]
      · cases e
    · split at e
      · rename_i ps p e1 e2
        split at e
        · rename_i hc
          simp only [Bool.and_eq_true] at hc
          simp only [Option.some.injEq] at e
          exact .inr (.inr (.inl ⟨p, ps, toPt_dp R ra e2, toPt_dp R rb e1, hc.1, hc.2, e⟩))
        · cases e
      · rename_i ps p e1 e2
        split at e
        · rename_i hc
          simp only [Bool.and_eq_true] at hc
          simp only [Option.some.injEq] at e
          exact .inr (.inr (.inr ⟨p, ps, toPt_dp R ra e2, toPt_dp R rb e1, hc.1, hc.2, e⟩))
        · cases e
      · cases e
section
variable {cm : Cm} {X : Cx}
theorem od_in (hu : X.A.units + 65 < cLine) : OpD cm X (compareOp .In) dIn := fun m S H a b x y Q R ra rb h => by
  unfold dIn at h
  cases e : dInB a b S with
  | none => rw [e] at h; exact h.no.elim
  | some k =>
    rw [e] at h
    have q := h.bl R
    rcases inB_run (cm := ct X cm) R ra rb e with ⟨i, j, h1, h2, h3⟩ | ⟨p, o, h1, h2, h3⟩ | ⟨d, ds, h1, h2, h3, h4, h5⟩ | ⟨d, ds, h1, h2, h3, h4, h5⟩
    · exact wO2_of op_in_str ⟨i, j, h1, h2, by rw [h3]; exact q⟩
    · exact wO2_of (op_dIn (by omega)) ⟨p, o, h1, h2, by rw [h3]; exact q⟩
    · exact wO2_of (op_inL hu) ⟨d, ds, h1, h2, h3, h4, by rw [h5]; exact q⟩
    · exact wO2_of (op_inT hu) ⟨d, ds, h1, h2, h3, h4, by rw [h5]; exact q⟩
theorem od_notIn (hu : X.A.units + 65 < cLine) : OpD cm X (compareOp .NotIn) dNotIn := fun m S H a b x y Q R ra rb h => by
  unfold dNotIn at h
  cases e : dInB a b S with
  | none => rw [e] at h; exact h.no.elim
  | some k =>
    rw [e] at h
    have q := h.bl R
    rcases inB_run (cm := ct X cm) R ra rb e with ⟨i, j, h1, h2, h3⟩ | ⟨p, o, h1, h2, h3⟩ | ⟨d, ds, h1, h2, h3, h4, h5⟩ | ⟨d, ds, h1, h2, h3, h4, h5⟩
    · exact wO2_of L2.op_notin_str ⟨i, j, h1, h2, by rw [h3]; exact q⟩
    · exact wO2_of (op_dNotIn (by omega)) ⟨p, o, h1, h2, by rw [h3]; exact q⟩
    · exact wO2_of (op_notInL hu) ⟨d, ds, h1, h2, h3, h4, by rw [h5]; exact q⟩
    · exact wO2_of (op_notInT hu) ⟨d, ds, h1, h2, h3, h4, by rw [h5]; exact q⟩
end
end Mi

/-! Mi4: statements, targets, loops, comprehensions. -/
namespace Mi
open PySem PySem.Spec PyProof.Rows L2

inductive Fl where
  | nx (en : En) | rt (d : D) | bk (en : En) | ct (en : En)
/-- a statement -/
abbrev T := En → So → R Fl

def PF (cm : Ct) (m : Am) (S : So) (H : Hp) (W : WX) (r : R Fl) (D : Ends) : Prop := match r with
  | .ok (.nx en') S' => ∀ m' σ' H', Adv m S H m' S' H' → Cond cm m' S' H' σ' en' → D.nx σ' H'
  | .ok (.bk en') S' => ∀ m' σ' H', Adv m S H m' S' H' → Cond cm m' S' H' σ' en' → D.bk σ' H'
  | .ok (.ct en') S' => ∀ m' σ' H', Adv m S H m' S' H' → Cond cm m' S' H' σ' en' → D.ct σ' H'
  | .ok (.rt d) S' => ∀ v m' H', Adv m S H m' S' H' → RelS cm m' S' H' → Rep cm m' S' H' d v → D.rt v H'
  | .err x en' S' => ∀ cls dd m' σ' H', Adv m S H m' S' H' → Cond cm m' S' H' σ' en' → RepX cm m' S' H' x cls dd → W cls dd σ' H'
  | .bad => False
section
variable {α β γ δ : Type} {cm : Ct} {m m1 : Am} {S S1 : So} {H H1 : Hp} {σ : St} {en : En} {W : WX} {D : Ends}
theorem PF.after {r : R Fl} (A : Adv m S H m1 S1 H1) (h : PF cm m S H W r D) : PF cm m1 S1 H1 W r D := by
  cases r with
  | ok a S' =>
    cases a with
    | nx en' => exact fun m' σ' H' A' => h m' σ' H' (A.trans A')
    | bk en' => exact fun m' σ' H' A' => h m' σ' H' (A.trans A')
    | ct en' => exact fun m' σ' H' A' => h m' σ' H' (A.trans A')
    | rt d => exact fun v m' H' A' => h v m' H' (A.trans A')
  | err x en' S' => exact fun c d m' σ' H' A' => h c d m' σ' H' (A.trans A')
  | bad => exact h
theorem PF.bind {rp : Rp α γ} {r : R α} {k : α → So → R Fl} {Q : γ → Hp → Prop} (h : PF cm m S H W (r.bind k) D)
    (hk : ∀ a S1 x m1 H1, r = .ok a S1 → Adv m S H m1 S1 H1 → RelS cm m1 S1 H1 → rp m1 S1 H1 a x → PF cm m1 S1 H1 W (k a S1) D → Q x H1) : PQ rp cm m S H σ W r Q := by
  cases r with
  | ok a S' => exact fun v m' H' A Rl rp => hk a S' v m' H' rfl A Rl rp (PF.after A h)
  | err x en' S' => exact fun c d m' H' A C X => h c d m' σ H' A C X
  | bad => exact h
theorem PF.nx (h : PF cm m S H W (.ok (.nx en) S) D) (C : Cond cm m S H σ en) : D.nx σ H := h m σ H Adv.refl C
end

def wS (X : Cx) (st : Stmt) : TS := fun D σ H => ∀ pins s, Inv X pins σ H s → wpAny (model X.prog X.w) X.A (exec st X.env) (SP X pins D) X.xe s
def wSs (X : Cx) (st : List Stmt) : TS := fun D σ H => ∀ pins s, Inv X pins σ H s → wpAny (model X.prog X.w) X.A (execs st X.env) (SP X pins D) X.xe s
theorem ps_w {X : Cx} {st : Stmt} : PS X st (wS X st) := ⟨fun pins s _ _ _ I h => h pins s I⟩
theorem pss_w {X : Cx} {st : List Stmt} : PSs X st (wSs X st) := ⟨fun pins s _ _ _ I h => h pins s I⟩
theorem wS_of {X : Cx} {st : Stmt} {t : TS} {D : Ends} {σ : St} {H : Hp} (h : PS X st t) (q : t D σ H) : wS X st D σ H := fun pins s I => h.run pins s σ H D I q
theorem wSs_of {X : Cx} {st : List Stmt} {t : TS} {D : Ends} {σ : St} {H : Hp} (h : PSs X st t) (q : t D σ H) : wSs X st D σ H := fun pins s I => h.run pins s σ H D I q
def RS (cm : Cm) (X : Cx) (st : Stmt) (f : T) : Prop := ∀ W, Takes X W → ∀ m S H σ en D, Cond (ct X cm) m S H σ en → PF (ct X cm) m S H W (f en S) D → wS X st D σ H
def RSs (cm : Cm) (X : Cx) (st : List Stmt) (f : T) : Prop := ∀ W, Takes X W → ∀ m S H σ en D, Cond (ct X cm) m S H σ en → PF (ct X cm) m S H W (f en S) D → wSs X st D σ H

/-! ### targets -/
abbrev TgD := D → En → So → Option En
def wG (X : Cx) (tg : Expr) : TG := fun v σ H Q => ∀ pins s u, Inv X pins σ H s → RelV v u → wpAny (model X.prog X.w) X.A (assign tg X.env u) (fun _ s' => ∃ σ' H', Inv X pins σ' H' s' ∧ Q σ' H') X.xe s
theorem pg_w {X : Cx} {tg : Expr} : PG X tg (wG X tg) := ⟨fun pins s σ H v u Q I r h => h pins s u I r⟩
theorem wG_of {X : Cx} {tg : Expr} {t : TG} {v : V} {σ : St} {H : Hp} {Q : St → Hp → Prop} (h : PG X tg t) (q : t v σ H Q) : wG X tg v σ H Q := fun pins s u I r => h.run pins s σ H v u Q I r q
def wGs (X : Cx) (ts : List Expr) : TGs := fun vs σ H Q => ∀ pins s us, Inv X pins σ H s → Vals vs us → wpAny (model X.prog X.w) X.A (assignInOrder ((assignEach ts X.env).map (·.2)) us) (fun _ s' => ∃ σ' H', Inv X pins σ' H' s' ∧ Q σ' H') X.xe s
theorem pgs_w {X : Cx} {ts : List Expr} : PGs X ts (wGs X ts) := ⟨fun pins s σ H v u Q I r h => h pins s u I r⟩
theorem wGs_of {X : Cx} {ts : List Expr} {t : TGs} {v : List V} {σ : St} {H : Hp} {Q : St → Hp → Prop} (h : PGs X ts t) (q : t v σ H Q) : wGs X ts v σ H Q := fun pins s u I r => h.run pins s σ H v u Q I r q
/-- .. ws: the slots that are stored -/
def Off' (ws : List Nat) (σ σ' : St) : Prop := σ'.length = σ.length ∧ ∀ j, j ∉ ws → σ'[j]? = σ[j]?
def RG (cm : Cm) (X : Cx) (tg : Expr) (g : TgD) (ws : List Nat) : Prop := ∀ m S H σ en d v en' Q, Cond (ct X cm) m S H σ en → Rep (ct X cm) m S H d v → g d en S = some en' → (∀ σ', Cond (ct X cm) m S H σ' en' → Off' ws σ σ' → Q σ' H) → wG X tg v σ H Q
def RGs (cm : Cm) (X : Cx) (ts : List Expr) (g : List D → En → So → Option En) (ws : List Nat) : Prop := ∀ m S H σ en l vs en' Q, Cond (ct X cm) m S H σ en → Reps (ct X cm) m S H l vs → g l en S = some en' → (∀ σ', Cond (ct X cm) m S H σ' en' → Off' ws σ σ' → Q σ' H) → wGs X ts vs σ H Q
theorem Off'.refl {ws : List Nat} {σ : St} : Off' ws σ σ := ⟨rfl, fun _ _ => rfl⟩
theorem Off'.set {i : Nat} {σ : St} {x : Option V} : Off' [i] σ (σ.set i x) := ⟨by simp, fun j h => List.getElem?_set_ne (fun e => h (by simp [e]))⟩
theorem Off'.trans {a b : List Nat} {σ σ' σ'' : St} (h : Off' a σ σ') (k : Off' b σ' σ'') : Off' (a ++ b) σ σ'' := ⟨k.1.trans h.1, fun j n => (k.2 j fun z => n (List.mem_append_right _ z)).trans (h.2 j fun z => n (List.mem_append_left _ z))⟩
theorem Cond.set {cm : Ct} {m : Am} {S : So} {H : Hp} {σ : St} {en : En} {d : D} {v : V} (C : Cond cm m S H σ en) (i : Nat) (r : Rep cm m S H d v) : Cond cm m S H (σ.set i (some v)) (en.set i (some d)) := by
  refine ⟨C.rel, by rw [List.length_set, List.length_set]; exact C.len, fun j d' e => ?_⟩
  by_cases h : i = j
  · subst h
    by_cases hl : i < en.length
    · rw [List.getElem?_set_self hl] at e
      cases e
      exact ⟨v, List.getElem?_set_self (by rw [← C.len]; exact hl), r⟩
    · rw [List.getElem?_eq_none (by rw [List.length_set]; omega)] at e
      cases e
  · rw [List.getElem?_set_ne h] at e ⊢
    exact C.env j d' e
def gN (i : Nat) : TgD := fun d en _ => some (en.set i (some d))
def gsNil : List D → En → So → Option En := fun l en _ => match l with
  | [] => some en
  | _ => none
def gsCons (g : TgD) (r : List D → En → So → Option En) : List D → En → So → Option En := fun l en S => match l with
  | d :: l => (g d en S).bind fun en1 => r l en1 S
  | [] => none
/-- a, b = a tuple -/
def gT (n : Nat) (r : List D → En → So → Option En) : TgD := fun d en S => match d with
  | .tup l => if l.length = n then r l en S else none
  | _ => none
section
variable {cm : Cm} {X : Cx} {pos : Pos} {e : Expr} {es : List Expr} {g : TgD} {r : List D → En → So → Option En}
theorem rg_n (i : Nat) {x : Str} (hN : X.N.Nodup) (hi : X.N[i]? = some x) (hx : Loc X.env.scope x) (hf : X.fn x = true ∨ X.env.scope.names.lookup x = some .local := by first | exact .inl rfl | exact .inr rfl | assumption)  : RG cm X (.Name x pos) (gN i) [i] :=
  fun m S H σ en d v en' Q C rd e q => wG_of (pg_name hN hi hx hf) (q _ (by cases e; exact C.set i rd) Off'.set)
theorem rgs_nil : RGs cm X [] gsNil [] := fun m S H σ en l vs en' Q C rl e q => by
  refine wGs_of pgs_nil ?_
  cases l with
  | nil =>
    simp only [Reps] at rl
    cases e
    exact ⟨rl, q _ C Off'.refl⟩
  | cons _ _ => cases e
theorem rgs_cons {w1 w2 : List Nat} (h1 : RG cm X e g w1) (h2 : RGs cm X es r w2) (hs : (assignEach (e :: es) X.env).map (·.2) = assign e X.env :: (assignEach es X.env).map (·.2) := by rfl)  : RGs cm X (e :: es) (gsCons g r) (w1 ++ w2) := fun m S H σ en l vs en' Q C rl q0 q => by
  refine wGs_of (pgs_cons pg_w pgs_w hs) ?_
  cases l with
  | nil => cases q0
  | cons d l =>
    simp only [Reps] at rl
    obtain ⟨v, rr, e1, r1, r2⟩ := rl
    subst e1
    unfold gsCons at q0
    cases e2 : g d en S with
    | none => simp only [e2] at q0; cases q0
    | some en1 =>
      simp only [e2, Option.bind_some] at q0
      exact ⟨v, rr, rfl, h1 m S H σ en d v en1 _ C r1 e2 fun σ1 C1 o1 => h2 m S H σ1 en1 l rr en' Q C1 r2 q0 fun σ2 C2 o2 => q σ2 C2 (o1.trans o2)⟩
theorem rg_t {k n : Nat} {ws : List Nat} (hc : X.calm = true) (h : RGs cm X es r ws) (hn : (assignEach es X.env).length = n := by rfl) (hst : (assignEach es X.env).findIdx? (·.1) = none := by rfl)  : RG cm X (.Tuple es k pos) (gT n r) ws := fun m S H σ en d v en' Q C rd e q => by
  refine wG_of (pg_tup hc pgs_w hn hst) ?_
  unfold gT at e
  split at e
  · rename_i l
    split at e
    · rename_i hl
      simp only [Rep] at rd
      obtain ⟨a, vs, rfl, h1, h2⟩ := rd
      exact ⟨a, vs, rfl, h1, by rw [← h2.length]; exact hl, h m S H σ en l vs en' Q C h2 e q⟩
    · cases e
  · cases e
end

/-! ### small statements -/
def sNil : T := fun en S => .ok (.nx en) S
def sSeq (f g : T) : T := fun en S => (f en S).bind fun fl S1 => match fl with
  | .nx en1 => g en1 S1
  | fl => .ok fl S1
def sBk : T := fun en S => .ok (.bk en) S
def sCt : T := fun en S => .ok (.ct en) S
def sEx (f : E D) : T := fun en S => (f en S).bind fun _ S1 => .ok (.nx en) S1
def sRet (f : E D) : T := fun en S => (f en S).bind fun d S1 => .ok (.rt d) S1
def sRetN : T := fun _ S => .ok (.rt .non) S
def sIf (t : E Bool) (f g : T) : T := fun en S => (t en S).bind fun b S1 => match b with
  | true => f en S1
  | false => g en S1
def sSet (i : Nat) (f : E D) : T := fun en S => (f en S).bind fun d S1 => .ok (.nx (en.set i (some d))) S1
def sAsg (g : TgD) (f : E D) : T := fun en S => (f en S).bind fun d S1 => match g d en S1 with
  | some en1 => .ok (.nx en1) S1
  | none => .bad
def sPar (i j : Nat) (f : E (List D)) : T := fun en S => (f en S).bind fun l S1 => match l with
  | [a, b] => .ok (.nx ((en.set i (some a)).set j (some b))) S1
  | _ => .bad
def sAug (i : Nat) (g : Op2) (f : E D) : T := fun en S => match en[i]? with
  | some (some d) => (f en S).bind fun b S1 => (R.of (g d b S1)).bind fun c S2 => .ok (.nx (en.set i (some c))) S2
  | _ => .bad
def sNever : T := fun _ _ => .bad
section
variable {cm : Cm} {X : Cx} {pos : Pos} {st : Stmt} {rest : List Stmt} {f g : T} {e : Expr} {fe : E D}
theorem rss_nil : RSs cm X [] sNil := fun W tk m S H σ en D C h => wSs_of pss_nil (h.nx C)
theorem rss_cons (h1 : RS cm X st f) (h2 : RSs cm X rest g) : RSs cm X (st :: rest) (sSeq f g) := fun W tk m S H σ en D C h => by
  refine wSs_of (pss_cons ps_w pss_w) ?_
  refine h1 W tk m S H σ en _ C ?_
  unfold sSeq at h
  cases e : f en S with
  | bad => rw [e] at h; exact h
  | err x en' S' => rw [e] at h; exact h
  | ok fl S' =>
    rw [e] at h
    cases fl with
    | nx en1 => exact fun m' σ' H' A C' => h2 W tk m' S' H' σ' en1 D C' (PF.after A h)
    | rt d => exact h
    | bk en1 => exact h
    | ct en1 => exact h
theorem rss_one (h1 : RS cm X st f) : RSs cm X [st] f := fun W tk m S H σ en D C h => wSs_of (pss_one ps_w) (h1 W tk m S H σ en D C h)
theorem rs_pass : RS cm X (.Pass pos) sNil := fun W tk m S H σ en D C h => wS_of ps_pass (h.nx C)
theorem rs_break : RS cm X (.Break pos) sBk := fun W tk m S H σ en D C h => wS_of ps_break (h m σ H Adv.refl C)
theorem rs_continue : RS cm X (.Continue pos) sCt := fun W tk m S H σ en D C h => wS_of ps_continue (h m σ H Adv.refl C)
theorem rs_never : RS cm X st sNever := fun W tk m S H σ en D C h => h.elim
theorem rss_never : RSs cm X rest sNever := fun W tk m S H σ en D C h => h.elim
theorem rs_ex (he : RE cm X e fe) (hs : swapsWith e none pos.line X.env = pure false := by rfl) : RS cm X (.Expr e pos) (sEx fe) := fun W tk m S H σ en D C h =>
  wS_of (ps_expr pe_w hs) (he W tk m S H σ en _ C (PF.bind h fun d S1 x m1 H1 e1 A1 R1 r1 h1 => h1.nx (C.adv A1 R1)))
theorem rs_ret (he : RE cm X e fe) : RS cm X (.Return (some e) pos) (sRet fe) := fun W tk m S H σ en D C h =>
  wS_of (ps_ret pe_w) (he W tk m S H σ en _ C (PF.bind h fun d S1 x m1 H1 e1 A1 R1 r1 h1 => h1 x m1 H1 Adv.refl R1 r1))
theorem rs_retN : RS cm X (.Return none pos) sRetN := fun W tk m S H σ en D C h => wS_of ps_retN (h .non m H Adv.refl C.rel (by simp only [Rep]))
theorem rs_if {c : Expr} {a b : List Stmt} {t : E Bool} (hc : RT cm X c t) (ha : RSs cm X a f) (hb : RSs cm X b g) : RS cm X (.If c a b pos) (sIf t f g) := fun W tk m S H σ en D C h => by
  refine wS_of (ps_if pt_w pss_w pss_w) ?_
  refine hc W tk m S H σ en _ C (PF.bind h fun k S1 x m1 H1 e1 A1 R1 r1 h1 => ?_)
  obtain rfl : k = x := r1
  cases k with
  | true => rw [if_pos rfl]; exact ha W tk m1 S1 H1 σ en D (C.adv A1 R1) h1
  | false => rw [if_neg Bool.false_ne_true]; exact hb W tk m1 S1 H1 σ en D (C.adv A1 R1) h1
theorem rs_set (i : Nat) {x : Str} {pos' : Pos} (hN : X.N.Nodup) (hi : X.N[i]? = some x) (hx : Loc X.env.scope x) (he : RE cm X e fe) (hs : swapsWith e (some (.Name x pos')) pos.line X.env = pure false := by rfl) (hf : X.fn x = true ∨ X.env.scope.names.lookup x = some .local := by first | exact .inl rfl | exact .inr rfl | assumption) :
    RS cm X (.Assign [.Name x pos'] e pos) (sSet i fe) := fun W tk m S H σ en D C h =>
  wS_of (ps_set hN hi hx pe_w hs hf) (he W tk m S H σ en _ C (PF.bind h fun d S1 y m1 H1 e1 A1 R1 r1 h1 => h1.nx ((C.adv A1 R1).set i r1)))
theorem rs_asg {tg : Expr} {gd : TgD} {ws : List Nat} (he : RE cm X e fe) (hg : RG cm X tg gd ws) (hs : swapsWithSole [tg] e pos.line X.env = pure false := by rfl) (hw : swappedStores [tg] e X.env = pure none := by rfl)
    (h1 : (assignEach [tg] X.env).map (·.2) = [assign tg X.env] := by rfl) : RS cm X (.Assign [tg] e pos) (sAsg gd fe) := fun W tk m S H σ en D C h => by
  refine wS_of (ps_asg pe_w pg_w hs hw h1) (he W tk m S H σ en _ C (PF.bind h fun d S1 y m1 H1 e1 A1 R1 r1 k1 => ?_))
  cases e2 : gd d en S1 with
  | none => rw [e2] at k1; exact k1.elim
  | some en1 =>
    rw [e2] at k1
    exact hg m1 S1 H1 σ en d y en1 _ (C.adv A1 R1) r1 e2 fun σ' C' _ => k1.nx C'
theorem rs_par (i j : Nat) {x y : Str} {a b : Expr} {fl : E (List D)} {px py pt : Pos} {kt k2 pt2} (hc : X.calm = true) (hN : X.N.Nodup) (hi : X.N[i]? = some x) (hj : X.N[j]? = some y) (hij : i ≠ j)
    (hx : X.env.scope.names.lookup x = some .local) (hy : X.env.scope.names.lookup y = some .local) (ha : RA cm X [a, b] fl)
    (hw : swappedStores [.Tuple [.Name x px, .Name y py] kt pt] (.Tuple [a, b] k2 pt2) X.env = pure (some [x, y]))
    (hs : swapsWithSole [.Tuple [.Name x px, .Name y py] kt pt] (.Tuple [a, b] k2 pt2) pos.line X.env = pure false := by rfl) :
    RS cm X (.Assign [.Tuple [.Name x px, .Name y py] kt pt] (.Tuple [a, b] k2 pt2) pos) (sPar i j fl) := fun W tk m S H σ en D C h => by
  refine wS_of (ps_par hc hN hi hj hij hx hy pa_w hw hs) (ha W tk m S H σ en _ C (PF.bind h fun l S1 vs m1 H1 e1 A1 R1 r1 k1 => ?_))
  split at k1
  · simp only [Reps] at r1
    obtain ⟨v, r, e1, r1, w, r', e2, r2, e3⟩ := r1
    subst e3 e2 e1
    exact ⟨v, w, rfl, k1.nx (((C.adv A1 R1).set i r1).set j r2)⟩
  · exact k1.elim
theorem rs_aug (i : Nat) {x : Str} {op : Operator} {gd : Op2} {pos' : Pos} (hN : X.N.Nodup) (hi : X.N[i]? = some x) (hx : Loc X.env.scope x) (ho : OpD cm X (inplaceOp op) gd) (he : RE cm X e fe)
    (hf : X.fn x = true ∨ X.env.scope.names.lookup x = some .local := by first | exact .inl rfl | exact .inr rfl | assumption) : RS cm X (.AugAssign (.Name x pos') op e pos) (sAug i gd fe) := fun W tk m S H σ en D C h => by
  refine wS_of (ps_aug (ti := wO2 X (inplaceOp op)) hN hi hx pe_w (fun pins s σ H x y v u Q I r1 r2 h => h pins s σ v u I r1 r2) hf) ?_
  unfold sAug at h
  split at h
  · rename_i d e0
    obtain ⟨v, e1, rv⟩ := C.env i d e0
    refine ⟨v, e1, he W tk m S H σ en _ C (PF.bind h fun b S1 y m1 H1 _ A1 R1 r1 k1 => ?_)⟩
    refine ho m1 S1 H1 d b v y _ R1 (Rep.adv A1 _ _ rv) r1 (PQ.pok (σ := σ) (W := W) ?_)
    exact PF.bind k1 fun c S2 z m2 H2 _ A2 R2 r2 k2 => k2.nx (((C.adv A1 R1).adv A2 R2).set i r2)
  · exact h.elim
end

/-! ### what is walked -/
structure Src where
  hold : Option Nat
  items : List D
/-- the cell that is walked stands as it stood -/
noncomputable def still (h : Option Nat) (S0 S : So) : Bool := match h with
  | some n => @decide (S[n]? = S0[n]?) (Classical.propDecidable _)
  | none => true
theorem still_of {h : Option Nat} {S0 S : So} : still h S0 S = true ↔ ∀ n, h = some n → S[n]? = S0[n]? := by
  cases h with
  | none => simp [still]
  | some n =>
    have : still (some n) S0 S = @decide (S[n]? = S0[n]?) (Classical.propDecidable _) := rfl
    rw [this]
    constructor
    · intro q k e
      cases e
      exact @of_decide_eq_true _ (Classical.propDecidable _) q
    · intro q
      exact @decide_eq_true _ (Classical.propDecidable _) (q n rfl)
@[simp] theorem still_none {S0 S : So} : still none S0 S = true := rfl
theorem still_same {h : Option Nat} {S0 S : So} (e : ∀ n, h = some n → S[n]? = S0[n]?) : still h S0 S = true := still_of.mpr e
def WalkJ (cm : Ct) (J : It) (src : Src) (m1 : Am) (S1 : So) (H1 : Hp) : Prop := ∀ m S H, Adv m1 S1 H1 m S H → RelS cm m S H → still src.hold S1 S = true →
  (∀ i d, src.items[i]? = some d → J.go i H ∧ ∀ x H', J.yld i H x H' → (∀ a o, H a = some o → H' a = some o) ∧ Rep cm m S H' d x) ∧ J.stop src.items.length H
def wI (X : Cx) (tg iter : Expr) : TI := fun σ H R => ∀ pins s, Inv X pins σ H s → wpAny (model X.prog X.w) X.A (eval iter X.env) (fun v s1 => wpAny (model X.prog X.w) X.A (pyIter v) (PIE X pins σ tg R) X.xe s1) X.xe s
theorem pi_w {X : Cx} {tg iter : Expr} : PI X tg iter (wI X tg iter) := ⟨fun pins s σ H R I h => h pins s I⟩
theorem wI_of {X : Cx} {tg iter : Expr} {wi : TI} {σ : St} {H : Hp} {R : It → Hp → Prop} (h : PI X tg iter wi) (q : wi σ H R) : wI X tg iter σ H R := fun pins s I => h.run pins s σ H R I q
def rJ (cm : Ct) : Rp Src It := fun m S H src J => WalkJ cm J src m S H
def RI (cm : Cm) (X : Cx) (tg iter : Expr) (f : E Src) : Prop := ∀ W, Takes X W → ∀ m S H σ en R, Cond (ct X cm) m S H σ en → PQ (rJ (ct X cm)) (ct X cm) m S H σ W (f en S) R → wI X tg iter σ H R
/-- over a list or a tuple -/
def srcOf (d : D) (S : So) : Option Src := match d with
  | .lst l => some ⟨none, l⟩
  | .tup l => some ⟨none, l⟩
  | .scr ns => some ⟨none, ns.map D.int⟩
  | .ref n => match S[n]? with
    | some (some (.lst l)) => some ⟨some n, l⟩
    | _ => none
  | _ => none
def iSeq (f : E D) : E Src := fun en S => (f en S).bind fun d S1 => match srcOf d S1 with
  | some s => .ok s S1
  | none => .bad
def iSq (K : PySem.W.Frag) (tl : TE) : TI := fun σ H R => tl σ H fun x H1 => ∃ a, x = .ref a ∧ (((∃ xs, SqL K H1 a xs) ∧ R (Itl K a) H1) ∨ ((∃ xs, SqT K H1 a xs) ∧ R (Itt K a) H1))
theorem pi_sq {X : Cx} {tg l : Expr} {tl : TE} (hl : PE X l tl) : PI X tg l (iSq X.K tl) := by
  refine ⟨fun pins s σ H R I h => ?_⟩
  refine thn (hl.run pins s σ H _ I h) fun v s1 ⟨x, H1, I1, r1, q1⟩ => ?_
  obtain ⟨a, e, q1⟩ := q1
  subst e
  cases r1
  rcases q1 with ⟨⟨xs, hq⟩, q⟩ | ⟨⟨xs, hq⟩, q⟩
  · obtain ⟨its, rv, p, hz⟩ := I1.list hq
    refine wpAny_pyIter_list p.isList ?_
    refine ⟨s1.heap.objs.size, [s1.heap.objs.size], _, _, H1, rfl, I1.kept (t' := s1.toks) fun b o e => Heap.get?_push_of_some _ e, turn_list a _, ⟨_, Heap.get?_push_size _ rfl, rfl, rfl⟩, fun b hb => ?_, q⟩
    have e : b = s1.heap.objs.size := by simpa using hb
    subst e
    exact I1.fpOk (Nat.le_refl _) (I1.hok.fresh (Nat.le_refl _))
  · obtain ⟨its, rv, p, hz⟩ := I1.tuple hq
    refine wpAny_pyIter_tuple (show s1.heap.IsTuple a its.toArray from p) ?_
    refine ⟨s1.heap.objs.size, [s1.heap.objs.size], _, _, H1, rfl, I1.kept (t' := s1.toks) fun b o e => Heap.get?_push_of_some _ e, turn_tuple a _, ⟨_, Heap.get?_push_size _ rfl, rfl, rfl⟩, fun b hb => ?_, q⟩
    have e : b = s1.heap.objs.size := by simpa using hb
    subst e
    exact I1.fpOk (Nat.le_refl _) (I1.hok.fresh (Nat.le_refl _))
section
variable {cm : Ct} {m : Am} {S : So} {H : Hp} {a : Addr} {l : List D} {vs : List V} {hold : Option Nat}
theorem walk_l (h : ∀ m' S' H', Adv m S H m' S' H' → RelS cm m' S' H' → still hold S S' = true → SqL cm.K H' a vs) (r : Reps cm m S H l vs) (u : ∀ H xs, SqL cm.K H a xs → SqL cm.K H a vs → xs = vs ∨ True) : WalkJ cm (Itl cm.K a) ⟨hold, l⟩ m S H := fun m' S' H' A R e => by
  have q := h m' S' H' A R e
  have r' := Reps.adv A _ _ r
  refine ⟨fun i d ed => ?_, ⟨vs, q, by rw [r.length]; exact Nat.le_refl _⟩⟩
  obtain ⟨v, ev, rv⟩ := r'.get ed
  refine ⟨⟨vs, v, q, ev⟩, fun x H2 y => ?_⟩
  obtain ⟨e2, y⟩ := y
  subst e2
  have z := y vs q
  rw [ev] at z
  cases z
  exact ⟨fun _ _ h => h, rv⟩
theorem walk_t (h : ∀ m' S' H', Adv m S H m' S' H' → RelS cm m' S' H' → still hold S S' = true → SqT cm.K H' a vs) (r : Reps cm m S H l vs) : WalkJ cm (Itt cm.K a) ⟨hold, l⟩ m S H := fun m' S' H' A R e => by
  have q := h m' S' H' A R e
  have r' := Reps.adv A _ _ r
  refine ⟨fun i d ed => ?_, ⟨vs, q, by rw [r.length]; exact Nat.le_refl _⟩⟩
  obtain ⟨v, ev, rv⟩ := r'.get ed
  refine ⟨⟨vs, v, q, ev⟩, fun x H2 y => ?_⟩
  obtain ⟨e2, y⟩ := y
  subst e2
  have z := y vs q
  rw [ev] at z
  cases z
  exact ⟨fun _ _ h => h, rv⟩
end
theorem walk_of_src {cm : Ct} {m : Am} {S : So} {H : Hp} {d : D} {x : V} {src : Src} (R : RelS cm m S H) (r : Rep cm m S H d x) (h : srcOf d S = some src) :
    ∃ a, x = .ref a ∧ (((∃ xs, SqL cm.K H a xs) ∧ WalkJ cm (Itl cm.K a) src m S H) ∨ ((∃ xs, SqT cm.K H a xs) ∧ WalkJ cm (Itt cm.K a) src m S H)) := by
  cases d with
  | lst l =>
    simp only [srcOf, Option.some.injEq] at h
    subst h
    simp only [Rep] at r
    obtain ⟨a, vs, e, h1, h2, h3⟩ := r
    exact ⟨a, e, .inl ⟨⟨vs, .inl (.inl h1)⟩, walk_l (fun m' S' H' A _ _ => .inl (.inl (A.fr _ _ h1 h2.1).lst)) h3 fun _ _ _ _ => .inr trivial⟩⟩
  | tup l =>
    simp only [srcOf, Option.some.injEq] at h
    subst h
    simp only [Rep] at r
    obtain ⟨a, vs, e, h1, h3⟩ := r
    exact ⟨a, e, .inr ⟨⟨vs, h1⟩, walk_t (fun m' S' H' A _ _ => SqT.adv A h1) h3⟩⟩
  | scr ns =>
    simp only [srcOf, Option.some.injEq] at h
    subst h
    simp only [Rep] at r
    obtain ⟨a, e, h1⟩ := r
    exact ⟨a, e, .inl ⟨⟨_, h1.l⟩, walk_l (fun m' S' H' A _ _ => (SqS.adv A h1).l) (reps_ints ns) fun _ _ _ _ => .inr trivial⟩⟩
  | ref n =>
    simp only [srcOf] at h
    split at h
    · rename_i l e
      simp only [Option.some.injEq] at h
      subst h
      simp only [Rep] at r
      obtain ⟨vs, h1, h2⟩ := R.at_ n _ e
      refine ⟨m.p n, r.2, .inl ⟨⟨vs, .inl (.inl h1)⟩, fun m' S' H' A R' st => ?_⟩⟩
      have e' : S'[n]? = some (some (.lst l)) := (still_of.mp st n rfl).trans e
      obtain ⟨ws, g1, g2⟩ := R'.at_ n _ e'
      rw [A.mm n r.1] at g1
      refine ⟨fun i d ed => ?_, ⟨ws, .inl (.inl g1), by rw [g2.length]; exact Nat.le_refl _⟩⟩
      obtain ⟨v, ev, rv⟩ := g2.get ed
      refine ⟨⟨ws, v, .inl (.inl g1), ev⟩, fun x H2 y => ?_⟩
      obtain ⟨e2, y⟩ := y
      subst e2
      have z := y ws (.inl (.inl g1))
      rw [ev] at z
      cases z
      exact ⟨fun _ _ h => h, rv⟩
    · cases h
  | _ => simp [srcOf] at h
section
variable {cm : Cm} {X : Cx} {tg iter a b : Expr} {f fa fb : E D} {p pos : Pos}
theorem ri_seq (h : RE cm X iter f) : RI cm X tg iter (iSeq f) := fun W tk m S H σ en R C hq => by
  refine wI_of (pi_sq pe_w) ?_
  refine h W tk m S H σ en _ C (PQ.bind hq fun d S1 x m1 H1 e1 A1 R1 r1 h1 => ?_)
  cases e : srcOf d S1 with
  | none => rw [e] at h1; exact h1.elim
  | some src =>
    rw [e] at h1
    obtain ⟨a, rfl, ⟨h2, h3⟩ | ⟨h2, h3⟩⟩ := walk_of_src (cm := ct X cm) R1 r1 e
    · exact ⟨a, rfl, .inl ⟨h2, PQ.now h1 R1 h3⟩⟩
    · exact ⟨a, rfl, .inr ⟨h2, PQ.now h1 R1 h3⟩⟩
/-- range(a), range(a, b) -/
def rngL (lo : Int) (n : Nat) : List D := (List.range n).map fun (i : Nat) => D.int (lo + (i : Int))
def iRg1 (f : E (List D)) : E Src := fun en S => (f en S).bind fun l S1 => match l with
  | [.int j] => if -(2 ^ 62) ≤ j ∧ j < 2 ^ 62 then .ok ⟨none, rngL 0 j.toNat⟩ S1 else .bad
  | _ => .bad
def iRg2 (f : E (List D)) : E Src := fun en S => (f en S).bind fun l S2 => match l with
  | [.int i, .int j] => if -(2 ^ 62) ≤ i ∧ i < 2 ^ 62 ∧ -(2 ^ 62) ≤ j ∧ j < 2 ^ 62 then .ok ⟨none, rngL i (j - i).toNat⟩ S2 else .bad
  | _ => .bad
theorem walk_rng {cm : Ct} {m : Am} {S : So} {H : Hp} (lo : Int) (n : Nat) : WalkJ cm (Itr lo n) ⟨none, rngL lo n⟩ m S H := fun m' S' H' A R e => by
  have hl : (rngL lo n).length = n := by simp [rngL]
  refine ⟨fun i d ed => ?_, (by show n ≤ (rngL lo n).length; rw [hl]; exact Nat.le_refl _)⟩
  have hi : i < n := by
    have q : i < (rngL lo n).length := (List.getElem?_eq_some_iff.mp ed).1
    rw [hl] at q
    exact q
  refine ⟨hi, fun x H2 y => ?_⟩
  obtain ⟨e1, e2⟩ := y
  subst e1 e2
  simp only [rngL, List.getElem?_map, List.getElem?_range hi, Option.map_some, Option.some.injEq] at ed
  subst ed
  exact ⟨fun _ _ h => h, by simp only [Rep]⟩
theorem ri_rg1 {fl : E (List D)} (hg : Gl X "range") (hm : X.mg "range" = none) (ha : RA cm X [a] fl) (hs : starEach [a] X.env = [(false, eval a X.env)] := by rfl) : RI cm X tg (.Call (.Name "range" p) [a] [] pos) (iRg1 fl) := fun W tk m S H σ en R C hq => by
  refine wI_of (pi_range1 hg hm pa_w hs) ?_
  refine ha W tk m S H σ en _ C (PQ.bind hq fun l S1 x m1 H1 e1 A1 R1 r1 h1 => ?_)
  split at h1
  · rename_i j
    split at h1
    · rename_i hc
      simp only [Reps, Rep] at r1
      obtain ⟨v, r, e1, e2, e3⟩ := r1
      subst e3 e2 e1
      exact ⟨j, rfl, hc.1, hc.2, PQ.now h1 R1 (walk_rng 0 j.toNat)⟩
    · exact h1.elim
  · exact h1.elim
theorem ri_rg2 {fl : E (List D)} (hg : Gl X "range") (hm : X.mg "range" = none) (ha : RA cm X [a, b] fl) (hs : starEach [a, b] X.env = [(false, eval a X.env), (false, eval b X.env)] := by rfl) (hs2 : starEach [b] X.env = [(false, eval b X.env)] := by rfl) : RI cm X tg (.Call (.Name "range" p) [a, b] [] pos) (iRg2 fl) := fun W tk m S H σ en R C hq => by
  refine wI_of (pi_range2 hg hm pa_w hs hs2) ?_
  refine ha W tk m S H σ en _ C (PQ.bind hq fun l S1 x m1 H1 e1 A1 R1 r1 h1 => ?_)
  split at h1
  · rename_i i j
    split at h1
    · rename_i hc
      simp only [Reps, Rep] at r1
      obtain ⟨v, r, e1, e2, w, r', e3, e4, e5⟩ := r1
      subst e5 e4 e3 e2 e1
      exact ⟨i, j, rfl, hc, PQ.now h1 R1 (walk_rng i (j - i).toNat)⟩
    · exact h1.elim
  · exact h1.elim
end

/-! ### for -/
noncomputable def forM (hold : Option Nat) (S0 : So) (g : TgD) (body : T) : List D → T
  | [], en, S => .ok (.nx en) S
  | d :: l, en, S => match g d en S with
    | none => .bad
    | some en1 => (body en1 S).bind fun fl S2 => match fl with
      | .nx en2 => if still hold S0 S2 then forM hold S0 g body l en2 S2 else .bad
      | .ct en2 => if still hold S0 S2 then forM hold S0 g body l en2 S2 else .bad
      | .bk en2 => .ok (.nx en2) S2
      | .rt x => .ok (.rt x) S2
noncomputable def sFor (fi : E Src) (g : TgD) (body : T) : T := fun en S => (fi en S).bind fun src S1 => forM src.hold S1 g body src.items en S1
section
variable {cm : Cm} {X : Cx} {tg iter : Expr} {body : List Stmt} {fi : E Src} {g : TgD} {fb : T} {pos : Pos}
theorem rs_for {ws : List Nat} (hp : PassesOwn (model X.prog X.w) X.A X.env X.xe) (hc : X.calm = true) (hi : RI cm X tg iter fi) (hg : RG cm X tg g ws) (hb : RSs cm X body fb)
    (hs : ∀ x, foldedSetIterable iter X.env x = pure x := by intro _; rfl) : RS cm X (.For tg iter body [] pos) (sFor fi g fb) := fun W tk m S H σ en D C h => by
  refine wS_of (ps_for hp hc pi_w pg_w pss_w hs) ?_
  refine hi W tk m S H σ en _ C (PF.bind h fun src S1 J m1 H1 e1 A1 R1 wj h1 => ?_)
  refine ⟨fun i μ σ' H' => μ = src.items.length - i ∧ i ≤ src.items.length ∧ ∃ m' S' en', Adv m1 S1 H1 m' S' H' ∧ Cond (ct X cm) m' S' H' σ' en' ∧ still src.hold S1 S' = true ∧ PF (ct X cm) m' S' H' W (forM src.hold S1 g fb (src.items.drop i) en' S') D,
    ⟨_, rfl, Nat.zero_le _, m1, S1, en, Adv.refl, C.adv A1 R1, still_same fun _ _ => rfl, by rw [List.drop_zero]; exact h1⟩, ?_⟩
  rintro i μ σ' H' ⟨rfl, hi', m', S', en', A', C', st, hq⟩
  obtain ⟨w1, w2⟩ := wj m' S' H' A' C'.rel st
  by_cases hlt : i < src.items.length
  · have ed : src.items[i]? = some src.items[i] := List.getElem?_eq_getElem hlt
    obtain ⟨go, yl⟩ := w1 i _ ed
    rw [List.drop_eq_getElem_cons hlt] at hq
    unfold forM at hq
    cases eg : g src.items[i] en' S' with
    | none => simp only [eg] at hq; exact hq.elim
    | some en1 =>
      simp only [eg] at hq
      refine .inr ⟨go, fun σ2 H2 => ∃ m2 S2 en2, Adv m1 S1 H1 m2 S2 H2 ∧ Cond (ct X cm) m2 S2 H2 σ2 en2 ∧ still src.hold S1 S2 = true ∧ PF (ct X cm) m2 S2 H2 W (forM src.hold S1 g fb (src.items.drop (i + 1)) en2 S2) D,
        fun σ2 H2 z => ⟨src.items.length - (i + 1), by omega, rfl, by omega, z⟩, fun x H2 y => ?_⟩
      obtain ⟨k, rx⟩ := yl x H2 y
      have A2 : Adv m' S' H' m' S' H2 := Adv.grow k
      refine hg m' S' H2 σ' en' _ x en1 _ (C'.adv A2 (C'.rel.grow k)) rx eg fun σ3 C3 _ => ?_
      have hq2 := PF.after A2 hq
      refine hb W tk m' S' H2 σ3 en1 _ C3 ?_
      cases eb : fb en1 S' with
      | bad => rw [eb] at hq2; exact hq2
      | err x' en2 S2 => rw [eb] at hq2; exact hq2
      | ok fl S2 =>
        rw [eb] at hq2
        cases fl with
        | nx en2 =>
          intro m3 σ4 H4 A4 C4
          simp only [R.bind_ok] at hq2
          split at hq2
          · rename_i st2
            exact ⟨m3, S2, en2, (A'.trans A2).trans A4, C4, st2, PF.after A4 hq2⟩
          · exact hq2.elim
        | ct en2 =>
          intro m3 σ4 H4 A4 C4
          simp only [R.bind_ok] at hq2
          split at hq2
          · rename_i st2
            exact ⟨m3, S2, en2, (A'.trans A2).trans A4, C4, st2, PF.after A4 hq2⟩
          · exact hq2.elim
        | bk en2 => exact fun m3 σ4 H4 A4 C4 => hq2 m3 σ4 H4 A4 C4
        | rt z => exact hq2
  · have e : i = src.items.length := by omega
    subst e
    rw [List.drop_length] at hq
    exact .inl ⟨w2, PF.nx hq C'⟩
end
end Mi

/-! Mi5: while, comprehensions. -/
namespace Mi
open PySem PySem.Spec PyProof.Rows L2

def whileM (t : E Bool) (f : T) : Nat → T
  | 0, _, _ => .bad
  | n + 1, en, S => (t en S).bind fun b S1 => match b with
    | false => .ok (.nx en) S1
    | true => (f en S1).bind fun fl S2 => match fl with
      | .nx en2 => whileM t f n en2 S2
      | .ct en2 => whileM t f n en2 S2
      | .bk en2 => .ok (.nx en2) S2
      | .rt x => .ok (.rt x) S2
section
variable {cm : Cm} {X : Cx} {c : Expr} {body : List Stmt} {t : E Bool} {f : T} {pos : Pos}
theorem rs_while (n : Nat) (hp : PassesOwn (model X.prog X.w) X.A X.env X.xe) (hc : RT cm X c t) (hb : RSs cm X body f) : RS cm X (.While c body [] pos) (whileM t f n) := fun W tk m S H σ en D C h => by
  refine wS_of (ps_while hp pt_w pss_w) ?_
  refine ⟨fun k σ' H' => ∃ m' S' en', Cond (ct X cm) m' S' H' σ' en' ∧ PF (ct X cm) m' S' H' W (whileM t f k en' S') D, ⟨n, m, S, en, C, h⟩, ?_⟩
  rintro k σ' H' ⟨m', S', en', C', q⟩
  cases k with
  | zero => exact q.elim
  | succ k =>
    refine hc W tk m' S' H' σ' en' _ C' (PF.bind q fun b S1 x m1 H1 e1 A1 R1 r1 h1 => ?_)
    obtain rfl : b = x := r1
    cases b with
    | false => rw [if_neg Bool.false_ne_true]; exact PF.nx h1 (C'.adv A1 R1)
    | true =>
      rw [if_pos rfl]
      refine ⟨fun σ2 H2 => ∃ m2 S2 en2, Cond (ct X cm) m2 S2 H2 σ2 en2 ∧ PF (ct X cm) m2 S2 H2 W (whileM t f k en2 S2) D, fun σ2 H2 z => ⟨k, Nat.lt_succ_self k, z⟩, ?_⟩
      refine hb W tk m1 S1 H1 σ' en' _ (C'.adv A1 R1) ?_
      cases eb : f en' S1 with
      | bad => rw [eb] at h1; exact h1
      | err x' en2 S2 => rw [eb] at h1; exact h1
      | ok fl S2 =>
        rw [eb] at h1
        cases fl with
        | nx en2 => exact fun m3 σ4 H4 A4 C4 => ⟨m3, S2, en2, C4, PF.after A4 h1⟩
        | ct en2 => exact fun m3 σ4 H4 A4 C4 => ⟨m3, S2, en2, C4, PF.after A4 h1⟩
        | bk en2 => exact fun m3 σ4 H4 A4 C4 => h1 m3 σ4 H4 A4 C4
        | rt z => exact h1
end

/-! ### comprehensions -/
def wipeE (en : En) : List Nat → En
  | [] => en
  | v :: vs => (wipeE en vs).set v none
theorem wipeE_len (en : En) : ∀ vs : List Nat, (wipeE en vs).length = en.length
  | [] => rfl
  | v :: vs => by unfold wipeE; rw [List.length_set, wipeE_len en vs]
theorem Cond.wipe {cm : Ct} {m : Am} {S : So} {H : Hp} {σ : St} {en : En} (C : Cond cm m S H σ en) : ∀ vs : List Nat, Cond cm m S H (L2.wipe σ vs) (wipeE en vs)
  | [] => C
  | v :: vs => by
    have C' := Cond.wipe C vs
    refine ⟨C.rel, ?_, fun i d e => ?_⟩
    · show ((wipeE en vs).set v none).length = ((L2.wipe σ vs).set v none).length
      rw [List.length_set, List.length_set, C'.len]
    · show ∃ w, ((L2.wipe σ vs).set v none)[i]? = some (some w) ∧ _
      have e' : ((wipeE en vs).set v none)[i]? = some (some d) := e
      by_cases h : v = i
      · subst h
        by_cases hl : v < (wipeE en vs).length
        · rw [List.getElem?_set_self hl] at e'; cases e'
        · rw [List.getElem?_eq_none (by rw [List.length_set]; omega)] at e'; cases e'
      · rw [List.getElem?_set_ne h] at e' ⊢
        exact C'.env i d e'
theorem wipe_get (τ : St) (i : Nat) : ∀ vs : List Nat, (wipe τ vs)[i]? = if i ∈ vs then (if i < τ.length then some none else none) else τ[i]?
  | [] => by simp [wipe]
  | v :: vs => by
    show ((wipe τ vs).set v none)[i]? = _
    by_cases h : v = i
    · subst h
      by_cases hl : v < τ.length
      · rw [List.getElem?_set_self (by rw [wipe_length]; exact hl)]
        simp [hl]
      · rw [List.getElem?_eq_none (by rw [List.length_set, wipe_length]; omega)]
        simp [hl]
    · rw [List.getElem?_set_ne h, wipe_get τ i vs]
      simp [Ne.symm h]
theorem wipe_off {σ σ' : St} {ws vs : List Nat} (o : Off' ws σ σ') (hs : ∀ j ∈ ws, j ∈ vs) : wipe σ' vs = wipe σ vs := by
  apply List.ext_getElem?
  intro i
  rw [wipe_get, wipe_get, o.1]
  by_cases hi : i ∈ vs
  · simp [hi]
  · simp only [hi, if_false]
    exact o.2 i fun z => hi (hs i z)
theorem wipe_idem (σ : St) (vs : List Nat) : wipe (wipe σ vs) vs = wipe σ vs := by
  apply List.ext_getElem?
  intro i
  rw [wipe_get, wipe_get, wipe_length]
  by_cases hi : i ∈ vs
  · simp [hi]
  · simp only [hi, if_false]

noncomputable def compM (hold : Option Nat) (S0 : So) (g : TgD) (t : E Bool) (f : E D) (enw : En) : List D → List D → So → R (List D)
  | [], acc, S => .ok acc S
  | d :: l, acc, S => match g d enw S with
    | none => .bad
    | some en1 => match t en1 S with
      | .ok true S1 => match f en1 S1 with
        | .ok y S2 => if acc.length < sizeLine ∧ still hold S0 S2 = true then compM hold S0 g t f enw l (acc ++ [y]) S2 else .bad
        | _ => .bad
      | .ok false S1 => if still hold S0 S1 = true then compM hold S0 g t f enw l acc S1 else .bad
      | _ => .bad
/-- as a value; as a cell -/
noncomputable def mComp (fi : E Src) (g : TgD) (t : E Bool) (f : E D) (vs : List Nat) : E D := fun en S => (fi en S).bind fun src S1 => (compM src.hold S1 g t f (wipeE en vs) src.items [] S1).bind fun l S2 => .ok (.lst l) S2
noncomputable def mCompN (fi : E Src) (g : TgD) (t : E Bool) (f : E D) (vs : List Nat) : E D := fun en S => (fi en S).bind fun src S1 => (compM src.hold S1 g t f (wipeE en vs) src.items [] S1).bind fun l S2 => .ok (.ref S2.length) (S2 ++ [some (.lst l)])
def tT : E Bool := fun _ S => .ok true S
def wTs (X : Cx) (ifs : List Expr) : TT := fun σ H Q => ∀ pins s, Inv X pins σ H s →
    wpAny (model X.prog X.w) X.A (forIn ifs true fun c r => if r = true then do let ok ← isTrue c X.env (eval c X.env); pure (ForInStep.yield ok) else pure (ForInStep.yield r)) (TP X pins σ Q) X.xe s
theorem wTs_of {X : Cx} {ifs : List Expr} {t : TT} {σ : St} {H : Hp} {Q : Bool → Hp → Prop} (h : PTs X ifs t) (q : t σ H Q) : wTs X ifs σ H Q := fun pins s I => h.run pins s σ H Q I q
def RTs (cm : Cm) (X : Cx) (ifs : List Expr) (f : E Bool) : Prop := ∀ W, Takes X W → ∀ m S H σ en Q, Cond (ct X cm) m S H σ en → PQ rB (ct X cm) m S H σ W (f en S) Q → wTs X ifs σ H Q
section
variable {cm : Cm} {X : Cx} {c : Expr} {t : E Bool}
theorem rts_nil : RTs cm X [] tT := fun W tk m S H σ en Q C h => wTs_of pts_nil (PQ.now h C.rel rfl)
theorem rts_one (h : RT cm X c t) : RTs cm X [c] t := fun W tk m S H σ en Q C q => wTs_of (pts_one pt_w) (h W tk m S H σ en Q C q)
end
/-- D hidden -/
def Am.hide (m : Am) (a : Addr) : Am := { m with hid := fun b => m.hid b ∨ b = a }
section
variable {cm : Ct} {m m1 : Am} {S S1 : So} {H H1 : Hp} {a : Addr} {xs : List V} {u : HO}
theorem hide_adv (h : H a = none) : Adv m S H (m.hide a) S (upd H a u) where
  len := Nat.le_refl _
  mm := fun _ _ => rfl
  al := fun n o e => .inl ⟨(List.getElem?_eq_some_iff.mp e).1, o, e⟩
  fr := fun b o e _ => .inl (grow_upd h b o e)
  tr := fun b e z => by
    by_cases c : b = a
    · subst c; exact e h
    · rw [upd_ne c] at z; exact e z
  tp := fun b xs e => grow_upd h b _ e
  fz := fun b o u e => grow_upd h b _ e
  hd1 := fun b z => .inl z
  hd2 := fun b z => z.elim .inl fun q => .inr (by rw [q]; exact h)
  hd3 := fun b o _ e => grow_upd h b o e
theorem hide_rel (R : RelS cm m S H) (h : H a = none) : RelS cm (m.hide a) S (upd H a u) := by
  have A : Adv m S H (m.hide a) S (upd H a u) := hide_adv h
  refine ⟨fun n o e => (R.at_ n o e).kp A.kp (upd_ne (R.off_new h n o e)), R.inj, fun b z => ?_, fun b z => z.elim (R.hoff b) fun q => by rw [q]; exact R.off_new h⟩
  rcases z with z | z
  · exact A.tr b (R.hid b z)
  · subst z
    rw [upd_same]
    exact fun q => by cases q
/-- the hidden list is written -/
theorem hid_kp (hh : m.hid a) (e : H a = some (.lst xs)) {ys : List V} : Kp m S H m S (upd H a (.lst ys)) := by
  have ne : ∀ b o, H b = some o → (∀ zs, o ≠ .lst zs) → b ≠ a := fun b o q n z => by
    subst z; rw [e] at q; exact n xs (Option.some.inj q).symm
  refine ⟨fun b o q f => ⟨?_, f⟩, fun b zs q => ?_, fun b o v q => ?_, Nat.le_refl _, fun _ _ => rfl⟩
  · unfold Sm; rw [upd_ne fun z => f.2 (by rw [z]; exact hh)]; exact .inl q
  · rw [upd_ne (ne b _ q fun _ z => by cases z)]; exact q
  · rw [upd_ne (ne b _ q fun _ z => by cases z)]; exact q
theorem hid_rel (R : RelS cm m S H) (hh : m.hid a) (o : Off m S a) (e : H a = some (.lst xs)) {ys : List V} : RelS cm m S (upd H a (.lst ys)) := by
  refine ⟨fun n u q => (R.at_ n u q).kp (hid_kp hh e) (upd_ne (o n u q)), R.inj, fun b z => ?_, R.hoff⟩
  by_cases c : b = a
  · subst c; rw [upd_same]; exact fun q => by cases q
  · rw [upd_ne c]; exact R.hid b z
theorem hid_adv (A : Adv m S H m1 S1 H1) (h : H a = none) {ys : List V} (k : ∃ u, H1 a = some (.lst u)) : Adv m S H m1 S1 (upd H1 a (.lst ys)) where
  len := A.len
  mm := A.mm
  al := A.al
  fr := fun b o e f => by unfold Sm; rw [upd_ne (ne_of_none e h)]; exact A.fr b o e f
  tr := fun b e z => by
    by_cases c : b = a
    · subst c; rw [upd_same] at z; cases z
    · rw [upd_ne c] at z; exact A.tr b e z
  tp := fun b xs e => by rw [upd_ne (ne_of_none e h)]; exact A.tp b xs e
  fz := fun b o u e => by rw [upd_ne (ne_of_none e h)]; exact A.fz b o u e
  hd1 := A.hd1
  hd2 := A.hd2
  hd3 := fun b o z e => by rw [upd_ne (ne_of_none e h)]; exact A.hd3 b o z e
/-- shown at the end -/
def Am.show (m : Am) (m0 : Am) : Am := { m with hid := m0.hid }
theorem show_kp (A : Adv m S H m1 S1 H1) : Kp m1 S1 H1 (m1.show m) S1 H1 := ⟨fun b o e f => ⟨.inl e, f.1, fun z => f.2 (A.hd1 b z)⟩, fun _ _ e => e, fun _ _ _ e => e, Nat.le_refl _, fun _ _ => rfl⟩
theorem show_rel (A : Adv m S H m1 S1 H1) (R : RelS cm m1 S1 H1) : RelS cm (m1.show m) S1 H1 := ⟨fun n o e => (R.at_ n o e).kp (show_kp A) rfl, R.inj, fun b z => R.hid b (A.hd1 b z), fun b z => R.hoff b (A.hd1 b z)⟩
theorem show_adv (A : Adv m S H m1 S1 H1) : Adv m S H (m1.show m) S1 H1 := ⟨A.len, A.mm, A.al, A.fr, A.tr, A.tp, A.fz, fun _ h => h, fun _ h => .inl h, A.hd3⟩
end
def rL (cm : Ct) : Rp (List D) Addr := fun m S H l a => ∃ vs, H a = some (.lst vs) ∧ Reps cm m S H l vs
/-- what a comprehension leaves: the list at a new place -/
def PC' (cm : Ct) (m : Am) (S : So) (H : Hp) (r : R (List D)) (Q : Addr → Hp → Prop) : Prop := match r with
  | .ok l S' => ∀ a m' H' vs, Adv m S H m' S' H' → RelS cm m' S' H' → H a = none → H' a = some (.lst vs) → m'.hid a → Off m' S' a → Reps cm m' S' H' l vs → Q a H'
  | _ => False
section
variable {cm : Cm} {X : Cx} {elt tg iter : Expr} {ifs : List Expr} {scope : Scope} {own : List (Str × Nat)} {pos : Pos} {fi : E Src} {g : TgD} {t : E Bool} {f : E D} {ws : List Nat}
def bG (X : Cx) (scope : Scope) (tg : Expr) : TG := fun v σ H Q => ∀ (s : Shared) (H0 : Hp) (C : Addr) (cl : List (Str × Addr)) (fp : List Addr), wG (X.blk s H0 scope (compEnvC scope cl C X.env) fp) tg v σ H Q
def bT (X : Cx) (scope : Scope) (ifs : List Expr) : TT := fun σ H Q => ∀ (s : Shared) (H0 : Hp) (C : Addr) (cl : List (Str × Addr)) (fp : List Addr), wTs (X.blk s H0 scope (compEnvC scope cl C X.env) fp) ifs σ H Q
def bE (X : Cx) (scope : Scope) (e : Expr) : TE := fun σ H Q => ∀ (s : Shared) (H0 : Hp) (C : Addr) (cl : List (Str × Addr)) (fp : List Addr), wE (X.blk s H0 scope (compEnvC scope cl C X.env) fp) e σ H Q
theorem comp_run
    (hg : ∀ (s : Shared) (H : Hp) (C : Addr) (cl : List (Str × Addr)) (fp : List Addr), RG cm (X.blk s H scope (compEnvC scope cl C X.env) fp) tg g ws)
    (ht : ∀ (s : Shared) (H : Hp) (C : Addr) (cl : List (Str × Addr)) (fp : List Addr), RTs cm (X.blk s H scope (compEnvC scope cl C X.env) fp) ifs t)
    (he : ∀ (s : Shared) (H : Hp) (C : Addr) (cl : List (Str × Addr)) (fp : List Addr), RE cm (X.blk s H scope (compEnvC scope cl C X.env) fp) elt f)
    (hw : ∀ j ∈ ws, j ∈ own.map (·.2)) {m1 : Am} {S1 : So} {H1 : Hp} {σ : St} {en : En} {src : Src} {J : It} {Q : VK} (C : Cond (ct X cm) m1 S1 H1 σ en) (wj : WalkJ (ct X cm) J src m1 S1 H1)
    (h : PC' (ct X cm) m1 S1 H1 (compM src.hold S1 g t f (wipeE en (own.map (·.2))) src.items [] S1) (fun a => Q (.ref a))) :
    ∀ D, H1 D = none → ∃ W : Nat → Nat → Hp → Prop, (∃ m, W 0 m (upd H1 D (.lst []))) ∧ ∀ i m H, W i m H →
      (J.stop i H ∧ Q (.ref D) H) ∨ (J.go i H ∧ ∃ Nx : Hp → Prop, (∀ H', Nx H' → ∃ m', m' < m ∧ W (i + 1) m' H') ∧ ∀ x H', J.yld i H x H' → bG X scope tg x (wipe σ (own.map (·.2))) H' fun σ2 H2 => wipe σ2 (own.map (·.2)) = wipe σ (own.map (·.2)) ∧ bT X scope ifs σ2 H2 fun b H3 =>
        if b = true then bE X scope elt σ2 H3 fun y H4 => ∃ acc, H4 D = some (.lst acc) ∧ acc.length < sizeLine ∧ Nx (upd H4 D (.lst (acc ++ [y]))) else Nx H3) := by
  intro D hD
  generalize hvs : own.map (·.2) = vs at *
  refine ⟨fun i μ H' => μ = src.items.length - i ∧ i ≤ src.items.length ∧ ∃ m' S' acc accV, Adv m1 S1 H1 m' S' H' ∧ RelS (ct X cm) m' S' H' ∧ m'.hid D ∧ Off m' S' D ∧ H' D = some (.lst accV) ∧ Reps (ct X cm) m' S' H' acc accV ∧ still src.hold S1 S' = true ∧
      PC' (ct X cm) m1 S1 H1 (compM src.hold S1 g t f (wipeE en vs) (src.items.drop i) acc S') (fun a => Q (.ref a)),
    ⟨_, rfl, Nat.zero_le _, m1.hide D, S1, [], [], hide_adv hD, hide_rel C.rel hD, .inr rfl, (C.rel.off_new hD : Off m1 S1 D), upd_same, Reps.nil, still_same fun _ _ => rfl, by rw [List.drop_zero]; exact h⟩, ?_⟩
  rintro i μ H' ⟨rfl, hi', m', S', acc, accV, A', R', hid, off, hL, rl, st, hq⟩
  obtain ⟨w1, w2⟩ := wj m' S' H' A' R' st
  by_cases hlt : i < src.items.length
  · have ed : src.items[i]? = some src.items[i] := List.getElem?_eq_getElem hlt
    obtain ⟨go, yl⟩ := w1 i _ ed
    rw [List.drop_eq_getElem_cons hlt] at hq
    unfold compM at hq
    cases eg : g src.items[i] (wipeE en vs) S' with
    | none => simp only [eg] at hq; exact hq.elim
    | some en1 =>
      simp only [eg] at hq
      refine .inr ⟨go, fun H2 => ∃ m2 S2 acc2 accV2, Adv m1 S1 H1 m2 S2 H2 ∧ RelS (ct X cm) m2 S2 H2 ∧ m2.hid D ∧ Off m2 S2 D ∧ H2 D = some (.lst accV2) ∧ Reps (ct X cm) m2 S2 H2 acc2 accV2 ∧ still src.hold S1 S2 = true ∧
          PC' (ct X cm) m1 S1 H1 (compM src.hold S1 g t f (wipeE en vs) (src.items.drop (i + 1)) acc2 S2) (fun a => Q (.ref a)),
        fun H2 z => ⟨src.items.length - (i + 1), by omega, rfl, by omega, z⟩, fun x H2 y => ?_⟩
      obtain ⟨k, rx⟩ := yl x H2 y
      have A2 : Adv m' S' H' m' S' H2 := Adv.grow k
      have R2 := R'.grow k
      have C2 : Cond (ct X cm) m' S' H2 (wipe σ vs) (wipeE en vs) := ((C.adv A' R').adv A2 R2).wipe vs
      intro s H0 Cb cl fp
      refine hg s H0 Cb cl fp m' S' H2 (wipe σ vs) (wipeE en vs) _ x en1 _ C2 rx eg fun σ3 C3 o3 => ⟨?_, ?_⟩
      · have e1 := wipe_off o3 hw
        rw [e1]
        exact wipe_idem σ vs
      · intro s H0 Cb cl fp
        have offD : ∀ {m5 : Am} {S5 : So} {H5 : Hp}, Adv m' S' H2 m5 S5 H5 → H5 D = some (.lst accV) ∧ Off m5 S5 D ∧ m5.hid D := fun A5 => ⟨(A5.fr D _ (k D _ hL) off).lst, A5.off (k D _ hL) off, A5.hd1 D hid⟩
        cases et : t en1 S' with
        | bad => simp only [et] at hq; exact hq.elim
        | err _ _ _ => simp only [et] at hq; exact hq.elim
        | ok b S3 =>
          refine ht s H0 Cb cl fp (fun _ _ _ _ => False) takes0 m' S' H2 σ3 en1 _ C3 ?_
          rw [et]
          intro b' m3 H3 A3 R3 eb
          obtain rfl : b = b' := eb
          cases b with
          | false =>
            rw [if_neg Bool.false_ne_true]
            simp only [et] at hq
            split at hq
            · rename_i st3
              obtain ⟨o1, o2, o3'⟩ := offD A3
              exact ⟨m3, S3, acc, accV, (A'.trans A2).trans A3, R3, o3', o2, o1, Reps.adv (A2.trans A3) _ _ rl, st3, hq⟩
            · exact hq.elim
          | true =>
            rw [if_pos rfl]
            simp only [et] at hq
            cases ef : f en1 S3 with
            | bad => simp only [ef] at hq; exact hq.elim
            | err _ _ _ => simp only [ef] at hq; exact hq.elim
            | ok yv S4 =>
              intro s H0 Cb cl fp
              refine he s H0 Cb cl fp (fun _ _ _ _ => False) takes0 m3 S3 H3 σ3 en1 _ (C3.adv A3 R3) ?_
              rw [ef]
              intro v m4 H4 A4 R4 rv
              simp only [ef] at hq
              split at hq
              · rename_i st4
                obtain ⟨o1, o2, o3'⟩ := offD (A3.trans A4)
                have rl4 := Reps.adv ((A2.trans A3).trans A4) _ _ rl
                refine ⟨accV, o1, by rw [← rl4.length]; exact st4.1, m4, S4, acc ++ [yv], accV ++ [v], hid_adv (((A'.trans A2).trans A3).trans A4) hD ⟨_, o1⟩, hid_rel R4 o3' o2 o1, o3', o2, upd_same, ?_, st4.2, hq⟩
                exact Reps.kp (hid_kp o3' o1) _ _ (rl4.append (Reps.cons rv Reps.nil))
              · exact hq.elim
  · have e : i = src.items.length := by omega
    subst e
    rw [List.drop_length] at hq
    refine .inl ⟨w2, hq D m' H' accV A' R' hD hL hid off rl⟩
theorem PQ.pc {α : Type} {rp : Rp α V} {cm : Ct} {m : Am} {S : So} {H : Hp} {σ : St} {W : WX} {r : R (List D)} {k : List D → So → R α} {Q : VK} (h : PQ rp cm m S H σ W (r.bind k) Q) (R0 : RelS cm m S H)
    (hn : ∀ x en' S', r ≠ .err x en' S') (hk : ∀ l S' a m' H' vs, Adv m S H m' S' H' → RelS cm m' S' H' → H a = none → H' a = some (.lst vs) → Free m' S' a → Reps cm m' S' H' l vs → PQ rp cm m' S' H' σ W (k l S') Q → Q (.ref a) H') :
    PC' cm m S H r (fun a => Q (.ref a)) := by
  cases r with
  | ok l S' =>
    exact fun a mh H' vs A R h1 h2 hid off h4 => hk l S' a (mh.show m) H' vs (show_adv A) (show_rel A R) h1 h2 ⟨off, fun z => R0.hid a z h1⟩ (Reps.kp (show_kp A) _ _ h4) (PQ.after (show_adv A) h)
  | err x en' S' => exact (hn x en' S' rfl).elim
  | bad => exact h
/-- the new list becomes a cell -/
theorem thaw {cm : Ct} {m mh : Am} {S S' : So} {H H' : Hp} {a : Addr} {vs : List V} {l : List D} (R0 : RelS cm m S H) (A : Adv m S H mh S' H') (R : RelS cm mh S' H') (hn : H a = none) (h1 : H' a = some (.lst vs)) (hid : mh.hid a) (off : Off mh S' a) (r : Reps cm mh S' H' l vs) :
    Adv m S H ((mh.show m).put S'.length a) (S' ++ [some (.lst l)]) H' ∧ RelS cm ((mh.show m).put S'.length a) (S' ++ [some (.lst l)]) H' := by
  have low : ∀ (n : Nat) (v : Ob), (S' ++ [some (Ob.lst l)])[n]? = some (some v) → (n < S'.length ∧ S'[n]? = some (some v)) ∨ (n = S'.length ∧ v = .lst l) := fun n v e => by
    by_cases h : n < S'.length
    · rw [List.getElem?_append_left h] at e
      exact .inl ⟨h, e⟩
    · have hl : n < (S' ++ [some (Ob.lst l)]).length := (List.getElem?_eq_some_iff.mp e).1
      have e' : n = S'.length := by simp at hl; omega
      subst e'
      simp at e
      exact .inr ⟨rfl, e.symm⟩
  have pl : ∀ n, n < S'.length → ((mh.show m).put S'.length a).p n = mh.p n := fun n h => by simp [Am.put, Am.show, Nat.ne_of_lt h]
  have pa : ((mh.show m).put S'.length a).p S'.length = a := by simp [Am.put]
  have hd : ∀ b, ((mh.show m).put S'.length a).hid b → m.hid b := fun b z => z
  have K : Kp mh S' H' ((mh.show m).put S'.length a) (S' ++ [some (.lst l)]) H' := ⟨fun b o e f => ⟨.inl e, fun n u q => by
    rcases low n u q with ⟨h, q⟩ | ⟨rfl, _⟩
    · rw [pl n h]
      exact f.1 n u q
    · rw [pa]
      exact fun z => f.2 (z ▸ hid), fun z => f.2 (A.hd1 b (hd b z))⟩, fun _ _ e => e, fun _ _ _ e => e, by simp, fun n h => pl n h⟩
  refine ⟨⟨by have := A.len; simp; omega, fun n h => by rw [pl n (Nat.lt_of_lt_of_le h A.len)]; exact A.mm n h, fun n u e => ?_, A.fr, A.tr, A.tp, A.fz, fun _ h => h, fun _ h => .inl h, A.hd3⟩, ⟨fun n u e => ?_, fun n k u v e1 e2 q => ?_, fun b z => R.hid b (A.hd1 b (hd b z)), fun b z n u e => ?_⟩⟩
  · rcases low n u e with ⟨h, e⟩ | ⟨rfl, _⟩
    · rw [pl n h]
      exact A.al n u e
    · rw [pa]
      exact .inr ⟨A.len, hn⟩
  · rcases low n u e with ⟨h, e⟩ | ⟨rfl, rfl⟩
    · rw [pl n h]
      exact (R.at_ n u e).kp K rfl
    · rw [pa]
      exact ⟨vs, h1, Reps.kp K _ _ r⟩
  · rcases low n u e1 with ⟨h, e1⟩ | ⟨rfl, rfl⟩ <;> rcases low k v e2 with ⟨h', e2⟩ | ⟨rfl, rfl⟩
    · rw [pl n h, pl k h'] at q
      exact R.inj n k u v e1 e2 q
    · rw [pl n h, pa] at q
      exact absurd q (off n u e1)
    · rw [pl k h', pa] at q
      exact absurd q.symm (off k v e2)
    · rfl
  · rcases low n u e with ⟨h, e⟩ | ⟨rfl, _⟩
    · rw [pl n h]
      exact R.hoff b (A.hd1 b (hd b z)) n u e
    · rw [pa]
      intro q
      subst q
      exact R0.hid _ (hd _ z) hn
theorem compM_noerr {hold : Option Nat} {S0 : So} {g : TgD} {t : E Bool} {f : E D} {enw : En} : ∀ {l acc : List D} {S : So} {x : Ex} {en' : En} {S' : So}, compM hold S0 g t f enw l acc S ≠ .err x en' S'
  | [], acc, S, x, en', S' => by unfold compM; exact fun z => by cases z
  | d :: l, acc, S, x, en', S' => by
    unfold compM
    split
    · exact fun z => by cases z
    · split
      · split
        · split
          · exact compM_noerr
          · exact fun z => by cases z
        · exact fun z => by cases z
      · split
        · exact compM_noerr
        · exact fun z => by cases z
      · exact fun z => by cases z
theorem re_comp (hc : X.calm = true) (hN : X.N.Nodup) (hi : RI cm X tg iter fi) (ok : BlkOk X.N X.env.scope scope own)
    (hg : ∀ (s : Shared) (H : Hp) (C : Addr) (cl : List (Str × Addr)) (fp : List Addr), RG cm (X.blk s H scope (compEnvC scope cl C X.env) fp) tg g ws)
    (ht : ∀ (s : Shared) (H : Hp) (C : Addr) (cl : List (Str × Addr)) (fp : List Addr), RTs cm (X.blk s H scope (compEnvC scope cl C X.env) fp) ifs t)
    (he : ∀ (s : Shared) (H : Hp) (C : Addr) (cl : List (Str × Addr)) (fp : List Addr), RE cm (X.blk s H scope (compEnvC scope cl C X.env) fp) elt f)
    (hw : ∀ j ∈ ws, j ∈ own.map (·.2) := by decide) (hs : ∀ x, foldedSetIterable iter X.env x = pure x := by intro _; rfl) :
    RE cm X (.ListComp elt [⟨tg, iter, ifs, 0⟩] scope pos) (mComp fi g t f (own.map (·.2))) := fun W tk m S H σ en Q C h => by
  refine wE_of (pe_lc (g := bG X scope tg) (tt := bT X scope ifs) (te := bE X scope elt) hc hN pi_w ok (fun s H0 Cb cl fp => ⟨fun pins s' σ H v u Q I r h => h s H0 Cb cl fp pins s' u I r⟩) (fun s H0 Cb cl fp => ⟨fun pins s' σ H Q I h => h s H0 Cb cl fp pins s' I⟩) (fun s H0 Cb cl fp => ⟨fun pins s' σ H Q I h => h s H0 Cb cl fp pins s' I⟩) hs) ?_
  refine hi W tk m S H σ en _ C (PQ.bind h fun src S1 J m1 H1 e1 A1 R1 wj h1 => ?_)
  refine comp_run (own := own) hg ht he hw (C.adv A1 R1) wj (PQ.pc h1 (C.adv A1 R1).rel (fun _ _ _ => compM_noerr) fun l S' a m' H' vs A R h2 h3 h4 h5 h6 => ?_)
  refine PQ.now h6 R ?_
  simp only [Rep]
  exact ⟨a, vs, rfl, h3, h4, h5⟩
/-- a comprehension whose list is changed later -/
theorem PQ.pcN {cm : Ct} {m : Am} {S : So} {H : Hp} {σ : St} {W : WX} {r : R (List D)} {Q : VK} (h : PQ (Rep cm) cm m S H σ W (r.bind fun l S' => .ok (.ref S'.length) (S' ++ [some (.lst l)])) Q) (R0 : RelS cm m S H)
    (hn : ∀ x en' S', r ≠ .err x en' S') : PC' cm m S H r (fun a => Q (.ref a)) := by
  cases r with
  | ok l S' =>
    intro a mh H' vs A R h1 h2 hid off h4
    obtain ⟨A2, R2⟩ := thaw R0 A R h1 h2 hid off h4
    refine h (.ref a) _ H' A2 R2 ?_
    simp [Rep, Am.put]
  | err x en' S' => exact (hn x en' S' rfl).elim
  | bad => exact h
theorem re_compN (hc : X.calm = true) (hN : X.N.Nodup) (hi : RI cm X tg iter fi) (ok : BlkOk X.N X.env.scope scope own)
    (hg : ∀ (s : Shared) (H : Hp) (C : Addr) (cl : List (Str × Addr)) (fp : List Addr), RG cm (X.blk s H scope (compEnvC scope cl C X.env) fp) tg g ws)
    (ht : ∀ (s : Shared) (H : Hp) (C : Addr) (cl : List (Str × Addr)) (fp : List Addr), RTs cm (X.blk s H scope (compEnvC scope cl C X.env) fp) ifs t)
    (he : ∀ (s : Shared) (H : Hp) (C : Addr) (cl : List (Str × Addr)) (fp : List Addr), RE cm (X.blk s H scope (compEnvC scope cl C X.env) fp) elt f)
    (hw : ∀ j ∈ ws, j ∈ own.map (·.2) := by decide) (hs : ∀ x, foldedSetIterable iter X.env x = pure x := by intro _; rfl) :
    RE cm X (.ListComp elt [⟨tg, iter, ifs, 0⟩] scope pos) (mCompN fi g t f (own.map (·.2))) := fun W tk m S H σ en Q C h => by
  refine wE_of (pe_lc (g := bG X scope tg) (tt := bT X scope ifs) (te := bE X scope elt) hc hN pi_w ok (fun s H0 Cb cl fp => ⟨fun pins s' σ H v u Q I r h => h s H0 Cb cl fp pins s' u I r⟩) (fun s H0 Cb cl fp => ⟨fun pins s' σ H Q I h => h s H0 Cb cl fp pins s' I⟩) (fun s H0 Cb cl fp => ⟨fun pins s' σ H Q I h => h s H0 Cb cl fp pins s' I⟩) hs) ?_
  refine hi W tk m S H σ en _ C (PQ.bind h fun src S1 J m1 H1 e1 A1 R1 wj h1 => ?_)
  exact comp_run (own := own) hg ht he hw (C.adv A1 R1) wj (PQ.pcN h1 (C.adv A1 R1).rel fun _ _ _ => compM_noerr)
/-- y = [..] on one line -/
theorem rs_comp (i : Nat) {y : Str} {py spos : Pos} (hc : X.calm = true) (hN : X.N.Nodup) (hy : X.N[i]? = some y) (hyl : X.env.scope.names.lookup y = some .local)
    (hsw : swapsWith (.ListComp elt [⟨tg, iter, ifs, 0⟩] scope pos) (some (.Name y py)) spos.line X.env = pure true) (hi : RI cm X tg iter fi) (ok : BlkOk X.N X.env.scope scope own)
    (hg : ∀ (s : Shared) (H : Hp) (C : Addr) (cl : List (Str × Addr)) (fp : List Addr), RG cm (X.blk s H scope (compEnvC scope cl C X.env) fp) tg g ws)
    (ht : ∀ (s : Shared) (H : Hp) (C : Addr) (cl : List (Str × Addr)) (fp : List Addr), RTs cm (X.blk s H scope (compEnvC scope cl C X.env) fp) ifs t)
    (he : ∀ (s : Shared) (H : Hp) (C : Addr) (cl : List (Str × Addr)) (fp : List Addr), RE cm (X.blk s H scope (compEnvC scope cl C X.env) fp) elt f)
    (hw : ∀ j ∈ ws, j ∈ own.map (·.2) := by decide) (hs : ∀ x, foldedSetIterable iter X.env x = pure x := by intro _; rfl) :
    RS cm X (.Assign [.Name y py] (.ListComp elt [⟨tg, iter, ifs, 0⟩] scope pos) spos) (sSet i (mComp fi g t f (own.map (·.2)))) := fun W tk m S H σ en D C h => by
  refine wS_of (ps_setLc (g := bG X scope tg) (tt := bT X scope ifs) (te := bE X scope elt) hc hN hy hyl hsw pi_w ok (fun s H0 Cb cl fp => ⟨fun pins s' σ H v u Q I r h => h s H0 Cb cl fp pins s' u I r⟩) (fun s H0 Cb cl fp => ⟨fun pins s' σ H Q I h => h s H0 Cb cl fp pins s' I⟩) (fun s H0 Cb cl fp => ⟨fun pins s' σ H Q I h => h s H0 Cb cl fp pins s' I⟩) hs) ?_
  have h : PQ (Rep (ct X cm)) (ct X cm) m S H σ W (mComp fi g t f (own.map (·.2)) en S) (fun x H1 => gName i x σ H1 D.nx) := PF.bind h fun d S1 x m1 H1 e1 A1 R1 r1 h1 => h1.nx ((C.adv A1 R1).set i r1)
  refine hi W tk m S H σ en _ C (PQ.bind h fun src S1 J m1 H1 e1 A1 R1 wj h1 => ?_)
  refine comp_run (own := own) (Q := fun x H1 => gName i x σ H1 D.nx) hg ht he hw (C.adv A1 R1) wj (PQ.pc h1 (C.adv A1 R1).rel (fun _ _ _ => compM_noerr) fun l S' a m' H' vs A R h2 h3 h4 h5 h6 => ?_)
  exact PQ.now (Q := fun x H1 => gName i x σ H1 D.nx) h6 R (by simp only [Rep]; exact ⟨a, vs, rfl, h3, h4, h5⟩)
theorem rs_compN (i : Nat) {y : Str} {py spos : Pos} (hc : X.calm = true) (hN : X.N.Nodup) (hy : X.N[i]? = some y) (hyl : X.env.scope.names.lookup y = some .local)
    (hsw : swapsWith (.ListComp elt [⟨tg, iter, ifs, 0⟩] scope pos) (some (.Name y py)) spos.line X.env = pure true) (hi : RI cm X tg iter fi) (ok : BlkOk X.N X.env.scope scope own)
    (hg : ∀ (s : Shared) (H : Hp) (C : Addr) (cl : List (Str × Addr)) (fp : List Addr), RG cm (X.blk s H scope (compEnvC scope cl C X.env) fp) tg g ws)
    (ht : ∀ (s : Shared) (H : Hp) (C : Addr) (cl : List (Str × Addr)) (fp : List Addr), RTs cm (X.blk s H scope (compEnvC scope cl C X.env) fp) ifs t)
    (he : ∀ (s : Shared) (H : Hp) (C : Addr) (cl : List (Str × Addr)) (fp : List Addr), RE cm (X.blk s H scope (compEnvC scope cl C X.env) fp) elt f)
    (hw : ∀ j ∈ ws, j ∈ own.map (·.2) := by decide) (hs : ∀ x, foldedSetIterable iter X.env x = pure x := by intro _; rfl) :
    RS cm X (.Assign [.Name y py] (.ListComp elt [⟨tg, iter, ifs, 0⟩] scope pos) spos) (sSet i (mCompN fi g t f (own.map (·.2)))) := fun W tk m S H σ en D C h => by
  refine wS_of (ps_setLc (g := bG X scope tg) (tt := bT X scope ifs) (te := bE X scope elt) hc hN hy hyl hsw pi_w ok (fun s H0 Cb cl fp => ⟨fun pins s' σ H v u Q I r h => h s H0 Cb cl fp pins s' u I r⟩) (fun s H0 Cb cl fp => ⟨fun pins s' σ H Q I h => h s H0 Cb cl fp pins s' I⟩) (fun s H0 Cb cl fp => ⟨fun pins s' σ H Q I h => h s H0 Cb cl fp pins s' I⟩) hs) ?_
  have h : PQ (Rep (ct X cm)) (ct X cm) m S H σ W (mCompN fi g t f (own.map (·.2)) en S) (fun x H1 => gName i x σ H1 D.nx) := PF.bind h fun d S1 x m1 H1 e1 A1 R1 r1 h1 => h1.nx ((C.adv A1 R1).set i r1)
  refine hi W tk m S H σ en _ C (PQ.bind h fun src S1 J m1 H1 e1 A1 R1 wj h1 => ?_)
  exact comp_run (own := own) (Q := fun x H1 => gName i x σ H1 D.nx) hg ht he hw (C.adv A1 R1) wj (PQ.pcN (Q := fun x H1 => gName i x σ H1 D.nx) h1 (C.adv A1 R1).rel fun _ _ _ => compM_noerr)
end
end Mi

/-! Mi6: defs and calls. -/
namespace Mi
open PySem PySem.Spec PyProof.Rows L2

abbrev Fm := List D → So → R D
def PD (cm : Ct) (m : Am) (S : So) (H : Hp) (r : R D) (Q : VK) (E : XK) : Prop := match r with
  | .ok d S' => ∀ v m' H', Adv m S H m' S' H' → RelS cm m' S' H' → Rep cm m' S' H' d v → Q v H'
  | .err x _ S' => ∀ cls dd m' H', Adv m S H m' S' H' → RelS cm m' S' H' → RepX cm m' S' H' x cls dd → E cls dd H'
  | .bad => False
def spF (cm : Ct) (n : Nat) (F : Fm) : Sp := fun vs H Q E => vs.length = n ∧ ∃ m S ds, RelS cm m S H ∧ Reps cm m S H ds vs ∧ PD cm m S H (F ds S) Q E
def bodyR : R Fl → R D
  | .ok (.nx _) S' => .ok .non S'
  | .ok (.rt d) S' => .ok d S'
  | .ok _ _ => .bad
  | .err x _ S' => .err x [] S'
  | .bad => .bad
/-- a def's mirror: n slots, k parameters -/
def bodyM (n k : Nat) (f : T) : Fm := fun ds S => if ds.length = k then bodyR (f (ds.map some ++ List.replicate (n - k) none) S) else .bad
def R.at {α : Type} (en : En) : R α → R α
  | .err x _ S => .err x en S
  | r => r
def mCall (F : Fm) (fa : E (List D)) : E D := fun en S => (fa en S).bind fun ds S1 => (F ds S1).at en
def fBad : Fm := fun _ _ => .bad

section
variable {P : Program} {w : World} {K : PySem.W.Frag} {mg : Str → Option Value} {base : Heap} {cm : Cm}
def DefM (P : Program) (w : World) (K : PySem.W.Frag) (mg : Str → Option Value) (base : Heap) (cm : Cm) (k : Nat) (x : Str) (F : Fm) : Prop :=
  ∃ f fd ps, mg x = some (.ref f) ∧ PySem.W.keepIn K (.ref f) = true ∧ FnOk P w K mg base (L2.CX P w) k f fd ps (spF ⟨K, cm.cls, cm.exc⟩ ps.length F) ∧ Binds K fd ps [] ∧ ∀ ds S, ds.length ≠ ps.length → F ds S = .bad
theorem DefM.mono {j k : Nat} {x : Str} {F : Fm} (h : DefM P w K mg base cm j x F) (l : j ≤ k) : DefM P w K mg base cm k x F := let ⟨f, fd, ps, a, b, c, d⟩ := h; ⟨f, fd, ps, a, b, c.mono l, d⟩
/-- the text of a def, found -/
def Fnd (K : PySem.W.Frag) (mg : Str → Option Value) (x qual : Str) (st : Stmt) (ps : List Str) : Prop := ∃ f fd, mg x = some (.ref f) ∧ Fun K x qual st f fd ∧ Binds K fd ps []
theorem spF_bad {f : Addr} {fd : FuncData} {ps : List Str} {k : Nat} {ct : Ct} : FnOk P w K mg base (L2.CX P w) k f fd ps (spF ct ps.length fBad) := ⟨fun _ _ _ _ h => h.1, fun _ _ _ _ _ _ _ _ _ _ _ _ _ h => by
  obtain ⟨_, _, _, _, _, _, z⟩ := h
  exact z.elim⟩
theorem DefM.zero {x qual : Str} {st : Stmt} {ps : List Str} (F : Fnd K mg x qual st ps) : DefM P w K mg base cm 0 x fBad :=
  let ⟨f, fd, a, b, c⟩ := F
  ⟨f, fd, ps, a, b.kp, spF_bad, c, fun _ _ _ => rfl⟩
theorem cond_start {cm : Ct} {m : Am} {S : So} {H : Hp} {ds : List D} {vs : List V} {N : List Str} (R : RelS cm m S H) (h : Reps cm m S H ds vs) : Cond cm m S H (L2.start N vs) (ds.map some ++ List.replicate (N.length - ds.length) none) := by
  have hl := h.length
  refine ⟨R, by unfold L2.start; simp [hl], fun i d e => ?_⟩
  by_cases hi : i < ds.length
  · rw [List.getElem?_append_left (by simpa using hi), List.getElem?_map] at e
    cases q : ds[i]? with
    | none => rw [q] at e; cases e
    | some d' =>
      rw [q] at e
      cases e
      obtain ⟨v, h1, h2⟩ := h.get q
      refine ⟨v, ?_, h2⟩
      unfold L2.start
      rw [List.getElem?_append_left (by simpa using (List.getElem?_eq_some_iff.mp h1).1), List.getElem?_map, h1]
      rfl
  · rw [List.getElem?_append_right (by simpa using hi), List.getElem?_replicate] at e
    split at e <;> cases e
theorem fnm_of {x qual : Str} {st : Stmt} {f : Addr} {fd : FuncData} {N ps : List Str} {k : Nat} {g : T} (b : Fun K x qual st f fd) (S : FnScope N ps (defScope st))
    (hb : ∀ (f : Addr) (cdv : Value) (A : Around) (outer : List Env) (s : Shared) (H : Hp) (E : XK), Room k (A.deeper (envOfC qual (defScope st) s.heap.objs.size f cdv)) →
      RSs cm (cxOf (L2.CX P w) P w K mg base N qual (defScope st) f cdv A outer s H E) (defBody st) g) : FnOk P w K mg base (L2.CX P w) (k + 1) f fd ps (spF ⟨K, cm.cls, cm.exc⟩ ps.length (bodyM N.length ps.length g)) := by
  refine b.okX S (fun _ _ _ _ h => h.1) (fun cdv A outer s H vs Q E hr hsp => ?_)
  obtain ⟨hl, m, S1, ds, R, rs, h⟩ := hsp
  refine ⟨_, pss_w, ?_⟩
  have hl2 : ds.length = ps.length := by rw [← hl]; exact rs.length
  unfold bodyM at h
  rw [if_pos hl2] at h
  refine hb f cdv A outer s H E hr (fun cls d _ H => E cls d H) (takes_of rfl rfl rfl rfl) m S1 H _ (ds.map some ++ List.replicate (N.length - ps.length) none) _ (by rw [← hl2]; exact cond_start R rs) ?_
  revert h
  cases g (ds.map some ++ List.replicate (N.length - ps.length) none) S1 with
  | bad => exact fun h => h.elim
  | err x en' S' => exact fun h cls dd m' σ' H' A' C' X' => h cls dd m' H' A' C'.rel X'
  | ok fl S' =>
    cases fl with
    | nx en' => exact fun h m' σ' H' A' C' => h .non m' H' A' C'.rel (by simp only [Rep])
    | rt d => exact fun h v m' H' A' R' r' => h v m' H' A' R' r'
    | bk _ => exact fun h => h.elim
    | ct _ => exact fun h => h.elim
theorem DefM.of {x qual : Str} {st : Stmt} {N ps : List Str} {k : Nat} {g : T} (F : Fnd K mg x qual st ps) (S : FnScope N ps (defScope st))
    (hb : ∀ (f : Addr) (cdv : Value) (A : Around) (outer : List Env) (s : Shared) (H : Hp) (E : XK), Room k (A.deeper (envOfC qual (defScope st) s.heap.objs.size f cdv)) →
      RSs cm (cxOf (L2.CX P w) P w K mg base N qual (defScope st) f cdv A outer s H E) (defBody st) g) : DefM P w K mg base cm (k + 1) x (bodyM N.length ps.length g) := by
  obtain ⟨f, fd, a, b, c⟩ := F
  exact ⟨f, fd, ps, a, b.kp, fnm_of b S hb, c, fun ds S' h => by unfold bodyM; rw [if_neg h]⟩
end
section
variable {cm : Cm} {X : Cx} {k : Nat} {x : Str} {F : Fm} {p pos : Pos} {e : Expr} {es : List Expr} {fa : E (List D)}
theorem PQ.pd {cm : Ct} {m : Am} {S : So} {H : Hp} {σ : St} {en : En} {W : WX} {r : R D} {Q : VK} (C : Cond cm m S H σ en) (h : PQ (Rep cm) cm m S H σ W (r.at en) Q) : PD cm m S H r Q (WE W σ) := by
  cases r with
  | ok d S' => exact h
  | err x en' S' => exact fun cls dd m' H' A R rx => h cls dd m' H' A (C.adv A R) rx
  | bad => exact h
theorem re_call (Dm : DefM X.prog X.w X.K X.mg X.base cm k x F) (hr : Room k X.A) (hg : Gl X x) (ha : RA cm X (e :: es) fa) (hdb : (x == ("__debug__" : Str)) = false := by decide)
    (he : starEach (e :: es) X.env = (false, eval e X.env) :: starEach es X.env := by rfl) (hpl : (backTo pos (starEach es X.env)).any (·.1) = false := by rfl) :
    RE cm X (.Call (.Name x p) (e :: es) [] pos) (mCall F fa) := fun W tk m S H σ en Q C h => by
  obtain ⟨f, fd, ps, hm, hk, hF, hb, hbad⟩ := Dm
  refine wE_of (pe_callS hF hr hg hm hk hb (passAt tk) pa_w hdb he hpl) ?_
  refine ha W tk m S H σ en _ C (PQ.bind h fun ds S1 vs m1 H1 e1 A1 R1 rs h1 => ?_)
  have hl : ds.length = ps.length := by
    by_cases q : ds.length = ps.length
    · exact q
    · rw [hbad ds S1 q] at h1
      exact h1.elim
  exact ⟨by rw [← hl]; exact rs.length.symm, m1, S1, ds, R1, rs, h1.pd (C.adv A1 R1)⟩
theorem pe_callS0 {CX : CXT} {f : Addr} {fd : FuncData} {ps : List Str} {sp : Sp} {E : St → XK} (Fo : FnOk X.prog X.w X.K X.mg X.base CX k f fd ps sp) (hr : Room k X.A) (hg : Gl X x) (hm : X.mg x = some (.ref f)) (hk : PySem.W.keepIn X.K (.ref f) = true) (hb : Binds X.K fd ps []) (hx : ∀ σ, PassesAt CX X σ (E σ))
    (hdb : (x == ("__debug__" : Str)) = false := by decide) : PE X (.Call (.Name x p) [] [] pos) (tCallS sp E tNil) := by
  refine ⟨fun pins s σ H Q I h => ?_⟩
  refine wpAny_Call_Name_kw (ld_glob I hg hm ?_ hdb)
  exact PySem.W.callWith_K0 I.kIn hk (run_fnS (us := []) Fo hr hb (hx σ) I .nil h)
theorem re_call0 (Dm : DefM X.prog X.w X.K X.mg X.base cm k x F) (hr : Room k X.A) (hg : Gl X x) (hdb : (x == ("__debug__" : Str)) = false := by decide) :
    RE cm X (.Call (.Name x p) [] [] pos) (mCall F aNil) := fun W tk m S H σ en Q C h => by
  obtain ⟨f, fd, ps, hm, hk, hF, hb, hbad⟩ := Dm
  refine wE_of (pe_callS0 hF hr hg hm hk hb (passAt tk) hdb) ?_
  have h1 : PQ (Rep (ct X cm)) (ct X cm) m S H σ W ((F [] S).at en) Q := h
  have hl : ([] : List D).length = ps.length := by
    by_cases q : ([] : List D).length = ps.length
    · exact q
    · rw [hbad [] S q] at h1
      exact h1.elim
  exact ⟨hl, m, S, [], C.rel, Reps.nil, h1.pd C⟩
end
end Mi

/-! Mi7: calls of built-ins. -/
namespace Mi
open PySem PySem.Spec PyProof.Rows L2

abbrev OpL := List D → So → Option (D × So)
def rW (X : Cx) (f : Value) : List V → Hp → VK → Prop := fun vs H Q => ∀ pins s σ us, Inv X pins σ H s → Vals vs us → wpAny (model X.prog X.w) X.A (call f us) (EP X pins σ Q) X.xe s
theorem call_w {X : Cx} {f : Value} : CallR X f (rW X f) := fun pins s σ H vs us Q I r h => h pins s σ us I r
theorem rW_of {X : Cx} {f : Value} {r : List V → Hp → VK → Prop} {vs : List V} {H : Hp} {Q : VK} (h : CallR X f r) (q : r vs H Q) : rW X f vs H Q := fun pins s σ us I rv => h pins s σ H vs us Q I rv q
def CallD (cm : Cm) (X : Cx) (f : Value) (g : OpL) : Prop := ∀ m S H ds vs Q, RelS (ct X cm) m S H → Reps (ct X cm) m S H ds vs → POk (Rep (ct X cm)) (ct X cm) m S H (g ds S) Q → rW X f vs H Q
def mB (g : OpL) (fa : E (List D)) : E D := fun en S => (fa en S).bind fun l S1 => R.of (g l S1)
section
variable {cm : Cm} {X : Cx} {x : Str} {p pos : Pos} {e : Expr} {es : List Expr} {fa : E (List D)} {id T : String} {g : OpL}
theorem re_b (hc : CallD cm X (.builtin id) g) (hg : Gl X x) (hm : X.mg x = none) (hv : bootBuiltins x = some (.builtin id)) (ha : RA cm X (e :: es) fa) (hn : x ≠ "__name__" := by decide) (hdb : (x == ("__debug__" : Str)) = false := by decide)
    (he : starEach (e :: es) X.env = (false, eval e X.env) :: starEach es X.env := by rfl) (hpl : (backTo pos (starEach es X.env)).any (·.1) = false := by rfl) : RE cm X (.Call (.Name x p) (e :: es) [] pos) (mB g fa) := fun W tk m S H σ en Q C h => by
  refine wE_of (pe_callB call_w hg hm hv pa_w hn hdb he hpl) ?_
  refine ha W tk m S H σ en _ C (PQ.bind h fun ds S1 vs m1 H1 e1 A1 R1 rs h1 => ?_)
  exact hc m1 S1 H1 ds vs _ R1 rs h1.pok
theorem re_ty (hc : CallD cm X (.type T) g) (hg : Gl X x) (hm : X.mg x = none) (hv : bootBuiltins x = some (.type T)) (ha : RA cm X (e :: es) fa) (hn : x ≠ "__name__" := by decide) (hdb : (x == ("__debug__" : Str)) = false := by decide)
    (he : starEach (e :: es) X.env = (false, eval e X.env) :: starEach es X.env := by rfl) (hpl : (backTo pos (starEach es X.env)).any (·.1) = false := by rfl) : RE cm X (.Call (.Name x p) (e :: es) [] pos) (mB g fa) := fun W tk m S H σ en Q C h => by
  refine wE_of (pe_callTy call_w hg hm hv pa_w hn hdb he hpl) ?_
  refine ha W tk m S H σ en _ C (PQ.bind h fun ds S1 vs m1 H1 e1 A1 R1 rs h1 => ?_)
  exact hc m1 S1 H1 ds vs _ R1 rs h1.pok
theorem reps1 {cm : Ct} {m : Am} {S : So} {H : Hp} {d : D} {vs : List V} (r : Reps cm m S H [d] vs) : ∃ x, vs = [x] ∧ Rep cm m S H d x := by
  simp only [Reps] at r
  obtain ⟨v, r, e, h, e2⟩ := r
  subst e2
  exact ⟨v, e, h⟩
theorem reps2 {cm : Ct} {m : Am} {S : So} {H : Hp} {d d' : D} {vs : List V} (r : Reps cm m S H [d, d'] vs) : ∃ x y, vs = [x, y] ∧ Rep cm m S H d x ∧ Rep cm m S H d' y := by
  simp only [Reps] at r
  obtain ⟨v, r, e, h, w, r', e2, h2, e3⟩ := r
  subst e3 e2
  exact ⟨v, w, e, h, h2⟩
end

/-! ### numbers -/
def bAbs : OpL := fun l S => match l with
  | [.int i] => some (.int (if i < 0 then -i else i), S)
  | _ => none
def bInt : OpL := fun l S => match l with
  | [.int i] => some (.int i, S)
  | [.bl b] => some (.int (if b then 1 else 0), S)
  | _ => none
def bMax : OpL := fun l S => match l with
  | [.int i, .int j] => some (.int (if j > i then j else i), S)
  | _ => none
def bMin : OpL := fun l S => match l with
  | [.int i, .int j] => some (.int (if j < i then j else i), S)
  | _ => none
section
variable {cm : Cm} {X : Cx}
theorem cd_abs : CallD cm X (.builtin "abs") bAbs := fun m S H ds vs Q R r h => by
  unfold bAbs at h
  split at h
  · obtain ⟨x, rfl, rx⟩ := reps1 r
    simp only [Rep] at rx
    exact rW_of call_abs ⟨_, by rw [rx], h.int R⟩
  · exact h.no.elim
theorem cd_int : CallD cm X (.type "int") bInt := fun m S H ds vs Q R r h => by
  unfold bInt at h
  split at h
  · obtain ⟨x, rfl, rx⟩ := reps1 r
    simp only [Rep] at rx
    exact rW_of call_int1 (.inl ⟨_, by rw [rx], h.int R⟩)
  · obtain ⟨x, rfl, rx⟩ := reps1 r
    simp only [Rep] at rx
    exact rW_of call_int1 (.inr ⟨_, by rw [rx], h.int R⟩)
  · exact h.no.elim
theorem cd_max (hc : X.calm = true) : CallD cm X (.builtin "max") bMax := fun m S H ds vs Q R r h => by
  unfold bMax at h
  split at h
  · obtain ⟨x, y, rfl, rx, ry⟩ := reps2 r
    simp only [Rep] at rx ry
    exact rW_of (call_max2 hc) ⟨_, _, by rw [rx, ry], h.int R⟩
  · exact h.no.elim
theorem cd_min (hc : X.calm = true) : CallD cm X (.builtin "min") bMin := fun m S H ds vs Q R r h => by
  unfold bMin at h
  split at h
  · obtain ⟨x, y, rfl, rx, ry⟩ := reps2 r
    simp only [Rep] at rx ry
    exact rW_of (call_min2 hc) ⟨_, _, by rw [rx, ry], h.int R⟩
  · exact h.no.elim
end

/-! ### len, all, any, tuple, list -/
def bLen : OpL := fun l S => match l with
  | [.str z] => if z.length ≤ sizeLine then some (.int z.length, S) else none
  | [d] => match seqOf d S with
    | some l => some (.int l.length, S)
    | none => match dctOf d S with
      | some (ks, _) => some (.int ks.length, S)
      | none => none
  | _ => none
def blsOf : List D → Option (List Bool)
  | [] => some []
  | .bl b :: l => (blsOf l).map (b :: ·)
  | _ => none
def bAll : OpL := fun l S => match l with
  | [d] => match lstOf d S with
    | some l => (blsOf l).map fun bs => (.bl (bs.all id), S)
    | none => none
  | _ => none
def bAny : OpL := fun l S => match l with
  | [d] => match lstOf d S with
    | some l => (blsOf l).map fun bs => (.bl (bs.any id), S)
    | none => none
  | _ => none
/-- tuple(list) -/
def bTup : OpL := fun l S => match l with
  | [.tup l] => some (.tup l, S)
  | [d] => (lstOf d S).map fun l => (.tup l, S)
  | _ => none
def sgns (x : Str) : List D := x.cps.toList.map fun c => D.str ⟨#[c]⟩
/-- list(xs), a value; a cell -/
def itmsOf (d : D) (S : So) : Option (List D) := seqOf d S
def bLst : OpL := fun l S => match l with
  | [d] => (itmsOf d S).map fun l => (.lst l, S)
  | _ => none
def bLstN : OpL := fun l S => match l with
  | [d] => (itmsOf d S).map fun l => (.ref S.length, S ++ [some (.lst l)])
  | _ => none
theorem reps_bls {cm : Ct} {m : Am} {S : So} {H : Hp} : ∀ {l : List D} {bs : List Bool} {vs : List V}, blsOf l = some bs → Reps cm m S H l vs → vs = bs.map V.bl
  | [], bs, vs, e, r => by
    simp only [blsOf, Option.some.injEq] at e
    subst e
    simp only [Reps] at r
    exact r
  | d :: l, bs, vs, e, r => by
    simp only [Reps] at r
    obtain ⟨v, r, rfl, h1, h2⟩ := r
    cases d with
    | bl b =>
      simp only [blsOf, Option.map_eq_some_iff] at e
      obtain ⟨bs', e1, rfl⟩ := e
      simp only [Rep] at h1
      rw [h1, reps_bls e1 h2]
      rfl
    | _ => simp [blsOf] at e
theorem vals_of_get : ∀ {xs : List V} {us : List Value}, xs.length = us.length → (∀ (j : Nat) (v : Value), us[j]? = some v → ∃ x : V, xs[j]? = some x ∧ RelV x v) → Vals xs us
  | [], [], _, _ => .nil
  | x :: xs, u :: us, hl, h => by
    obtain ⟨y, e, r⟩ := h 0 u rfl
    cases e
    exact .cons r (vals_of_get (by simpa using hl) fun j v e => by
      obtain ⟨y, e1, r1⟩ := h (j + 1) v (by simpa using e)
      exact ⟨y, by simpa using e1, r1⟩)
section
variable {cm : Ct} {m : Am} {S : So} {H : Hp} {l : List D}
theorem POk.cell {p : Addr} {u : HO} {o : Ob} {Q : VK} (h : POk (Rep cm) cm m S H (some (.ref S.length, S ++ [some o])) Q) (R : RelS cm m S H) (hp : H p = none)
    (ho : ∀ m' S' H', Adv m S H m' S' H' → H' p = some u → ObAt cm m' S' H' p o) : Q (.ref p) (upd H p u) := PQ.cell (h [] (fun _ _ _ _ => False)) R hp ho
theorem POk.lstN {p : Addr} {vs : List V} {Q : VK} (h : POk (Rep cm) cm m S H (some (.ref S.length, S ++ [some (.lst l)])) Q) (R : RelS cm m S H) (hp : H p = none) (r : Reps cm m S H l vs) : Q (.ref p) (upd H p (.lst vs)) :=
  h.cell R hp fun m' S' H' A e => ⟨vs, e, Reps.adv A _ _ r⟩
end
theorem kv_len {kvs : List (Key × V)} {ks : List Key} (e : kvs.map (·.1) = ks) : ks.length = kvs.length := by rw [← e, List.length_map]
/-- len of a dict -/
theorem call_lenDk {X : Cx} : CallR X (.builtin "len") (fun xs H Q => ∃ p kvs, xs = [.ref p] ∧ Rd H p (.dK kvs) ∧ Q (.int (kvs.length : Nat)) H) := by
  intro pins s σ H xs us Q I r h
  obtain ⟨p, kvs, rfl, hd, q⟩ := h
  obtain ⟨u, rfl, rx⟩ := vals1 r
  cases rx
  have hl := line63
  have hs : sizeLine = 16777216 := sizeLine_eq
  obtain ⟨hz, hS, vs, r, m⟩ := dk_rd I.hok hd
  have hlen : kvs.length = vs.length := Paired.length r
  exact PySem.call_len_dict hS m (by omega) ⟨.int (kvs.length : Nat), H, I.tok _, ⟨_, by rw [hlen]⟩, q⟩
section
variable {cm : Cm} {X : Cx}
theorem cd_len : CallD cm X (.builtin "len") bLen := fun m S H ds vs Q R r h => by
  unfold bLen at h
  split at h
  · split at h
    · rename_i z hz
      obtain ⟨x, rfl, rx⟩ := reps1 r
      simp only [Rep] at rx
      exact rW_of call_len_str ⟨z, by rw [rx], hz, h.int R⟩
    · exact h.no.elim
  · obtain ⟨x, rfl, rx⟩ := reps1 r
    split at h
    · rename_i l e
      obtain ⟨a, vs, rfl, h1, h2⟩ := seq_at R rx e
      refine rW_of call_len_seq ⟨a, vs, rfl, h1, ?_⟩
      rw [← h2.length]
      exact h.int R
    · split at h
      · rename_i ks l e
        obtain ⟨a, kvs, rfl, h1, h2, h3⟩ := dct_at R rx e
        refine rW_of call_lenDk ⟨a, kvs, rfl, h1, ?_⟩
        rw [← kv_len h2]
        exact h.int R
      · exact h.no.elim
  · exact h.no.elim
theorem cd_all (hc : X.calm = true) : CallD cm X (.builtin "all") bAll := fun m S H ds vs Q R r h => by
  unfold bAll at h
  split at h
  · obtain ⟨x, rfl, rx⟩ := reps1 r
    split at h
    · rename_i l e
      obtain ⟨a, vs, rfl, h1, h2⟩ := lst_at R rx e
      cases eb : blsOf l with
      | none => rw [eb] at h; exact h.no.elim
      | some bs =>
        rw [eb] at h
        have ev := reps_bls eb h2
        subst ev
        exact rW_of (cr_all hc) ⟨a, bs, rfl, .inl (.inl h1), h.bl R⟩
    · exact h.no.elim
  · exact h.no.elim
theorem cd_any (hc : X.calm = true) : CallD cm X (.builtin "any") bAny := fun m S H ds vs Q R r h => by
  unfold bAny at h
  split at h
  · obtain ⟨x, rfl, rx⟩ := reps1 r
    split at h
    · rename_i l e
      obtain ⟨a, vs, rfl, h1, h2⟩ := lst_at R rx e
      cases eb : blsOf l with
      | none => rw [eb] at h; exact h.no.elim
      | some bs =>
        rw [eb] at h
        have ev := reps_bls eb h2
        subst ev
        exact rW_of (cr_any hc) ⟨a, bs, rfl, .inl (.inl h1), h.bl R⟩
    · exact h.no.elim
  · exact h.no.elim
theorem cd_tup : CallD cm X (.type "tuple") bTup := fun m S H ds vs Q R r h => by
  unfold bTup at h
  split at h
  · obtain ⟨x, rfl, rx⟩ := reps1 r
    have rx' := rx
    simp only [Rep] at rx
    obtain ⟨a, vs, rfl, h1, h2⟩ := rx
    exact rW_of call_tuple_of ⟨a, vs, rfl, .inr ⟨h1, h.now R rx'⟩⟩
  · obtain ⟨x, rfl, rx⟩ := reps1 r
    cases e : lstOf _ S with
    | none => rw [e] at h; exact h.no.elim
    | some l =>
      rw [e] at h
      obtain ⟨a, vs, rfl, h1, h2⟩ := lst_at R rx e
      exact rW_of call_tuple_of ⟨a, vs, rfl, .inl ⟨.inl (.inl h1), fun p hp => h.tup R hp h2⟩⟩
  · exact h.no.elim
theorem cd_lst : CallD cm X (.type "list") bLst := fun m S H ds vs Q R r h => by
  unfold bLst at h
  split at h
  · obtain ⟨x, rfl, rx⟩ := reps1 r
    cases e : itmsOf _ S with
    | none => rw [e] at h; exact h.no.elim
    | some l =>
      rw [e] at h
      obtain ⟨a, vs, rfl, h1, h2⟩ := seq_at R rx e
      exact rW_of call_list_of ⟨a, vs, rfl, h1, fun p hp => h.lst R hp h2⟩
  · exact h.no.elim
theorem cd_lstN : CallD cm X (.type "list") bLstN := fun m S H ds vs Q R r h => by
  unfold bLstN at h
  split at h
  · obtain ⟨x, rfl, rx⟩ := reps1 r
    cases e : itmsOf _ S with
    | none => rw [e] at h; exact h.no.elim
    | some l =>
      rw [e] at h
      obtain ⟨a, vs, rfl, h1, h2⟩ := seq_at R rx e
      exact rW_of call_list_of ⟨a, vs, rfl, h1, fun p hp => h.lstN R hp h2⟩
  · exact h.no.elim
end

/-! ### list(a text) -/
def bLstS : OpL := fun l S => match l with
  | [.str x] => if x.length ≤ sizeLine then some (.ref S.length, S ++ [some (.lst (sgns x))]) else none
  | _ => none
def vsgns (x : Str) : List V := x.cps.toList.map fun c => V.str ⟨#[c]⟩
theorem reps_map {α : Type} {cm : Ct} {m : Am} {S : So} {H : Hp} {f : α → D} {g : α → V} (h : ∀ a, Rep cm m S H (f a) (g a)) : ∀ l : List α, Reps cm m S H (l.map f) (l.map g)
  | [] => Reps.nil
  | a :: l => Reps.cons (h a) (reps_map h l)
theorem call_list_signs {X : Cx} (hc : X.calm = true) : CallR X (.type "list") (fun xs H Q => ∃ x, xs = [.str x] ∧ x.length ≤ sizeLine ∧ ∀ p, H p = none → Q (.ref p) (upd H p (.lst (vsgns x)))) := by
  intro pins s σ H xs us Q I r h
  obtain ⟨x, rfl, hz, q⟩ := h
  obtain ⟨u, rfl, rx⟩ := vals1 r
  obtain ⟨t, rfl⟩ := rx
  refine PySem.call_list_str (I.ok.hd hc) x t (hn := hz) fun h' tk acc c' hk hD hacc => ?_
  have hlen : (vsgns x).length ≤ sizeLine := by unfold vsgns; rw [List.length_map, Array.length_toList]; exact hz
  have hv : Vals (vsgns x) acc.toList := by
    refine vals_of_get ?_ ?_
    · unfold vsgns
      rw [List.length_map, Array.length_toList, Array.length_toList]
      exact hacc.1.symm
    · intro j v e
      obtain ⟨c, u, hc, rfl⟩ := hacc.2 j v (by rw [← Array.getElem?_toList]; exact e)
      refine ⟨.str ⟨#[c]⟩, ?_, ⟨_, rfl⟩⟩
      unfold vsgns
      rw [List.getElem?_map, Array.getElem?_toList, hc]
      rfl
  exact ⟨.ref s.heap.objs.size, upd H s.heap.objs.size (.lst (vsgns x)), I.laid (t' := tk) hk (Nat.le_refl _)
    (show ObjOk X.prog X.w _ _ _ (.lst (vsgns x)) from ⟨hlen, acc.toList, c', hv, by rw [Array.toArray_toList]; exact hD⟩), rfl, q _ (I.hok.fresh (Nat.le_refl _))⟩
theorem cd_lstS {cm : Cm} {X : Cx} (hc : X.calm = true) : CallD cm X (.type "list") bLstS := fun m S H ds vs Q R r h => by
  unfold bLstS at h
  split at h
  · split at h
    · rename_i x hx
      obtain ⟨x, rfl, rx⟩ := reps1 r
      simp only [Rep] at rx
      exact rW_of (call_list_signs hc) ⟨_, by rw [rx], hx, fun p hp => h.lstN R hp (reps_map (fun c => by simp only [Rep]) _)⟩
    · exact h.no.elim
  · exact h.no.elim
end Mi

/-! Mi8: cells changed, methods, isinstance. -/
namespace Mi
open PySem PySem.Spec PyProof.Rows L2

section
variable {cm : Ct} {m : Am} {S : So} {H : Hp} {n : Nat} {o o' : Ob} {u : HO}
theorem set_live {k : Nat} {v : Ob} (e : S[n]? = some (some o)) (h : (S.set n (some o'))[k]? = some (some v)) : (k = n ∧ v = o') ∨ (k ≠ n ∧ S[k]? = some (some v)) := by
  by_cases c : n = k
  · subst c
    rw [List.getElem?_set_self (List.getElem?_eq_some_iff.mp e).1] at h
    exact .inl ⟨rfl, (Option.some.inj (Option.some.inj h)).symm⟩
  · rw [List.getElem?_set_ne c] at h
    exact .inr ⟨fun z => c z.symm, h⟩
theorem ob_mut (R : RelS cm m S H) (e : S[n]? = some (some o)) (ht : ∀ l, o ≠ Ob.tt l) : ∃ w, H (m.p n) = some w ∧ (∀ xs, w ≠ .tup xs) ∧ ∀ o u, w ≠ .frz o u := by
  have h := R.at_ n o e
  cases o with
  | lst l => obtain ⟨vs, h1, _⟩ := h; exact ⟨_, h1, fun _ z => (by cases z), fun _ _ z => (by cases z)⟩
  | dct ks l => obtain ⟨vs, h1, _⟩ := h; exact ⟨_, h1, fun _ z => (by cases z), fun _ _ z => (by cases z)⟩
  | ins c ks l => obtain ⟨C, dx, fs, hc, h1, _⟩ := h; exact ⟨_, h1, fun _ z => (by cases z), fun _ _ z => (by cases z)⟩
  | tt l => exact (ht l rfl).elim
  | tdt ks => exact ⟨_, h, fun _ z => (by cases z), fun _ _ z => (by cases z)⟩
theorem cell_kp (R : RelS cm m S H) (e : S[n]? = some (some o)) (ht : ∀ l, o ≠ Ob.tt l) : Kp m S H m (S.set n (some o')) (upd H (m.p n) u) := by
  obtain ⟨w, hw, n1, n2⟩ := ob_mut R e ht
  refine ⟨fun a v h f => ⟨?_, fun k v' e' z => ?_, f.2⟩, fun a xs h => ?_, fun a v x h => ?_, by simp, fun _ _ => rfl⟩
  · left
    rw [upd_ne (fun z => f.1 n o e z.symm)]
    exact h
  · rcases set_live e e' with ⟨h1, _⟩ | ⟨_, h1⟩
    · rw [h1] at z
      exact f.1 n o e z
    · exact f.1 k v' h1 z
  · rw [upd_ne (fun z => by rw [z, hw] at h; exact n1 _ (Option.some.inj h))]; exact h
  · rw [upd_ne (fun z => by rw [z, hw] at h; exact n2 _ _ (Option.some.inj h))]; exact h
theorem cell_w (R : RelS cm m S H) (e : S[n]? = some (some o)) (ho : Kp m S H m (S.set n (some o')) (upd H (m.p n) u) → ObAt cm m (S.set n (some o')) (upd H (m.p n) u) (m.p n) o') (ht : ∀ l, o ≠ Ob.tt l := by intro l z; cases z) :
    Adv m S H m (S.set n (some o')) (upd H (m.p n) u) ∧ RelS cm m (S.set n (some o')) (upd H (m.p n) u) := by
  have K := cell_kp (o' := o') (u := u) R e ht
  have A : Adv m S H m (S.set n (some o')) (upd H (m.p n) u) := by
    refine ⟨by simp, fun _ _ => rfl, fun k v h => ?_, fun a v h f => ?_, fun a h z => ?_, K.tp, K.fz, fun _ h => h, fun _ h => .inl h, fun a u z q => by rw [upd_ne (fun c => R.hoff a z n o e c.symm)]; exact q⟩
    · rcases set_live e h with ⟨h1, _⟩ | ⟨_, h1⟩
      · subst h1
        exact .inl ⟨(List.getElem?_eq_some_iff.mp e).1, o, e⟩
      · exact .inl ⟨(List.getElem?_eq_some_iff.mp h1).1, v, h1⟩
    · left
      rw [upd_ne (fun z => f n o e z.symm)]
      exact h
    · by_cases c : a = m.p n
      · subst c; rw [upd_same] at z; cases z
      · rw [upd_ne c] at z; exact h z
  refine ⟨A, fun k v h => ?_, fun k j v v' h1 h2 q => ?_, fun a h => A.tr a (R.hid a h), fun a h k v e' z => by
    rcases set_live e e' with ⟨z1, _⟩ | ⟨_, z1⟩
    · rw [z1] at z; exact R.hoff a h n o e z
    · exact R.hoff a h k v z1 z⟩
  · rcases set_live e h with ⟨h1, h2⟩ | ⟨h1, h2⟩
    · subst h1 h2
      exact ho K
    · exact (R.at_ k v h2).kp K (upd_ne fun z => h1 (R.inj k n v o h2 e z))
  · have l1 : ∃ w, S[k]? = some (some w) := by
      rcases set_live e h1 with ⟨z, _⟩ | ⟨_, z⟩
      · subst z; exact ⟨_, e⟩
      · exact ⟨_, z⟩
    have l2 : ∃ w, S[j]? = some (some w) := by
      rcases set_live e h2 with ⟨z, _⟩ | ⟨_, z⟩
      · subst z; exact ⟨_, e⟩
      · exact ⟨_, z⟩
    obtain ⟨w1, g1⟩ := l1
    obtain ⟨w2, g2⟩ := l2
    exact R.inj k j w1 w2 g1 g2 q
/-- a cell given up: nobody changes it any more -/
theorem cell_gone (R : RelS cm m S H) (e : S[n]? = some (some o)) : Adv m S H m (S.set n none) H ∧ RelS cm m (S.set n none) H ∧ Off m (S.set n none) (m.p n) := by
  have lv : ∀ {k : Nat} {v : Ob}, (S.set n none)[k]? = some (some v) → k ≠ n ∧ S[k]? = some (some v) := fun {k v} h => by
    by_cases c : n = k
    · subst c
      rw [List.getElem?_set_self (List.getElem?_eq_some_iff.mp e).1] at h
      cases h
    · rw [List.getElem?_set_ne c] at h
      exact ⟨fun z => c z.symm, h⟩
  have A : Adv m S H m (S.set n none) H := ⟨by simp, fun _ _ => rfl, fun k v h => .inl ⟨(List.getElem?_eq_some_iff.mp (lv h).2).1, v, (lv h).2⟩, fun a v h _ => .inl h, fun _ h => h, fun _ _ h => h, fun _ _ _ h => h, fun _ h => h, fun _ h => .inl h, fun _ _ _ h => h⟩
  refine ⟨A, ⟨fun k v h => (R.at_ k v (lv h).2).kp A.kp rfl, fun k j v v' h1 h2 q => R.inj k j v v' (lv h1).2 (lv h2).2 q, R.hid, fun a h k v e' => R.hoff a h k v (lv e').2⟩, fun k v h z => ?_⟩
  exact (lv h).1 (R.inj k n v o (lv h).2 e z)
end

/-! ### methods -/
def rM (X : Cx) (id : String) : V → List V → Hp → VK → Prop := fun x vs H Q => ∀ pins s σ v us, Inv X pins σ H s → RelV x v → Vals vs us → wpAny (model X.prog X.w) X.A (call (.builtin id) (v :: us)) (EP X pins σ Q) X.xe s
theorem mt_w {X : Cx} {id : String} : MtR X id (rM X id) := fun pins s σ H x xs v us Q I r rs h => h pins s σ v us I r rs
theorem rM_of {X : Cx} {id : String} {r : V → List V → Hp → VK → Prop} {x : V} {vs : List V} {H : Hp} {Q : VK} (h : MtR X id r) (q : r x vs H Q) : rM X id x vs H Q := fun pins s σ v us I rx rv => h pins s σ H x vs v us Q I rx rv q
abbrev OpM := D → List D → So → Option (D × So)
def MtD (cm : Cm) (X : Cx) (id : String) (g : OpM) : Prop := ∀ m S H d ds x vs Q, RelS (ct X cm) m S H → Rep (ct X cm) m S H d x → Reps (ct X cm) m S H ds vs → POk (Rep (ct X cm)) (ct X cm) m S H (g d ds S) Q → rM X id x vs H Q
def isTyp (T : String) (d : D) (S : So) : Bool := match d with
  | .str _ => T == "str"
  | d => (T == "list" && (lstOf d S).isSome)
def mM (T : String) (g : OpM) (fo : E D) (fa : E (List D)) : E D := fun en S => (fo en S).bind fun d S1 => if isTyp T d S1 then (fa en S1).bind fun l S2 => R.of (g d l S2) else .bad
section
variable {cm : Cm} {X : Cx} {o e : Expr} {es : List Expr} {fo : E D} {fa : E (List D)} {name : Str} {apos cpos : Pos} {T id : String} {g : OpM}
theorem typ_v {m : Am} {S : So} {H : Hp} {d : D} {x : V} (R : RelS (ct X cm) m S H) (r : Rep (ct X cm) m S H d x) (h : isTyp T d S = true) : tyV X.K T x H := by
  have go : (T == "list" && (lstOf d S).isSome) = true → tyV X.K T x H := fun z => by
    simp only [Bool.and_eq_true, beq_iff_eq, Option.isSome_iff_exists] at z
    obtain ⟨e, l, q⟩ := z
    obtain ⟨a, vs, rfl, h1, h2⟩ := lst_at R r q
    exact .inl ⟨e, vs, .inl (.inl h1)⟩
  cases d with
  | str z =>
    simp only [isTyp, beq_iff_eq] at h
    simp only [Rep] at r
    subst r
    exact h
  | _ => exact go (by simpa [isTyp] using h)
theorem re_m (pa : PlainAttrs T) (slot : Slot T name id) (hty : typeOf (.builtin id) = pure (.type "method_descriptor")) (hm : MtD cm X id g) (ho : RE cm X o fo) (ha : RA cm X (e :: es) fa)
    (hbase : attributeBase o name X.env (eval o X.env) = eval o X.env := by rfl)
    (hfew : ((backTo cpos (starEach (e :: es) X.env)).all (fun x => !x.1) && (backToKw cpos (keywordEach [] X.env)).all (fun x => x.1.isSome)
      && decide ((e :: es).length + ([] : List Keyword).length + (if ([] : List Keyword).isEmpty then 0 else 1) < 30)) = true := by rfl)
    (hline : (apos.endLine == cpos.line) = true := by rfl) (hs : starEach (e :: es) X.env = (false, eval e X.env) :: starEach es X.env := by rfl) (hplain : (backTo cpos (starEach es X.env)).any (·.1) = false := by rfl) :
    RE cm X (.Call (.Attribute o name apos) (e :: es) [] cpos) (mM T g fo fa) := fun W tk m S H σ en Q C h => by
  refine wE_of (pe_bm pa slot hty mt_w pe_w pa_w hbase hfew hline hs hplain) ?_
  refine ho W tk m S H σ en _ C (PQ.bind h fun d S1 x m1 H1 e1 A1 R1 r1 h1 => ?_)
  split at h1
  · rename_i ht
    refine ⟨typ_v R1 r1 ht, ha W tk m1 S1 H1 σ en _ (C.adv A1 R1) (PQ.bind h1 fun l S2 vs m2 H2 e2 A2 R2 r2 h2 => ?_)⟩
    exact hm m2 S2 H2 d l x vs _ R2 (Rep.adv A2 _ _ r1) r2 h2.pok
  · exact h1.elim
theorem re_m0 (pa : PlainAttrs T) (slot : Slot T name id) (hty : typeOf (.builtin id) = pure (.type "method_descriptor")) (hm : MtD cm X id g) (ho : RE cm X o fo)
    (hbase : attributeBase o name X.env (eval o X.env) = eval o X.env := by rfl) (hline : (apos.endLine == cpos.line) = true := by rfl) :
    RE cm X (.Call (.Attribute o name apos) [] [] cpos) (mM T g fo aNil) := fun W tk m S H σ en Q C h => by
  refine wE_of (pe_bm0 pa slot hty mt_w pe_w hbase hline) ?_
  refine ho W tk m S H σ en _ C (PQ.bind h fun d S1 x m1 H1 e1 A1 R1 r1 h1 => ?_)
  split at h1
  · rename_i ht
    have h2 : PQ (Rep (ct X cm)) (ct X cm) m1 S1 H1 σ W (R.of (g d [] S1)) Q := h1
    exact ⟨typ_v R1 r1 ht, hm m1 S1 H1 d [] x [] _ R1 r1 Reps.nil h2.pok⟩
  · exact h1.elim
end
def cellL (d : D) (S : So) : Option (Nat × List D) := match d with
  | .ref n => match S[n]? with
    | some (some (.lst l)) => some (n, l)
    | _ => none
  | _ => none
theorem cellL_at {cm : Ct} {m : Am} {S : So} {H : Hp} {d : D} {x : V} {n : Nat} {l : List D} (R : RelS cm m S H) (r : Rep cm m S H d x) (h : cellL d S = some (n, l)) :
    S[n]? = some (some (.lst l)) ∧ x = .ref (m.p n) ∧ ∃ vs, H (m.p n) = some (.lst vs) ∧ Reps cm m S H l vs := by
  unfold cellL at h
  split at h
  · split at h
    · rename_i n' l' e
      cases h
      simp only [Rep] at r
      obtain ⟨vs, h1, h2⟩ := R.at_ _ _ e
      exact ⟨e, r.2, vs, h1, h2⟩
    · cases h
  · cases h
def mApp : OpM := fun d l S => match l with
  | [y] => match cellL d S with
    | some (n, xs) => if xs.length < sizeLine then some (.non, S.set n (some (.lst (xs ++ [y])))) else none
    | none => none
  | _ => none
def mPopAt : OpM := fun d l S => match l with
  | [.int i] => match cellL d S with
    | some (n, xs) => if -(2 ^ 63) ≤ i ∧ i < 2 ^ 63 then match ixN xs.length i with
        | some k => match xs[k]? with
          | some y => some (y, S.set n (some (.lst (xs.eraseIdx k))))
          | none => none
        | none => none
      else none
    | none => none
  | _ => none
def strsOf : List D → Option (List Str)
  | [] => some []
  | .str b :: l => (strsOf l).map (b :: ·)
  | _ => none
theorem reps_strs {cm : Ct} {m : Am} {S : So} {H : Hp} : ∀ {l : List D} {bs : List Str} {vs : List V}, strsOf l = some bs → Reps cm m S H l vs → vs = bs.map V.str
  | [], bs, vs, e, r => by
    simp only [strsOf, Option.some.injEq] at e
    subst e
    simp only [Reps] at r
    exact r
  | d :: l, bs, vs, e, r => by
    simp only [Reps] at r
    obtain ⟨v, r, rfl, h1, h2⟩ := r
    cases d with
    | str b =>
      simp only [strsOf, Option.map_eq_some_iff] at e
      obtain ⟨bs', e1, rfl⟩ := e
      simp only [Rep] at h1
      rw [h1, reps_strs e1 h2]
      rfl
    | _ => simp [strsOf] at e
def mJoin : OpM := fun d l S => match d, l with
  | .str a, [y] => match seqOf y S with
    | some xs => match strsOf xs with
      | some ys => if (ys.map (·.length)).sum + ys.length * a.length ≤ 16777216 then some (.str (Txt.join a ys), S) else none
      | none => none
    | none => none
  | _, _ => none
section
variable {cm : Cm} {X : Cx}
theorem md_app : MtD cm X "list.append" mApp := fun m S H d ds x vs Q R r rs h => by
  unfold mApp at h
  split at h
  · obtain ⟨y, rfl, ry⟩ := reps1 rs
    split at h
    · rename_i n xs e
      split at h
      · rename_i hl
        obtain ⟨e1, rfl, ws, h1, h2⟩ := cellL_at R r e
        refine rM_of (show MtR X "list.append" rAppend from mt_append) ⟨_, ws, y, rfl, rfl, h1, by rw [← h2.length]; exact hl, ?_⟩
        obtain ⟨A, R'⟩ := cell_w (o' := .lst (xs ++ [_])) (u := .lst (ws ++ [y])) R e1 fun K => ⟨_, upd_same, Reps.kp K _ _ (h2.append (Reps.cons ry Reps.nil))⟩
        exact h.at A R' (by simp only [Rep])
      · exact h.no.elim
    · exact h.no.elim
  · exact h.no.elim
theorem ixN_i {n : Nat} {i : Int} {k : Nat} (h : ixN n i = some k) : seqIndex? i n = some k := (ixN_seq h).1
theorem md_popAt : MtD cm X "list.pop" mPopAt := fun m S H d ds x vs Q R r rs h => by
  unfold mPopAt at h
  split at h
  · obtain ⟨y, rfl, ry⟩ := reps1 rs
    simp only [Rep] at ry
    subst ry
    split at h
    · rename_i n xs e
      split at h
      · rename_i hi
        split at h
        · rename_i k ek
          split at h
          · rename_i yy ey
            obtain ⟨e1, rfl, ws, h1, h2⟩ := cellL_at R r e
            obtain ⟨v, ev, rv⟩ := h2.get ey
            refine rM_of (show MtR X "list.pop" rPopAt from mt_popAt) ⟨_, ws, _, k, v, rfl, rfl, h1, hi.1, hi.2, by rw [← h2.length]; exact ixN_i ek, ev, ?_⟩
            obtain ⟨A, R'⟩ := cell_w (o' := .lst (xs.eraseIdx k)) (u := .lst (ws.eraseIdx k)) R e1 fun K => ⟨_, upd_same, Reps.kp K _ _ (h2.eraseIdx k)⟩
            exact h.at A R' (Rep.adv A _ _ rv)
          · exact h.no.elim
        · exact h.no.elim
      · exact h.no.elim
    · exact h.no.elim
  · exact h.no.elim
theorem md_join : MtD cm X "str.join" mJoin := fun m S H d ds x vs Q R r rs h => by
  unfold mJoin at h
  split at h
  · obtain ⟨y, rfl, ry⟩ := reps1 rs
    simp only [Rep] at r
    subst r
    split at h
    · rename_i xs e
      split at h
      · rename_i ys es
        split at h
        · rename_i hz
          obtain ⟨a, ws, rfl, h1, h2⟩ := seq_at R ry e
          have ev := reps_strs es h2
          subst ev
          exact rM_of mt_join ⟨_, a, ys, rfl, rfl, h1, hz, h.str R⟩
        · exact h.no.elim
      · exact h.no.elim
    · exact h.no.elim
  · exact h.no.elim
end

/-! ### o[i] = v -/
def wSet (X : Cx) : TSet := fun o i v H Q => ∀ pins s σ ov iv u, Inv X pins σ H s → RelV o ov → RelV i iv → RelV v u → wpAny (model X.prog X.w) X.A (setItem ov iv u) (fun _ s' => ∃ H', Inv X pins σ H' s' ∧ Q H') X.xe s
theorem pset_w {X : Cx} : PSet X (wSet X) := fun pins s σ H o i v ov iv u Q I ro ri rv h => h pins s σ ov iv u I ro ri rv
theorem wSet_of {X : Cx} {t : TSet} {o i v : V} {H : Hp} {Q : Hp → Prop} (h : PSet X t) (q : t o i v H Q) : wSet X o i v H Q := fun pins s σ ov iv u I ro ri rv => h pins s σ H o i v ov iv u Q I ro ri rv q
def putKD (ks : List Key) (l : List D) (k : Key) (v : D) : List Key × List D := match ks, l with
  | k' :: ks, d :: l => if k' = k then (k' :: ks, v :: l) else let r := putKD ks l k v; (k' :: r.1, d :: r.2)
  | ks, l => (ks ++ [k], l ++ [v])
def putD (o i v : D) (S : So) : Option So := match o with
  | .ref n => match S[n]? with
    | some (some (.lst l)) => match i with
      | .int k => (ixN l.length k).map fun j => S.set n (some (.lst (l.set j v)))
      | _ => none
    | some (some (.dct ks l)) => match keyOf i with
      | some k => if ks.Nodup ∧ ks.length < sizeLine then some (S.set n (some (.dct (putKD ks l k v).1 (putKD ks l k v).2))) else none
      | none => none
    | _ => none
  | _ => none
theorem putKD_v {cm : Ct} {m : Am} {S : So} {H : Hp} {k : Key} {dv : D} {v : V} (rv : Rep cm m S H dv v) : ∀ {kvs : List (Key × V)} {ks : List Key} {l : List D}, ks.Nodup → kvs.map (·.1) = ks → Reps cm m S H l (kvs.map (·.2)) →
    (putK kvs k v).map (·.1) = (putKD ks l k dv).1 ∧ Reps cm m S H (putKD ks l k dv).2 ((putK kvs k v).map (·.2))
  | [], ks, l, _, e, h => by
    simp only [List.map_nil] at e h
    subst e
    have h' : l = [] := by cases l with
      | nil => rfl
      | cons _ _ => simp [Reps] at h
    subst h'
    exact ⟨rfl, Reps.cons rv Reps.nil⟩
  | p :: kvs, ks, l, nd, e, h => by
    simp only [List.map_cons] at e h
    subst e
    cases l with
    | nil => simp [Reps] at h
    | cons d l =>
      simp only [Reps] at h
      obtain ⟨v', r', e', h1, h2⟩ := h
      cases e'
      obtain ⟨nd1, nd2⟩ := List.nodup_cons.mp nd
      by_cases c : p.1 = k
      · have e1 : putKD (p.1 :: kvs.map (·.1)) (d :: l) k dv = (p.1 :: kvs.map (·.1), dv :: l) := by simp [putKD, c]
        have e2 : putK (p :: kvs) k v = (p.1, v) :: kvs := by
          unfold putK
          rw [if_pos (by simp [c]), List.map_cons, if_pos c]
          congr 1
          conv => rhs; rw [← List.map_id kvs]
          refine List.map_congr_left fun q hq => ?_
          rw [if_neg (fun z => nd1 (by rw [c, ← z]; exact List.mem_map.mpr ⟨q, hq, rfl⟩))]
          rfl
        rw [e1, e2]
        exact ⟨by simp, Reps.cons rv h2⟩
      · obtain ⟨i1, i2⟩ := putKD_v rv (k := k) (l := l) nd2 rfl h2
        have e1 : putKD (p.1 :: kvs.map (·.1)) (d :: l) k dv = (p.1 :: (putKD (kvs.map (·.1)) l k dv).1, d :: (putKD (kvs.map (·.1)) l k dv).2) := by simp [putKD, c]
        have e2 : putK (p :: kvs) k v = p :: putK kvs k v := by
          unfold putK
          simp only [List.any_cons, c, decide_false, Bool.false_or, List.map_cons, if_false, List.cons_append]
          split <;> rfl
        rw [e1, e2]
        exact ⟨by simp [i1], Reps.cons h1 i2⟩
def sPut (fv fo fi : E D) : T := fun en S => (fv en S).bind fun v S1 => (fo en S1).bind fun o S2 => (fi en S2).bind fun i S3 => match putD o i v S3 with
  | some S4 => .ok (.nx en) S4
  | none => .bad
section
variable {cm : Cm} {X : Cx} {o i e : Expr} {fo fi fv : E D} {pos pos' : Pos}
theorem put_run (hu : X.A.units + 1 < cLine) {m : Am} {S S' : So} {H : Hp} {dO dI dV : D} {o i v : V} {Q : Hp → Prop} (R : RelS (ct X cm) m S H) (ro : Rep (ct X cm) m S H dO o) (ri : Rep (ct X cm) m S H dI i) (rv : Rep (ct X cm) m S H dV v)
    (h : putD dO dI dV S = some S') (q : ∀ H', Adv m S H m S' H' → RelS (ct X cm) m S' H' → Q H') : wSet X o i v H Q := by
  unfold putD at h
  split at h
  · simp only [Rep] at ro
    obtain ⟨_, rfl⟩ := ro
    split at h
    · rename_i n l e
      obtain ⟨vs, h1, h2⟩ := R.at_ _ _ e
      split at h
      · rename_i k
        simp only [Rep] at ri
        subst ri
        cases ej : ixN l.length k with
        | none => rw [ej] at h; cases h
        | some j =>
          rw [ej] at h
          cases h
          obtain ⟨A, R'⟩ := cell_w (o' := .lst (l.set j dV)) (u := .lst (vs.set j v)) R e fun K => ⟨_, upd_same, Reps.kp K _ _ (h2.set j rv)⟩
          exact wSet_of set_list ⟨_, vs, k, j, rfl, rfl, h1, by rw [← h2.length]; exact ej, q _ A R'⟩
      · cases h
    · rename_i n ks l e
      obtain ⟨kvs, h1, h2, h3⟩ := R.at_ _ _ e
      split at h
      · rename_i k ek
        have ei := key_v ri ek
        subst ei
        split at h
        · rename_i hn
          cases h
          obtain ⟨g1, g2⟩ := putKD_v rv (k := k) hn.1 h2 h3
          obtain ⟨A, R'⟩ := cell_w (o' := .dct (putKD ks l k dV).1 (putKD ks l k dV).2) (u := .dK (putK kvs k v)) R e fun K => ⟨_, upd_same, g1, Reps.kp K _ _ g2⟩
          exact wSet_of (set_dict hu) ⟨_, _, rfl, DPut.k h1 (by rw [← kv_len h2]; exact hn.2), q _ A R'⟩
        · cases h
      · cases h
    · cases h
  · cases h
theorem rs_put (hu : X.A.units + 1 < cLine) (hv : RE cm X e fv) (ho : RE cm X o fo) (hi : RE cm X i fi) (hs : swapsWithSole [.Subscript o i pos'] e pos.line X.env = pure false := by rfl) (hw : swappedStores [.Subscript o i pos'] e X.env = pure none := by rfl)
    (h1 : (assignEach [.Subscript o i pos'] X.env).map (·.2) = [assign (.Subscript o i pos') X.env] := by rfl)
    (ha : ∀ v, assign (.Subscript o i pos') X.env v = (do
      let ov ← holding [v] (eval o X.env)
      let iv ← holding [v, ov] (eval i X.env)
      standAt pos'
      holding [v, ov, iv] (setItem ov iv v)
      release [v, ov, iv] []) := by intro _; rfl) : RS cm X (.Assign [.Subscript o i pos'] e pos) (sPut fv fo fi) := fun W tk m S H σ en D C h => by
  refine wS_of (ps_asg pe_w (pg_sub pe_w pe_w pset_w ha) hs hw h1) (hv W tk m S H σ en _ C (PF.bind h fun d S1 y m1 H1 e1 A1 R1 r1 k1 => ?_))
  refine ho W tk m1 S1 H1 σ en _ (C.adv A1 R1) (PF.bind k1 fun d2 S2 y2 m2 H2 e2 A2 R2 r2 k2 => ?_)
  refine hi W tk m2 S2 H2 σ en _ ((C.adv A1 R1).adv A2 R2) (PF.bind k2 fun d3 S3 y3 m3 H3 e3 A3 R3 r3 k3 => ?_)
  cases e4 : putD d2 d3 d S3 with
  | none => rw [e4] at k3; exact k3.elim
  | some S4 =>
    rw [e4] at k3
    exact put_run hu R3 (Rep.adv A3 _ _ r2) r3 (Rep.adv A3 _ _ (Rep.adv A2 _ _ r1)) e4 fun H' A' R' => k3 _ _ _ A' ((((C.adv A1 R1).adv A2 R2).adv A3 R3).adv A' R')
end
end Mi

/-! Mi9: freezing, isinstance, dicts made, what is walked, sorted. -/
namespace Mi
open PySem PySem.Spec PyProof.Rows L2

/-! ### return x: a cell becomes a value -/
def frz (d : D) (S : So) : D × So := match d with
  | .ref n => match S[n]? with
    | some (some (.lst l)) => (.lst l, S.set n none)
    | some (some (.dct ks l)) => (.dct ks l, S.set n none)
    | some (some (.ins c ks l)) => (.ins c ks l, S.set n none)
    | _ => (d, S)
  | _ => (d, S)
theorem frz_ok {cm : Ct} {m : Am} {S : So} {H : Hp} {d : D} {x : V} (R : RelS cm m S H) (r : Rep cm m S H d x) : Adv m S H m (frz d S).2 H ∧ RelS cm m (frz d S).2 H ∧ Rep cm m (frz d S).2 H (frz d S).1 x := by
  unfold frz
  split
  · rename_i n
    have r0 := r
    simp only [Rep] at r
    split
    · rename_i l e
      obtain ⟨A, R', o⟩ := cell_gone R e
      obtain ⟨vs, h1, h2⟩ := R.at_ n _ e
      refine ⟨A, R', ?_⟩
      simp only [Rep]
      exact ⟨_, vs, r.2, h1, ⟨o, fun z => R.hoff _ z n _ e rfl⟩, Reps.adv A _ _ h2⟩
    · rename_i ks l e
      obtain ⟨A, R', o⟩ := cell_gone R e
      obtain ⟨vs, h1, h2, h3⟩ := R.at_ n _ e
      refine ⟨A, R', ?_⟩
      simp only [Rep]
      exact ⟨_, vs, r.2, .inl h1, ⟨o, fun z => R.hoff _ z n _ e rfl⟩, h2, Reps.adv A _ _ h3⟩
    · rename_i c ks l e
      obtain ⟨A, R', o⟩ := cell_gone R e
      obtain ⟨C, dx, fs, hc, h1, h2, h3⟩ := R.at_ n _ e
      refine ⟨A, R', ?_⟩
      simp only [Rep]
      exact ⟨_, C, dx, fs, r.2, hc, h1, ⟨o, fun z => R.hoff _ z n _ e rfl⟩, h2, Reps.adv A _ _ h3⟩
    · exact ⟨Adv.refl, R, r0⟩
  · exact ⟨Adv.refl, R, r⟩
def sRetZ (fe : E D) : T := fun en S => (fe en S).bind fun d S1 => .ok (.rt (frz d S1).1) (frz d S1).2
def mFrz (fe : E D) : E D := fun en S => (fe en S).bind fun d S1 => .ok (frz d S1).1 (frz d S1).2
section
variable {cm : Cm} {X : Cx} {e : Expr} {fe : E D} {pos : Pos}
theorem re_frz (h : RE cm X e fe) : RE cm X e (mFrz fe) := fun W tk m S H σ en Q C q => by
  refine h W tk m S H σ en _ C (PQ.bind q fun d S1 x m1 H1 e1 A1 R1 r1 k1 => ?_)
  obtain ⟨A, R', r'⟩ := frz_ok R1 r1
  exact k1 x m1 H1 A R' r'
end

/-! ### isinstance -/
inductive Ty where
  | non | bl | int | str | tup | lst | dct
  deriving DecidableEq
def Ty.name : Ty → String
  | .non => "NoneType" | .bl => "bool" | .int => "int" | .str => "str" | .tup => "tuple" | .lst => "list" | .dct => "dict"
def tyD (d : D) (S : So) : Option Ty := match d with
  | .non => some .non
  | .bl _ => some .bl
  | .int _ => some .int
  | .str _ => some .str
  | .tup _ => some .tup
  | .lst _ => some .lst
  | .scr _ => some .lst
  | .dct _ _ => some .dct
  | .ins _ _ _ => none
  | .exc _ _ _ => none
  | .cls _ => none
  | .ref n => match S[n]? with
    | some (some (.lst _)) => some .lst
    | some (some (.dct _ _)) => some .dct
    | _ => none
def isOwn (d : D) (S : So) : Option Str := match d with
  | .ins c _ _ => some c
  | .ref n => match S[n]? with
    | some (some (.ins c _ _)) => some c
    | _ => none
  | _ => none
def isT (t T : Ty) : Bool := decide (t = T) || (decide (t = .bl) && decide (T = .int))
def isD (T : Ty) (d : D) (S : So) : Option Bool := match tyD d S with
  | some t => some (isT t T)
  | none => (isOwn d S).map fun _ => false
theorem kit_isT (t T : Ty) (h : T ≠ .non) : kitB t.name T.name = some (isT t T) := by
  cases T <;> first | exact absurd rfl h | skip
  all_goals cases t <;> decide +kernel
/-- what the walk asks of an own class -/
structure OwnC (K : PySem.W.Frag) (C : Addr) : Prop where
  cl : Cls K C
  ha : PySem.W.findIn K (.ref C) "__class__" = some (some (.builtin "object.__class__"))
  hn : PySem.W.specialIn K (.builtin "object.__class__") "__get__" = some (some (.builtin "getset_descriptor.__get__"))
  htk : PySem.W.takesIn K (.builtin "object.__class__") = some true
  hm : PySem.W.mroIn K C (.type "object") = some true
  is : ∀ T : Ty, T ≠ .non → PySem.W.kitOne K (.ref C) (.type T.name) = some false
def OwnAll (K : PySem.W.Frag) (cm : Cm) : Prop := ∀ c C, cm.cls c = some C → OwnC K C
section
variable {cm : Ct} {m : Am} {S : So} {H : Hp} {d : D} {x : V}
theorem tyD_v {t : Ty} (R : RelS cm m S H) (r : Rep cm m S H d x) (h : tyD d S = some t) : TyX cm.K H x (.type t.name) := by
  cases d with
  | non => simp only [tyD, Option.some.injEq] at h; subst h; simp only [Rep] at r; subst r; exact .base .non
  | bl b => simp only [tyD, Option.some.injEq] at h; subst h; simp only [Rep] at r; subst r; exact .base (.bl b)
  | int b => simp only [tyD, Option.some.injEq] at h; subst h; simp only [Rep] at r; subst r; exact .base (.int b)
  | str b => simp only [tyD, Option.some.injEq] at h; subst h; simp only [Rep] at r; subst r; exact .base (.str b)
  | tup l =>
    simp only [tyD, Option.some.injEq] at h; subst h; simp only [Rep] at r
    obtain ⟨a, vs, rfl, h1, _⟩ := r
    rcases h1 with (h1 | ⟨o, h1⟩) | ⟨o, its, n, h1, h2, _⟩
    · exact .base (.tup h1)
    · exact .fTuple h1
    · exact .kTuple h1 h2
  | lst l =>
    simp only [tyD, Option.some.injEq] at h; subst h; simp only [Rep] at r
    obtain ⟨a, vs, rfl, h1, _⟩ := r
    exact .base (.lst h1)
  | scr l =>
    simp only [tyD, Option.some.injEq] at h; subst h; simp only [Rep] at r
    obtain ⟨a, rfl, h1⟩ := r
    rcases h1 with ⟨o, h1⟩ | ⟨o, its, n, h1, h2, _⟩
    · exact .base (.frz h1)
    · exact .kList h1 h2
  | dct ks l =>
    simp only [tyD, Option.some.injEq] at h; subst h; simp only [Rep] at r
    obtain ⟨a, kvs, rfl, h1, _⟩ := r
    rcases h1 with h1 | ⟨o, h1⟩
    · exact .base (.dK h1)
    · exact .fDict h1
  | ins c ks l => simp [tyD] at h
  | exc c ks l => simp [tyD] at h
  | cls c => simp [tyD] at h
  | ref n =>
    simp only [tyD] at h
    simp only [Rep] at r
    obtain ⟨_, rfl⟩ := r
    split at h
    · rename_i l e
      cases h
      obtain ⟨vs, h1, _⟩ := R.at_ n _ e
      exact .base (.lst h1)
    · rename_i ks l e
      cases h
      obtain ⟨vs, h1, _⟩ := R.at_ n _ e
      exact .base (.dK h1)
    · cases h
theorem own_v {c : Str} (R : RelS cm m S H) (r : Rep cm m S H d x) (h : isOwn d S = some c) : ∃ a C dx fs, x = .ref a ∧ cm.cls c = some C ∧ H a = some (.ins C dx fs) := by
  cases d with
  | ins c' ks l =>
    simp only [isOwn, Option.some.injEq] at h
    subst h
    simp only [Rep] at r
    obtain ⟨a, C, dx, fs, e, hc, h1, _⟩ := r
    exact ⟨a, C, dx, fs, e, hc, h1⟩
  | ref n =>
    simp only [isOwn] at h
    simp only [Rep] at r
    split at h
    · rename_i c' ks l e
      cases h
      obtain ⟨C, dx, fs, hc, h1, _⟩ := R.at_ n _ e
      exact ⟨_, C, dx, fs, r.2, hc, h1⟩
    · cases h
  | _ => simp [isOwn] at h
end
def mIs (T : Ty) (fe : E D) : E D := fun en S => (fe en S).bind fun d S1 => match isD T d S1 with
  | some b => .ok (.bl b) S1
  | none => .bad
/-- isinstance(x, (T, U)) -/
def mIs2 (T U : Ty) (fe : E D) : E D := fun en S => (fe en S).bind fun d S1 => match isD T d S1, isD U d S1 with
  | some a, some b => .ok (.bl (a || b)) S1
  | _, _ => .bad
section
variable {cm : Cm} {X : Cx} {e : Expr} {fe : E D} {p p1 p2 pt pos : Pos}
theorem isD_all {m : Am} {S : So} {H : Hp} {d : D} {x : V} {T : Ty} {b : Bool} (ho : OwnAll X.K cm) (R : RelS (ct X cm) m S H) (r : Rep (ct X cm) m S H d x) (h : isD T d S = some b) :
    ∃ t, TyX X.K H x t ∧ ∀ (U : Ty) (k : Bool), U ≠ .non → isD U d S = some k → PySem.W.kitOne X.K t (.type U.name) = some k := by
  unfold isD at h
  split at h
  · rename_i t e
    refine ⟨_, tyD_v R r e, fun U k hU q => ?_⟩
    unfold isD at q
    rw [e] at q
    cases q
    exact kit_ty (kit_isT t U hU)
  · rename_i e0
    cases e : isOwn d S with
    | none => rw [e] at h; cases h
    | some c =>
      obtain ⟨a, C, dx, fs, rfl, hc, h1⟩ := own_v R r e
      have o := ho c C hc
      refine ⟨_, .base (.ins h1 o.cl o.ha o.hn o.htk o.hm), fun U k hU q => ?_⟩
      unfold isD at q
      rw [e0, e] at q
      cases q
      exact o.is U hU
theorem re_is (T : Ty) {x : Str} (ho : OwnAll X.K cm) (hg : Gl X "isinstance") (hm : X.mg "isinstance" = none) (hg2 : Gl X x) (hm2 : X.mg x = none) (hv2 : bootBuiltins x = some (.type T.name)) (he : RE cm X e fe) (hT : T ≠ .non := by decide)
    (hn : x ≠ "__name__" := by decide) (hdb : (x == ("__debug__" : Str)) = false := by decide)
    (hs : starEach [e, .Name x p1] X.env = (false, eval e X.env) :: starEach [.Name x p1] X.env := by rfl) (hs2 : starEach [.Name x p1] X.env = (false, eval (.Name x p1) X.env) :: starEach [] X.env := by rfl)
    (hpl : (backTo pos (starEach [.Name x p1] X.env)).any (·.1) = false := by rfl) :
    RE cm X (.Call (.Name "isinstance" p) [e, .Name x p1] [] pos) (mIs T fe) := fun W tk m S H σ en Q C h => by
  refine wE_of (pe_callB call_isi hg hm PyProof.Rows.boot_isinstance (pa_cons pe_w (pa_cons (pe_bltn (v := .ty T.name) hg2 hm2 hv2 rfl hn hdb) pa_nil hs2) hs) (by decide) (by decide) hs hpl) ?_
  refine he W tk m S H σ en _ C (PQ.bind h fun d S1 x m1 H1 e1 A1 R1 r1 h1 => ?_)
  split at h1
  · rename_i b eb
    obtain ⟨t, g1, g2⟩ := isD_all ho R1 r1 eb
    exact ⟨x, .ty T.name, t, .type T.name, b, rfl, .ty _, g1, g2 T b hT eb, PQ.now h1 R1 (by simp only [Rep])⟩
  · exact h1.elim
/-- isinstance(x, (T, U)) -/
theorem re_is2 (T U : Ty) {x y : Str} {kt : Nat} (ho : OwnAll X.K cm) (hg : Gl X "isinstance") (hm : X.mg "isinstance" = none) (hg2 : Gl X x) (hm2 : X.mg x = none) (hv2 : bootBuiltins x = some (.type T.name))
    (hg3 : Gl X y) (hm3 : X.mg y = none) (hv3 : bootBuiltins y = some (.type U.name)) (he : RE cm X e fe) (hT : T ≠ .non := by decide) (hU : U ≠ .non := by decide)
    (hn : x ≠ "__name__" := by decide) (hdb : (x == ("__debug__" : Str)) = false := by decide) (hn3 : y ≠ "__name__" := by decide) (hdb3 : (y == ("__debug__" : Str)) = false := by decide)
    (hs : starEach [e, .Tuple [.Name x p1, .Name y p2] kt pt] X.env = (false, eval e X.env) :: starEach [.Tuple [.Name x p1, .Name y p2] kt pt] X.env := by rfl)
    (hs2 : starEach [.Tuple [.Name x p1, .Name y p2] kt pt] X.env = (false, eval (.Tuple [.Name x p1, .Name y p2] kt pt) X.env) :: starEach [] X.env := by rfl)
    (ht1 : starEach [.Name x p1, .Name y p2] X.env = (false, eval (.Name x p1) X.env) :: starEach [.Name y p2] X.env := by rfl) (ht2 : starEach [.Name y p2] X.env = (false, eval (.Name y p2) X.env) :: starEach [] X.env := by rfl)
    (hpl : (backTo pos (starEach [.Tuple [.Name x p1, .Name y p2] kt pt] X.env)).any (·.1) = false := by rfl) :
    RE cm X (.Call (.Name "isinstance" p) [e, .Tuple [.Name x p1, .Name y p2] kt pt] [] pos) (mIs2 T U fe) := fun W tk m S H σ en Q C h => by
  refine wE_of (pe_callB call_isiT hg hm PyProof.Rows.boot_isinstance (pa_cons pe_w (pa_cons (pe_tup (pa_cons (pe_bltn (v := .ty T.name) hg2 hm2 hv2 rfl hn hdb) (pa_cons (pe_bltn (v := .ty U.name) hg3 hm3 hv3 rfl hn3 hdb3) pa_nil ht2) ht1)) pa_nil hs2) hs) (by decide) (by decide) hs hpl) ?_
  refine he W tk m S H σ en _ C (PQ.bind h fun d S1 x m1 H1 e1 A1 R1 r1 h1 => ?_)
  split at h1
  · rename_i a b ea eb
    refine ⟨by show 2 ≤ sizeLine; rw [sizeLine_eq]; omega, fun q hq => ?_⟩
    have R2 := R1.grow (grow_upd (p := q) (o := .tup [.ty T.name, .ty U.name]) hq)
    have r2 := Rep.adv (Adv.new (o := .tup [.ty T.name, .ty U.name]) hq) _ _ r1
    obtain ⟨t', g1, g2⟩ := isD_all ho R2 r2 ea
    refine ⟨x, q, [.ty T.name, .ty U.name], t', [.type T.name, .type U.name], a || b, rfl, upd_same, .cons (.ty _) (.cons (.ty _) .nil), g1, ?_, h1.grown R1 (grow_upd hq) fun _ => by simp only [Rep]⟩
    exact kitAny_cons (g2 T a hT ea) (fun z => kitAny_cons (g2 U b hU eb) (fun z' => by rw [z, z']; exact kitAny_nil) fun z' => by rw [z']; simp) fun z => by rw [z]; rfl
  · exact h1.elim
end

/-! ### over a text -/
def iTxt (f : E D) : E Src := fun en S => (f en S).bind fun d S1 => match d with
  | .str x => .ok ⟨none, sgns x⟩ S1
  | _ => .bad
theorem ri_str {cm : Cm} {X : Cx} {tg iter : Expr} {f : E D} (h : RE cm X iter f) : RI cm X tg iter (iTxt f) := fun W tk m S H σ en R C hq => by
  refine wI_of (pi_str pe_w) ?_
  refine h W tk m S H σ en _ C (PQ.bind hq fun d S1 y m1 H1 e1 A1 R1 r1 h1 => ?_)
  split at h1
  · rename_i x
    simp only [Rep] at r1
    refine ⟨x, r1, PQ.now h1 R1 fun m' S' H' A R' st => ?_⟩
    have hl : (sgns x).length = x.cps.size := by unfold sgns; rw [List.length_map, Array.length_toList]
    refine ⟨fun i d ed => ?_, by show x.cps.size ≤ (sgns x).length; rw [hl]; exact Nat.le_refl _⟩
    have hi : i < x.cps.size := by rw [← hl]; exact (List.getElem?_eq_some_iff.mp ed).1
    refine ⟨hi, fun v H2 y => ?_⟩
    obtain ⟨e1, c, ec, e2⟩ := y
    subst e1 e2
    unfold sgns at ed
    rw [List.getElem?_map, Array.getElem?_toList, ec] at ed
    simp only [Option.map_some, Option.some.injEq] at ed
    subst ed
    exact ⟨fun _ _ h => h, by simp only [Rep]⟩
  · exact h1.elim
end Mi

/-! MiX: own exceptions over any base, with a field. -/
namespace Mi
open PySem PySem.Spec PyProof.Rows L2

/-- a built-in class as a base: how its instances are made, what its __init__ does -/
structure XB (newId initId : String) (bmB : List Value) : Prop where
  call : ∀ {prog : Program} {w : World} {A : Around} {R : Result → Shared → Prop} {h : Heap} {g : Array GenState} {d : Drawn} {t : Nat} {os : OsState} {nm q : Str} {C N : Addr} {bs bm : List Value} {hdct : Bool} {sn : List Str} {sub : List Value} {ab : Bool} {col : Option Bool} {dd : Option Addr} {k0 k1 k2 k3 k5 : Option Value} {rest : List Value} {fI : Addr},
    (∀ X : String, bm.contains (.type X) = bmB.contains (.type X)) → h.get? C = some (excClassObj nm q C N bs bm hdct sn sub ab col dd k0 k1 k2 k3 k5 newId) → PySem.W.Looks (model prog w) h (typeLookup (.ref C) "__init__") (some (.ref fI)) →
    (∀ self, PySem.W.Looks (model prog w) h (bindSpecial (.ref fI) self) (.ref fI, [self])) → rest.length ≤ sizeLine →
    codeAny (model prog w) (A.under (.builtin "type.__call__" ⟨.ref C :: rest, []⟩)) (.call (.ref fI) ⟨.ref (h.objs.size + 1) :: rest, []⟩) (PySem.W.InitBack (h.objs.size + 1) R) ⟨(h.push (PySem.W.kdv_tup rest)).push (PySem.HandSPX.excO C h.objs.size), g, d, t, os⟩ →
    codeAny (model prog w) A (.call (.ref C) ⟨rest, []⟩) R ⟨h, g, d, t, os⟩
  init : ∀ {prog : Program} {w : World} {A : Around} {R : Result → Shared → Prop} {h : Heap} {g : Array GenState} {d : Drawn} {t : Nat} {os : OsState} {nm q : Str} {C N : Addr} {bs bm : List Value} {hdct : Bool} {sn : List Str} {sub : List Value} {ab : Bool} {col : Option Bool} {dd : Option Addr} {k0 k1 k2 k3 k5 : Option Value} {e t0 : Addr} {rest : List Value},
    (∀ X : String, bm.contains (.type X) = bmB.contains (.type X)) → h.get? C = some (excClassObj nm q C N bs bm hdct sn sub ab col dd k0 k1 k2 k3 k5 newId) → h.get? e = some (PySem.HandSPX.excO C t0) → rest.length ≤ sizeLine →
    (∀ h' t1, (∀ b o, b ≠ e → h.get? b = some o → h'.get? b = some o) → h'.get? e = some (PySem.HandSPX.excO C t1) → R (.ok (.ret .none)) ⟨h', g, d, t, os⟩) →
    codeAny (model prog w) A (.call (.builtin initId) ⟨.ref e :: rest, []⟩) R ⟨h, g, d, t, os⟩
theorem XB.of {B newId initId : String} {bmB : List Value} (F : ExcBaseFacts B newId initId bmB) : XB newId initId bmB :=
  ⟨fun hT hC hi hb hr hq => PySem.HandSPX.call_own F hT hC hi hb hr hq, fun hT hC he hr hq => PySem.HandSPX.init_base F hT hC he hr hq⟩
structure OxC (K : PySem.W.Frag) (C : Addr) (bmB : List Value) (newId : String) : Prop where
  q : PySem.W.excInitIn K C bmB newId = true
  ov : PySem.W.excOver K C bmB = true
  sa : PySem.W.findIn K (.ref C) "__setattr__" = some (some (.builtin "object.__setattr__"))
  hd : PySem.W.hasDictIn K C = true
  exC : PySem.W.subIn K (.ref C) (.type "BaseException") = some true
  tyC : PySem.W.typeIn K (.ref C) = some (.type "type")
  kC : PySem.W.keepIn K (.ref C) = true
section
open PySem.W PySem.Calls PySem.HandSPX Builtin Builtin.ObjectAttr
variable {prog : Program} {w : World} {A : Around} {E : Value → Shared → Prop} {R : Result → Shared → Prop} {hp : Heap} {g : Array GenState} {d : Drawn} {t : Nat} {os : OsState} {B newId initId : String} {bmB : List Value}
theorem exc_osaB {K : W.Frag} {name : Str} {tk : Tok} {v : Value} {x C : Addr} {fv : Array Value} (SF : StoreFacts B bmB "object.__setattr__" "object")
    (X : K.In hp) (hx : hp.get? x = some { cls := .ref C, data := .fields fv }) (hp' : excOver K C bmB = true) (hh : hasDictIn K C = true) (ht : takerIn K C name = some none) (hnc : notCls ({ cls := .ref C, data := .fields fv } : Obj) = true)
    (hq : ∀ h' tk' dx, (∀ b o, b ≠ x → hp.get? b = some o → h'.get? b = some o) → hp.objs.size ≤ dx → dx ≠ x → h'.get? x = some { cls := .ref C, dict := some dx, data := .fields fv } →
      h'.Ns1 dx (fun y => if y = name then some v else none) → R (.ok (.ret .none)) ⟨h', g, d, tk', os⟩) :
    codeAny (model prog w) A (.call (.builtin "object.__setattr__") ⟨[.ref x, .str name tk, v], []⟩) R ⟨hp, g, d, t, os⟩ := by
  have I : W.InstAt hp x { cls := .ref C, data := .fields fv } C none := ⟨hx, rfl, rfl, trivial⟩
  have hxs : x ≠ hp.objs.size := Nat.ne_of_lt (Heap.lt_size hx)
  obtain ⟨cd, hcd, hdd⟩ := any_some hh
  have hcls : W.Looks (model prog w) hp (classData C) cd := W.looks_clsIn X hcd
  refine osa_openX SF X I hp' ht fun b => ?_
  show wpAny _ _ (storeInOwnDict (.ref x) (.ref C) (.str name tk) name v b) _ _ _
  obtain ⟨nm, bs, mro, ns, qn, hd, sn, sb, ab, col, del⟩ := cd
  dsimp only at hdd
  subst hdd
  unfold storeInOwnDict ownDictForStores
  repeat (first | with_reducible refine store_in_new ?_ ?_ | with_reducible refine wpAny_loadPart_at hx ?_ | with_reducible refine hcls.at ?_ | wp_step)
  · exact ⟨_, #[], _, (Heap.get?_update_ne _ _ _ _ hxs.symm).trans (Heap.get?_push_at rfl rfl), rfl, fun e he => absurd he (by simp), fun _ => rfl⟩
  · intro h' tk' hn' hs
    have hx₁ : (hp.push { cls := .type "dict", data := .dict #[] }).get? x = some { cls := .ref C, data := .fields fv } := Heap.get?_push_of_some _ hx
    refine hq h' tk' hp.objs.size (fun b o hb ho => ?_) (Nat.le_refl _) hxs.symm ?_ hn'
    · exact (hs.2 b (Nat.ne_of_lt (Heap.lt_size ho))).trans ((Heap.get?_update_ne _ _ _ _ hb).trans (Heap.get?_push_of_some _ ho))
    · exact (hs.2 x hxs).trans (Heap.get?_update_self _ hx₁ rfl)
end

/-! ### over tracked heaps -/
section
variable {X : Cx} {pins : List (Addr × Obj)} {σ : St} {H : Hp} {s : Shared} {a C dx : Addr} {f : Str} {y : V} {u : Value} {fs : List (Str × V)} {E : Value → Shared → Prop} {A : Around} {B newId initId : String} {bmB : List Value}
theorem exc_set {Q : Unit → Shared → Prop} (SF : StoreFacts B bmB "object.__setattr__" "object") (T : OxC X.K C bmB newId) (I : Inv X pins σ H s) (e : H a = some (exo a C none)) (hno : PySem.W.findIn X.K (.ref C) f = some none) (ry : RelV y u)
    (h : ∀ dx s', H dx = none → dx ≠ a → Inv X pins σ (upd (upd H dx (exd dx [(f, y)])) a (exo a C (some dx))) s' → Q () s') : wpAny (model X.prog X.w) A (setAttr (.ref a) f u) Q E s := by
  obtain ⟨t1, ho⟩ := exo_at I.hok e
  obtain ⟨hp, g, d, t, os⟩ := s
  refine PySem.W.set_plain I.kIn (ox := { cls := .ref C, dict := none, data := .fields #[.ref t1, .none, .none, .none, .bool false, .none] }) (od := none) ⟨ho, rfl, rfl, trivial⟩ T.sa ?_
  refine exc_osaB SF I.kIn ho T.ov T.hd (NoAttr.taker hno) rfl (fun h' tk' dx k dn dne hx hn => ?_)
  have hnd : H dx = none := I.hok.fresh dn
  have nd : ∀ {b : Addr} {o : Obj}, hp.get? b = some o → b ≠ dx := fun {b o} q => Nat.ne_of_lt (Nat.lt_of_lt_of_le (Heap.lt_size q) dn)
  have na : ∀ {b : Addr}, H b = none → b ≠ a := fun {b} n z => by
    rw [z, e] at n
    cases n
  have keepT : ∀ {b : Addr} {o : HO}, H b = some o → exo a C none ≠ o → (upd (upd H dx (exd dx [(f, y)])) a (exo a C (some dx))) b = some o := fun {b o} q z => by
    rw [upd_ne (at_ne e q z), upd_ne (ne_of_none q hnd)]
    exact q
  have Un1 : Un X.fs [] H (upd (upd H dx (exd dx [(f, y)])) a (exo a C (some dx))) hp h' := {
    keep := fun b o q n _ _ => k b o (na n) q
    slot := fun b o q n _ _ => ⟨o.slots, k b o (na n) q⟩
    free := fun b o q n _ => by rw [upd_ne (na n), upd_ne (nd q)]; exact n
    there := fun b o q _ => by
      by_cases hb : b = a
      · exact ⟨_, by rw [hb]; exact hx⟩
      · exact ⟨o, k b o hb q⟩
    tups := fun b xs q => keepT q exo_tup
    frzs := fun b o v q => keepT q exo_frz
    tbls := fun b ps q => ⟨#[], by rw [keepT q exo_tbl]; simp⟩ }
  refine h dx _ hnd dne (I.un (t' := tk') Un1 fun b o q => ?_)
  by_cases hb : b = a
  · subst hb
    rw [upd_same] at q
    cases q
    exact exo_ok hx
  · rw [upd_ne hb] at q
    by_cases hd : b = dx
    · subst hd
      rw [upd_same] at q
      cases q
      exact exd_ok hn (relO_put (fs := []) ry fun g => True.intro)
    · rw [upd_ne hd] at q
      exact (I.hok b o q).stay (fun c v hc z => k c v (by
          rcases hc with hc | hc
          · rw [hc]
            exact hb
          · exact at_ne e hc exo_own) z)
        (fun c hc => keepT hc exo_own) (fun c xs hc => keepT hc exo_tup)
/-- B.__init__(self, ..) -/
theorem exc_init {us : List Value} {Q : Value → Shared → Prop} (F : XB newId initId bmB) (T : OxC X.K C bmB newId) (I : Inv X pins σ H s) (e : H a = some (exo a C none)) (hl : us.length ≤ sizeLine) (h : ∀ s', Inv X pins σ H s' → Q .none s') :
    wpAny (model X.prog X.w) A (call (.builtin initId) (.ref a :: us)) Q E s := by
  obtain ⟨nm, N, qn, bs, bm, hdct, sn, sub, ab, col, dd, k0, k1, k2, k3, k5, hC, hT⟩ := PySem.W.excInit_of I.kIn T.q
  obtain ⟨t1, ho⟩ := exo_at I.hok e
  obtain ⟨hp, g, d, t, os⟩ := s
  refine wpAny_call (F.init hT hC ho hl fun h' t2 k hx => ?_)
  have J := I.write (t' := t) (x := a) (e := a) (o := exo a C none) (by rw [e]; exact True.intro) (.inl rfl) k ⟨_, hx⟩ (exo_ok hx)
  have eu : upd H a (exo a C none) = H := by
    funext b
    by_cases hb : b = a
    · rw [hb, upd_same, e]
    · rw [upd_ne hb]
  rw [eu] at J
  exact h _ J
end
/-- B.__init__(self, ..) where B names a built-in class; an own one -/
def tBi (K : PySem.W.Frag) (bmB : List Value) (newId : String) (ta : TA) : TE := fun σ H Q => ta σ H fun vs H1 => ∃ (a C : Addr) (ws : List V), vs = .ref a :: ws ∧ ws.length ≤ 1000 ∧ OxC K C bmB newId ∧ H1 a = some (exo a C none) ∧ Q .non H1
def tOf (K : PySem.W.Frag) (bmB : List Value) (newId : String) (f : Str) (to te : TE) : TS := fun D σ H => te σ H fun y H1 => to σ H1 fun x H2 => ∃ a C : Addr, x = .ref a ∧ OxC K C bmB newId ∧ PySem.W.findIn K (.ref C) f = some none ∧
  H2 a = some (exo a C none) ∧ ∀ dx, H2 dx = none → dx ≠ a → D.nx σ (upd (upd H2 dx (exd dx [(f, y)])) a (exo a C (some dx)))
section
variable {X : Cx} {o e : Expr} {es : List Expr} {to te : TE} {ta : TA} {f x : Str} {p p' p1 p2 pos : Pos} {B newId initId T : String} {bmB : List Value}
theorem init_args {pins : List (Addr × Obj)} {σ : St} {H : Hp} {s : Shared} {Q : VK} (F : XB newId initId bmB) (I : Inv X pins σ H s) (ha : PA X (e :: es) ta) (h : tBi X.K bmB newId ta σ H Q)
    (he : starEach (e :: es) X.env = (false, eval e X.env) :: starEach es X.env := by rfl) (hpl : (backTo pos (starEach es X.env)).any (·.1) = false := by rfl) :
    wpAny (model X.prog X.w) X.A (callWith pos (Value.builtin initId) [] (backTo pos (starEach (e :: es) X.env)) []) (EP X pins σ Q) X.xe s := by
  refine PyProof.Rows.callWith_method1 (thn (ha.run pos pins _ σ H _ I h) fun us s1 ⟨vs, H1, I1, r1, a, C, ws, ev, hl, T, ea, q⟩ => ?_) he hpl
  subst ev
  cases r1 with
  | @cons _ u0 _ ur ra rw' =>
    obtain rfl : u0 = Value.ref a := ra
    have hlen : ur.length ≤ sizeLine := by
      rw [← Paired.length rw', sizeLine_eq]
      omega
    exact exc_init F T I1 ea hlen fun s' J => ⟨.non, H1, J, rfl, q⟩
theorem pe_biinit {pl : Sem Bool} (F : XB newId initId bmB) (hg : Gl X x) (hm : X.mg x = none) (hv : bootBuiltins x = some (.type B)) (ht : typeOf (.type B) = pure (.type "type")) (hst : Manifest.isStub B = false) (hh : PySem.W.handedIn (.builtin initId) = true) (vV : PySem.W.findCls X.K (.type B) (.type "type") "__init__" = some (.val (.builtin initId))) (ha : PA X (e :: es) ta)
    (hn : x ≠ "__name__" := by decide) (hdb : (x == ("__debug__" : Str)) = false := by decide)
    (hc : eval (.Call (.Attribute (.Name x p1) "__init__" p2) (e :: es) [] pos) X.env = (do
      let ov ← eval (.Name x p1) X.env
      standAt p2.atName
      let (f, first) ← holding [ov] (getMethod ov "__init__" pl)
      callWith pos f first (backTo pos (starEach (e :: es) X.env)) (backToKw pos (keywordEach [] X.env))) := by rfl)
    (he : starEach (e :: es) X.env = (false, eval e X.env) :: starEach es X.env := by rfl) (hpl : (backTo pos (starEach es X.env)).any (·.1) = false := by rfl) :
    PE X (.Call (.Attribute (.Name x p1) "__init__" p2) (e :: es) [] pos) (tBi X.K bmB newId ta) := by
  refine ⟨fun pins s σ H Q I h => ?_⟩
  refine PySem.W.methodCall_KW (ld_blt I hg hm hv ?_ hn hdb) hc
  obtain ⟨m, fr⟩ := I.fr
  refine PySem.W.method_type fr I.ok.mod.kin ht hst vV hh ?_
  exact init_args F (I.tok _) ha h he hpl
theorem pe_owinit {pl : Sem Bool} {D : Addr} {mc : Value} (F : XB newId initId bmB) (hg : Gl X x) (hm : X.mg x = some (.ref D)) (hs : PySem.W.specialIn X.K (.ref D) "__getattribute__" = some (some (.builtin "type.__getattribute__"))) (hr : PySem.W.readsIn X.K D mc = true) (hh : PySem.W.handedIn (.builtin initId) = true) (vV : PySem.W.findCls X.K (.ref D) mc "__init__" = some (.val (.builtin initId))) (ha : PA X (e :: es) ta)
    (hdb : (x == ("__debug__" : Str)) = false := by decide)
    (hc : eval (.Call (.Attribute (.Name x p1) "__init__" p2) (e :: es) [] pos) X.env = (do
      let ov ← eval (.Name x p1) X.env
      standAt p2.atName
      let (f, first) ← holding [ov] (getMethod ov "__init__" pl)
      callWith pos f first (backTo pos (starEach (e :: es) X.env)) (backToKw pos (keywordEach [] X.env))) := by rfl)
    (he : starEach (e :: es) X.env = (false, eval e X.env) :: starEach es X.env := by rfl) (hpl : (backTo pos (starEach es X.env)).any (·.1) = false := by rfl) :
    PE X (.Call (.Attribute (.Name x p1) "__init__" p2) (e :: es) [] pos) (tBi X.K bmB newId ta) := by
  refine ⟨fun pins s σ H Q I h => ?_⟩
  refine PySem.W.methodCall_KW (ld_glob I hg hm ?_ hdb) hc
  refine PySem.W.method_cls I.kIn hs (PySem.W.cls_value I.kIn hr vV hh ?_)
  exact init_args F (I.tok _) ha h he hpl
theorem ps_exf (SF : StoreFacts B bmB "object.__setattr__" "object") (ho : PE X o to) (he : PE X e te) (hs : swapsWith e (some (.Attribute o f p')) pos.line X.env = pure false := by rfl) : PS X (.Assign [.Attribute o f p'] e pos) (tOf X.K bmB newId f to te) := by
  refine ⟨fun pins s σ H D I h => ?_⟩
  refine plainObj_wpAny_Assign_Attribute (thn (he.run pins s σ H _ I h) fun v s1 ⟨y, H1, I1, r1, q1⟩ => thn (ho.run pins s1 σ H1 _ I1 q1) fun u s2 ⟨x, H2, I2, r2, a, C, ex, T, hno, ea, q⟩ => ?_) hs
  subst ex
  obtain rfl : u = Value.ref a := r2
  exact exc_set SF T I2 ea hno r1 fun dx s' n ne J => ⟨σ, _, J, q dx n ne⟩
end
/-- what such an __init__ promises -/
def spXi (K : PySem.W.Frag) (bmB : List Value) (newId : String) (f : Str) : Sp := fun vs H Q _ => ∃ (a C : Addr) (v : V), vs = [.ref a, v] ∧ OxC K C bmB newId ∧ PySem.W.findIn K (.ref C) f = some none ∧ H a = some (exo a C none) ∧
  ∀ dx, H dx = none → dx ≠ a → Q .non (upd (upd H dx (exd dx [(f, v)])) a (exo a C (some dx)))

/-! ### such an exception made: as a value; to be raised -/
section
variable {X : Cx} {x : Str} {C fI : Addr} {k : Nat} {fd : FuncData} {ps : List Str} {sp : Sp} {e : Expr} {es : List Expr} {ta : TA} {p pos : Pos} {CX : CXT} {B newId initId : String} {bmB : List Value}
/-- C(e, ..): the new object, then its __init__ -/
def tMkV (C : Addr) (sp : Sp) (ta : TA) : TE := fun σ H Q => ta σ H fun vs H1 => vs.length ≤ 1000 ∧ ∀ a, H1 a = none → sp (.ref a :: vs) (upd H1 a (exo a C none)) (fun v H2 => v = .non ∧ Q (.ref a) H2) (fun _ _ _ => False)
theorem oex_run {pins : List (Addr × Obj)} {σ : St} {H : Hp} {s : Shared} {Qv : Value → Shared → Prop} {Q : Hp → Addr → Hp → Prop} (F : XB newId initId bmB) (T : OxC X.K C bmB newId) (iC : PySem.W.findIn X.K (.ref C) "__init__" = some (some (.ref fI))) (tI : PySem.W.isFn X.K (.ref fI) = true)
    (F1 : FnOk X.prog X.w X.K X.mg X.base CX k fI fd ps sp) (hr : Room (k + 1) X.A) (hb : Binds X.K fd ps []) (hx : Passes CX X (fun _ _ _ => False)) (hg : Gl X x) (hm : X.mg x = some (.ref C)) (ha : PA X (e :: es) ta)
    (I : Inv X pins σ H s) (h : ta σ H fun vs H1 => vs.length ≤ 1000 ∧ ∀ a, H1 a = none → sp (.ref a :: vs) (upd H1 a (exo a C none)) (fun v H2 => v = .non ∧ Q H1 a H2) (fun _ _ _ => False))
    (hQ : ∀ {H1 H2 : Hp} {hp hp2 h2 : Heap} {g1 g2 : Array GenState} {d1 d2 : Drawn} {t1 t2 : Nat} {os1 os2 : OsState} {a : Addr}, Inv X pins σ H1 ⟨hp, g1, d1, t1, os1⟩ → hp.objs.size ≤ a → (∀ b o, hp.get? b = some o → hp2.get? b = some o) →
      Un (frs X.stack) [] (upd H1 a (exo a C none)) H2 hp2 h2 → HOk X.prog X.w H2 h2 → os2 = os1 → AllBare g2 → Inv X pins σ (upd H1 a (exo a C none)) ⟨hp2, g1, d1, t1, os1⟩ → Q H1 a H2 → Qv (.ref a) ⟨h2, g2, d2, t2, os2⟩)
    (hdb : (x == ("__debug__" : Str)) = false := by decide) (he : starEach (e :: es) X.env = (false, eval e X.env) :: starEach es X.env := by rfl) (hpl : (backTo pos (starEach es X.env)).any (·.1) = false := by rfl) :
    wpAny (model X.prog X.w) X.A (eval (.Call (.Name x p) (e :: es) [] pos) X.env) Qv X.xe s := by
  refine wpAny_Call_Name_kw (ld_glob I hg hm ?_ hdb)
  refine PySem.W.callWith_K (h₀ := X.base) I.ok.mod.kin T.kC (thn (ha.run pos pins s σ H _ I h) fun us s1 ⟨vs, H1, I1, r1, hz, q1⟩ => ⟨I1.kIn, ?_⟩) he hpl
  show wpAny _ _ (call (.ref C) us) _ _ _
  obtain ⟨nm, N, qn, bs, bm, hdct, sn, sub, ab, col, dd, k0, k1, k2, k3, k5, hC, hT⟩ := PySem.W.excInit_of I1.kIn T.q
  obtain ⟨oI, hoI, hcI⟩ : ∃ oI, s1.heap.get? fI = some oI ∧ oI.cls = .type "function" := by
    obtain ⟨o, ho, hc⟩ := Option.map_eq_some_iff.mp (show (X.K.lookup fI).map (·.cls) = some (.type "function") from beq_iff_eq.mp tI)
    exact ⟨o, I1.kIn _ _ ho, hc⟩
  have hi' : PySem.W.Looks (model X.prog X.w) s1.heap (typeLookup (.ref C) "__init__") (some (.ref fI)) := PySem.W.looks_findIn I1.kIn iC
  obtain ⟨hp, g, dr, tk, os⟩ := s1
  have hsz : hp.objs.size ≤ hp.objs.size + 1 := Nat.le_succ _
  have hn : H1 (hp.objs.size + 1) = none := I1.hok.fresh hsz
  have hq := q1 (hp.objs.size + 1) hn
  have kk : ∀ b o, hp.get? b = some o → ((hp.push (PySem.W.kdv_tup us)).push (PySem.HandSPX.excO C hp.objs.size)).get? b = some o := fun b o e => Heap.get?_push_of_some _ (Heap.get?_push_of_some _ e)
  have hget : ((hp.push (PySem.W.kdv_tup us)).push (PySem.HandSPX.excO C hp.objs.size)).get? (hp.objs.size + 1) = some (PySem.HandSPX.excO C hp.objs.size) := by heap_get
  have I2 : Inv X pins σ (upd H1 (hp.objs.size + 1) (exo (hp.objs.size + 1) C none)) ⟨(hp.push (PySem.W.kdv_tup us)).push (PySem.HandSPX.excO C hp.objs.size), g, dr, tk, os⟩ :=
    I1.laid (t' := tk) (a := hp.objs.size + 1) (o := exo (hp.objs.size + 1) C none) (h' := (hp.push (PySem.W.kdv_tup us)).push (PySem.HandSPX.excO C hp.objs.size)) kk hsz (exo_ok hget)
  have r2 : Vals (V.ref (hp.objs.size + 1) :: vs) (Value.ref (hp.objs.size + 1) :: us) := .cons rfl r1
  have hl : (Value.ref (hp.objs.size + 1) :: us).length = ps.length := by
    have e := r2.length
    rw [F1.len _ _ _ _ hq] at e
    exact e.symm
  have hus : us.length ≤ sizeLine := by
    rw [← Paired.length r1, sizeLine_eq]
    omega
  have b0 := hb { heap := (hp.push (PySem.W.kdv_tup us)).push (PySem.HandSPX.excO C hp.objs.size), gens := g, drawn := dr, toks := tk, os := os } (Value.ref (hp.objs.size + 1) :: us) I2.kIn (by rw [List.append_nil]; exact hl)
  rw [List.append_nil] at b0
  refine wpAny_call (F.call hT hC hi' (fun self => PySem.W.exc_bind hoI hcI self) hus
    (codeAny_mono (F1.run _ X.stack _ _ ⟨Value.ref (hp.objs.size + 1) :: us, []⟩ (Value.ref (hp.objs.size + 1) :: us) _ _ (fun _ _ _ => False) (hr.make C us []) (I2.env0.make C us []) b0 r2 hq) fun r s' hq' => ?_))
  cases r with
  | error er => exact hx pins σ _ _ er s' I2 hq'
  | ok fl =>
    cases fl with
    | ret u =>
      obtain ⟨v, H2, os2, bare2, un2, hok2, rv, ev, q2⟩ := hq'
      subst ev
      obtain ⟨h2, g2, d2, t2, os'⟩ := s'
      exact ⟨rv, hQ I1 hsz kk un2 hok2 os2 bare2 I2 q2⟩
    | next => exact False.elim hq'
    | brk => exact False.elim hq'
    | cont => exact False.elim hq'
theorem pe_oexV (F : XB newId initId bmB) (T : OxC X.K C bmB newId) (iC : PySem.W.findIn X.K (.ref C) "__init__" = some (some (.ref fI))) (tI : PySem.W.isFn X.K (.ref fI) = true)
    (F1 : FnOk X.prog X.w X.K X.mg X.base CX k fI fd ps sp) (hr : Room (k + 1) X.A) (hb : Binds X.K fd ps []) (hx : Passes CX X (fun _ _ _ => False)) (hg : Gl X x) (hm : X.mg x = some (.ref C)) (ha : PA X (e :: es) ta)
    (hdb : (x == ("__debug__" : Str)) = false := by decide) (he : starEach (e :: es) X.env = (false, eval e X.env) :: starEach es X.env := by rfl) (hpl : (backTo pos (starEach es X.env)).any (·.1) = false := by rfl) :
    PE X (.Call (.Name x p) (e :: es) [] pos) (tMkV C sp ta) := ⟨fun pins s σ H Q I h => by
  refine oex_run (Q := fun _ a H2 => Q (.ref a) H2) F T iC tI F1 hr hb hx hg hm ha I h ?_ hdb he hpl
  intro H1 H2 hp hp2 h2 g1 g2 d1 d2 t1 t2 os1 os2 a I1 hsz kk un hok ho hbare I2 q
  subst ho
  exact ⟨.ref a, H2, I2.call (ch := []) un hok hbare (fun b z => absurd z (by simp)), rfl, q⟩⟩
theorem pmk_oexB (F : XB newId initId bmB) (T : OxC X.K C bmB newId) (iC : PySem.W.findIn X.K (.ref C) "__init__" = some (some (.ref fI))) (tI : PySem.W.isFn X.K (.ref fI) = true)
    (F1 : FnOk X.prog X.w X.K X.mg X.base CX k fI fd ps sp) (hr : Room (k + 1) X.A) (hb : Binds X.K fd ps []) (hx : Passes CX X (fun _ _ _ => False)) (hg : Gl X x) (hm : X.mg x = some (.ref C)) (ha : PA X (e :: es) ta)
    (hdb : (x == ("__debug__" : Str)) = false := by decide) (he : starEach (e :: es) X.env = (false, eval e X.env) :: starEach es X.env := by rfl) (hpl : (backTo pos (starEach es X.env)).any (·.1) = false := by rfl) :
    PMk X (.Call (.Name x p) (e :: es) [] pos) (tMkO C sp [] ta) := by
  intro pins s σ H Q I h
  unfold tMkO at h
  simp only [List.append_nil] at h
  refine oex_run (Q := fun H1 a H2 => ∃ (d : Addr) (fs : List (Str × V)), H2 a = some (exo a C (some d)) ∧ H2 d = some (exd d fs) ∧ H1 d = none ∧ Q (.ref C) (some d) (upd (del H2 a) d (.xd fs))) F T iC tI F1 hr hb hx hg hm ha I h ?_ hdb he hpl
  intro H1 H2 hp hp2 h2 g1 g2 d1 d2 t1 t2 os1 os2 a I1 hsz kk un hok ho hbare I2 ⟨d, fs, ea, ed, hd1, q2⟩
  exact mk_end (raises_own T.exC T.tyC) I1 hsz kk un hok ho hbare ea ed hd1 q2
end
end Mi

/-! MiV: exceptions as values. -/
namespace Mi
open PySem PySem.Spec PyProof.Rows L2

/-- what an own exception class must say, so that its instances are asked rightly -/
structure ExA (K : PySem.W.Frag) (C : Addr) : Prop where
  ga : PySem.W.findIn K (.ref C) "__getattribute__" = some (some (.builtin "BaseException.__getattribute__"))
  gg : PySem.W.findIn K (.ref C) "__getattr__" = some none
  exC : PySem.W.subIn K (.ref C) (.type "BaseException") = some true
  hd : PySem.W.hasDictIn K C = true
  ha : PySem.W.findIn K (.ref C) "__class__" = some (some (.builtin "object.__class__"))
  hn : PySem.W.specialIn K (.builtin "object.__class__") "__get__" = some (some (.builtin "getset_descriptor.__get__"))
  htk : PySem.W.takesIn K (.builtin "object.__class__") = some true
  hm : PySem.W.mroIn K C (.type "object") = some true
theorem ExA.cl {K : PySem.W.Frag} {C : Addr} (h : ExA K C) : (PySem.W.clsIn K C).isSome = true := by
  obtain ⟨cd, hc, _⟩ := PySem.W.any_some h.hd
  rw [hc]
  rfl
/-- an exception stands at a -/
def XAt (H : Hp) (a C : Addr) : Prop := H a = some (ExO (.ref C) a) ∨ ∃ d fs, H a = some (exo a C (some d)) ∧ H d = some (exd d fs)
section
variable {X : Cx} {pins : List (Addr × Obj)} {σ : St} {H : Hp} {s : Shared}
theorem XAt.inst {a C : Addr} (I : Inv X pins σ H s) (h : XAt H a C) : ∃ ox od, PySem.W.InstAt s.heap a ox C od := by
  rcases h with h | ⟨d, fs, h1, h2⟩
  · obtain ⟨⟨oe, vs, e, z, dd, _⟩, _, _⟩ := I.hok a _ h
    obtain ⟨oc, od, oda, osl⟩ := oe
    obtain ⟨z1, z2⟩ := z
    dsimp only at z1 z2 dd
    subst z1 z2 dd
    exact ⟨_, none, e, rfl, rfl, trivial⟩
  · obtain ⟨t1, e⟩ := exo_at I.hok h1
    obtain ⟨mA, ⟨o, _, _, ho, _⟩, _⟩ := exd_at I.hok h2
    exact ⟨_, some o, e, rfl, rfl, ho⟩
/-- isinstance(e, c) -/
def rIsX (K : PySem.W.Frag) : List V → Hp → VK → Prop := fun xs H Q => ∃ (a C : Addr) (c : V) (u : Value) (b : Bool), xs = [.ref a, c] ∧ ClsV c u ∧ XAt H a C ∧ ExA K C ∧ PySem.W.kitOne K (.ref C) u = some b ∧ Q (.bl b) H
theorem call_isX : CallR X (.builtin "isinstance") (rIsX X.K) := by
  intro pins s σ H xs us Q I r h
  obtain ⟨a, C, c, u, b, rfl, k, hx, T, e, q⟩ := h
  obtain ⟨u1, u2, rfl, r1, r2⟩ := vals2 r
  have e2 := k.eq r2
  subst e2
  cases r1
  obtain ⟨ox, od, J⟩ := hx.inst I
  exact PySem.W.kia_one (PySem.W.kitx_exc T.cl T.ga T.gg T.exC T.ha T.hn T.htk T.hm) I.kIn J e (fun z => nomatch z) fun tk => ⟨.bl b, H, I.tok tk, rfl, q⟩
/-- e.f -/
def tXg (K : PySem.W.Frag) (f : Str) (te : TE) : TE := fun σ H Q => te σ H fun x H1 => ∃ (a C d : Addr) (fs : List (Str × V)) (v : V), x = .ref a ∧ ExA K C ∧ PySem.W.findIn K (.ref C) f = some none ∧ H1 a = some (exo a C (some d)) ∧ H1 d = some (exd d fs) ∧ fs.lookup f = some v ∧ Q v H1
theorem pe_xg {e : Expr} {te : TE} {pos : Pos} {n : Str} (he : PE X e te) (hb : attributeBase e n X.env (eval e X.env) = eval e X.env := by rfl) : PE X (.Attribute e n pos) (tXg X.K n te) := by
  refine ⟨fun pins s σ H Q I h => ?_⟩
  refine attr_of hb (thn (he.run pins s σ H _ I h) fun u s1 hh => ?_)
  obtain ⟨x, H1, I1, rx, a, C, d, fs, v, ex, T, hno, h1, h2, l, q⟩ := hh
  subst ex
  obtain rfl : u = Value.ref a := rx
  obtain ⟨t1, ha⟩ := exo_at I1.hok h1
  obtain ⟨mA, hns, hr⟩ := exd_at I1.hok h2
  obtain ⟨od, ho, hl⟩ := lookIn_ns hns
  obtain ⟨u, hu, ru⟩ := RelO.some_of (v := v) (o := mA n) (by rw [← l]; exact hr n)
  have J : PySem.W.InstAt s1.heap a _ C (some od) := ⟨ha, rfl, rfl, ho⟩
  exact HandSPX.exc_get I1.kIn J T.ga T.gg T.exC (PySem.W.findObj_own T.hd hno rfl (by rw [hl, hu])) (handed_of ru) ⟨v, H1, I1.tok _, ru, q⟩
end

/-! ### the rules -/
/-- X(e), without own __init__ -/
def mExc (c : Str) (fa : E (List D)) : E D := fun en S => (fa en S).bind fun l S1 => match l with
  | [_] => .ok (.exc c [] []) S1
  | _ => .bad
/-- X(e), its own __init__ keeps e as f -/
def mExcF (c f : Str) (fa : E (List D)) : E D := fun en S => (fa en S).bind fun l S1 => match l with
  | [d] => .ok (.exc c [f] [d]) S1
  | _ => .bad
def mIsX (g : Str → Bool) (fe : E D) : E D := fun en S => (fe en S).bind fun d S1 => match d with
  | .exc c _ _ => .ok (.bl (g c)) S1
  | _ => .bad
def mXf (f : Str) (fe : E D) : E D := fun en S => (fe en S).bind fun d S1 => match d with
  | .exc _ [g] [v] => if g = f then .ok v S1 else .bad
  | _ => .bad
section
variable {cm : Cm} {X : Cx} {x : Str} {C fI : Addr} {k : Nat} {fd : FuncData} {ps : List Str} {e : Expr} {es : List Expr} {fe : E D} {p p1 pos : Pos} {B newId initId : String} {bmB : List Value} {bm' : List Value}
theorem re_exc1 (F : ExcBaseFacts B newId initId bmB) (q : PySem.W.excIn X.K C bmB newId = true) (gC : X.mg x = some (.ref C)) (kC : PySem.W.keepIn X.K (.ref C) = true) (hC : cm.exc x = some C) (hg : Gl X x)
    (he : RE cm X e fe) (hs : starEach [e] X.env = (false, eval e X.env) :: starEach [] X.env := by rfl) (hdb : (x == ("__debug__" : Str)) = false := by decide) :
    RE cm X (.Call (.Name x p) [e] [] pos) (mExc x (aCons fe aNil)) := fun W tk m S H σ en Q C' h => by
  refine wE_of (pe_exc1 F q gC kC hg pe_w hs hdb) ?_
  have h0 : PQ (Rep (ct X cm)) (ct X cm) m S H σ W ((fe en S).bind fun d S1 => .ok (.exc x [] []) S1) Q := by
    have : mExc x (aCons fe aNil) en S = (fe en S).bind fun d S1 => .ok (.exc x [] []) S1 := by
      unfold mExc aCons aNil
      cases fe en S <;> rfl
    rw [this] at h
    exact h
  refine he W tk m S H σ en _ C' (PQ.bind h0 fun d S1 y m1 H1 e1 A1 R1 r1 h1 => ?_)
  intro a ha
  refine h1 _ m1 _ (Adv.new ha) (R1.grow (grow_upd ha)) ?_
  simp only [Rep]
  exact ⟨a, C, rfl, hC, R1.free_new ha, .inl ⟨trivial, trivial, upd_same⟩⟩
theorem re_excF {f : Str} (F : XB newId initId bmB) (T : OxC X.K C bmB newId) (iC : PySem.W.findIn X.K (.ref C) "__init__" = some (some (.ref fI))) (tI : PySem.W.isFn X.K (.ref fI) = true) (hno : PySem.W.findIn X.K (.ref C) f = some none)
    (F1 : FnOk X.prog X.w X.K X.mg X.base (L2.CX X.prog X.w) k fI fd ps (spXi X.K bmB newId f)) (hr : Room (k + 1) X.A) (hb : Binds X.K fd ps []) (hC : cm.exc x = some C) (hg : Gl X x) (hm : X.mg x = some (.ref C)) (he' : RE cm X e fe)
    (hdb : (x == ("__debug__" : Str)) = false := by decide) (he : starEach [e] X.env = (false, eval e X.env) :: starEach [] X.env := by rfl) (hpl : (backTo pos (starEach [] X.env)).any (·.1) = false := by rfl) :
    RE cm X (.Call (.Name x p) [e] [] pos) (mExcF x f (aCons fe aNil)) := fun W tk m S H σ en Q C' h => by
  refine wE_of (pe_oexV F T iC tI F1 hr hb (passes_call (E := fun _ _ _ => False) tk fun _ _ _ _ z => z.elim) hg hm (pa_cons pe_w pa_nil he) hdb he hpl) ?_
  have h0 : PQ (Rep (ct X cm)) (ct X cm) m S H σ W ((fe en S).bind fun d S1 => .ok (.exc x [f] [d]) S1) Q := by
    have : mExcF x f (aCons fe aNil) en S = (fe en S).bind fun d S1 => .ok (.exc x [f] [d]) S1 := by
      unfold mExcF aCons aNil
      cases fe en S <;> rfl
    rw [this] at h
    exact h
  refine he' W tk m S H σ en _ C' (PQ.bind h0 fun d S1 y m1 H1 e1 A1 R1 r1 h1 => ?_)
  refine ⟨by show 1 ≤ 1000; decide, fun a ha => ⟨a, C, y, rfl, T, hno, upd_same, fun dx hdx hne => ⟨rfl, ?_⟩⟩⟩
  have hdx1 : H1 dx = none := by rw [upd_ne hne] at hdx; exact hdx
  have kp : ∀ b o, H1 b = some o → (upd (upd (upd H1 a (exo a C none)) dx (exd dx [(f, y)])) a (exo a C (some dx))) b = some o := fun b o q => by
    rw [upd_ne (ne_of_none q ha), upd_ne (ne_of_none q hdx1), upd_ne (ne_of_none q ha)]
    exact q
  refine h1 _ m1 _ (Adv.grow kp) (R1.grow kp) ?_
  simp only [Rep]
  refine ⟨a, C, rfl, hC, R1.free_new ha, .inr ⟨dx, [(f, y)], upd_same, ?_, R1.free_new hdx1, rfl, Reps.cons (Rep.adv (Adv.grow kp) _ _ r1) Reps.nil⟩⟩
  rw [upd_ne hne, upd_same]
theorem exc_v {m : Am} {S : So} {H : Hp} {c : Str} {ks : List Str} {l : List D} {x : V} (r : Rep (ct X cm) m S H (.exc c ks l) x) : ∃ a C, x = .ref a ∧ cm.exc c = some C ∧ XAt H a C := by
  simp only [Rep] at r
  obtain ⟨a, C, e, hc, f, h | ⟨d, fs, h1, h2, f2, h3, h4⟩⟩ := r
  · exact ⟨a, C, e, hc, .inl h.2.2⟩
  · exact ⟨a, C, e, hc, .inr ⟨d, fs, h1, h2⟩⟩
/-- isinstance of an exception: c a built-in class or an own one -/
theorem re_isX {g : Str → Bool} {cv : V} {cu : Value} (ho : ∀ c C, cm.exc c = some C → ExA X.K C ∧ PySem.W.kitOne X.K (.ref C) cu = some (g c)) (k : ClsV cv cu) (hg : Gl X "isinstance") (hm : X.mg "isinstance" = none) (hx : PE X (.Name x p1) (tC cv)) (he : RE cm X e fe)
    (hs : starEach [e, .Name x p1] X.env = (false, eval e X.env) :: starEach [.Name x p1] X.env := by rfl) (hs2 : starEach [.Name x p1] X.env = (false, eval (.Name x p1) X.env) :: starEach [] X.env := by rfl)
    (hpl : (backTo pos (starEach [.Name x p1] X.env)).any (·.1) = false := by rfl) :
    RE cm X (.Call (.Name "isinstance" p) [e, .Name x p1] [] pos) (mIsX g fe) := fun W tk m S H σ en Q C h => by
  refine wE_of (pe_callB call_isX hg hm PyProof.Rows.boot_isinstance (pa_cons pe_w (pa_cons hx pa_nil hs2) hs) (by decide) (by decide) hs hpl) ?_
  refine he W tk m S H σ en _ C (PQ.bind h fun d S1 y m1 H1 e1 A1 R1 r1 h1 => ?_)
  split at h1
  · obtain ⟨a, C2, rfl, hc, hX⟩ := exc_v r1
    obtain ⟨T, hk⟩ := ho _ _ hc
    exact ⟨a, C2, cv, cu, _, rfl, k, hX, T, hk, PQ.now h1 R1 (by simp only [Rep])⟩
  · exact h1.elim
theorem re_xf {f : Str} (ho : ∀ c C, cm.exc c = some C → ExA X.K C ∧ PySem.W.findIn X.K (.ref C) f = some none) (he : RE cm X e fe) (hb : attributeBase e f X.env (eval e X.env) = eval e X.env := by rfl) : RE cm X (.Attribute e f pos) (mXf f fe) := fun W tk m S H σ en Q C h => by
  refine wE_of (pe_xg pe_w hb) ?_
  refine he W tk m S H σ en _ C (PQ.bind h fun d S1 y m1 H1 e1 A1 R1 r1 h1 => ?_)
  split at h1
  · rename_i c g v
    split at h1
    · rename_i hgf
      subst hgf
      simp only [Rep] at r1
      obtain ⟨a, C2, e, hc, f, h | ⟨d, fs, g1, g2, f2, g3, g4⟩⟩ := r1
      · exact absurd h.1 (by simp)
      · obtain ⟨T, hno⟩ := ho _ _ hc
        cases fs with
        | nil => simp at g3
        | cons p fs =>
          obtain ⟨pf, pv⟩ := p
          cases fs with
          | cons _ _ => simp at g3
          | nil =>
            simp only [List.map_cons, List.map_nil, List.cons.injEq, and_true] at g3
            subst g3
            obtain ⟨v', e', r'⟩ := reps1 g4
            cases e'
            exact ⟨a, C2, d, _, pv, e, T, hno, g1, g2, by simp [List.lookup], PQ.now h1 R1 r'⟩
    · exact h1.elim
  · exact h1.elim
end

/-! ### in short -/
def IsXo (K : PySem.W.Frag) (mg : Str → Option Value) (cm : Cm) (x : Str) (g : Str → Bool) : Prop := ∃ C, mg x = some (.ref C) ∧ ∀ c D, cm.exc c = some D → ExA K D ∧ PySem.W.kitOne K (.ref D) (.ref C) = some (g c)
def IsXb (K : PySem.W.Frag) (cm : Cm) (T : String) (g : Str → Bool) : Prop := ∀ c D, cm.exc c = some D → ExA K D ∧ PySem.W.kitOne K (.ref D) (.type T) = some (g c)
def NoX (K : PySem.W.Frag) (cm : Cm) (f : Str) : Prop := ∀ c D, cm.exc c = some D → ExA K D ∧ PySem.W.findIn K (.ref D) f = some none
def Mk1 (K : PySem.W.Frag) (mg : Str → Option Value) (cm : Cm) (x : Str) (bmB : List Value) (newId : String) : Prop := ∃ C, cm.exc x = some C ∧ mg x = some (.ref C) ∧ PySem.W.keepIn K (.ref C) = true ∧ PySem.W.excIn K C bmB newId = true
def MkF (P : Program) (w : World) (K : PySem.W.Frag) (mg : Str → Option Value) (base : Heap) (cm : Cm) (k : Nat) (x f : Str) (bmB : List Value) (newId : String) : Prop := ∃ C fI fd ps, OxC K C bmB newId ∧ PySem.W.findIn K (.ref C) "__init__" = some (some (.ref fI)) ∧ PySem.W.isFn K (.ref fI) = true ∧
  PySem.W.findIn K (.ref C) f = some none ∧ FnOk P w K mg base (L2.CX P w) k fI fd ps (spXi K bmB newId f) ∧ Binds K fd ps [] ∧ cm.exc x = some C ∧ mg x = some (.ref C)
section
variable {cm : Cm} {X : Cx} {x : Str} {k : Nat} {e : Expr} {fe : E D} {p p1 pos : Pos} {B newId initId T : String} {bmB : List Value} {g : Str → Bool}
theorem re_isXo (h : IsXo X.K X.mg cm x g) (hg : Gl X "isinstance") (hm : X.mg "isinstance" = none) (hx : Gl X x) (he : RE cm X e fe) (hd : (x == ("__debug__" : Str)) = false := by decide)
    (hs : starEach [e, .Name x p1] X.env = (false, eval e X.env) :: starEach [.Name x p1] X.env := by rfl) (hs2 : starEach [.Name x p1] X.env = (false, eval (.Name x p1) X.env) :: starEach [] X.env := by rfl)
    (hpl : (backTo pos (starEach [.Name x p1] X.env)).any (·.1) = false := by rfl) : RE cm X (.Call (.Name "isinstance" p) [e, .Name x p1] [] pos) (mIsX g fe) := by
  obtain ⟨C, hC, h⟩ := h
  exact re_isX h (.own C) hg hm (pe_glob (v := .ref C) hx hC rfl hd) he hs hs2 hpl
theorem re_isXb (h : IsXb X.K cm T g) (hg : Gl X "isinstance") (hm : X.mg "isinstance" = none) (hx : Gl X x) (hmx : X.mg x = none) (hv : bootBuiltins x = some (.type T)) (he : RE cm X e fe) (hn : x ≠ "__name__" := by decide) (hd : (x == ("__debug__" : Str)) = false := by decide)
    (hs : starEach [e, .Name x p1] X.env = (false, eval e X.env) :: starEach [.Name x p1] X.env := by rfl) (hs2 : starEach [.Name x p1] X.env = (false, eval (.Name x p1) X.env) :: starEach [] X.env := by rfl)
    (hpl : (backTo pos (starEach [.Name x p1] X.env)).any (·.1) = false := by rfl) : RE cm X (.Call (.Name "isinstance" p) [e, .Name x p1] [] pos) (mIsX g fe) :=
  re_isX h (.ty T) hg hm (pe_bltn (v := .ty T) hx hmx hv rfl hn hd) he hs hs2 hpl
theorem re_exc1o (F : ExcBaseFacts B newId initId bmB) (h : Mk1 X.K X.mg cm x bmB newId) (hg : Gl X x) (he : RE cm X e fe) (hs : starEach [e] X.env = (false, eval e X.env) :: starEach [] X.env := by rfl) (hdb : (x == ("__debug__" : Str)) = false := by decide) :
    RE cm X (.Call (.Name x p) [e] [] pos) (mExc x (aCons fe aNil)) := by
  obtain ⟨C, h1, h2, h3, h4⟩ := h
  exact re_exc1 F h4 h2 h3 h1 hg he hs hdb
theorem re_excFo {f : Str} (F : XB newId initId bmB) (h : MkF X.prog X.w X.K X.mg X.base cm k x f bmB newId) (hr : Room (k + 1) X.A) (hg : Gl X x) (he' : RE cm X e fe)
    (hdb : (x == ("__debug__" : Str)) = false := by decide) (he : starEach [e] X.env = (false, eval e X.env) :: starEach [] X.env := by rfl) (hpl : (backTo pos (starEach [] X.env)).any (·.1) = false := by rfl) :
    RE cm X (.Call (.Name x p) [e] [] pos) (mExcF x f (aCons fe aNil)) := by
  obtain ⟨C, fI, fd, ps, T, h1, h2, h3, h4, h5, h6, h7⟩ := h
  exact re_excF F T h1 h2 h3 h4 hr h5 h6 hg h7 he' hdb he hpl
end
theorem u1 {A : Around} {k : Nat} (hr : Room k A) : A.units + 1 < cLine := by have := hr.un; omega
theorem u64 {A : Around} {k : Nat} (hr : Room k A) : A.units + 64 < cLine := hr.units
theorem u65 {A : Around} {k : Nat} (hr : Room k A) : A.units + 65 < cLine := by have := hr.un; omega

/-- BlkOk, asked in one go -/
def blkB (N : List Str) (sc scope : Scope) (own : List (Str × Nat)) : Bool :=
  decide (scope.kind = .function) && (decide (∀ y ∈ scope.names, scope.names.lookup y.1 = some y.2) && (decide (∀ p ∈ own, N[p.2]? = some p.1) &&
    (decide (∀ y ∈ scope.names, y.2 = .free → sc.names.lookup y.1 = some .cell ∨ sc.names.lookup y.1 = some .free) && decide (∀ y ∈ scope.names, y.2 = .local ∨ y.2 = .cell → y.1 ∈ own.map (·.1) ∨ y.1 ∉ N))))
theorem blk_of {N : List Str} {sc scope : Scope} {own : List (Str × Nat)} (h : blkB N sc scope own = true) : BlkOk N sc scope own := by
  unfold blkB at h
  simp only [Bool.and_eq_true, decide_eq_true_eq] at h
  exact ⟨h.1, h.2.1, h.2.2.1, h.2.2.2.1, h.2.2.2.2⟩

/-! ### many texts -/
def strsIn : List Expr → Option (List Str)
  | [] => some []
  | .Constant (.str x) _ _ :: es => (strsIn es).map (x :: ·)
  | _ => none
def aC (l : List D) : E (List D) := fun _ S => .ok l S
theorem ra_strs {cm : Cm} {X : Cx} : ∀ {es : List Expr} {xs : List Str}, strsIn es = some xs → RA cm X es (aC (xs.map D.str))
  | [], xs, h => by
    simp only [strsIn, Option.some.injEq] at h
    subst h
    exact ra_nil
  | e :: es, xs, h => by
    unfold strsIn at h
    split at h
    · rename_i e'
      cases e'
    · rename_i x j p es' e'
      cases e'
      simp only [Option.map_eq_some_iff] at h
      obtain ⟨ys, h1, rfl⟩ := h
      exact ra_cons (f := mC (.str x)) re_str (ra_strs h1) rfl
    · cases h
end Mi

/-! MiR: raising, catching. -/
namespace Mi
open PySem PySem.Spec PyProof.Rows L2

/-- raise X("..") -/
def sRs1 (c : Str) : T := fun en S => .err ⟨c, [], []⟩ en S
/-- raise X(e), e kept as f -/
def sRsF (c f : Str) (fa : E (List D)) : T := fun en S => (fa en S).bind fun l S1 => match l with
  | [d] => .err ⟨c, [f], [d]⟩ en S1
  | _ => .bad
section
variable {cm : Cm} {X : Cx} {x : Str} {C fI : Addr} {k : Nat} {fd : FuncData} {ps : List Str} {e : Expr} {fe : E D} {p p2 pos pos' : Pos} {B newId initId : String} {bmB : List Value}
theorem rs_raise1 {t : Str} {j} (hc : X.calm = true) (F : ExcBaseFacts B newId initId bmB) (q : PySem.W.excIn X.K C bmB newId = true) (gC : X.mg x = some (.ref C)) (kC : PySem.W.keepIn X.K (.ref C) = true) (R : Raises X (.ref C)) (hC : cm.exc x = some C) (hg : Gl X x)
    (hdb : (x == ("__debug__" : Str)) = false := by decide) :
    RS cm X (.Raise (some (.Call (.Name x p) [.Constant (.str t) j p2] [] pos)) none pos') (sRs1 x) := fun W tk m S H σ en D C' h =>
  wS_of (ps_raise hc tk (pmk_own F q gC kC R hg hdb)) (h (.ref C) none m σ H Adv.refl C' ⟨C, hC, rfl, .inl ⟨rfl, rfl, rfl⟩⟩)
theorem rs_raiseF {f : Str} (hc : X.calm = true) (F : XB newId initId bmB) (T : OxC X.K C bmB newId) (iC : PySem.W.findIn X.K (.ref C) "__init__" = some (some (.ref fI))) (tI : PySem.W.isFn X.K (.ref fI) = true) (hno : PySem.W.findIn X.K (.ref C) f = some none)
    (F1 : FnOk X.prog X.w X.K X.mg X.base (L2.CX X.prog X.w) k fI fd ps (spXi X.K bmB newId f)) (hr : Room (k + 1) X.A) (hb : Binds X.K fd ps []) (hC : cm.exc x = some C) (hg : Gl X x) (hm : X.mg x = some (.ref C)) (he' : RE cm X e fe)
    (hdb : (x == ("__debug__" : Str)) = false := by decide) (he : starEach [e] X.env = (false, eval e X.env) :: starEach [] X.env := by rfl) (hpl : (backTo pos (starEach [] X.env)).any (·.1) = false := by rfl) :
    RS cm X (.Raise (some (.Call (.Name x p) [e] [] pos)) none pos') (sRsF x f (aCons fe aNil)) := fun W tk m S H σ en D C' h => by
  refine wS_of (ps_raise hc tk (pmk_oexB F T iC tI F1 hr hb (passes_call (E := fun _ _ _ => False) tk fun _ _ _ _ z => z.elim) hg hm (pa_cons pe_w pa_nil he) hdb he hpl)) ?_
  have h0 : PF (ct X cm) m S H W ((fe en S).bind fun d S1 => .err ⟨x, [f], [d]⟩ en S1) D := by
    have : sRsF x f (aCons fe aNil) en S = (fe en S).bind fun d S1 => .err ⟨x, [f], [d]⟩ en S1 := by
      unfold sRsF aCons aNil
      cases fe en S <;> rfl
    rw [this] at h
    exact h
  refine he' W tk m S H σ en _ C' (PF.bind h0 fun d S1 y m1 H1 e1 A1 R1 r1 h1 => ?_)
  refine ⟨by show 1 ≤ 1000; decide, fun a ha => ⟨a, C, y, rfl, T, hno, upd_same, fun dx hdx hne => ⟨rfl, ?_⟩⟩⟩
  have hdx1 : H1 dx = none := by rw [upd_ne hne] at hdx; exact hdx
  refine ⟨dx, [(f, y)], upd_same, by rw [upd_ne hne, upd_same], hdx1, ?_⟩
  have kp : ∀ b o, H1 b = some o → (upd (del (upd (upd (upd H1 a (exo a C none)) dx (exd dx [(f, y)])) a (exo a C (some dx))) a) dx (.xd [(f, y)])) b = some o := fun b o q => by
    have n1 := ne_of_none q ha
    have n2 := ne_of_none q hdx1
    rw [upd_ne n2, del_ne n1, upd_ne n1, upd_ne n2, upd_ne n1]
    exact q
  refine h1 _ _ m1 σ _ (Adv.grow kp) ((C'.adv A1 R1).adv (Adv.grow kp) (R1.grow kp)) ⟨C, hC, rfl, .inr ⟨dx, [(f, y)], rfl, upd_same, R1.free_new hdx1, rfl, Reps.cons (Rep.adv (Adv.grow kp) _ _ r1) Reps.nil⟩⟩
end
end Mi

/-! MiT: try with clauses of both kinds: except X: .., except X as n: .. -/
namespace Mi
open PySem PySem.Spec PyProof.Rows L2

/-- a clause: its class; the slot of its name; its suite -/
structure Cl where
  c : Value
  i : Option Nat
  ts : Addr → Value → Option Addr → TS
/-- the name is unbound behind the suite -/
def gone (i : Nat) (D : Ends) : Ends := ⟨fun σ H => D.nx (σ.set i none) H, D.rt, fun σ H => D.bk (σ.set i none) H, fun σ H => D.ct (σ.set i none) H⟩
def Cl.go (l : Cl) (a : Addr) (cls : Value) (d : Option Addr) (D : Ends) (σ : St) (H : Hp) : Prop := match l.i with
  | none => l.ts a cls d D σ H
  | some i => l.ts a cls d (gone i D) (σ.set i (some (.ref a))) H
def wMix (K : PySem.W.Frag) (Wo : WX) (D : Ends) : List Cl → WX
  | [] => Wo
  | l :: r => fun cls d σ H => ∃ b, PySem.W.exmOne K cls l.c = some b ∧ (b = true → ∀ a, H a = none → l.go a cls d D σ H) ∧ (b = false → wMix K Wo D r cls d σ H)
def SuiteOk (X : Cx) (st : List Stmt) (ts : Addr → Value → Option Addr → TS) : Prop := ∀ (a : Addr) (oe : Obj) (cls : Value) (d : Option Addr) (pn : List (Addr × Obj)), Zc cls d oe → (∃ vs, oe.data = .fields vs) → PSs (X.suite a ((a, oe) :: pn)) st (ts a cls d)
inductive ClsOk (X : Cx) : List ExceptHandler → List Cl → Prop
  | nil : ClsOk X [] []
  | plain {x : Str} {c : Value} {ts : Addr → Value → Option Addr → TS} {b : Stmt} {st : List Stmt} {p p' : Pos} {hs : List ExceptHandler} {l : List Cl} (hc : Names X x c) (su : SuiteOk X (b :: st) ts) (r : ClsOk X hs l) :
      ClsOk X (.ExceptHandler (some (.Name x p)) none (b :: st) p' :: hs) (⟨c, none, ts⟩ :: l)
  | named {x n : Str} {i : Nat} {c : Value} {ts : Addr → Value → Option Addr → TS} {b : Stmt} {st : List Stmt} {p p' : Pos} {hs : List ExceptHandler} {l : List Cl} (nd : X.N.Nodup) (hi : X.N[i]? = some n) (hl : X.env.kindOf n = some .local) (hc : Names X x c) (su : SuiteOk X (b :: st) ts) (r : ClsOk X hs l) :
      ClsOk X (.ExceptHandler (some (.Name x p)) (some n) (b :: st) p' :: hs) (⟨c, some i, ts⟩ :: l)
section
variable {X : Cx} {body : List Stmt} {h0 : ExceptHandler} {hs : List ExceptHandler} {l : List Cl} {pos : Pos} {tb : WX → TS} {Wo : WX}
theorem ps_try_mix (hst : X.stack = X.env :: X.outer) (hf : X.env.frame = some X.env.locals) (tk : Takes X Wo)
    (hb : ∀ (W : WX) (pn : List (Addr × Obj)) (xe : Value → Shared → Prop), Takes (X.tr pn xe) W → PassesOwn (model X.prog X.w) X.A X.env xe → PSs (X.tr pn xe) body (tb W))
    (hh : ClsOk X (h0 :: hs) l) : PS X (.Try body (h0 :: hs) [] [] pos) (fun D σ H => tb (wMix X.K Wo D l) D σ H) := by
  refine ⟨fun pins s σ H D I h => ?_⟩
  have ok := I.ok
  have fr0 : X.A.frames = some (X.env :: X.outer) := ok.frames.trans (by rw [hst])
  refine wpAny_Try_except (wpAny_mono ((hb (wMix X.K Wo D l) (X.pn ++ pins) (fun e s₁ => wpAny (model X.prog X.w) X.A (noteFrame e X.env) (fun _ s₂ => wpAny (model X.prog X.w) X.A (setFlight e none) (fun _ s₃ =>
    wpAny (model X.prog X.w) X.A (handleBy e X.env (h0 :: hs)) (SP X pins D) X.xe s₃) X.xe s₂) X.xe s₁) (fun u s' xx => ?_) PassesOwn.looking).run [] s σ H D (I.toTry _) h) (fun f s1 hsp => ?_) (fun e s1 he => he))
  · obtain ⟨a, B, sI, pins', σ', H', cls, d, rfl, J', nb, up, sky, na, os, ag, w⟩ := xx
    have J : Inv X pins σ' H' sI := J'.ofTry ok
    show wpAny (model X.prog X.w) X.A (noteFrame (.ref a) X.env) _ _ _
    refine Sky.land Zc.steady fr0 hf (by rw [← hst]; exact sky) fun h3 fl3 up3 => ?_
    have J3 : Inv X pins σ' H' { s' with heap := h3 } := J.landed nb fl3.1 (up.trans up3) os ag
    obtain ⟨oe3, vs3, he3, hz3, hd3⟩ := fl3.there
    have nfr : a ∉ frs (X.env :: X.outer) := fun hm => by
      obtain ⟨_, o', e', hnf⟩ := fl3.2.2.1.mem hm
      rw [he3] at e'
      cases e'
      exact hnf _ hd3
    have nL : a ≠ X.env.locals := fun z => nfr (List.mem_filterMap.mpr ⟨X.env, by simp, by rw [hf, z]⟩)
    have nF : a ∉ X.fs := fun hm => let ⟨e, he, q⟩ := List.mem_filterMap.mp hm; nfr (List.mem_filterMap.mpr ⟨e, by simp [he], q⟩)
    have S3 := J3.suite he3 hd3 na nL nF
    have LT : PySem.W.Looks (model X.prog X.w) h3 (typeOf (.ref a)) cls := fun A Q E s k q => wpAny_typeOf_ref (k _ _ he3) (by rw [hz3.1]; exact q)
    have test : ∀ {x : Str} {c : Value} {np : Pos} {Q : Value → Shared → Prop} {E : Value → Shared → Prop}, Names X x c → Q c { s' with heap := h3 } → wpAny (model X.prog X.w) (X.A.mark (some (.ref a))) (eval (.Name x np) X.env) Q E { s' with heap := h3 } := fun {x c np Q E} hc q => by
      obtain ⟨hg, hdb, hm | ⟨hm, hv, hn⟩⟩ := hc
      · exact ld_glob (X := X.suite a ((a, oe3) :: (X.pn ++ pins))) S3 hg hm q hdb
      · exact ld_blt (X := X.suite a ((a, oe3) :: (X.pn ++ pins))) S3 hg hm hv q hn hdb
    have go : ∀ {hs' : List ExceptHandler} {l' : List Cl}, ClsOk X hs' l' → wMix X.K Wo D l' cls d σ' H' → wpAny (model X.prog X.w) X.A (handleBy (.ref a) X.env hs') (SP X pins D) X.xe { s' with heap := h3 } := by
      intro hs' l' hk
      induction hk with
      | nil =>
        intro w
        refine wpAny_handleBy_nil ?_
        obtain ⟨k1, k2, k3, oe, vs, T, oT, ts', he, hz, hd, h1, hr⟩ := id fl3
        unfold PySem.passOn
        refine wpAny_bind (wpAny_field he hd h1 ?_)
        rw [if_neg (show ¬ ((Value.ref T == Value.none) = true) by simp)]
        have fin : wpAny (model X.prog X.w) X.A (setFlight (.ref a) X.env.frame) (fun _ s4 => wpAny (model X.prog X.w) X.A (throw (.ref a) : Sem Flow) (SP X pins D) X.xe s4) X.xe { s' with heap := h3 } := by
          rw [hf]
          exact HandSPX.setFlight_upZ fl3 fun h4 hh4 up4 => wpAny_throw (tk _ _ ⟨a, B, sI, pins, σ', H', cls, d, rfl, J, nb, (up.trans up3).trans up4, .inr (.inr (by rw [hst]; exact hh4)), na, os, ag, w⟩)
        first
          | exact wpAny_bind (wpAny_pure (wpAny_bind fin))
          | exact wpAny_bind fin
      | plain hc su r ih =>
        rintro ⟨b, hb1, hyes, hno⟩
        refine wpAny_handleBy_cons (codeAny_handlers_test ?_) (by intro q; cases q)
        refine test hc ((PySem.W.exm_one (M := model X.prog X.w) J3.kIn LT hb1).here ?_)
        cases b with
        | false => exact ih (hno rfl)
        | true =>
          refine codeAny_handlers_suite (HandSPX.lands_againZ fl3 fun h4 fl4 up4 => ?_)
          obtain ⟨oe4, vs4, he4, hz4, hd4⟩ := fl4.there
          have J4 : Inv X pins σ' H' { s' with heap := h4 } := J.landed nb fl4.1 ((up.trans up3).trans up4) os ag
          have S4 := J4.suite he4 hd4 na nL nF
          refine wpAny_mono ((su a oe4 cls d (X.pn ++ pins) hz4 ⟨_, hd4⟩).run [] _ _ H' D S4 (hyes rfl a na)) (fun f s6 hsp => ?_) (fun _ _ z => z.elim)
          cases f with
          | ret u => exact let ⟨_, _, _, S6, r6, q6⟩ := hsp; ⟨_, _, _, S6.unsuite ok, r6, q6⟩
          | next => exact let ⟨_, _, S6, q6⟩ := hsp; ⟨_, _, S6.unsuite ok, q6⟩
          | brk => exact let ⟨_, _, S6, q6⟩ := hsp; ⟨_, _, S6.unsuite ok, q6⟩
          | cont => exact let ⟨_, _, S6, q6⟩ := hsp; ⟨_, _, S6.unsuite ok, q6⟩
      | @named x n i c ts b0 st p p' hs2 l2 nd hi hl hc su r ih =>
        rintro ⟨b, hb1, hyes, hno⟩
        refine wpAny_handleBy_cons (codeAny_handlers_test ?_) (by intro q; cases q)
        refine test hc ((PySem.W.exm_one (M := model X.prog X.w) J3.kIn LT hb1).here ?_)
        cases b with
        | false => exact ih (hno rfl)
        | true =>
          refine codeAny_handlers_suite_as (HandSPX.lands_againZ fl3 fun h4 fl4 up4 => ?_)
          obtain ⟨oe4, vs4, he4, hz4, hd4⟩ := fl4.there
          have J4 : Inv X pins σ' H' { s' with heap := h4 } := J.landed nb fl4.1 ((up.trans up3).trans up4) os ag
          have S4 := J4.suite he4 hd4 na nL nF
          refine store_ok (X := X.suite a ((a, oe4) :: (X.pn ++ pins))) (v := .ref a) S4 nd hi (.inl hl) rfl (fun s5 S5 => ?_) (.inr hl)
          refine wpAny_mono ((su a oe4 cls d (X.pn ++ pins) hz4 ⟨_, hd4⟩).run [] s5 _ H' (gone i D) S5 (hyes rfl a na)) (fun f s6 hsp => ?_) (fun _ _ z => z.elim)
          have away : ∀ {σ6 : St} {H6 : Hp} {Q : Shared → Prop}, Inv (X.suite a ((a, oe4) :: (X.pn ++ pins))) [] σ6 H6 s6 → (∀ s7, Inv X pins (σ6.set i none) H6 s7 → Q s7) →
              wpAny (model X.prog X.w) X.A (do bindName X.env n .none; unbindBehindTheSuite X.env n p') (fun _ s7 => Q s7) X.xe s6 := fun S6 hq => gone_ok (S6.unsuite ok) nd hi hl hq
          cases f with
          | ret u => exact let ⟨_, _, _, S6, r6, q6⟩ := hsp; away S6 fun s7 J7 => ⟨_, _, _, J7, r6, q6⟩
          | next => exact let ⟨_, _, S6, q6⟩ := hsp; away S6 fun s7 J7 => ⟨_, _, J7, q6⟩
          | brk => exact let ⟨_, _, S6, q6⟩ := hsp; away S6 fun s7 J7 => ⟨_, _, J7, q6⟩
          | cont => exact let ⟨_, _, S6, q6⟩ := hsp; away S6 fun s7 J7 => ⟨_, _, J7, q6⟩
    exact go hh w
  · cases f with
    | ret u => exact let ⟨v, σ', H', J', r, q⟩ := hsp; ⟨v, σ', H', J'.ofTry ok, r, q⟩
    | next => exact let ⟨σ', H', J', q⟩ := hsp; wpAny_execs_nil ⟨σ', H', J'.ofTry ok, q⟩
    | brk => exact let ⟨σ', H', J', q⟩ := hsp; ⟨σ', H', J'.ofTry ok, q⟩
    | cont => exact let ⟨σ', H', J', q⟩ := hsp; ⟨σ', H', J'.ofTry ok, q⟩
end
end Mi

/-! MiU: try, over deep data. -/
namespace Mi
open PySem PySem.Spec PyProof.Rows L2

/-- a clause: which classes it takes, what it gives -/
structure Ch where
  g : Str → Bool
  f : Ex → T
def noErr : R Fl → R Fl
  | .err _ _ _ => .bad
  | r => r
def sTryGo : List Ch → Ex → En → So → R Fl
  | [], x, en, S => .err x en S
  | c :: r, x, en, S => if c.g x.c = true then noErr (c.f x en S) else sTryGo r x en S
def sTry (b : T) (cs : List Ch) : T := fun en S => match b en S with
  | .err x en' S' => sTryGo cs x en' S'
  | r => r
def noW : WX := fun _ _ _ _ => False
/-- what a clause of the walk is over deep data -/
structure CJ (cm : Cm) (X : Cx) (l : Cl) (c : Ch) : Prop where
  g : ∀ n C, cm.exc n = some C → PySem.W.exmOne X.K (.ref C) l.c = some (c.g n)
  f : ∀ cls dd a D σ H m S en x, Cond (ct X cm) m S H σ en → RepX (ct X cm) m S H x cls dd → H a = none → PF (ct X cm) m S H noW (c.f x en S) D → l.go a cls dd D σ H
inductive CJs (cm : Cm) (X : Cx) : List Cl → List Ch → Prop
  | nil : CJs cm X [] []
  | cons {l : Cl} {c : Ch} {ls : List Cl} {cs : List Ch} (h : CJ cm X l c) (r : CJs cm X ls cs) : CJs cm X (l :: ls) (c :: cs)
section
variable {cm : Cm} {X : Cx} {body : List Stmt} {h0 : ExceptHandler} {hs : List ExceptHandler} {l : List Cl} {cs : List Ch} {pos : Pos} {f : T}
theorem noErr_pf {ct : Ct} {m : Am} {S : So} {H : Hp} {W : WX} {r : R Fl} {D : Ends} (h : PF ct m S H W (noErr r) D) : PF ct m S H noW r D := by
  cases r with
  | ok a S' => cases a <;> exact h
  | err x en S' => exact h.elim
  | bad => exact h
theorem mix_of {W : WX} {D : Ends} (hj : CJs cm X l cs) {m : Am} {S : So} {H : Hp} {σ : St} {en : En} {x : Ex} {cls : Value} {dd : Option Addr} (C : Cond (ct X cm) m S H σ en) (rx : RepX (ct X cm) m S H x cls dd)
    (h : PF (ct X cm) m S H W (sTryGo cs x en S) D) : wMix X.K W D l cls dd σ H := by
  induction hj with
  | nil => exact h cls dd m σ H Adv.refl C rx
  | @cons l c ls cs hc r ih =>
    obtain ⟨A, h1, h2, h3⟩ := id rx
    refine ⟨c.g x.c, by rw [h2]; exact hc.g _ _ h1, fun e a ha => ?_, fun e => ih ?_⟩
    · unfold sTryGo at h
      rw [if_pos e] at h
      exact hc.f cls dd a D σ H m S en x C rx ha (noErr_pf h)
    · unfold sTryGo at h
      rw [if_neg (by rw [e]; exact Bool.false_ne_true)] at h
      exact h
theorem rs_try (hst : X.stack = X.env :: X.outer) (hf : X.env.frame = some X.env.locals) (hb : ∀ pn xe, RSs cm (X.tr pn xe) body f) (hc : ClsOk X (h0 :: hs) l) (hj : CJs cm X l cs) : RS cm X (.Try body (h0 :: hs) [] [] pos) (sTry f cs) := fun W tk m S H σ en D C h => by
  refine wS_of (ps_try_mix (tb := fun W' D σ H => ∀ pn xe, Takes (X.tr pn xe) W' → wSs (X.tr pn xe) body D σ H) hst hf tk (fun W' pn xe tk' _ => ⟨fun pins s σ H D I q => pss_w.run pins s σ H D I (q pn xe tk')⟩) hc) ?_
  intro pn xe tk'
  refine hb pn xe (wMix X.K W D l) tk' m S H σ en D C ?_
  unfold sTry at h
  revert h
  cases f en S with
  | ok a S' => cases a <;> exact fun h => h
  | bad => exact fun h => h
  | err x en' S' => exact fun h cls dd m' σ' H' A C' rx => mix_of hj C' rx (PF.after A h)
/-- a clause without a name -/
def tsOf (X : Cx) (st : List Stmt) : Addr → Value → Option Addr → TS := fun a cls d D σ H => ∀ oe pn, Zc cls d oe → (∃ vs, oe.data = .fields vs) → wSs (X.suite a ((a, oe) :: pn)) st D σ H
theorem suite_of {st : List Stmt} : SuiteOk X st (tsOf X st) := fun a oe cls d pn hz hf => ⟨fun pins s σ H D I q => pss_w.run pins s σ H D I (q oe pn hz hf)⟩
theorem cj_plain {c : Value} {st : List Stmt} {g : Str → Bool} (hg : ∀ n C, cm.exc n = some C → PySem.W.exmOne X.K (.ref C) c = some (g n)) (hs : ∀ a pn, RSs cm (X.suite a pn) st f) : CJ cm X ⟨c, none, tsOf X st⟩ ⟨g, fun _ => f⟩ :=
  ⟨hg, fun cls dd a D σ H m S en x C rx ha h oe pn hz hf => hs a _ noW takes_none5 m S H σ en D C h⟩
end
end Mi

/-! MiH: except X as n: return ("t", n.f) -/
namespace Mi
open PySem PySem.Spec PyProof.Rows L2

def tHg (K : PySem.W.Frag) (f : Str) (a : Addr) (cls : Value) (d : Option Addr) (te : TE) : TE := fun σ H Q => te σ H fun x H1 => x = .ref a ∧ ∃ (C dd : Addr) (fs : List (Str × V)) (v : V), cls = .ref C ∧ ExA K C ∧ PySem.W.findIn K (.ref C) f = some none ∧ d = some dd ∧ H1 dd = some (.xd fs) ∧ fs.lookup f = some v ∧ Q v H1
section
variable {X : Cx} {a : Addr} {oe : Obj} {cls : Value} {d : Option Addr} {pn : List (Addr × Obj)} {e : Expr} {te : TE} {pos : Pos} {n : Str}
theorem pe_hg (hz : Zc cls d oe) (hf : ∃ vs, oe.data = .fields vs) (he : PE (X.suite a ((a, oe) :: pn)) e te) (hb : attributeBase e n X.env (eval e X.env) = eval e X.env := by rfl) :
    PE (X.suite a ((a, oe) :: pn)) (.Attribute e n pos) (tHg X.K n a cls d te) := by
  refine ⟨fun pins s σ H Q I h => attr_of hb (thn (he.run pins s σ H _ I h) fun u s1 hh => ?_)⟩
  obtain ⟨x, H1, I1, rx, ex, C, dd, fs, v, ec, T, hno, ed, ea, l, q⟩ := hh
  subst ex ec ed
  obtain rfl : u = Value.ref a := rx
  obtain ⟨ha, _⟩ := I1.pin (a, oe) (List.mem_append_left _ List.mem_cons_self)
  obtain ⟨vs, hd⟩ := hf
  obtain ⟨mA, hns, hr⟩ : ObjOk X.prog X.w H1 s1.heap dd (.xd fs) := I1.hok dd _ ea
  obtain ⟨od, ho, hl⟩ := lookIn_ns hns
  obtain ⟨u, hu, ru⟩ := RelO.some_of (v := v) (o := mA n) (by rw [← l]; exact hr n)
  have J : PySem.W.InstAt s1.heap a oe C (some od) := ⟨ha, hz.1, by unfold PySem.W.notCls; rw [hd] <;> rfl, by rw [hz.2]; exact ho⟩
  exact HandSPX.exc_get I1.kIn J T.ga T.gg T.exC (PySem.W.findObj_own T.hd hno rfl (by rw [hl, hu])) (handed_of ru) ⟨v, H1, I1.tok _, ru, q⟩
end
def sHret (i : Nat) (t f : Str) : Ex → T := fun x en S => match x.ks, x.l with
  | [g], [v] => if g = f ∧ i < en.length then .ok (.rt (.tup [.str t, v])) S else .bad
  | _, _ => .bad
section
variable {cm : Cm} {X : Cx} {i j k : Nat} {t n f : Str} {c : Value} {g : Str → Bool} {p1 p2 p3 p4 p5 : Pos}
theorem cj_ret (hg : ∀ n C, cm.exc n = some C → PySem.W.exmOne X.K (.ref C) c = some (g n)) (hA : ∀ n C, cm.exc n = some C → ExA X.K C) (hno : ∀ n C, cm.exc n = some C → PySem.W.findIn X.K (.ref C) f = some none)
    (hi : X.N[i]? = some n) (hl : X.env.kindOf n = some .local) (hd : (n == ("__debug__" : Str)) = false := by decide) (hcd : (n == ("__classdict__" : Str)) = false := by decide)
    (hb : attributeBase (.Name n p2) f X.env (eval (.Name n p2) X.env) = eval (.Name n p2) X.env := by rfl)
    (hs : ∀ a pn, starEach [.Constant (.str t) j p1, .Attribute (.Name n p2) f p3] (X.suite a pn).env = (false, eval (.Constant (.str t) j p1) (X.suite a pn).env) :: starEach [.Attribute (.Name n p2) f p3] (X.suite a pn).env := by intros; rfl)
    (hs2 : ∀ a pn, starEach [.Attribute (.Name n p2) f p3] (X.suite a pn).env = (false, eval (.Attribute (.Name n p2) f p3) (X.suite a pn).env) :: starEach [] (X.suite a pn).env := by intros; rfl) :
    CJ cm X ⟨c, some i, tsOf X [.Return (some (.Tuple [.Constant (.str t) j p1, .Attribute (.Name n p2) f p3] k p4)) p5]⟩ ⟨g, sHret i t f⟩ := by
  refine ⟨hg, fun cls dd a D σ H m S en x C rx ha h oe pn hz hf => ?_⟩
  obtain ⟨C1, h1, h2, h3⟩ := rx
  refine wSs_of (pss_one (ps_ret (pe_tup (pa_cons pe_str (pa_cons (pe_hg hz hf (pe_var (X := X.suite a ((a, oe) :: pn)) (i := i) hi (.inl hl) hd hcd) hb) pa_nil (hs2 _ _)) (hs _ _))))) ?_
  replace h : PF (ct X cm) m S H noW (sHret i t f x en S) D := h
  rcases h3 with ⟨e1, e2, e3⟩ | ⟨d1, fs, e1, e2, e3, e4, e5⟩
  · unfold sHret at h
    rw [e2] at h
    exact h.elim
  unfold sHret at h
  split at h
  · rename_i g1 v1 q1 q2
    split at h
    · rename_i eg
      obtain ⟨eg, hlen⟩ := eg
      rw [C.len] at hlen
      subst eg
      rw [q1] at e4
      rw [q2] at e5
      obtain ⟨y, r, ey, ry, er⟩ := e5
      match fs, e4, ey, er with
      | [(kk, z)], e4, ey, er =>
        simp only [List.map_cons, List.map_nil, List.cons.injEq, and_true] at e4
        subst e4
        simp only [List.map_cons, List.map_nil, List.cons.injEq] at ey
        obtain ⟨ey, _⟩ := ey
        subst ey
        refine ⟨.ref a, by simp [List.getElem?_set, hlen], rfl, C1, d1, [(kk, z)], z, h2, hA _ _ h1, hno _ _ h1, e1, e2, by simp [List.lookup], ?_⟩
        refine ⟨by show 2 ≤ sizeLine; rw [sizeLine_eq]; decide, fun p hp => ?_⟩
        have kp := grow_upd (o := HO.tup [V.str t, z]) hp
        refine h (.ref p) m _ (Adv.grow kp) (C.rel.grow kp) ?_
        simp only [Rep]
        exact ⟨p, [V.str t, z], rfl, .inl (.inl upd_same), Reps.cons (by simp only [Rep]) (Reps.cons (Rep.adv (Adv.grow kp) _ _ ry) Reps.nil)⟩
    · exact h.elim
  · exact h.elim
end
end Mi

/-! MiO: an own class's operators. -/
namespace Mi
open PySem PySem.Spec PyProof.Rows L2

section
variable {prog : Program} {w : World} {A : Around} {E : Value → Shared → Prop} {s : Shared} {K : PySem.W.Frag} {x C L f : Addr} {h₀ : Heap} {m : Str → Option Value} {ox : Obj} {od : Option Obj} {T : String}
/-- x ∘ b, b of a built-in type -/
theorem own_binT {op : Operator} {b : Value} {fo ro rc : Option Value} {Q : Value → Shared → Prop} (X : K.In s.heap) (I : PySem.W.InstAt s.heap x ox C od) (L2 : PySem.W.Looks (model prog w) s.heap (typeOf b) (.type T)) (hc : PySem.W.selfFirst K C = true)
    (hs : PySem.W.findIn K (.ref C) (PySem.dunder op.info.2) = some (some (.ref f))) (hf : PySem.W.isFn K (.ref f) = true) (hr : PySem.W.findIn K (.ref C) (dunderR op.info.2) = some rc) (hp : rc = none ∨ ∃ g : Addr, rc = some (.ref g))
    (h1 : PySem.W.findIn K (.type T) (PySem.dunder op.info.2) = some fo) (h2 : PySem.W.findIn K (.type T) (dunderR op.info.2) = some ro) (hsub : PySem.W.subIn K (.type T) (.ref C) = some false)
    (h : wpAny (model prog w) A (call (.ref f) [.ref x, b]) (PySem.W.CmpBack Q) E s) : wpAny (model prog w) A (binaryOp op (.ref x) b) Q E s := by
  obtain ⟨cd, rest, hcd, hm⟩ := PySem.W.ksp_first hc
  rcases hi : op.info with ⟨sym, nm'⟩
  rw [hi] at hs hr h1 h2
  dsimp only at hs hr h1 h2
  have one := PySem.W.ksp_try X I hs hf h
  obtain ⟨hh, g, d, tt, os⟩ := s
  have L1 : PySem.W.Looks (model prog w) hh (typeOf (.ref x)) (.ref C) := I.type
  have L3 := PySem.W.fills_K (M := model prog w) (nm := nm') X hcd hm hs
  have L4 := PySem.W.ksp_fillsT (M := model prog w) X h1 h2
  have L5 := PySem.W.looks_subIn (M := model prog w) X hsub
  have L6 := PySem.W.ksp_inPy (M := model prog w) X hs hr hp
  have L7 : PySem.W.Looks (model prog w) hh (numberSlotInPython (.type T) nm') false := PySem.W.Looks.of_pure rfl
  have L8 := PySem.W.looks_findIn (M := model prog w) X h2
  generalize ((fo.isSome && !isSeqSlot fo) || (ro.isSome && !isSeqSlot ro)) = right at L4
  have hne : (Value.ref C == Value.type T) = false := Bool.eq_false_iff.mpr fun q => by cases beq_iff_eq.mp q
  simp only [binaryOp, hi]
  refine wpAny_holding (wpAny_bind ?_)
  unfold binaryOp1
  refine wpAny_bind (L1.at (wpAny_bind (L2.at (wpAny_bind (L3.at ?_)))))
  simp only [hne, Bool.false_eq_true, if_false]
  cases right with
  | false =>
    ksp_lk
    refine wpAny_mono one (fun r s' hr' => ?_) fun _ _ e => e
    obtain ⟨v, rfl, hq⟩ := hr'
    ksp_lk
    exact hq
  | true =>
    ksp_lk
    refine wpAny_mono one (fun r s' hr' => ?_) fun _ _ e => e
    obtain ⟨v, rfl, hq⟩ := hr'
    ksp_lk
    exact hq
/-- x ∘ y, both of the class -/
theorem own_binS {op : Operator} {b : Value} {Q : Value → Shared → Prop} (X : K.In s.heap) (I : PySem.W.InstAt s.heap x ox C od) (L2 : PySem.W.Looks (model prog w) s.heap (typeOf b) (.ref C)) (hc : PySem.W.selfFirst K C = true)
    (hs : PySem.W.findIn K (.ref C) (PySem.dunder op.info.2) = some (some (.ref f))) (hf : PySem.W.isFn K (.ref f) = true)
    (h : wpAny (model prog w) A (call (.ref f) [.ref x, b]) (PySem.W.CmpBack Q) E s) : wpAny (model prog w) A (binaryOp op (.ref x) b) Q E s := by
  obtain ⟨cd, rest, hcd, hm⟩ := PySem.W.ksp_first hc
  rcases hi : op.info with ⟨sym, nm'⟩
  rw [hi] at hs
  dsimp only at hs
  have one := PySem.W.ksp_try X I hs hf h
  obtain ⟨hh, g, d, tt, os⟩ := s
  have L1 : PySem.W.Looks (model prog w) hh (typeOf (.ref x)) (.ref C) := I.type
  have L3 := PySem.W.fills_K (M := model prog w) (nm := nm') X hcd hm hs
  have heq : (Value.ref C == Value.ref C) = true := beq_self_eq_true _
  simp only [binaryOp, hi]
  refine wpAny_holding (wpAny_bind ?_)
  unfold binaryOp1
  refine wpAny_bind (L1.at (wpAny_bind (L2.at (wpAny_bind (L3.at ?_)))))
  simp only [heq, if_true]
  ksp_lk
  refine wpAny_mono one (fun r s' hr' => ?_) fun _ _ e => e
  obtain ⟨v, rfl, hq⟩ := hr'
  ksp_lk
  exact hq
end
end Mi

/-! MiM: methods of an own class, over deep data. -/
namespace Mi
open PySem PySem.Spec PyProof.Rows L2

/-- what stands for an operator's name in the class and in the built-in types -/
structure OwnOp (K : PySem.W.Frag) (C : Addr) (nm : String) : Prop where
  first : PySem.W.selfFirst K C = true
  rev : ∃ rc, PySem.W.findIn K (.ref C) (dunderR nm) = some rc ∧ (rc = none ∨ ∃ g : Addr, rc = some (.ref g))
  ty : ∀ T : Ty, ∃ fo ro, PySem.W.findIn K (.type T.name) (PySem.dunder nm) = some fo ∧ PySem.W.findIn K (.type T.name) (dunderR nm) = some ro ∧ PySem.W.subIn K (.type T.name) (.ref C) = some false
/-- a method: what it does is F -/
def MethM (P : Program) (w : World) (K : PySem.W.Frag) (mg : Str → Option Value) (base : Heap) (cm : Cm) (k : Nat) (n name : Str) (F : Fm) : Prop :=
  ∃ C f fd ps, cm.cls n = some C ∧ OwnC K C ∧ PySem.W.findIn K (.ref C) name = some (some (.ref f)) ∧ PySem.W.isFn K (.ref f) = true ∧ FnOk P w K mg base (L2.CX P w) k f fd ps (spF ⟨K, cm.cls, cm.exc⟩ ps.length F) ∧ Binds K fd ps [] ∧ (∀ ds S, ds.length ≠ ps.length → F ds S = .bad) ∧ PySem.W.keepIn K (.ref f) = true
theorem MethM.mono {P : Program} {w : World} {K : PySem.W.Frag} {mg : Str → Option Value} {base : Heap} {cm : Cm} {j k : Nat} {n x : Str} {F : Fm} (h : MethM P w K mg base cm j n x F) (l : j ≤ k) : MethM P w K mg base cm k n x F :=
  let ⟨C, f, fd, ps, a, b, c, d, e, g⟩ := h
  ⟨C, f, fd, ps, a, b, c, d, e.mono l, g⟩
/-- a ∘ b, a of class n -/
def mOwn (n : Str) (F : Fm) (fa fb : E D) : E D := fun en S => (fa en S).bind fun a S1 => (fb en S1).bind fun b S2 =>
  if isOwn a S2 = some n ∧ ((tyD b S2).isSome = true ∨ isOwn b S2 = some n) then (F [a, b] S2).at en else .bad
section
variable {cm : Cm} {X : Cx} {k : Nat} {n : Str} {F : Fm} {ea eb : Expr} {fa fb : E D} {pos : Pos} {op : Operator}
theorem ret_back {X : Cx} {pins : List (Addr × Obj)} {σ : St} {Q : VK} {u : Value} {s : Shared} (h : EP X pins σ Q u s) : PySem.W.CmpBack (EP X pins σ Q) u s := by
  obtain ⟨v, H', I, r, q⟩ := h
  cases u with
  | notImplemented =>
    cases v <;> first | exact nomatch r | (obtain ⟨_, r⟩ := r; exact nomatch r)
  | _ => exact ⟨v, H', I, r, q⟩
theorem re_own (M : MethM X.prog X.w X.K X.mg X.base cm k n (PySem.dunder op.info.2) F) (O : ∀ C, cm.cls n = some C → OwnOp X.K C op.info.2) (hr : Room k X.A) (ha : RE cm X ea fa) (hb : RE cm X eb fb) : RE cm X (.BinOp ea op eb pos) (mOwn n F fa fb) := fun W tk m S H σ en Q C h => by
  obtain ⟨C1, f, fd, ps, hc, ho, hm, hk, hF, hbd, hbad, _⟩ := M
  have O1 := O C1 hc
  refine wE_of (t := fun σ H Q => wE X ea σ H fun x H1 => wE X eb σ H1 fun y H2 => ∃ a b S2 m2, RelS (ct X cm) m2 S2 H2 ∧ Rep (ct X cm) m2 S2 H2 a x ∧ Rep (ct X cm) m2 S2 H2 b y ∧ isOwn a S2 = some n ∧ ((tyD b S2).isSome = true ∨ isOwn b S2 = some n) ∧ PD (ct X cm) m2 S2 H2 (F [a, b] S2) Q (WE W σ)) ⟨fun pins s σ H Q I h => ?_⟩ ?_
  · refine wpAny_BinOp (binT pe_w pe_w I h fun v u s2 x y H2 I2 rx ry q => ?_)
    obtain ⟨a, b, S2, m2, R2, r1, r2, o1, o2, q⟩ := q
    obtain ⟨aa, CC, dx, fs, rfl, hc2, h1⟩ := own_v R2 r1 o1
    obtain rfl : C1 = CC := by
      have := hc.symm.trans hc2
      cases this
      rfl
    obtain rfl : v = Value.ref aa := rx
    obtain ⟨mA, Om, _, _, _, _⟩ := ins_get I2.hok h1
    obtain ⟨od, J, _⟩ := Om.look
    have go : wpAny (model X.prog X.w) X.A (call (.ref f) [.ref aa, u]) (PySem.W.CmpBack (EP X pins σ Q)) X.xe s2 := by
      refine wpAny_mono (run_fnS (vs := [.ref aa, y]) (E := WE W) hF hr hbd (passAt tk σ) I2 (.cons rfl (.cons ry .nil)) ⟨?_, m2, S2, [a, b], R2, Reps.cons r1 (Reps.cons r2 Reps.nil), q⟩) (fun _ _ z => ret_back z) fun _ _ z => z
      show 2 = ps.length
      by_cases e : [a, b].length = ps.length
      · exact e
      · rw [hbad _ S2 e] at q
        exact q.elim
    rcases o2 with o2 | o2
    · obtain ⟨T, eT⟩ := Option.isSome_iff_exists.mp o2
      obtain ⟨P, kx, hp, _⟩ := kit_of I2 ry (tyD_v R2 r2 eT)
      obtain ⟨rc, hrv, hrc⟩ := O1.rev
      obtain ⟨fo, ro, t1, t2, t3⟩ := O1.ty T
      exact own_binT I2.kIn J (kx.ty _ _ I2.kIn hp) O1.first hm hk hrv hrc t1 t2 t3 go
    · obtain ⟨bb, CC, dy, gs, rfl, hc3, h3⟩ := own_v R2 r2 o2
      obtain rfl : C1 = CC := by
        have := hc.symm.trans hc3
        cases this
        rfl
      obtain rfl : u = Value.ref bb := ry
      obtain ⟨mB, Om2, _, _, _, _⟩ := ins_get I2.hok h3
      obtain ⟨od2, J2, _⟩ := Om2.look
      exact own_binS I2.kIn J J2.type O1.first hm hk go
  · refine ha W tk m S H σ en _ C (PQ.bind h fun a S1 x m1 H1 e1 A1 R1 r1 h1 => ?_)
    refine hb W tk m1 S1 H1 σ en _ (C.adv A1 R1) (PQ.bind h1 fun b S2 y m2 H2 e2 A2 R2 r2 h2 => ?_)
    split at h2
    · rename_i c
      exact ⟨a, b, S2, m2, R2, Rep.adv A2 _ _ r1, r2, c.1, c.2, h2.pd ((C.adv A1 R1).adv A2 R2)⟩
    · exact h2.elim
end
end Mi

/-! MiP: an own class's fields, properties, methods, length, items, equality. -/
namespace Mi
open PySem PySem.Spec PyProof.Rows L2

def insOf (d : D) (S : So) : Option (Str × List Str × List D) := match d with
  | .ins c ks l => some (c, ks, l)
  | .ref n => match S[n]? with
    | some (some (.ins c ks l)) => some (c, ks, l)
    | _ => none
  | _ => none
section
variable {cm : Ct} {m : Am} {S : So} {H : Hp} {d : D} {x : V}
theorem insOf_v {c : Str} {ks : List Str} {l : List D} (R : RelS cm m S H) (r : Rep cm m S H d x) (h : insOf d S = some (c, ks, l)) : ∃ a C dx fs, x = .ref a ∧ cm.cls c = some C ∧ H a = some (.ins C dx fs) ∧ fs.map (·.1) = ks ∧ Reps cm m S H l (fs.map (·.2)) := by
  cases d with
  | ins c' ks' l' =>
    simp only [insOf, Option.some.injEq, Prod.mk.injEq] at h
    obtain ⟨rfl, rfl, rfl⟩ := h
    simp only [Rep] at r
    obtain ⟨a, C, dx, fs, e, hc, h1, _, h2, h3⟩ := r
    exact ⟨a, C, dx, fs, e, hc, h1, h2, h3⟩
  | ref n =>
    simp only [insOf] at h
    simp only [Rep] at r
    split at h
    · rename_i c' ks' l' e
      cases h
      obtain ⟨C, dx, fs, hc, h1, h2, h3⟩ := R.at_ n _ e
      exact ⟨_, C, dx, fs, r.2, hc, h1, h2, h3⟩
    · cases h
  | _ => simp [insOf] at h
theorem fld_v {f : Str} {v : D} : ∀ {fs : List (Str × V)} {l : List D}, Reps cm m S H l (fs.map (·.2)) → ((fs.map (·.1)).zip l).lookup f = some v → ∃ u, fs.lookup f = some u ∧ Rep cm m S H v u
  | [], l, _, e => by simp at e
  | p :: fs, [], r, e => by simp at e
  | p :: fs, d :: l, r, e => by
    simp only [List.map_cons, Reps] at r
    obtain ⟨v', r', e', h1, h2⟩ := r
    cases e'
    obtain ⟨g, u⟩ := p
    cases q : (f == g) with
    | true =>
      simp only [List.map_cons, List.zip_cons_cons, List.lookup, q, Option.some.injEq] at e ⊢
      subst e
      exact ⟨u, rfl, h1⟩
    | false =>
      simp only [List.map_cons, List.zip_cons_cons, List.lookup, q] at e ⊢
      exact fld_v h2 e
theorem lookup_no {f : Str} : ∀ {fs : List (Str × V)}, (fs.map (·.1)).contains f = false → fs.lookup f = none
  | [], _ => rfl
  | p :: fs, e => by
    obtain ⟨g, u⟩ := p
    simp only [List.map_cons, List.contains_cons, Bool.or_eq_false_iff] at e
    simp only [List.lookup, e.1]
    exact lookup_no e.2
theorem isOwn_ins {n : Str} (h : isOwn d S = some n) : ∃ ks l, insOf d S = some (n, ks, l) := by
  cases d with
  | ins c ks l => simp only [isOwn, Option.some.injEq] at h; subst h; exact ⟨ks, l, rfl⟩
  | ref k =>
    simp only [isOwn] at h
    split at h
    · rename_i c ks l e
      cases h
      exact ⟨ks, l, by simp only [insOf, e]⟩
    · cases h
  | _ => simp [isOwn] at h
end

/-! ### e.f, e.p -/
def fldD (f : Str) (d : D) (S : So) : Option D := match insOf d S with
  | some (_, ks, l) => (ks.zip l).lookup f
  | none => none
def mFld (f : Str) (fe : E D) : E D := fun en S => (fe en S).bind fun d S1 => match fldD f d S1 with
  | some v => .ok v S1
  | none => .bad
def NoAt (K : PySem.W.Frag) (cm : Cm) (f : Str) : Prop := ∀ c C, cm.cls c = some C → Cls K C ∧ NoAttr K C f
/-- a property p that gives the field f -/
def PropM (P : Program) (w : World) (K : PySem.W.Frag) (mg : Str → Option Value) (base : Heap) (cm : Cm) (p f : Str) : Prop := ∀ c C, cm.cls c = some C → Cls K C ∧ ∃ pa g fd, PropOf K C p pa g ∧ FnOk P w K mg base (fun _ _ _ _ _ _ => False) 1 g fd ["self"] (getSp C f) ∧ Binds K fd ["self"] []
section
variable {cm : Cm} {X : Cx} {e : Expr} {fe : E D} {pos : Pos} {f p : Str}
theorem fldD_v {m : Am} {S : So} {H : Hp} {d v : D} {x : V} (R : RelS (ct X cm) m S H) (r : Rep (ct X cm) m S H d x) (h : fldD f d S = some v) : ∃ a c C dx fs u, x = .ref a ∧ cm.cls c = some C ∧ H a = some (.ins C dx fs) ∧ fs.lookup f = some u ∧ Rep (ct X cm) m S H v u := by
  unfold fldD at h
  split at h
  · rename_i c ks l e
    obtain ⟨a, C, dx, fs, ex, hc, h1, h2, h3⟩ := insOf_v R r e
    subst h2
    obtain ⟨u, h4, h5⟩ := fld_v h3 h
    exact ⟨a, c, C, dx, fs, u, ex, hc, h1, h4, h5⟩
  · cases h
theorem re_fld (ho : NoAt X.K cm f) (he : RE cm X e fe) (hb : attributeBase e f X.env (eval e X.env) = eval e X.env := by rfl) : RE cm X (.Attribute e f pos) (mFld f fe) := fun W tk m S H σ en Q C h => by
  refine wE_of (pe_fld pe_w hb) ?_
  refine he W tk m S H σ en _ C (PQ.bind h fun d S1 y m1 H1 e1 A1 R1 r1 h1 => ?_)
  split at h1
  · rename_i v ev
    obtain ⟨a, c, C2, dx, fs, u, rfl, hc, g1, g2, g3⟩ := fldD_v R1 r1 ev
    obtain ⟨k1, k2⟩ := ho c C2 hc
    exact ⟨a, C2, dx, fs, u, rfl, g1, k1, k2, g2, PQ.now h1 R1 g3⟩
  · exact h1.elim
theorem re_prop (ho : PropM X.prog X.w X.K X.mg X.base cm p f) (hr : Room 2 X.A) (he : RE cm X e fe) (hb : attributeBase e p X.env (eval e X.env) = eval e X.env := by rfl) : RE cm X (.Attribute e p pos) (mFld f fe) := fun W tk m S H σ en Q C h => by
  refine wE_of (t := fun σ H Q => wE X e σ H fun x H1 => ∃ a c C dx fs u, x = .ref a ∧ cm.cls c = some C ∧ H1 a = some (.ins C dx fs) ∧ fs.lookup f = some u ∧ Q u H1) ⟨fun pins s σ H Q I h => ?_⟩ ?_
  · refine attr_of hb (thn (pe_w.run pins s σ H _ I h) fun u s1 hh => ?_)
    obtain ⟨x, H1, I1, rx, a, c, C, dx, fs, v, ex, hc, ea, l, q⟩ := hh
    subst ex
    obtain rfl : u = Value.ref a := rx
    obtain ⟨k1, pa, g, fd, k2, k3, k4⟩ := ho c C hc
    exact getprop_ok (E := fun _ _ _ => False) I1 ea k1 k2 k3 hr k4 .nil (fun _ _ _ _ _ _ _ z => z.elim) ⟨a, dx, fs, v, rfl, ea, l, q⟩
  · refine he W tk m S H σ en _ C (PQ.bind h fun d S1 y m1 H1 e1 A1 R1 r1 h1 => ?_)
    split at h1
    · rename_i v ev
      obtain ⟨a, c, C2, dx, fs, u, rfl, hc, g1, g2, g3⟩ := fldD_v R1 r1 ev
      exact ⟨a, c, C2, dx, fs, u, rfl, hc, g1, g2, PQ.now h1 R1 g3⟩
    · exact h1.elim
end

/-! ### o.m(..) -/
def mMeth (n nm : Str) (F : Fm) (fo : E D) (fa : E (List D)) : E D := fun en S => (fo en S).bind fun a S1 => match insOf a S1 with
  | some (c, ks, _) => if c = n ∧ ks.contains nm = false then (fa en S1).bind fun ds S2 => (F (a :: ds) S2).at en else .bad
  | none => .bad
section
variable {cm : Cm} {X : Cx} {k : Nat} {n nm : Str} {F : Fm} {o e : Expr} {es : List Expr} {fo : E D} {fa : E (List D)} {pos apos : Pos}
theorem re_meth {pl : Sem Bool} (M : MethM X.prog X.w X.K X.mg X.base cm k n nm F) (hr : Room k X.A) (ho : RE cm X o fo) (ha : RA cm X (e :: es) fa)
    (hst : starEach (e :: es) X.env = (false, eval e X.env) :: starEach es X.env := by rfl) (hpl : (backTo pos (starEach es X.env)).any (·.1) = false := by rfl)
    (ht : eval (.Call (.Attribute o nm apos) (e :: es) [] pos) X.env = (do
      let ov ← eval o X.env
      standAt apos.atName
      let (f, first) ← holding [ov] (getMethod ov nm pl)
      callWith pos f first (backTo pos (starEach (e :: es) X.env)) (backToKw pos (keywordEach [] X.env))) := by rfl) :
    RE cm X (.Call (.Attribute o nm apos) (e :: es) [] pos) (mMeth n nm F fo fa) := fun W tk m S H σ en Q C h => by
  obtain ⟨C1, f, fd, ps, hc, ho1, hm, hk, hF, hbd, hbad, hkp⟩ := M
  refine wE_of (t := fun σ H Q => wE X o σ H fun x H1 => ∃ a dx fs, x = .ref a ∧ H1 a = some (.ins C1 dx fs) ∧ fs.lookup nm = none ∧ wA X (e :: es) σ H1 fun vs H2 => spF ⟨X.K, cm.cls, cm.exc⟩ ps.length F (x :: vs) H2 Q (WE W σ)) ⟨fun pins s σ H Q I h => ?_⟩ ?_
  · refine PySem.W.methodCall_KW (pl := pl) (thn (pe_w.run pins s σ H _ I h) fun u s1 hh => ?_) ht
    obtain ⟨x, H1, I1, rx, a, dx, fs, ex, ea, l, q⟩ := hh
    subst ex
    obtain rfl : u = Value.ref a := rx
    refine getmeth_ok I1 ea ho1.cl ⟨hm, hk, hkp⟩ l ?_
    refine PySem.W.callWith_K (first := [.ref a]) (h₀ := X.base) I.ok.mod.kin hkp (thn (pa_w.run pos pins s1 σ H1 _ I1 q) fun us s2 hh => ?_) hst hpl
    obtain ⟨vs, H2, I2, r, q2⟩ := hh
    exact ⟨I2.kIn, run_fnS (us := .ref a :: us) (vs := .ref a :: vs) (E := WE W) hF hr hbd (passAt tk σ) I2 (.cons rfl r) q2⟩
  · refine ho W tk m S H σ en _ C (PQ.bind h fun d S1 x m1 H1 e1 A1 R1 r1 h1 => ?_)
    split at h1
    · rename_i c ks l eI
      split at h1
      · rename_i hcn
        obtain ⟨a, C2, dx, fs, rfl, hc2, h3, hk3, h4⟩ := insOf_v R1 r1 eI
        obtain rfl : C2 = C1 := by
          rw [hcn.1] at hc2
          exact Option.some.inj (hc2.symm.trans hc)
        subst hk3
        refine ⟨a, dx, fs, rfl, h3, lookup_no hcn.2, ?_⟩
        refine ha W tk m1 S1 H1 σ en _ (C.adv A1 R1) (PQ.bind h1 fun ds S2 vs m2 H2 e2 A2 R2 r2 h2 => ?_)
        have hl : (d :: ds).length = ps.length := by
          by_cases q : (d :: ds).length = ps.length
          · exact q
          · rw [hbad _ S2 q] at h2
            exact h2.elim
        exact ⟨by rw [← hl, List.length_cons, List.length_cons, r2.length], m2, S2, d :: ds, R2, Reps.cons (Rep.adv A2 _ _ r1) r2, h2.pd ((C.adv A1 R1).adv A2 R2)⟩
      · exact h1.elim
    · exact h1.elim
theorem re_meth0 {pl : Sem Bool} (M : MethM X.prog X.w X.K X.mg X.base cm k n nm F) (hr : Room k X.A) (ho : RE cm X o fo)
    (ht : eval (.Call (.Attribute o nm apos) [] [] pos) X.env = (do
      let ov ← eval o X.env
      standAt apos.atName
      let (f, first) ← holding [ov] (getMethod ov nm pl)
      callWith pos f first (backTo pos (starEach [] X.env)) (backToKw pos (keywordEach [] X.env))) := by rfl) :
    RE cm X (.Call (.Attribute o nm apos) [] [] pos) (mMeth n nm F fo aNil) := fun W tk m S H σ en Q C h => by
  obtain ⟨C1, f, fd, ps, hc, ho1, hm, hk, hF, hbd, hbad, hkp⟩ := M
  refine wE_of (t := fun σ H Q => wE X o σ H fun x H1 => ∃ a dx fs, x = .ref a ∧ H1 a = some (.ins C1 dx fs) ∧ fs.lookup nm = none ∧ spF ⟨X.K, cm.cls, cm.exc⟩ ps.length F [x] H1 Q (WE W σ)) ⟨fun pins s σ H Q I h => ?_⟩ ?_
  · refine PySem.W.methodCall_KW (pl := pl) (thn (pe_w.run pins s σ H _ I h) fun u s1 hh => ?_) ht
    obtain ⟨x, H1, I1, rx, a, dx, fs, ex, ea, l, q⟩ := hh
    subst ex
    obtain rfl : u = Value.ref a := rx
    refine getmeth_ok I1 ea ho1.cl ⟨hm, hk, hkp⟩ l ?_
    exact PySem.W.callWith_K0 (first := [.ref a]) I1.kIn hkp (run_fnS (us := [.ref a]) (vs := [.ref a]) (E := WE W) hF hr hbd (passAt tk σ) I1 (.cons rfl .nil) q)
  · refine ho W tk m S H σ en _ C (PQ.bind h fun d S1 x m1 H1 e1 A1 R1 r1 h1 => ?_)
    split at h1
    · rename_i c ks l eI
      split at h1
      · rename_i hcn
        obtain ⟨a, C2, dx, fs, rfl, hc2, h3, hk3, h4⟩ := insOf_v R1 r1 eI
        obtain rfl : C2 = C1 := by
          rw [hcn.1] at hc2
          exact Option.some.inj (hc2.symm.trans hc)
        subst hk3
        refine ⟨a, dx, fs, rfl, h3, lookup_no hcn.2, ?_⟩
        have h2 : PQ (Rep (ct X cm)) (ct X cm) m1 S1 H1 σ W ((F [d] S1).at en) Q := h1
        have hl : [d].length = ps.length := by
          by_cases q : [d].length = ps.length
          · exact q
          · rw [hbad _ S1 q] at h2
            exact h2.elim
        exact ⟨hl, m1, S1, [d], R1, Reps.cons r1 Reps.nil, h2.pd (C.adv A1 R1)⟩
      · exact h1.elim
    · exact h1.elim
end

/-! ### the callee runs one deeper, or where it stands, and raises nothing -/
section
variable {X : Cx} {k : Nat} {f : Addr} {fd : FuncData} {ps : List Str} {sp : Sp}
theorem run_in1 {pins : List (Addr × Obj)} {σ : St} {H : Hp} {s : Shared} {Q : VK} {us : List Value} {vs : List V} {E' : Value → Shared → Prop} (F : FnOk X.prog X.w X.K X.mg X.base (L2.CX X.prog X.w) k f fd ps sp) (hr : Room (k + 1) X.A) (hb : Binds X.K fd ps [])
    (I : Inv X pins σ H s) (r : Vals vs us) (h : sp vs H Q fun _ _ _ => False) : wpAny (model X.prog X.w) X.A.in1 (call (.ref f) us) (EP X pins σ Q) E' s := by
  have hl : (us ++ []).length = ps.length := by
    rw [List.append_nil, ← r.length]
    exact F.len _ _ _ _ h
  have b := hb s us I.kIn hl
  rw [List.append_nil] at b hl
  refine wpAny_call (codeAny_mono (F.run X.A.in1 X.stack s H ⟨us, []⟩ us vs Q _ hr.in1 I.env0.in1 b r h) fun r s' hq => ?_)
  cases r with
  | error er =>
    obtain ⟨_, _, _, _, _, _, _, _, _, _, _, _, z⟩ := hq
    exact z.elim
  | ok fl =>
    cases fl with
    | ret u => exact I.after hq
    | next => exact False.elim hq
    | brk => exact False.elim hq
    | cont => exact False.elim hq
theorem run_no {pins : List (Addr × Obj)} {σ : St} {H : Hp} {s : Shared} {Q : VK} {us : List Value} {vs : List V} {E' : Value → Shared → Prop} (F : FnOk X.prog X.w X.K X.mg X.base (L2.CX X.prog X.w) k f fd ps sp) (hr : Room k X.A) (hb : Binds X.K fd ps [])
    (I : Inv X pins σ H s) (r : Vals vs us) (h : sp vs H Q fun _ _ _ => False) : wpAny (model X.prog X.w) X.A (call (.ref f) us) (EP X pins σ Q) E' s := by
  have hl : (us ++ []).length = ps.length := by
    rw [List.append_nil, ← r.length]
    exact F.len _ _ _ _ h
  have b := hb s us I.kIn hl
  rw [List.append_nil] at b hl
  refine wpAny_call (codeAny_mono (F.run X.A X.stack s H ⟨us, []⟩ us vs Q _ hr I.env0 b r h) fun r s' hq => ?_)
  cases r with
  | error er =>
    obtain ⟨_, _, _, _, _, _, _, _, _, _, _, _, z⟩ := hq
    exact z.elim
  | ok fl =>
    cases fl with
    | ret u => exact I.after hq
    | next => exact False.elim hq
    | brk => exact False.elim hq
    | cont => exact False.elim hq
end
/-- what a method gives that raises nothing -/
def oneOf (r : R D) : Option (D × So) := match r with
  | .ok d S => some (d, S)
  | _ => none
section
variable {cm : Cm} {X : Cx} {k : Nat} {n : Str} {F : Fm}
theorem pd_of {ct : Ct} {m : Am} {S : So} {H : Hp} {r : R D} {Q : VK} (h : POk (Rep ct) ct m S H (oneOf r) Q) : PD ct m S H r Q fun _ _ _ => False := by
  cases r with
  | ok d S' => exact fun v m' H' A R r => POk.at h A R r
  | err x en S' => exact (POk.no h).elim
  | bad => exact (POk.no h).elim
/-- len(x) -/
def bLenO (n : Str) (F : Fm) : OpL := fun l S => match l with
  | [d] => if isOwn d S = some n then match oneOf (F [d] S) with
      | some (.int i, S') => if 0 ≤ i ∧ i < 2 ^ 63 then some (.int i, S') else none
      | _ => none
    else none
  | _ => none
theorem cd_lenO (M : MethM X.prog X.w X.K X.mg X.base cm k n "__len__" F) (hr : Room (k + 1) X.A) : CallD cm X (.builtin "len") (bLenO n F) := fun m S H ds vs Q R r h => by
  obtain ⟨C1, f, fd, ps, hc, ho1, hm, hk, hF, hbd, hbad, hkp⟩ := M
  unfold bLenO at h
  split at h
  · rename_i d
    split at h
    · rename_i ho
      split at h
      · rename_i i S' eo
        split at h
        · rename_i hi
          obtain ⟨x, rfl, rx⟩ := reps1 r
          obtain ⟨a, C2, dx, fs, rfl, hc2, h1⟩ := own_v R rx ho
          obtain rfl : C1 = C2 := Option.some.inj (hc.symm.trans hc2)
          intro pins s σ us I rv
          obtain ⟨u, eu, rx'⟩ := vals1 rv
          subst eu
          cases rx'
          obtain ⟨mA, Om, _, _, _, _⟩ := ins_get I.hok h1
          obtain ⟨od, J, _⟩ := Om.look
          obtain ⟨mm, hFr⟩ := I.fr
          have hp : PD (ct X cm) m S H (F [d] S) (fun v H' => v = .int i ∧ Q v H') fun _ _ _ => False := by
            revert eo
            cases F [d] S with
            | ok d' S2 =>
              intro eo v m' H' A R' r'
              simp only [oneOf, Option.some.injEq, Prod.mk.injEq] at eo
              obtain ⟨e1, e2⟩ := eo
              subst e1 e2
              have := r'
              simp only [Rep] at this
              exact ⟨this, POk.at h A R' r'⟩
            | err _ _ _ => intro eo; cases eo
            | bad => intro eo; cases eo
          refine PySem.W.len_K hFr I.ok.mod.kin J hm hk (wpAny_mono (run_in1 (vs := [.ref a]) hF hr hbd I (.cons rfl .nil) ⟨?_, m, S, [d], R, Reps.cons rx Reps.nil, hp⟩) (fun v s' z => ?_) fun _ _ z => z)
          · show 1 = ps.length
            by_cases e : [d].length = ps.length
            · exact e
            · rw [hbad _ S e] at hp
              exact hp.elim
          · obtain ⟨v', H', I', rv', ev, q⟩ := z
            subst ev
            obtain ⟨t, rfl⟩ := rv'
            exact ⟨hi, .int i, _, I'.tok _, ⟨_, rfl⟩, q⟩
        · exact h.no.elim
      · exact h.no.elim
    · exact h.no.elim
  · exact h.no.elim
/-- a == b -/
def dEqO (n : Str) (F : Fm) : Op2 := fun a b S => if isOwn a S = some n ∧ isOwn b S = some n then oneOf (F [a, b] S) else none
theorem od_eqO (M : MethM X.prog X.w X.K X.mg X.base cm k n "__eq__" F) (hr : Room k X.A) : OpD cm X (compareOp .Eq) (dEqO n F) := fun m S H a b x y Q R ra rb h => by
  obtain ⟨C1, f, fd, ps, hc, ho1, hm, hk, hF, hbd, hbad, hkp⟩ := M
  unfold dEqO at h
  split at h
  · rename_i ho
    obtain ⟨aa, C2, dx, fs, rfl, hc2, h1⟩ := own_v R ra ho.1
    obtain rfl : C1 = C2 := Option.some.inj (hc.symm.trans hc2)
    obtain ⟨bb, C2, dy, gs, rfl, hc3, h3⟩ := own_v R rb ho.2
    obtain rfl : C1 = C2 := Option.some.inj (hc.symm.trans hc3)
    intro pins s σ v u I rv ru
    obtain rfl : v = Value.ref aa := rv
    obtain rfl : u = Value.ref bb := ru
    obtain ⟨mA, Om, _, _, _, _⟩ := ins_get I.hok h1
    obtain ⟨od, J, _⟩ := Om.look
    obtain ⟨mB, Om2, _, _, _, _⟩ := ins_get I.hok h3
    obtain ⟨od2, J2, _⟩ := Om2.look
    obtain ⟨mm, hFr⟩ := I.fr
    have hp := pd_of h
    show wpAny (model X.prog X.w) X.A (richCompare .Eq (.ref aa) (.ref bb)) _ _ _
    refine PySem.W.cmp_K (op := .Eq) (tb := .ref C1) hr.units0 hFr I.ok.mod.kin J J2.type (by simp [PySem.W.notFirst]) hm hk (wpAny_mono (run_no (vs := [.ref aa, .ref bb]) (Q := Q) hF hr hbd I (.cons rfl (.cons rfl .nil)) ⟨?_, m, S, [a, b], R, Reps.cons ra (Reps.cons rb Reps.nil), hp⟩) (fun v s' z => ret_back z) fun _ _ z => z)
    show 2 = ps.length
    by_cases e : [a, b].length = ps.length
    · exact e
    · rw [hbad _ S e] at hp
      exact hp.elim
  · exact h.no.elim
end
end Mi

/-! MiQ: isinstance of an own class, its items, its making. -/
namespace Mi
open PySem PySem.Spec PyProof.Rows L2

/-! ### isinstance(x, C) -/
def mIsO (n : Str) (fe : E D) : E D := fun en S => (fe en S).bind fun d S1 => match isOwn d S1 with
  | some c => .ok (.bl (decide (c = n))) S1
  | none => match tyD d S1 with
    | some _ => .ok (.bl false) S1
    | none => .bad
def IsOwn (K : PySem.W.Frag) (mg : Str → Option Value) (cm : Cm) (n : Str) : Prop := ∃ C, mg n = some (.ref C) ∧ (∀ T : Ty, PySem.W.kitOne K (.type T.name) (.ref C) = some false) ∧ ∀ c D, cm.cls c = some D → OwnC K D ∧ PySem.W.kitOne K (.ref D) (.ref C) = some (decide (c = n))
section
variable {cm : Cm} {X : Cx} {e : Expr} {fe : E D} {p p1 pos : Pos} {n : Str}
theorem re_isO (h : IsOwn X.K X.mg cm n) (hg : Gl X "isinstance") (hm : X.mg "isinstance" = none) (hx : Gl X n) (he : RE cm X e fe) (hd : (n == ("__debug__" : Str)) = false := by decide)
    (hs : starEach [e, .Name n p1] X.env = (false, eval e X.env) :: starEach [.Name n p1] X.env := by rfl) (hs2 : starEach [.Name n p1] X.env = (false, eval (.Name n p1) X.env) :: starEach [] X.env := by rfl)
    (hpl : (backTo pos (starEach [.Name n p1] X.env)).any (·.1) = false := by rfl) : RE cm X (.Call (.Name "isinstance" p) [e, .Name n p1] [] pos) (mIsO n fe) := fun W tk m S H σ en Q C h' => by
  obtain ⟨C0, hC, hT, hO⟩ := h
  refine wE_of (pe_callB call_isi hg hm PyProof.Rows.boot_isinstance (pa_cons pe_w (pa_cons (pe_glob (v := .ref C0) hx hC rfl hd) pa_nil hs2) hs) (by decide) (by decide) hs hpl) ?_
  refine he W tk m S H σ en _ C (PQ.bind h' fun d S1 x m1 H1 e1 A1 R1 r1 h1 => ?_)
  cases eo : isOwn d S1 with
  | some c =>
    rw [eo] at h1
    obtain ⟨a, C2, dx, fs, rfl, hc, h3⟩ := own_v R1 r1 eo
    obtain ⟨o, hk⟩ := hO c C2 hc
    exact ⟨_, .ref C0, _, .ref C0, _, rfl, .own C0, .base (.ins h3 o.cl o.ha o.hn o.htk o.hm), hk, PQ.now h1 R1 (by simp only [Rep])⟩
  | none =>
    rw [eo] at h1
    dsimp only at h1
    split at h1
    · rename_i t et
      exact ⟨_, .ref C0, _, .ref C0, _, rfl, .own C0, tyD_v R1 r1 et, hT t, PQ.now h1 R1 (by simp only [Rep])⟩
    · exact h1.elim
end

/-! ### x[i] -/
def dIxO (n : Str) (F : Fm) : Op2 := fun a b S => if isOwn a S = some n then oneOf (F [a, b] S) else none
section
variable {cm : Cm} {X : Cx} {k : Nat} {n : Str} {F : Fm} {ea eb : Expr} {fa fb : E D} {pos : Pos}
theorem re_ixO (M : MethM X.prog X.w X.K X.mg X.base cm k n "__getitem__" F) (hfi : ∀ C f, cm.cls n = some C → PySem.W.findIn X.K (.ref C) "__getitem__" = some (some (.ref f)) → PySem.W.fnIn X.K f = true) (hr : Room (k + 1) X.A) (ha : RE cm X ea fa) (hb : RE cm X eb fb)
    (hsl : ∀ o i, subscripted eb true o i = runValue (.builtin "lifetime.subscript" ⟨[o, i], []⟩)) : RE cm X (.Subscript ea eb pos) (m2 (dIxO n F) fa fb) := fun W tk m S H σ en Q C h => by
  obtain ⟨C1, f, fd, ps, hc, ho1, hm, hk, hF, hbd, hbad, hkp⟩ := M
  refine wE_of (t := fun σ H Q => wE X ea σ H fun x H1 => wE X eb σ H1 fun y H2 => ∃ a b S2 m2, RelS (ct X cm) m2 S2 H2 ∧ Rep (ct X cm) m2 S2 H2 a x ∧ Rep (ct X cm) m2 S2 H2 b y ∧ isOwn a S2 = some n ∧ PD (ct X cm) m2 S2 H2 (F [a, b] S2) Q fun _ _ _ => False) ⟨fun pins s σ H Q I h => ?_⟩ ?_
  · refine Subscript_ (binT pe_w pe_w I h fun v u s2 x y H2 I2 rx ry q => ?_)
    obtain ⟨a, b, S2, m2, R2, r1, r2, o1, q⟩ := q
    obtain ⟨aa, CC, dx, fs, rfl, hc2, h1⟩ := own_v R2 r1 o1
    obtain rfl : C1 = CC := Option.some.inj (hc.symm.trans hc2)
    obtain rfl : v = Value.ref aa := rx
    obtain ⟨mA, Om, _, _, _, _⟩ := ins_get I2.hok h1
    obtain ⟨od, J, _⟩ := Om.look
    obtain ⟨mm, hFr⟩ := I2.fr
    refine PySem.W.sub_K hFr I2.ok.mod.kin J hm (hfi C1 f hc hm) hk (run_in1 (vs := [.ref aa, y]) hF hr hbd I2 (.cons rfl (.cons ry .nil)) ⟨?_, m2, S2, [a, b], R2, Reps.cons r1 (Reps.cons r2 Reps.nil), q⟩) (hsl _ _)
    show 2 = ps.length
    by_cases e : [a, b].length = ps.length
    · exact e
    · rw [hbad _ S2 e] at q
      exact q.elim
  · refine ha W tk m S H σ en _ C (PQ.bind h fun a S1 x m1 H1 e1 A1 R1 r1 h1 => ?_)
    refine hb W tk m1 S1 H1 σ en _ (C.adv A1 R1) (PQ.bind h1 fun b S2 y m2 H2 e2 A2 R2 r2 h2 => ?_)
    have h3 := h2.pok
    unfold dIxO at h3
    split at h3
    · rename_i c
      exact ⟨a, b, S2, m2, R2, Rep.adv A2 _ _ r1, r2, c, pd_of h3⟩
    · exact h3.no.elim
end

/-! ### self.f = e, in __init__ -/
def sFput (f : Str) (fv fo : E D) : T := fun en S => (fv en S).bind fun v S1 => (fo en S1).bind fun o S2 => match o with
  | .ref n => match S2[n]? with
    | some (some (.ins c ks l)) => if ks.contains f = false ∧ ks.length < 1000 then .ok (.nx en) (S2.set n (some (.ins c (ks ++ [f]) (l ++ [v])))) else .bad
    | _ => .bad
  | _ => .bad
theorem putF_new {f : Str} {v : V} : ∀ {fs : List (Str × V)}, (fs.map (·.1)).contains f = false → putF f v fs = fs ++ [(f, v)]
  | [], _ => rfl
  | p :: fs, e => by
    obtain ⟨g, u⟩ := p
    simp only [List.map_cons, List.contains_cons, Bool.or_eq_false_iff] at e
    have ne : g ≠ f := fun z => by
      have := e.1
      rw [z] at this
      simp at this
    unfold putF
    rw [if_neg ne, putF_new e.2]
    rfl
section
variable {cm : Cm} {X : Cx} {o value : Expr} {fo fv : E D} {f : Str} {pos pos' : Pos}
theorem rs_fput (hn : NoAt X.K cm f) (hv : RE cm X value fv) (ho : RE cm X o fo) (hs : swapsWith value (some (.Attribute o f pos')) pos.line X.env = pure false := by rfl) : RS cm X (.Assign [.Attribute o f pos'] value pos) (sFput f fv fo) := fun W tk m S H σ en D C h => by
  refine wS_of (ps_fld pe_w pe_w hs) (hv W tk m S H σ en _ C (PF.bind h fun d S1 y m1 H1 e1 A1 R1 r1 k1 => ?_))
  refine ho W tk m1 S1 H1 σ en _ (C.adv A1 R1) (PF.bind k1 fun d2 S2 x m2 H2 e2 A2 R2 r2 k2 => ?_)
  split at k2
  · rename_i n
    split at k2
    · rename_i c ks l e
      split at k2
      · rename_i hc
        simp only [Rep] at r2
        obtain ⟨C2, dx, fs, hC, h1, h2, h3⟩ := R2.at_ n _ e
        obtain ⟨q1, q2⟩ := hn c C2 hC
        subst h2
        refine ⟨m2.p n, C2, dx, fs, r2.2, h1, q1, q2, by have := hc.2; rw [List.length_map] at this; exact this, ?_⟩
        rw [putF_new hc.1]
        obtain ⟨A, R'⟩ := cell_w (o' := .ins c (fs.map (·.1) ++ [f]) (l ++ [d])) (u := .ins C2 dx (fs ++ [(f, y)])) R2 e fun K => ⟨C2, dx, _, hC, upd_same, by simp, by
          rw [List.map_append]
          exact Reps.kp K _ _ (h3.append (Reps.cons (Rep.adv A2 _ _ r1) Reps.nil))⟩
        exact k2 _ _ _ A (((C.adv A1 R1).adv A2 R2).adv A R')
      · exact k2.elim
    · exact k2.elim
  · exact k2.elim
end

/-! ### C(e, .., k = v, ..) -/
/-- how its arguments come to __init__: n positional values, keywords named ks -/
structure MkB (K : PySem.W.Frag) (ct : Ct) (fd : FuncData) (ps : List Str) (n : Nat) (ks : List Str) (G : List D → List D → List D) : Prop where
  ex : ∃ g gV, KBn K fd ps (n + 1) ks g gV ∧ ∀ m S H ds zs vs ws, Reps ct m S H ds vs → Reps ct m S H zs ws → ds.length = n + 1 → zs.length = ks.length → Reps ct m S H (G ds zs) (gV vs ws)
/-- the class x, its __init__: F; b: one way to call it -/
def MakeM (P : Program) (w : World) (K : PySem.W.Frag) (mg : Str → Option Value) (base : Heap) (cm : Cm) (k : Nat) (x : Str) (F : Fm) (n : Nat) (ks : List Str) (G : List D → List D → List D) : Prop :=
  ∃ C f fd ps, cm.cls x = some C ∧ mg x = some (.ref C) ∧ Mk K C f ∧ FnOk P w K mg base (L2.CX P w) k f fd ps (spF ⟨K, cm.cls, cm.exc⟩ ps.length F) ∧ (∀ ds S, ds.length ≠ ps.length → F ds S = .bad) ∧ MkB K ⟨K, cm.cls, cm.exc⟩ fd ps n ks G
theorem MakeM.mono {P : Program} {w : World} {K : PySem.W.Frag} {mg : Str → Option Value} {base : Heap} {cm : Cm} {j k : Nat} {x : Str} {F : Fm} {n : Nat} {ks : List Str} {G : List D → List D → List D} (h : MakeM P w K mg base cm j x F n ks G) (l : j ≤ k) : MakeM P w K mg base cm k x F n ks G :=
  let ⟨C, f, fd, ps, a, b, c, d, e⟩ := h
  ⟨C, f, fd, ps, a, b, c, d.mono l, e⟩
def madeM (n : Nat) (en : En) : R D → R D
  | .ok .non S' => .ok (frz (.ref n) S').1 (frz (.ref n) S').2
  | .err x _ S' => .err x en S'
  | _ => .bad
def mMake (x : Str) (F : Fm) (G : List D → List D → List D) (k kk : Nat) (fa fk : E (List D)) : E D := fun en S => (fa en S).bind fun ds S1 => (fk en S1).bind fun zs S2 =>
  if ds.length = k ∧ zs.length = kk then madeM S2.length en (F (G (.ref S2.length :: ds) zs) (S2 ++ [some (.ins x [] [])])) else .bad
def wK (X : Cx) (kws : List Keyword) : TA := fun σ H Q => ∀ pos pins s, Inv X pins σ H s → wpAny (model X.prog X.w) X.A (evalAll ((backToKw pos (keywordEach kws X.env)).map (·.2))) (AP X pins σ Q) X.xe s
theorem pk_w {X : Cx} {kws : List Keyword} : PK X kws (wK X kws) := ⟨fun pos pins s _ _ _ I h => h pos pins s I⟩
theorem wK_of {X : Cx} {kws : List Keyword} {t : TA} {σ : St} {H : Hp} {Q : List V → Hp → Prop} (h : PK X kws t) (q : t σ H Q) : wK X kws σ H Q := fun pos pins s I => h.run pos pins s σ H Q I q
def RK (cm : Cm) (X : Cx) (kws : List Keyword) (f : E (List D)) : Prop := ∀ W, Takes X W → ∀ m S H σ en Q, Cond (ct X cm) m S H σ en → PQ (Reps (ct X cm)) (ct X cm) m S H σ W (f en S) Q → wK X kws σ H Q
section
variable {cm : Cm} {X : Cx} {k n : Nat} {x : Str} {F : Fm} {G : List D → List D → List D} {e : Expr} {es : List Expr} {kws : List Keyword} {ks : List Str} {f : E D} {fa fk g : E (List D)} {p pos kpos : Pos} {nm : Option Str}
theorem rk_nil : RK cm X [] aNil := fun W tk m S H σ en Q C h => wK_of pk_nil (h.now C.rel Reps.nil)
theorem rk_cons (h1 : RE cm X e f) (h2 : RK cm X kws g) : RK cm X (⟨nm, e, kpos⟩ :: kws) (aCons f g) := fun W tk m S H σ en Q C h => by
  refine wK_of (pk_cons pe_w pk_w) ?_
  refine h1 W tk m S H σ en _ C (PQ.bind h fun d S1 x m1 H1 e1 A1 R1 r1 k1 => ?_)
  refine h2 W tk m1 S1 H1 σ en _ (C.adv A1 R1) (PQ.bind k1 fun l S2 xs m2 H2 e2 A2 R2 r2 k2 => ?_)
  exact PQ.now k2 R2 (Reps.cons (Rep.adv A2 _ _ r1) r2)
/-- what is asked at the class's call -/
def tMk (X : Cx) (cm : Cm) (x : Str) (F : Fm) (G : List D → List D → List D) (nk : Nat) (W : WX) (en : En) (n : Nat) (σ : St) (Q : VK) (vs zs : List V) (H : Hp) : Prop := ∃ m S ds dz, RelS (ct X cm) m S H ∧ Reps (ct X cm) m S H ds vs ∧ Reps (ct X cm) m S H dz zs ∧ Cond (ct X cm) m S H σ en ∧ ds.length = n ∧ dz.length = nk ∧
  PQ (Rep (ct X cm)) (ct X cm) m S H σ W (madeM S.length en (F (G (.ref S.length :: ds) dz) (S ++ [some (.ins x [] [])]))) Q
theorem run_mk {W : WX} (tk : Takes X W) {C f : Addr} {fd : FuncData} {ps : List Str} (hc : cm.cls x = some C) (M : Mk X.K C f) (hF : FnOk X.prog X.w X.K X.mg X.base (L2.CX X.prog X.w) k f fd ps (spF ⟨X.K, cm.cls, cm.exc⟩ ps.length F)) (hbad : ∀ ds S, ds.length ≠ ps.length → F ds S = .bad)
    (B : MkB X.K ⟨X.K, cm.cls, cm.exc⟩ fd ps n ks G) (hr : Room (k + 1) X.A) {pins : List (Addr × Obj)} {σ : St} {en : En} {H : Hp} {s : Shared} {Q : VK} {us ws : List Value} {vs zs : List V} (I : Inv X pins σ H s) (r : Vals vs us) (rz : Vals zs ws) (q : tMk X cm x F G ks.length W en n σ Q vs zs H) :
    wpAny (model X.prog X.w) X.A (call (.ref C) us (ks.zip ws)) (EP X pins σ Q) X.xe s := by
  obtain ⟨g, gV, hb, hG⟩ := B.ex
  obtain ⟨m, S, ds, dz, R, rd, rdz, Cn, l1, l2, q⟩ := q
  have hx := I.hok.fresh (Nat.le_succ s.heap.objs.size)
  have hdx := I.hok.fresh (Nat.le_refl s.heap.objs.size)
  have I2 := Inv.made (C := C) I
  have r1 : Vals (V.ref (s.heap.objs.size + 1) :: vs) (Value.ref (s.heap.objs.size + 1) :: us) := .cons rfl r
  have r2 := hb.rel r1 rz
  have n1 : (Value.ref (s.heap.objs.size + 1) :: us).length = n + 1 := by
    rw [List.length_cons, ← r.length, ← rd.length, l1]
  have n2 : ws.length = ks.length := by rw [← rz.length, ← rdz.length, l2]
  generalize hdxe : s.heap.objs.size = dx at hx hdx I2 r1 r2 n1
  have hne : dx ≠ dx + 1 := Nat.ne_of_lt (Nat.lt_succ_self _)
  have A0 : Adv m S H m S (upd H dx (.own (dx + 1))) := Adv.new hdx
  have R0 := R.grow (grow_upd (o := .own (dx + 1)) hdx)
  have hx0 : upd H dx (.own (dx + 1)) (dx + 1) = none := by rw [upd_ne (Ne.symm hne)]; exact hx
  have A1 : Adv m S (upd H dx (.own (dx + 1))) (m.put S.length (dx + 1)) (S ++ [some (.ins x [] [])]) (upd (upd H dx (.own (dx + 1))) (dx + 1) (.ins C dx [])) := new_adv hx0
  have R1 : RelS (ct X cm) (m.put S.length (dx + 1)) (S ++ [some (.ins x [] [])]) (upd (upd H dx (.own (dx + 1))) (dx + 1) (.ins C dx [])) := new_cell R0 hx0 fun m' S' H' A e => ⟨C, dx, [], hc, e, rfl, Reps.nil⟩
  have A2 := A0.trans A1
  have rs : Reps (ct X cm) (m.put S.length (dx + 1)) (S ++ [some (.ins x [] [])]) (upd (upd H dx (.own (dx + 1))) (dx + 1) (.ins C dx [])) (G (.ref S.length :: ds) dz) (gV (V.ref (dx + 1) :: vs) zs) :=
    hG _ _ _ _ _ _ _ (Reps.cons (by simp [Rep, Am.put]) (Reps.adv A2 _ _ rd)) (Reps.adv A2 _ _ rdz) (by rw [List.length_cons, l1]) l2
  have hp : PD (ct X cm) (m.put S.length (dx + 1)) (S ++ [some (.ins x [] [])]) (upd (upd H dx (.own (dx + 1))) (dx + 1) (.ins C dx [])) (F (G (.ref S.length :: ds) dz) (S ++ [some (.ins x [] [])])) (fun v H2 => v = .non ∧ Q (.ref (dx + 1)) H2) (WE W σ) := by
    revert q
    cases F (G (.ref S.length :: ds) dz) (S ++ [some (.ins x [] [])]) with
    | bad => exact fun q => q
    | err y en' S' => exact fun q cls dd m' H' A' R' rx => q cls dd m' H' (A2.trans A') (Cn.adv (A2.trans A') R') rx
    | ok d S' =>
      cases d with
      | non =>
        intro q v m' H' A' R' r'
        simp only [Rep] at r'
        have rx : Rep (ct X cm) m' S' H' (.ref S.length) (.ref (dx + 1)) := by
          simp only [Rep]
          have hl : S.length < (S ++ [some (Ob.ins x [] [])]).length := by simp
          refine ⟨Nat.lt_of_lt_of_le hl A'.len, ?_⟩
          rw [A'.mm _ hl]
          simp [Am.put]
        obtain ⟨A3, R3, r3⟩ := frz_ok R' rx
        exact ⟨r', q (.ref (dx + 1)) m' H' ((A2.trans A').trans A3) R3 r3⟩
      | _ => exact fun q => q.elim
  have hl : (G (.ref S.length :: ds) dz).length = ps.length := by
    by_cases e : (G (.ref S.length :: ds) dz).length = ps.length
    · exact e
    · rw [hbad _ _ e] at hp
      exact hp.elim
  have hsp : spF ⟨X.K, cm.cls, cm.exc⟩ ps.length F (gV (V.ref (dx + 1) :: vs) zs) (upd (upd H dx (.own (dx + 1))) (dx + 1) (.ins C dx [])) (fun v H2 => v = .non ∧ Q (.ref (dx + 1)) H2) (WE W σ) := ⟨by rw [← rs.length]; exact hl, _, _, _, R1, rs, hp⟩
  subst hdxe
  refine wpAny_call (make_map (f := f) I.kIn M.makes M.init (beq_iff_eq.mp M.fn) (codeAny_mono (hF.run _ X.stack _ _ ⟨Value.ref (s.heap.objs.size + 1) :: us, ks.zip ws⟩ (g (Value.ref (s.heap.objs.size + 1) :: us) ws) _ _ (WE W σ) (hr.make C us (ks.zip ws))
    (I2.env0.make C us (ks.zip ws)) (hb.to _ (Value.ref (s.heap.objs.size + 1) :: us) ws I2.kIn n1 n2) r2 hsp) fun r s' hq' => ?_))
  cases r with
  | error e => exact passAt tk σ pins _ _ e s' I2 hq'
  | ok fl =>
    cases fl with
    | ret u =>
      obtain ⟨v, H', I3, rv, ev, q3⟩ := I2.after hq'
      subst ev
      exact ⟨rv, ⟨V.ref (s.heap.objs.size + 1), H', I3, rfl, q3⟩⟩
    | next => exact False.elim hq'
    | brk => exact False.elim hq'
    | cont => exact False.elim hq'
/-- C(e, .., k = v, ..) -/
theorem re_make (M : MakeM X.prog X.w X.K X.mg X.base cm k x F n ks G) (hr : Room (k + 1) X.A) (hg : Gl X x) (ha : RA cm X (e :: es) fa) (hk : RK cm X kws fk)
    (hall : (backToKw pos (keywordEach kws X.env)).all (·.1.isSome) = true := by rfl) (hks : (backToKw pos (keywordEach kws X.env)).filterMap (·.1) = ks := by rfl) (hdb : (x == ("__debug__" : Str)) = false := by decide)
    (he : starEach (e :: es) X.env = (false, eval e X.env) :: starEach es X.env := by rfl) (hpl : ((backTo pos (starEach (e :: es) X.env)).any (·.1) || (backToKw pos (keywordEach kws X.env)).any (·.1.isNone)) = false := by rfl) :
    RE cm X (.Call (.Name x p) (e :: es) kws pos) (mMake x F G n ks.length fa fk) := fun W tk m S H σ en Q C h => by
  obtain ⟨C1, f, fd, ps, hc, hm, Mk1, hF, hbad, B⟩ := M
  refine wE_of (t := fun σ H Q => wA X (e :: es) σ H fun vs H1 => wK X kws σ H1 fun zs H2 => tMk X cm x F G ks.length W en n σ Q vs zs H2) ⟨fun pins s σ H Q I h => ?_⟩ ?_
  · refine wpAny_Call_Name_kw (ld_glob I hg hm ?_ hdb)
    refine PySem.W.callWith_KW (h₀ := X.base) I.ok.mod.kin Mk1.kp hall (thn (pa_w.run pos pins s σ H _ I h) fun us s1 hh => ?_) hpl he
    obtain ⟨vs, H1, I1, r, q⟩ := hh
    refine thn (pk_w.run pos pins s1 σ H1 _ I1 q) fun ws s2 hh => ?_
    obtain ⟨zs, H2, I2, rz, q2⟩ := hh
    refine ⟨I2.kIn, ?_⟩
    rw [hks]
    exact run_mk tk hc Mk1 hF hbad B hr I2 r rz q2
  · refine ha W tk m S H σ en _ C (PQ.bind h fun ds S1 vs m1 H1 e1 A1 R1 r1 h1 => ?_)
    refine hk W tk m1 S1 H1 σ en _ (C.adv A1 R1) (PQ.bind h1 fun dz S2 zs m2 H2 e2 A2 R2 r2 h2 => ?_)
    split at h2
    · rename_i hl
      exact ⟨m2, S2, ds, dz, R2, Reps.adv A2 _ _ r1, r2, (C.adv A1 R1).adv A2 R2, hl.1, hl.2, h2⟩
    · exact h2.elim
theorem re_makeK (M : MakeM X.prog X.w X.K X.mg X.base cm k x F 0 ks G) (hr : Room (k + 1) X.A) (hg : Gl X x) (hk : RK cm X kws fk)
    (hall : (backToKw pos (keywordEach kws X.env)).all (·.1.isSome) = true := by rfl) (hks : (backToKw pos (keywordEach kws X.env)).filterMap (·.1) = ks := by rfl) (hdb : (x == ("__debug__" : Str)) = false := by decide)
    (hpl : ((backTo pos (starEach [] X.env)).any (·.1) || (backToKw pos (keywordEach kws X.env)).any (·.1.isNone)) = false := by rfl) :
    RE cm X (.Call (.Name x p) [] kws pos) (mMake x F G 0 ks.length aNil fk) := fun W tk m S H σ en Q C h => by
  obtain ⟨C1, f, fd, ps, hc, hm, Mk1, hF, hbad, B⟩ := M
  refine wE_of (t := fun σ H Q => wK X kws σ H fun zs H2 => tMk X cm x F G ks.length W en 0 σ Q [] zs H2) ⟨fun pins s σ H Q I h => ?_⟩ ?_
  · refine wpAny_Call_Name_kw (ld_glob I hg hm ?_ hdb)
    refine PySem.W.callWith_KW0 (h₀ := X.base) I.ok.mod.kin Mk1.kp hall ?_ hpl
    refine thn (pk_w.run pos pins s σ H _ I h) fun ws s2 hh => ?_
    obtain ⟨zs, H2, I2, rz, q2⟩ := hh
    refine ⟨I2.kIn, ?_⟩
    rw [hks]
    exact run_mk (us := []) (vs := []) tk hc Mk1 hF hbad B hr I2 .nil rz q2
  · have h0 : PQ (Rep (ct X cm)) (ct X cm) m S H σ W ((fk en S).bind fun zs S2 => if ([] : List D).length = 0 ∧ zs.length = ks.length then madeM S2.length en (F (G (.ref S2.length :: []) zs) (S2 ++ [some (.ins x [] [])])) else .bad) Q := h
    refine hk W tk m S H σ en _ C (PQ.bind h0 fun dz S2 zs m2 H2 e2 A2 R2 r2 h2 => ?_)
    split at h2
    · rename_i hl
      exact ⟨m2, S2, [], dz, R2, Reps.nil, r2, C.adv A2 R2, rfl, hl.2, h2⟩
    · exact h2.elim
/-- C() -/
theorem re_make0 (M : MakeM X.prog X.w X.K X.mg X.base cm k x F 0 [] G) (hr : Room (k + 1) X.A) (hg : Gl X x) (hdb : (x == ("__debug__" : Str)) = false := by decide) :
    RE cm X (.Call (.Name x p) [] [] pos) (mMake x F G 0 0 aNil aNil) := fun W tk m S H σ en Q C h => by
  obtain ⟨C1, f, fd, ps, hc, hm, Mk1, hF, hbad, B⟩ := M
  refine wE_of (t := fun σ H Q => tMk X cm x F G 0 W en 0 σ Q [] [] H) ⟨fun pins s σ H Q I h => ?_⟩ ?_
  · refine wpAny_Call_Name_kw (ld_glob I hg hm ?_ hdb)
    exact PySem.W.callWith_K0 I.kIn Mk1.kp (run_mk (us := []) (vs := []) (ws := []) (zs := []) tk hc Mk1 hF hbad B hr I .nil .nil h)
  · exact ⟨m, S, [], [], C.rel, Reps.nil, Reps.nil, C, rfl, rfl, h⟩
end
end Mi

/-! MiD: dicts: displays, dict(pairs), get, walked, sorted. -/
namespace Mi
open PySem PySem.Spec PyProof.Rows L2

/-! ### merging -/
def mergeKD (acc : List Key × List D) (kds : List (Key × D)) : List Key × List D := kds.foldl (fun a kd => putKD a.1 a.2 kd.1 kd.2) acc
theorem putKD_mem {k k' : Key} {v : D} : ∀ {ks : List Key} {l : List D}, k' ∈ (putKD ks l k v).1 → k' ∈ ks ∨ k' = k
  | [], l, h => by
    simp only [putKD, List.nil_append, List.mem_singleton] at h
    exact .inr h
  | q :: ks, [], h => by
    simp only [putKD, List.mem_append, List.mem_singleton] at h
    exact h
  | q :: ks, d :: l, h => by
    unfold putKD at h
    split at h
    · exact .inl h
    · rcases List.mem_cons.mp h with z | z
      · exact .inl (by rw [z]; exact List.mem_cons_self ..)
      · rcases putKD_mem z with z | z
        · exact .inl (List.mem_cons_of_mem _ z)
        · exact .inr z
theorem putKD_nodup {k : Key} {v : D} : ∀ {ks : List Key} {l : List D}, ks.length = l.length → ks.Nodup → (putKD ks l k v).1.Nodup ∧ (putKD ks l k v).1.length = (putKD ks l k v).2.length
  | [], [], _, _ => by simp [putKD]
  | q :: ks, d :: l, e, nd => by
    simp only [List.length_cons, Nat.add_right_cancel_iff] at e
    unfold putKD
    split
    · exact ⟨nd, by simp [e]⟩
    · rename_i hq
      obtain ⟨n1, n2⟩ := List.nodup_cons.mp nd
      obtain ⟨i1, i2⟩ := putKD_nodup (k := k) (v := v) e n2
      refine ⟨List.nodup_cons.mpr ⟨fun z => ?_, i1⟩, by simp [i2]⟩
      rcases putKD_mem z with z | z
      · exact n1 z
      · exact hq z
theorem mergeKD_v {ct : Ct} {m : Am} {S : So} {H : Hp} : ∀ {kds : List (Key × D)} {kvs kvs0 : List (Key × V)} {ks : List Key} {l : List D}, kvs.map (·.1) = kds.map (·.1) → Reps ct m S H (kds.map (·.2)) (kvs.map (·.2)) → kvs0.map (·.1) = ks → Reps ct m S H l (kvs0.map (·.2)) → ks.Nodup →
    (mergeK kvs0 kvs).map (·.1) = (mergeKD (ks, l) kds).1 ∧ Reps ct m S H (mergeKD (ks, l) kds).2 ((mergeK kvs0 kvs).map (·.2))
  | [], kvs, kvs0, ks, l, e, _, e0, r0, _ => by
    have : kvs = [] := by simpa using e
    subst this
    exact ⟨e0, r0⟩
  | kd :: kds, [], _, _, _, e, _, _, _, _ => by simp at e
  | kd :: kds, kv :: kvs, kvs0, ks, l, e, r, e0, r0, nd => by
    simp only [List.map_cons, List.cons.injEq] at e
    simp only [List.map_cons, Reps] at r
    obtain ⟨v, r', ev, r1, r2⟩ := r
    cases ev
    obtain ⟨g1, g2⟩ := putKD_v r1 (k := kd.1) nd e0 r0
    have hl : ks.length = l.length := by
      rw [← e0, List.length_map, r0.length, List.length_map]
    have := mergeKD_v (kds := kds) (kvs := kvs) (kvs0 := putK kvs0 kd.1 kv.2) (ks := (putKD ks l kd.1 kd.2).1) (l := (putKD ks l kd.1 kd.2).2) e.2 r2 g1 g2 (putKD_nodup hl nd).1
    unfold mergeK mergeKD at this ⊢
    simp only [List.foldl_cons]
    rw [e.1]
    exact this

/-! ### {} -/
def mDct0 : E D := fun _ S => .ok (.dct [] []) S
def mDctN : E D := fun _ S => .ok (.ref S.length) (S ++ [some (.dct [] [])])
section
variable {cm : Cm} {X : Cx} {pos : Pos}
theorem re_dct0 : RE cm X (.Dict [] [] pos) mDct0 := fun W tk m S H σ en Q C h => by
  refine wE_of pe_dnewK fun p hp => ?_
  refine PQ.grown h C.rel (grow_upd hp) fun R => ?_
  simp only [Rep]
  exact ⟨p, [], rfl, .inl upd_same, C.rel.free_new hp, rfl, Reps.nil⟩
theorem re_dctN : RE cm X (.Dict [] [] pos) mDctN := fun W tk m S H σ en Q C h => by
  refine wE_of pe_dnewK fun p hp => ?_
  exact PQ.cell h C.rel hp fun m' S' H' A e => ⟨[], e, rfl, Reps.nil⟩
end

/-! ### {k: v, ..} -/
def mPairs : List (E D × E D) → E (List (D × D))
  | [] => fun _ S => .ok [] S
  | p :: r => fun en S => (p.1 en S).bind fun k S1 => (p.2 en S1).bind fun v S2 => (mPairs r en S2).bind fun l S3 => .ok ((k, v) :: l) S3
def keysD : List (D × D) → Option (List (Key × D))
  | [] => some []
  | p :: r => match keyOf p.1, keysD r with
    | some k, some l => some ((k, p.2) :: l)
    | _, _ => none
def mDct (prs : List (E D × E D)) : E D := fun en S => (mPairs prs en S).bind fun l S1 => match keysD l with
  | some kds => if l.length ≤ 15 then .ok (.dct (mergeKD ([], []) kds).1 (mergeKD ([], []) kds).2) S1 else .bad
  | none => .bad
def rPairs (ct : Ct) : Rp (List (D × D)) (List (V × V)) := fun m S H l ps => Reps ct m S H (l.map (·.1)) (ps.map (·.1)) ∧ Reps ct m S H (l.map (·.2)) (ps.map (·.2))
theorem keysD_v {ct : Ct} {m : Am} {S : So} {H : Hp} : ∀ {l : List (D × D)} {ps : List (V × V)} {kds : List (Key × D)}, keysD l = some kds → rPairs ct m S H l ps →
    ∃ kvs : List (Key × V), ps = kvs.map (fun kv => (kV kv.1, kv.2)) ∧ kvs.map (·.1) = kds.map (·.1) ∧ Reps ct m S H (kds.map (·.2)) (kvs.map (·.2)) ∧ kvs.length = l.length
  | [], ps, kds, e, r => by
    simp only [keysD, Option.some.injEq] at e
    subst e
    have := r.1.length
    have e0 : ps = [] := List.eq_nil_of_length_eq_zero (by simpa using this.symm)
    subst e0
    exact ⟨[], rfl, rfl, Reps.nil, rfl⟩
  | p :: l, [], _, _, r => by
    have := r.1.length
    simp at this
  | p :: l, q :: ps, kds, e, r => by
    unfold keysD at e
    split at e
    · rename_i k l' e1 e2
      simp only [Option.some.injEq] at e
      subst e
      obtain ⟨r1, r2⟩ := r
      simp only [List.map_cons, Reps] at r1 r2
      obtain ⟨v, r', ev, a1, a2⟩ := r1
      cases ev
      obtain ⟨v, r', ev, b1, b2⟩ := r2
      cases ev
      obtain ⟨kvs, g1, g2, g3, g4⟩ := keysD_v e2 ⟨a2, b2⟩
      refine ⟨(k, q.2) :: kvs, ?_, by simp [g2], Reps.cons b1 g3, by simp [g4]⟩
      rw [List.map_cons, ← g1, ← key_v a1 e1]
    · cases e
theorem hidU_adv {m m1 : Am} {S S1 : So} {H H1 : Hp} {a : Addr} {u : HO} (A : Adv m S H m1 S1 H1) (h : H a = none) : Adv m S H m1 S1 (upd H1 a u) where
  len := A.len
  mm := A.mm
  al := A.al
  fr := fun b o e f => by unfold Sm; rw [upd_ne (ne_of_none e h)]; exact A.fr b o e f
  tr := fun b e z => by
    by_cases c : b = a
    · subst c; rw [upd_same] at z; cases z
    · rw [upd_ne c] at z; exact A.tr b e z
  tp := fun b xs e => by rw [upd_ne (ne_of_none e h)]; exact A.tp b xs e
  fz := fun b o u e => by rw [upd_ne (ne_of_none e h)]; exact A.fz b o u e
  hd1 := A.hd1
  hd2 := A.hd2
  hd3 := fun b o z e => by rw [upd_ne (ne_of_none e h)]; exact A.hd3 b o z e
theorem hidU_kp {m : Am} {S : So} {H : Hp} {a : Addr} {u v : HO} (hh : m.hid a) (e : H a = some v) (n1 : ∀ zs, v ≠ .tup zs) (n2 : ∀ o w, v ≠ .frz o w) : Kp m S H m S (upd H a u) := by
  refine ⟨fun b o q f => ⟨?_, f⟩, fun b zs q => ?_, fun b o w q => ?_, Nat.le_refl _, fun _ _ => rfl⟩
  · unfold Sm; rw [upd_ne fun z => f.2 (by rw [z]; exact hh)]; exact .inl q
  · rw [upd_ne fun z => by subst z; rw [e] at q; exact n1 _ (Option.some.inj q)]; exact q
  · rw [upd_ne fun z => by subst z; rw [e] at q; exact n2 _ _ (Option.some.inj q)]; exact q
theorem hidU_rel {ct : Ct} {m : Am} {S : So} {H : Hp} {a : Addr} {u v : HO} (R : RelS ct m S H) (hh : m.hid a) (o : Off m S a) (e : H a = some v) (n1 : ∀ zs, v ≠ .tup zs) (n2 : ∀ o w, v ≠ .frz o w) : RelS ct m S (upd H a u) := by
  refine ⟨fun n w q => (R.at_ n w q).kp (hidU_kp hh e n1 n2) (upd_ne (o n w q)), R.inj, fun b z => ?_, R.hoff⟩
  by_cases c : b = a
  · subst c; rw [upd_same]; exact fun q => by cases q
  · rw [upd_ne c]; exact R.hid b z
/-- the pairs of a display -/
def RDs (cm : Cm) (X : Cx) (pos : Pos) (keys : List (Option Expr)) (values : List Expr) (prs : List (E D × E D)) : Prop := ∃ trs, PPs X pos keys values trs ∧ ∀ W, Takes X W → ∀ m S H σ en Q, Cond (ct X cm) m S H σ en → PQ (rPairs (ct X cm)) (ct X cm) m S H σ W (mPairs prs en S) Q → tPairs trs σ H Q
section
variable {cm : Cm} {X : Cx} {pos : Pos} {keys : List (Option Expr)} {values : List Expr} {prs : List (E D × E D)} {k v : Expr} {fk fv : E D}
theorem rds_nil : RDs cm X pos [] [] [] := ⟨[], pps_nil, fun W tk m S H σ en Q C h => h.now C.rel ⟨Reps.nil, Reps.nil⟩⟩
theorem rds_cons (hk : RE cm X k fk) (hv : RE cm X v fv) (hr : RDs cm X pos keys values prs) : RDs cm X pos (some k :: keys) (v :: values) ((fk, fv) :: prs) := by
  obtain ⟨trs, hp, hr⟩ := hr
  refine ⟨(wE X k, wE X v) :: trs, pps_cons pe_w pe_w hp, fun W tk m S H σ en Q C h => ?_⟩
  have h : PQ (rPairs (ct X cm)) (ct X cm) m S H σ W ((fk en S).bind fun k S1 => (fv en S1).bind fun v S2 => (mPairs prs en S2).bind fun l S3 => .ok ((k, v) :: l) S3) Q := h
  refine hk W tk m S H σ en _ C (PQ.bind h fun d1 S1 x m1 H1 e1 A1 R1 r1 h1 => ?_)
  refine hv W tk m1 S1 H1 σ en _ (C.adv A1 R1) (PQ.bind h1 fun d2 S2 y m2 H2 e2 A2 R2 r2 h2 => ?_)
  refine hr W tk m2 S2 H2 σ en _ ((C.adv A1 R1).adv A2 R2) (PQ.bind h2 fun l S3 ps m3 H3 e3 A3 R3 r3 h3 => ?_)
  exact PQ.now h3 R3 ⟨Reps.cons (Rep.adv A3 _ _ (Rep.adv A2 _ _ r1)) r3.1, Reps.cons (Rep.adv A3 _ _ r2) r3.2⟩
theorem re_dct (hd : RDs cm X pos keys values prs) (hall : keys.all (·.isSome) = true := by rfl) (hl : keys.length = values.length := by rfl) (h0 : keys ≠ [] := by exact fun z => by cases z) (h15 : keys.length ≤ 15 := by decide) : RE cm X (.Dict keys values pos) (mDct prs) := fun W tk m S H σ en Q C h => by
  obtain ⟨trs, hp, hr⟩ := hd
  refine wE_of (pe_disp hp hall hl h0 h15) ?_
  intro p hn
  have A0 : Adv m S H (m.hide p) S (upd H p (.dK [])) := hide_adv hn
  have R0 : RelS (ct X cm) (m.hide p) S (upd H p (.dK [])) := hide_rel C.rel hn
  refine hr W tk (m.hide p) S _ σ en _ (C.adv A0 R0) ?_
  unfold mDct at h
  revert h
  cases mPairs prs en S with
  | bad => exact fun h => h
  | err x en' S' => exact fun h c d m' H' A C X => h c d m' H' (A0.trans A) C X
  | ok l S1 =>
    intro h ps m1 H1 A1 R1 r1
    simp only [R.bind_ok] at h
    split at h
    · rename_i kds ek
      split at h
      · rename_i hz
        obtain ⟨kvs, g1, g2, g3, g4⟩ := keysD_v ek r1
        have hp1 : H1 p = some (.dK []) := A1.hd3 p _ (.inr rfl) upd_same
        refine ⟨hp1, kvs, g1, by rw [g4]; exact hz, ?_⟩
        have A2 : Adv m S H m1 S1 H1 := A0.trans A1
        have off : Off m1 S1 p := A1.off upd_same (C.rel.off_new hn : Off m S p)
        have hid : m1.hid p := A1.hd1 p (.inr rfl)
        have K2 := hidU_kp (S := S1) (u := .dK (mergeK [] kvs)) hid hp1 (fun _ z => by cases z) (fun _ _ z => by cases z)
        have R2 : RelS (ct X cm) m1 S1 (upd H1 p (.dK (mergeK [] kvs))) := hidU_rel R1 hid off hp1 (fun _ z => by cases z) (fun _ _ z => by cases z)
        have A3 : Adv m S H m1 S1 (upd H1 p (.dK (mergeK [] kvs))) := hidU_adv A2 hn
        obtain ⟨m1', m2'⟩ := mergeKD_v (kvs0 := []) (ks := []) (l := []) g2 (Reps.kp K2 _ _ g3) rfl Reps.nil List.nodup_nil
        refine h (.ref p) (m1.show m) _ (show_adv A3) (show_rel A3 R2) ?_
        simp only [Rep]
        exact ⟨p, _, rfl, .inl upd_same, ⟨off, fun z => C.rel.hid p z hn⟩, m1', Reps.kp (show_kp A3) _ _ m2'⟩
      · exact h.elim
    · exact h.elim
end

/-! ### dict([(k, v), ..]) -/
def pairsD : List D → Option (List (Key × D))
  | [] => some []
  | .tup [k, v] :: l => match keyOf k, pairsD l with
    | some k, some r => some ((k, v) :: r)
    | _, _ => none
  | _ => none
def bDict : OpL := fun l S => match l with
  | [d] => match lstOf d S with
    | some l => match pairsD l with
      | some kds => some (.dct (mergeKD ([], []) kds).1 (mergeKD ([], []) kds).2, S)
      | none => none
    | none => none
  | _ => none
theorem pairsD_v {ct : Ct} {m : Am} {S : So} {H : Hp} : ∀ {l : List D} {kds : List (Key × D)} {vs : List V}, pairsD l = some kds → Reps ct m S H l vs →
    ∃ (ps : List Addr) (kvs : List (Key × V)), vs = ps.map V.ref ∧ Paired (fun p kv => SqT ct.K H p [kV kv.1, kv.2]) ps kvs ∧ kvs.map (·.1) = kds.map (·.1) ∧ Reps ct m S H (kds.map (·.2)) (kvs.map (·.2))
  | [], kds, vs, e, r => by
    simp only [pairsD, Option.some.injEq] at e
    subst e
    simp only [Reps] at r
    subst r
    exact ⟨[], [], rfl, .nil, rfl, Reps.nil⟩
  | d :: l, kds, vs, e, r => by
    unfold pairsD at e
    split at e
    · rename_i e0; cases e0
    · rename_i k v l' e0
      cases e0
      split at e
      · rename_i k' r' e1 e2
        simp only [Option.some.injEq] at e
        subst e
        simp only [Reps] at r
        obtain ⟨u, vs', rfl, h1, h2⟩ := r
        simp only [Rep] at h1
        obtain ⟨a, us, rfl, h3, h4⟩ := h1
        obtain ⟨x, y, rfl, h5, h6⟩ := reps2 h4
        obtain ⟨ps, kvs, g1, g2, g3, g4⟩ := pairsD_v e2 h2
        refine ⟨a :: ps, (k', y) :: kvs, by rw [g1]; rfl, .cons (by rw [key_v h5 e1] at h3; exact h3) g2, by simp [g3], Reps.cons h6 g4⟩
      · cases e
    · cases e
theorem cd_dict {cm : Cm} {X : Cx} (hc : X.calm = true) : CallD cm X (.type "dict") bDict := fun m S H ds vs Q R r h => by
  unfold bDict at h
  split at h
  · split at h
    · rename_i l el
      split at h
      · rename_i kds ek
        obtain ⟨x, rfl, rx⟩ := reps1 r
        obtain ⟨a, ws, rfl, h1, h2⟩ := lst_at R rx el
        obtain ⟨ps, kvs, g1, g2, g3, g4⟩ := pairsD_v ek h2
        subst g1
        refine rW_of (call_dictP hc) ⟨a, ps, kvs, rfl, .inl (.inl h1), g2, fun p hp => ?_⟩
        obtain ⟨m1', m2'⟩ := mergeKD_v (kvs0 := []) (ks := []) (l := []) g3 g4 rfl Reps.nil List.nodup_nil
        refine h.at (Adv.new hp) (R.grow (grow_upd hp)) ?_
        simp only [Rep]
        exact ⟨p, _, rfl, .inl upd_same, R.free_new hp, m1', Reps.adv (Adv.new hp) _ _ m2'⟩
      · exact h.no.elim
    · exact h.no.elim
  · exact h.no.elim

/-! ### d.get(k, x) -/
def mGet (fo fi fd : E D) : E D := fun en S => (fo en S).bind fun d S1 => match dctOf d S1 with
  | some _ => (fi en S1).bind fun i S2 => (fd en S2).bind fun z S3 => match dctOf d S3, keyOf i with
    | some (ks, l), some k => .ok ((lookK ks l k).getD z) S3
    | _, _ => .bad
  | none => .bad
theorem re_get {cm : Cm} {X : Cx} {o e f : Expr} {fo fi fd : E D} {apos cpos : Pos} (hu : X.A.units + 1 < cLine) (ho : RE cm X o fo) (he : RE cm X e fi) (hf : RE cm X f fd)
    (hb : attributeBase o "get" X.env (eval o X.env) = eval o X.env := by rfl)
    (hw : ((backTo cpos (starEach [e, f] X.env)).all (fun x => !x.1) && (backToKw cpos (keywordEach [] X.env)).all (fun x => x.1.isSome)
      && decide (([e, f] : List Expr).length + ([] : List Keyword).length + (if ([] : List Keyword).isEmpty then 0 else 1) < 30)) = true := by rfl)
    (hl : (apos.endLine == cpos.line) = true := by rfl) (ht : backTo cpos (starEach [e, f] X.env) = [(false, eval e X.env), (false, eval f X.env)] := by rfl) :
    RE cm X (.Call (.Attribute o "get" apos) [e, f] [] cpos) (mGet fo fi fd) := fun W tk m S H σ en Q C h => by
  refine wE_of (pe_dget2 hu pe_w pe_w pe_w ⟨hb, hw, hl, ht⟩) ?_
  refine ho W tk m S H σ en _ C (PQ.bind h fun d S1 x m1 H1 e1 A1 R1 r1 h1 => ?_)
  split at h1
  · rename_i kl ed
    obtain ⟨a, kvs, rfl, g1, g2, g3⟩ := dct_at R1 r1 ed
    refine ⟨a, rfl, .inl ⟨kvs, g1⟩, ?_⟩
    refine he W tk m1 S1 H1 σ en _ (C.adv A1 R1) (PQ.bind h1 fun i S2 y m2 H2 e2 A2 R2 r2 h2 => ?_)
    refine hf W tk m2 S2 H2 σ en _ ((C.adv A1 R1).adv A2 R2) (PQ.bind h2 fun z S3 w m3 H3 e3 A3 R3 r3 h3 => ?_)
    split at h3
    · rename_i ks l k ed3 ek
      have r13 := Rep.adv A3 _ _ (Rep.adv A2 _ _ r1)
      obtain ⟨a', kvs', ea, g1', g2', g3'⟩ := dct_at R3 r13 ed3
      cases ea
      have ey := key_v r2 ek
      subst ey
      refine ⟨valV kvs' k, .inl ⟨kvs', k, g1', rfl, rfl⟩, PQ.now h3 R3 ?_⟩
      rcases look_v (k := k) g2' g3' with ⟨q1, q2⟩ | ⟨dv, v, q1, q2, q3⟩
      · rw [q1, q2]
        exact r3
      · rw [q1, q2]
        exact q3
    · exact h3.elim
  · exact h1.elim

/-! ### for k in d, for k, v in d.items(): d a value -/
def kD : Key → D
  | .inl i => .int i
  | .inr x => .str x
theorem kD_v {ct : Ct} {m : Am} {S : So} {H : Hp} : ∀ k : Key, Rep ct m S H (kD k) (kV k)
  | .inl i => by simp only [kD, Rep]; rfl
  | .inr x => by simp only [kD, Rep]; rfl
def iKeysV (f : E D) : E Src := fun en S => (f en S).bind fun d S1 => match d with
  | .dct ks _ => .ok ⟨none, ks.map kD⟩ S1
  | _ => .bad
def itemsD (ks : List Key) (l : List D) : List D := (ks.zip l).map fun p => .tup [kD p.1, p.2]
def iItemsV (f : E D) : E Src := fun en S => (f en S).bind fun d S1 => match d with
  | .dct ks l => .ok ⟨none, itemsD ks l⟩ S1
  | _ => .bad
/-- the dict is locked for good -/
def tLk (te : TE) : TE := fun σ H Q => te σ H fun x H1 => ∃ d kvs, x = .ref d ∧ ((∃ o, H1 d = some (.frz o (.dK kvs)) ∧ Q x H1) ∨ (H1 d = some (.dK kvs) ∧ ∀ o, Q x (upd H1 d (.frz o (.dK kvs)))))
theorem pe_lk {X : Cx} {e : Expr} {te : TE} (he : PE X e te) : PE X e (tLk te) := by
  refine ⟨fun pins s σ H Q I h => ?_⟩
  refine thn (he.run pins s σ H _ I h) fun u s1 hh => ?_
  obtain ⟨x, H1, I1, rx, d, kvs, ex, hq⟩ := hh
  subst ex
  rcases hq with ⟨o, h1, q⟩ | ⟨h1, q⟩
  · exact ⟨_, H1, I1, rx, q⟩
  · obtain ⟨od, I2⟩ := I1.lock h1 trivial
    exact ⟨_, _, I2, rx, q od⟩
section
variable {ct : Ct} {m : Am} {S : So} {H : Hp} {d : Addr} {kvs : List (Key × V)} {o : Obj}
theorem lk_adv (h : H d = some (.dK kvs)) (f : Free m S d) (R : RelS ct m S H) : Adv m S H m S (upd H d (.frz o (.dK kvs))) ∧ RelS ct m S (upd H d (.frz o (.dK kvs))) := by
  have A : Adv m S H m S (upd H d (.frz o (.dK kvs))) := by
    refine ⟨Nat.le_refl _, fun _ _ => rfl, fun n u e => .inl ⟨(List.getElem?_eq_some_iff.mp e).1, u, e⟩, fun a u e g => ?_, fun a e z => ?_, fun a xs e => ?_, fun a u w e => ?_, fun _ z => z, fun _ z => .inl z, fun a u z e => ?_⟩
    · by_cases c : a = d
      · subst c
        rw [h] at e
        cases e
        exact .inr ⟨kvs, o, rfl, upd_same⟩
      · exact .inl (by rw [upd_ne c]; exact e)
    · by_cases c : a = d
      · subst c; rw [upd_same] at z; cases z
      · rw [upd_ne c] at z; exact e z
    · rw [upd_ne fun c => by subst c; rw [h] at e; cases e]; exact e
    · rw [upd_ne fun c => by subst c; rw [h] at e; cases e]; exact e
    · rw [upd_ne fun c => by subst c; exact f.2 z]; exact e
  exact ⟨A, R.adv A fun n u e => upd_ne (f.1 n u e)⟩
end
section
variable {cm : Cm} {X : Cx} {tg e : Expr} {fe : E D}
theorem walk_lk {m : Am} {S : So} {H : Hp} {ks : List Key} {l : List D} {x : V} {W : WX} {σ : St} {src : Src} {Q : It → Hp → Prop} {J : Addr → Obj → List (Key × V) → It} (R : RelS (ct X cm) m S H) (r : Rep (ct X cm) m S H (.dct ks l) x) (h : PQ (rJ (ct X cm)) (ct X cm) m S H σ W (.ok src S) Q)
    (hw : ∀ d o kvs H', Adv m S H m S H' → RelS (ct X cm) m S H' → H' d = some (.frz o (.dK kvs)) → kvs.map (·.1) = ks → Reps (ct X cm) m S H' l (kvs.map (·.2)) → WalkJ (ct X cm) (J d o kvs) src m S H') :
    ∃ d kvs, x = .ref d ∧ ((∃ o, H d = some (.frz o (.dK kvs)) ∧ Q (J d o kvs) H) ∨ (H d = some (.dK kvs) ∧ ∀ o, Q (J d o kvs) (upd H d (.frz o (.dK kvs))))) := by
  simp only [Rep] at r
  obtain ⟨a, kvs, rfl, h1, f, g2, g3⟩ := r
  refine ⟨a, kvs, rfl, ?_⟩
  rcases h1 with h1 | ⟨o, h1⟩
  · refine .inr ⟨h1, fun o => ?_⟩
    obtain ⟨A, R'⟩ := lk_adv (o := o) h1 f R
    exact h _ m _ A R' (hw a o kvs _ A R' upd_same g2 (Reps.adv A _ _ g3))
  · exact .inl ⟨o, h1, h _ m _ Adv.refl R (hw a o kvs _ Adv.refl R h1 g2 g3)⟩
theorem ri_keysV (h : RE cm X e fe) : RI cm X tg e (iKeysV fe) := fun W tk m S H σ en R C hq => by
  refine wI_of (pi_keys (pe_lk pe_w)) ?_
  refine h W tk m S H σ en _ C (PQ.bind hq fun d S1 x m1 H1 e1 A1 R1 r1 h1 => ?_)
  split at h1
  · rename_i ks l
    obtain ⟨d, kvs, rfl, q⟩ := walk_lk (J := Itk) R1 r1 h1 fun d o kvs H' A R h1 g2 g3 m' S' H2 A' R' st => by
      have h2 : H2 d = some (.frz o (.dK kvs)) := A'.fz _ _ _ h1
      subst g2
      refine ⟨fun i dd ed => ⟨⟨h2, ?_⟩, fun x H3 y => ?_⟩, ⟨h2, by simp⟩⟩
      · have := (List.getElem?_eq_some_iff.mp ed).1
        simpa using this
      · obtain ⟨rfl, k, v, ek, rfl⟩ := y
        simp only [List.getElem?_map, ek, Option.map_some, Option.some.injEq] at ed
        subst ed
        exact ⟨fun _ _ h => h, kD_v _⟩
    refine ⟨d, kvs, rfl, ?_⟩
    rcases q with ⟨o, q1, q2⟩ | ⟨q1, q2⟩
    · exact .inl ⟨o, q1, d, o, rfl, .inl ⟨kvs, q1, q2⟩⟩
    · exact .inr ⟨q1, fun o => ⟨d, o, rfl, .inl ⟨kvs, upd_same, q2 o⟩⟩⟩
  · exact h1.elim
theorem ri_itemsV {elts : List Expr} {kk : Nat} {tpos apos cpos : Pos} (h : RE cm X e fe) (hbase : attributeBase e "items" X.env (eval e X.env) = eval e X.env := by rfl) (hline : (apos.endLine == cpos.line) = true := by rfl) :
    RI cm X (.Tuple elts kk tpos) (.Call (.Attribute e "items" apos) [] [] cpos) (iItemsV fe) := fun W tk m S H σ en R C hq => by
  refine wI_of (pi_items (pe_lk pe_w) hbase hline) ?_
  refine h W tk m S H σ en _ C (PQ.bind hq fun d S1 x m1 H1 e1 A1 R1 r1 h1 => ?_)
  split at h1
  · rename_i ks l
    obtain ⟨d, kvs, rfl, q⟩ := walk_lk (J := Iti) R1 r1 h1 fun d o kvs H' A R h1 g2 g3 m' S' H2 A' R' st => by
      have h2 : H2 d = some (.frz o (.dK kvs)) := A'.fz _ _ _ h1
      have g4 := Reps.adv A' _ _ g3
      subst g2
      have hl : l.length = kvs.length := by have := g3.length; simpa using this
      have hn : (itemsD (kvs.map (·.1)) l).length = kvs.length := by simp [itemsD, hl]
      refine ⟨fun i dd ed => ⟨⟨h2, ?_⟩, fun x H3 y => ?_⟩, ⟨h2, by rw [hn]; exact Nat.le_refl _⟩⟩
      · have := (List.getElem?_eq_some_iff.mp ed).1
        rw [hn] at this
        exact this
      · obtain ⟨T, k, v, ek, rfl, hT, rfl⟩ := y
        have ev : (kvs.map (·.2))[i]? = some v := by rw [List.getElem?_map, ek]; rfl
        obtain ⟨dv, ed2, rv⟩ := g4.get' ev
        have e2 : dd = .tup [kD k, dv] := by
          unfold itemsD at ed
          have e3 : ((kvs.map (·.1)).zip l)[i]? = some (k, dv) := List.getElem?_zip_eq_some.mpr ⟨by rw [List.getElem?_map, ek]; rfl, ed2⟩
          rw [List.getElem?_map, e3] at ed
          simpa using ed.symm
        subst e2
        refine ⟨grow_upd hT, ?_⟩
        simp only [Rep]
        exact ⟨T, _, rfl, .inl (.inl upd_same), Reps.cons (kD_v _) (Reps.cons (Rep.adv (Adv.new hT) _ _ rv) Reps.nil)⟩
    refine ⟨d, kvs, rfl, ?_⟩
    rcases q with ⟨o, q1, q2⟩ | ⟨q1, q2⟩
    · exact .inl ⟨o, q1, d, o, kvs, rfl, q1, q2⟩
    · exact .inr ⟨q1, fun o => ⟨d, o, kvs, rfl, upd_same, q2 o⟩⟩
  · exact h1.elim
end
end Mi

/-! MiE: sorted, zip and enumerate of tuples, a tuple of the module. -/
namespace Mi
open PySem PySem.Spec PyProof.Rows L2

/-! ### order of texts -/
def leS (a b : Str) : Prop := ltCps b.cps.toList a.cps.toList = false
theorem lt_irr : ∀ a : List Nat, ltCps a a = false
  | [] => rfl
  | a :: r => by
    show (decide (a < a) || (a == a && ltCps r r)) = false
    rw [lt_irr r]
    simp
theorem lt_anti : ∀ {a b : List Nat}, ltCps a b = false → ltCps b a = false → a = b
  | [], [], _, _ => rfl
  | [], b :: t, h, _ => by cases h
  | a :: r, [], _, h => by cases h
  | a :: r, b :: t, h, k => by
    have h : (decide (a < b) || (a == b && ltCps r t)) = false := h
    have k : (decide (b < a) || (b == a && ltCps t r)) = false := k
    simp only [Bool.or_eq_false_iff, decide_eq_false_iff_not, Bool.and_eq_false_iff, beq_eq_false_iff_ne] at h k
    have e : a = b := by omega
    subst e
    rcases h.2 with z | z
    · exact absurd rfl z
    · rcases k.2 with y | y
      · exact absurd rfl y
      · rw [lt_anti z y]
theorem lt_tr : ∀ {a b c : List Nat}, ltCps b a = false → ltCps c b = false → ltCps c a = false
  | [], [], [], _, _ => rfl
  | [], b :: t, [], _, h => by cases h
  | [], [], c :: u, _, _ => rfl
  | [], b :: t, c :: u, _, _ => rfl
  | a :: r, [], c, h, _ => by cases h
  | a :: r, b :: t, [], _, h => by cases h
  | a :: r, b :: t, c :: u, h, k => by
    have h : (decide (b < a) || (b == a && ltCps t r)) = false := h
    have k : (decide (c < b) || (c == b && ltCps u t)) = false := k
    show (decide (c < a) || (c == a && ltCps u r)) = false
    simp only [Bool.or_eq_false_iff, decide_eq_false_iff_not, Bool.and_eq_false_iff, beq_eq_false_iff_ne] at h k ⊢
    refine ⟨by omega, ?_⟩
    by_cases e : c = a
    · have e1 : b = a := by omega
      have e2 : c = b := by omega
      refine .inr (lt_tr (h.2.resolve_left fun z => z e1) (k.2.resolve_left fun z => z e2))
    · exact .inl e
theorem leS_anti {a b : Str} (h : leS a b) (k : leS b a) : a = b := by
  have e := lt_anti k h
  cases a; cases b
  simp only [Str.mk.injEq]
  exact Array.toList_inj.mp e
theorem leS_tr {a b c : Str} (h : leS a b) (k : leS b c) : leS a c := lt_tr h k
theorem rising_pw : ∀ {l : List Str} {p : Str}, risingS p l = true → (p :: l).Pairwise leS
  | [], p, _ => List.pairwise_singleton ..
  | x :: l, p, h => by
    simp only [risingS, Bool.and_eq_true, Bool.not_eq_true'] at h
    have i := rising_pw h.2
    refine List.pairwise_cons.mpr ⟨fun y hy => ?_, i⟩
    rcases List.mem_cons.mp hy with e | hy
    · rw [e]; exact h.1
    · exact leS_tr h.1 ((List.pairwise_cons.mp i).1 y hy)
theorem sortedS_pw {l : List Str} (h : sortedS l = true) : l.Pairwise leS := by
  cases l with
  | nil => exact .nil
  | cons x l => exact rising_pw h
def insS (x : Str) : List Str → List Str
  | [] => [x]
  | y :: l => if ltCps y.cps.toList x.cps.toList = false then x :: y :: l else y :: insS x l
def srtS (l : List Str) : List Str := l.foldr insS []
theorem insS_perm (x : Str) : ∀ l : List Str, (insS x l).Perm (x :: l)
  | [] => .refl _
  | y :: l => by
    unfold insS
    split
    · exact .refl _
    · exact ((insS_perm x l).cons y).trans (.swap x y l)
theorem srtS_perm : ∀ l : List Str, (srtS l).Perm l
  | [] => .refl _
  | x :: l => (insS_perm x (srtS l)).trans ((srtS_perm l).cons x)
theorem lt_tot : ∀ {a b : List Nat}, ltCps a b = true → ltCps b a = false
  | [], [], h => by cases h
  | [], b :: t, _ => rfl
  | a :: r, [], h => by cases h
  | a :: r, b :: t, h => by
    have h : (decide (a < b) || (a == b && ltCps r t)) = true := h
    show (decide (b < a) || (b == a && ltCps t r)) = false
    simp only [Bool.or_eq_true, decide_eq_true_eq, Bool.and_eq_true, beq_iff_eq, Bool.or_eq_false_iff, decide_eq_false_iff_not, Bool.and_eq_false_iff, beq_eq_false_iff_ne] at h ⊢
    rcases h with h | h
    · exact ⟨by omega, .inl (by omega)⟩
    · exact ⟨by omega, .inr (lt_tot h.2)⟩
theorem insS_pw (x : Str) : ∀ {l : List Str}, l.Pairwise leS → (insS x l).Pairwise leS
  | [], _ => List.pairwise_singleton ..
  | y :: l, h => by
    obtain ⟨h1, h2⟩ := List.pairwise_cons.mp h
    unfold insS
    split
    · rename_i c
      refine List.pairwise_cons.mpr ⟨fun z hz => ?_, h⟩
      rcases List.mem_cons.mp hz with e | hz
      · rw [e]; exact c
      · exact leS_tr (b := y) c (h1 z hz)
    · rename_i c
      refine List.pairwise_cons.mpr ⟨fun z hz => ?_, insS_pw x h2⟩
      rcases List.mem_cons.mp ((insS_perm x l).mem_iff.mp hz) with e | hz
      · rw [e]
        exact lt_tot (by simpa using c)
      · exact h1 z hz
theorem srtS_pw : ∀ l : List Str, (srtS l).Pairwise leS
  | [] => .nil
  | x :: l => insS_pw x (srtS_pw l)
theorem srtS_eq {l ys : List Str} (p : ys.Perm l) (h : sortedS ys = true) : ys = srtS l := List.Perm.eq_of_pairwise (le := leS) (fun _ _ _ _ => leS_anti) (sortedS_pw h) (srtS_pw l) (p.trans (srtS_perm l).symm)
def insI (x : Int) : List Int → List Int
  | [] => [x]
  | y :: l => if x ≤ y then x :: y :: l else y :: insI x l
def srtI (l : List Int) : List Int := l.foldr insI []
theorem insI_perm (x : Int) : ∀ l : List Int, (insI x l).Perm (x :: l)
  | [] => .refl _
  | y :: l => by
    unfold insI
    split
    · exact .refl _
    · exact ((insI_perm x l).cons y).trans (.swap x y l)
theorem srtI_perm : ∀ l : List Int, (srtI l).Perm l
  | [] => .refl _
  | x :: l => (insI_perm x (srtI l)).trans ((srtI_perm l).cons x)
theorem insI_pw (x : Int) : ∀ {l : List Int}, l.Pairwise (· ≤ ·) → (insI x l).Pairwise (· ≤ ·)
  | [], _ => List.pairwise_singleton ..
  | y :: l, h => by
    obtain ⟨h1, h2⟩ := List.pairwise_cons.mp h
    unfold insI
    split
    · rename_i c
      refine List.pairwise_cons.mpr ⟨fun z hz => ?_, h⟩
      rcases List.mem_cons.mp hz with e | hz
      · rw [e]; exact c
      · have := h1 z hz; omega
    · rename_i c
      refine List.pairwise_cons.mpr ⟨fun z hz => ?_, insI_pw x h2⟩
      rcases List.mem_cons.mp ((insI_perm x l).mem_iff.mp hz) with e | hz
      · omega
      · exact h1 z hz
theorem srtI_pw : ∀ l : List Int, (srtI l).Pairwise (· ≤ ·)
  | [] => .nil
  | x :: l => insI_pw x (srtI_pw l)
theorem srtI_eq {l ys : List Int} (p : ys.Perm l) (h : ys.Pairwise (· ≤ ·)) : ys = srtI l := List.Perm.eq_of_pairwise (le := (· ≤ ·)) (fun _ _ _ _ a b => Int.le_antisymm a b) h (srtI_pw l) (p.trans (srtI_perm l).symm)

/-! ### sorted(d), sorted([texts]) -/
def textsK : List Key → Option (List Str)
  | [] => some []
  | .inr x :: l => (textsK l).map (x :: ·)
  | _ => none
def intsK : List Key → Option (List Int)
  | [] => some []
  | .inl x :: l => (intsK l).map (x :: ·)
  | _ => none
theorem textsK_eq : ∀ {ks : List Key} {l : List Str}, textsK ks = some l → ks = l.map Sum.inr
  | [], l, h => by simp only [textsK, Option.some.injEq] at h; subst h; rfl
  | .inr x :: ks, l, h => by
    simp only [textsK, Option.map_eq_some_iff] at h
    obtain ⟨l', h1, rfl⟩ := h
    rw [textsK_eq h1]
    rfl
  | .inl x :: ks, l, h => by simp [textsK] at h
theorem intsK_eq : ∀ {ks : List Key} {l : List Int}, intsK ks = some l → ks = l.map Sum.inl
  | [], l, h => by simp only [intsK, Option.some.injEq] at h; subst h; rfl
  | .inl x :: ks, l, h => by
    simp only [intsK, Option.map_eq_some_iff] at h
    obtain ⟨l', h1, rfl⟩ := h
    rw [intsK_eq h1]
    rfl
  | .inr x :: ks, l, h => by simp [intsK] at h
def bSorted : OpL := fun l S => match l with
  | [d] => match dctOf d S with
    | some (ks, _) => match textsK ks with
      | some xs => if xs.length < 64 then some (.lst ((srtS xs).map D.str), S) else none
      | none => match intsK ks with
        | some xs => if xs.length < 64 then some (.lst ((srtI xs).map D.int), S) else none
        | none => none
    | none => match lstOf d S with
      | some l => match strsOf l with
        | some xs => if xs.length < 64 then some (.lst ((srtS xs).map D.str), S) else none
        | none => none
      | none => none
  | _ => none
section
variable {cm : Cm} {X : Cx}
theorem cd_sorted (hc : X.calm = true) : CallD cm X (.builtin "sorted") bSorted := fun m S H ds vs Q R r h => by
  have strs' : ∀ {m : Am} {S : So} {H : Hp} (l : List Str), Reps (ct X cm) m S H (l.map D.str) (l.map V.str) := fun l => reps_map (fun a => by simp only [Rep]) l
  unfold bSorted at h
  split at h
  · obtain ⟨x, rfl, rx⟩ := reps1 r
    split at h
    · rename_i ks l0 ed
      obtain ⟨a, kvs, rfl, h1, h2, h3⟩ := dct_at R rx ed
      subst h2
      split at h
      · rename_i xs ex
        split at h
        · rename_i hz
          refine rW_of (call_sortedD hc) ⟨a, kvs, xs, rfl, h1, textsK_eq ex, hz, fun ys p hp hs hn => ?_⟩
          rw [srtS_eq hp hs]
          exact h.lst R hn (strs' _)
        · exact h.no.elim
      · split at h
        · rename_i xs ex
          split at h
          · rename_i hz
            refine rW_of (call_sortedDI hc) ⟨a, kvs, xs, rfl, h1, intsK_eq ex, hz, fun ys p hp hs hn => ?_⟩
            rw [srtI_eq hp hs]
            exact h.lst R hn (reps_ints _)
          · exact h.no.elim
        · exact h.no.elim
    · split at h
      · rename_i l el
        split at h
        · rename_i xs ex
          split at h
          · rename_i hz
            obtain ⟨a, ws, rfl, h1, h2⟩ := lst_at R rx el
            have := reps_strs ex h2
            subst this
            refine rW_of cr_sortedS ⟨a, xs, rfl, .inl (.inl h1), hz, fun ys p hp hs hn => ?_⟩
            rw [srtS_eq hp hs]
            exact h.lst R hn (strs' _)
          · exact h.no.elim
        · exact h.no.elim
      · exact h.no.elim
  · exact h.no.elim
end

/-! ### zip(t, u) of tuples -/
def iZipT (fa : E (List D)) : E Src := fun en S => (fa en S).bind fun l S1 => match l with
  | [.tup a, .tup b] => .ok ⟨none, (a.zip b).map fun p => .tup [p.1, p.2]⟩ S1
  | _ => .bad
theorem ri_zipT {cm : Cm} {X : Cx} {e e2 : Expr} {fa : E (List D)} {p pos tpos : Pos} {elts : List Expr} {kk : Nat} (hg : Gl X "zip") (hm : X.mg "zip" = none) (ha : RA cm X [e, e2] fa)
    (hs : starEach [e, e2] X.env = (false, eval e X.env) :: starEach [e2] X.env := by rfl) (hpl : (backTo pos (starEach [e2] X.env)).any (·.1) = false := by rfl) :
    RI cm X (.Tuple elts kk tpos) (.Call (.Name "zip" p) [e, e2] [] pos) (iZipT fa) := fun W tk m S H σ en R C hq => by
  refine wI_of (RZ.pi_zipA hg hm pa_w hs hpl) ?_
  refine ha W tk m S H σ en _ C (PQ.bind hq fun l S1 vs m1 H1 e1 A1 R1 r1 h1 => ?_)
  split at h1
  · rename_i as bs
    obtain ⟨x, y, rfl, rx, ry⟩ := reps2 r1
    simp only [Rep] at rx ry
    obtain ⟨a, xs, rfl, q1, q2⟩ := rx
    obtain ⟨b, ys, rfl, g1, g2⟩ := ry
    refine ⟨a, b, xs, ys, rfl, .inr ⟨q1, g1, PQ.now h1 R1 ?_⟩⟩
    intro m' S' H' A' R' st
    have k1 := SqT.adv A' q1
    have k2 := SqT.adv A' g1
    have r2 := Reps.adv A' _ _ q2
    have r3 := Reps.adv A' _ _ g2
    refine ⟨fun i d ed => ?_, ⟨xs, ys, k1, k2, ?_⟩⟩
    · simp only [List.getElem?_map, Option.map_eq_some_iff] at ed
      obtain ⟨pr, e2, rfl⟩ := ed
      obtain ⟨u, v⟩ := pr
      obtain ⟨eu, ev⟩ := List.getElem?_zip_eq_some.mp e2
      obtain ⟨x1, f1, f2⟩ := r2.get eu
      obtain ⟨y1, f3, f4⟩ := r3.get ev
      refine ⟨⟨xs, ys, x1, y1, k1, k2, f1, f3⟩, fun x H2 z => ?_⟩
      obtain ⟨T, x2, y2, rfl, hT, rfl, z1, z2⟩ := z
      have w1 := z1 xs k1
      have w2 := z2 ys k2
      rw [f1] at w1
      rw [f3] at w2
      cases w1
      cases w2
      refine ⟨grow_upd hT, ?_⟩
      simp only [Rep]
      exact ⟨T, _, rfl, .inl (.inl upd_same), Reps.cons (Rep.adv (Adv.new hT) _ _ f2) (Reps.cons (Rep.adv (Adv.new hT) _ _ f4) Reps.nil)⟩
    · show xs.length ≤ ((as.zip bs).map _).length ∨ ys.length ≤ ((as.zip bs).map _).length
      rw [List.length_map, List.length_zip, q2.length, g2.length]
      omega
  · exact h1.elim

/-! ### enumerate(t) of a tuple -/
set_option maxHeartbeats 4000000 in
theorem meets_enum1B {v : Value} {o : Obj} {H : Heap → Prop} (B : Begins v o H) :
    Meets (Builtin.«enumerate.__new__» ⟨[.type "enumerate", v], []⟩) (fun _ R s => H s.heap ∧
      R (.ok (.ret (.ref (s.heap.push o).objs.size))) { s with heap := (s.heap.push o).push { cls := .type "enumerate", data := .fields #[.none, .bool false, .ref s.heap.objs.size, rawInt 0, .none, .none] } }) :=
  .of_wp fun prog w A R s h => by
    obtain ⟨hp, g, d, tk, os⟩ := s; obtain ⟨h1, h⟩ := h
    have hsub := sub_enumerate
    have q1 : ∀ {A' : Around} {E : Value → Shared → Prop} {Q : Value → Shared → Prop}, Q (.ref hp.objs.size) ⟨hp.push o, g, d, tk, os⟩ → wpAny (model prog w) A' (pyIter v) Q E ⟨hp, g, d, tk, os⟩ :=
      fun q => B.iter prog w _ _ ⟨hp, g, d, tk, os⟩ _ h1 q
    wp_walk using q1
    refine wpAny_stack_any fun st => wpAny_pure ?_
    split
    · rename_i c _ _ _ _ _
      cases (c == Value.type "enumerate")
      · wp_walk using q1
        exact ⟨_, rfl, h⟩
      · wp_walk using q1
        exact ⟨_, rfl, h⟩
    · wp_walk using q1
      exact ⟨_, rfl, h⟩
theorem enum1_begins {prog : Program} {w : World} {A : Around} {E : Value → Shared → Prop} {s : Shared} {v : Value} {o : Obj} {H : Heap → Prop} {Q : Value → Shared → Prop} (B : Begins v o H) (h1 : H s.heap)
    (h : ∀ h', IsEnum h' (s.heap.objs.size + 1) s.heap.objs.size 0 .none → h'.get? s.heap.objs.size = some o → h'.objs.size = s.heap.objs.size + 2 →
      (∀ b o, s.heap.get? b = some o → h'.get? b = some o) → Q (.ref (s.heap.objs.size + 1)) { s with heap := h' }) :
    wpAny (model prog w) A (call (.type "enumerate") [v]) Q E s := by
  refine callType_new F.called_enumerate (by decide) (F.typeCall_enumerate_1 _) (F.newCall_enumerate_1 _) (fun obj => F.args_object_init_2 obj _) F.entry_enumerate_new (meets_enum1B B) ⟨h1, ?_⟩
  have hz : (s.heap.push o).objs.size = s.heap.objs.size + 1 := Heap.size_push ..
  show _ ∧ _
  rw [hz]
  have he : IsEnum ((s.heap.push o).push { cls := .type "enumerate", data := .fields #[.none, .bool false, .ref s.heap.objs.size, rawInt 0, .none, .none] }) (s.heap.objs.size + 1) s.heap.objs.size 0 .none := by
    have := Heap.get?_push_size (s.heap.push o) (o := { cls := .type "enumerate", data := .fields #[.none, .bool false, .ref s.heap.objs.size, rawInt 0, .none, .none] }) rfl
    rw [hz] at this; exact this
  refine ⟨⟨_, he, rfl⟩, h _ he (Heap.get?_push_of_some _ (Heap.get?_push_size _ B.free)) (by rw [Heap.size_push, hz]) fun b o x => Heap.get?_push_of_some _ (Heap.get?_push_of_some _ x)⟩
/-- the tuple at a, each item in a new pair with its place -/
def IteT (K : PySem.W.Frag) (a : Addr) : It :=
  ⟨fun i H => ∃ (xs : List V) (x : V), SqT K H a xs ∧ xs[i]? = some x, fun i H v H' => ∃ T x, v = .ref T ∧ H T = none ∧ H' = upd H T (.tup [.int (i : Nat), x]) ∧ ∀ xs, SqT K H a xs → xs[i]? = some x, fun i H => ∃ xs : List V, SqT K H a xs ∧ xs.length ≤ i⟩
theorem turn_enumT {P : Program} {w : World} {K : PySem.W.Frag} {elts : List Expr} {kk : Nat} {tpos : Pos} (a e it : Addr) :
    Turn P w K (.Tuple elts kk tpos) (IteT K a) [e, it] e (fun i h => (∃ old, IsEnum h e it ((i : Nat) : Int) old) ∧ h.IsTupleIter it a i ∧ e ≠ it ∧ a ≠ it ∧ e ≠ a) where
  mem := by simp
  obj := fun i h st b hb => by
    obtain ⟨⟨old, he⟩, ⟨o, ho, hc, hd⟩, _⟩ := st
    have e' : b = e ∨ b = it := by simpa using hb
    rcases e' with z | z
    · rw [z]; exact ⟨_, he, fun v q => nomatch q⟩
    · rw [z]; exact ⟨o, ho, fun v q => by rw [hd] at q; cases q⟩
  keep := fun i h h' st k => let ⟨⟨old, he⟩, hi, hne⟩ := st; ⟨⟨old, k e (by simp) _ he⟩, hi.at fun o q => k it (by simp) o q, hne⟩
  item := by
    intro X hP hw hK hc i pins s σ H E I hf st hg
    subst hP hw hK
    obtain ⟨⟨old, he⟩, hit, hne, hai, hea⟩ := st
    obtain ⟨xs, x, hq, hx⟩ := hg
    obtain ⟨its, rv, p, hz⟩ := I.tuple hq
    obtain ⟨u, hu, ru⟩ := rv.get hx
    have hel : e < s.heap.objs.size := Heap.lt_size he
    have hil : it < s.heap.objs.size := by obtain ⟨_, q, _⟩ := hit; exact Heap.lt_size q
    have hlt : i < its.toArray.size := by
      have := (List.getElem?_eq_some_iff.mp hu).1
      simpa using this
    refine wpAny_pyNext_enum_itemD (n := its.toArray.size) (Draws.tuple (A := X.A.in1) (prog := X.prog) (w := X.w) (show X.A.in1.handled = none from I.ok.hd hc) it a hai its.toArray) he ⟨hit, p⟩ hlt hne (by simp [hne, hea]) fun x' h' tk hP ho hst' hT hsz hk => ?_
    obtain rfl : u = x' := by
      have : its.toArray[i]? = some u := by simpa using hu
      rw [this] at hP
      exact Option.some.inj hP
    refine ⟨_, rfl, wpAny_letOwnedTupleGo_enum (s := { s with heap := h', toks := tk + 1 }) ho fun h'' he' sb => ?_⟩
    have hT2 : h''.get? s.heap.objs.size = some { cls := .type "tuple", data := .seq #[.int i tk, u] } := (sb.2 _ (Nat.ne_of_gt hel)).trans hT
    have new : ObjOk X.prog X.w (upd H s.heap.objs.size (.tup [.int (i : Nat), x])) h'' s.heap.objs.size (.tup [.int (i : Nat), x]) :=
      ⟨by show 2 ≤ sizeLine; decide, [.int i tk, u], .cons ⟨_, rfl⟩ (.cons ru .nil), ⟨_, hT2, rfl, _, rfl⟩⟩
    have I1 : Inv X pins σ (upd H s.heap.objs.size (.tup [.int (i : Nat), x])) { s with heap := h'', toks := tk + 1 } :=
      I.turnedNew (ch := [e, it]) (fun b ob hb q => (sb.2 b (fun z => hb (by simp [z]))).trans (hk b ob (fun z => hb (by simp [z])) (fun z => hb (by simp [z])) q)) hf (Nat.le_refl _) new
    refine ⟨.ref s.heap.objs.size, _, I1, rfl, ⟨_, x, rfl, I.hok.fresh (Nat.le_refl _), rfl, fun ys hy => by rw [I.tuple_inj hy hq]; exact hx⟩, ⟨⟨u, ?_⟩, hst'.1.at fun o q => (sb.2 it (Ne.symm hne)).trans q, hne, hai, hea⟩, fun b hb => ?_⟩
    · have e1 : ((i + 1 : Nat) : Int) = (i : Int) + 1 := by omega
      rw [e1]; exact he'
    · have hb' : b < s.heap.objs.size := by
        have e' : b = e ∨ b = it := by simpa using hb
        rcases e' with z | z
        · rw [z]; exact hel
        · rw [z]; exact hil
      rw [upd_ne (Nat.ne_of_lt hb')]
      exact (hf b hb).1
  done := by
    intro X hP hw hK hc i pins s σ H E I hf st hg
    subst hP hw hK
    obtain ⟨⟨old, he⟩, hit, hne, hai, hea⟩ := st
    obtain ⟨xs, hq, hx⟩ := hg
    obtain ⟨its, rv, p, hz⟩ := I.tuple hq
    have hl := rv.length
    obtain ⟨f0, f1, f2, f3, f4, f5⟩ := hf it (by simp)
    have hT : s.TypeIs (.ref e) "enumerate" := ⟨_, he, rfl⟩
    unfold pyNext
    refine wpAny_bind (wpAny_attempt (wpAny_callSpecial?_slot (name := Str.ofString "__next__") hT F.slot_enumerate_next
      (wpAny_call_entry F.slot_enumerate_next hT F.entry_enumerate_next ?_ (F.args_enumerate_next_1 _))))
    show wpAny _ _ (field (.ref e) 2 >>= _) _ _ _
    refine wpAny_bind (wpAny_field he rfl (x := .ref it) rfl ?_)
    refine wpAny_bind (wpAny_nextOf_tuple_end (I.ok.hd hc) hit p (by simp; omega) fun h' x he' hx' => ?_)
    obtain ⟨o, ho, hc'⟩ := hx'
    refine wpAny_bind (wpAny_isInstance (T := "StopIteration") (b := true) ⟨o, ho, hc'⟩ isSubtype_stop ?_)
    exact wpAny_pure ⟨rfl, I.turned (t' := s.toks) (fun b o hb q => he' b o hb q) f0 f1 f3 f4 f5⟩
  self := fun A i s Q E st h => let ⟨⟨_, he⟩, _⟩ := st; wpAny_pyIter_enum he h
def iEnumT (K : PySem.W.Frag) (ta : TA) : TI := fun σ H R => ta σ H fun vs H1 => ∃ a xs, vs = [.ref a] ∧ SqT K H1 a xs ∧ R (IteT K a) H1
theorem pi_enumT {X : Cx} {e : Expr} {ta : TA} {p pos tpos : Pos} {elts : List Expr} {kk : Nat} (hg : Gl X "enumerate") (hm : X.mg "enumerate" = none) (ha : PA X [e] ta) (hs : starEach [e] X.env = [(false, eval e X.env)] := by rfl) :
    PI X (.Tuple elts kk tpos) (.Call (.Name "enumerate" p) [e] [] pos) (iEnumT X.K ta) := by
  refine ⟨fun pins s σ H R I h => ?_⟩
  refine Call_ (ld_blt I hg hm boot_enumerate (PyProof.Rows.callWith_type1 (thn (ha.run pos pins s σ H _ I h) fun us s1 hh => ?_) hs rfl))
  obtain ⟨vs, H1, I1, r1, a, xs, ex, hq, q⟩ := hh
  subst ex
  cases r1 with
  | cons r rr =>
    cases rr
    cases r
    obtain ⟨its, rv, p', hz⟩ := I1.tuple hq
    have hal : a < s1.heap.objs.size := by obtain ⟨_, q, _⟩ := p'; exact Heap.lt_size q
    refine enum1_begins (begins_tuple a its.toArray) p' fun h' he hit hsz hk => wpAny_pyIter_enum he ?_
    have I2 : Inv X pins σ H1 { s1 with heap := h' } := I1.kept (t' := s1.toks) hk
    refine ⟨s1.heap.objs.size + 1, [s1.heap.objs.size + 1, s1.heap.objs.size], _, _, H1, rfl, I2, turn_enumT a (s1.heap.objs.size + 1) s1.heap.objs.size, ⟨⟨.none, he⟩, ⟨_, hit, rfl, rfl⟩, Nat.succ_ne_self _, Nat.ne_of_lt hal, Nat.ne_of_gt (Nat.lt_succ_of_lt hal)⟩, fun b hb => ?_, q⟩
    have e' : b = s1.heap.objs.size + 1 ∨ b = s1.heap.objs.size := by simpa using hb
    have hle : s1.heap.objs.size ≤ b := by
      rcases e' with z | z
      · rw [z]; exact Nat.le_add_right _ _
      · rw [z]; exact Nat.le_refl _
    exact I1.fpOk hle (I1.hok.fresh hle)
def enumD (i : Nat) : List D → List D
  | [] => []
  | d :: l => .tup [.int i, d] :: enumD (i + 1) l
theorem enumD_get : ∀ {l : List D} {k i : Nat} {d : D}, (enumD k l)[i]? = some d → ∃ x, l[i]? = some x ∧ d = .tup [.int ((k + i : Nat) : Int), x]
  | [], k, i, d, h => by simp [enumD] at h
  | x :: l, k, 0, d, h => by
    simp only [enumD, List.getElem?_cons_zero, Option.some.injEq] at h
    exact ⟨x, rfl, h.symm⟩
  | x :: l, k, i + 1, d, h => by
    simp only [enumD, List.getElem?_cons_succ] at h ⊢
    obtain ⟨y, e1, e2⟩ := enumD_get h
    exact ⟨y, e1, by rw [e2, show k + 1 + i = k + (i + 1) by omega]⟩
theorem enumD_len : ∀ {l : List D} {k : Nat}, (enumD k l).length = l.length
  | [], _ => rfl
  | x :: l, k => by simp only [enumD, List.length_cons, enumD_len]
def iEnT (fa : E (List D)) : E Src := fun en S => (fa en S).bind fun l S1 => match l with
  | [.tup a] => .ok ⟨none, enumD 0 a⟩ S1
  | _ => .bad
theorem ri_enumT {cm : Cm} {X : Cx} {e : Expr} {fa : E (List D)} {p pos tpos : Pos} {elts : List Expr} {kk : Nat} (hg : Gl X "enumerate") (hm : X.mg "enumerate" = none) (ha : RA cm X [e] fa)
    (hs : starEach [e] X.env = [(false, eval e X.env)] := by rfl) : RI cm X (.Tuple elts kk tpos) (.Call (.Name "enumerate" p) [e] [] pos) (iEnT fa) := fun W tk m S H σ en R C hq => by
  refine wI_of (pi_enumT hg hm pa_w hs) ?_
  refine ha W tk m S H σ en _ C (PQ.bind hq fun l S1 vs m1 H1 e1 A1 R1 r1 h1 => ?_)
  split at h1
  · rename_i as
    obtain ⟨x, rfl, rx⟩ := reps1 r1
    simp only [Rep] at rx
    obtain ⟨a, xs, rfl, q1, q2⟩ := rx
    refine ⟨a, xs, rfl, q1, PQ.now h1 R1 ?_⟩
    intro m' S' H' A' R' st
    have k1 := SqT.adv A' q1
    have r2 := Reps.adv A' _ _ q2
    refine ⟨fun i d ed => ?_, ⟨xs, k1, by rw [enumD_len, q2.length]; exact Nat.le_refl _⟩⟩
    obtain ⟨y, ey, rfl⟩ := enumD_get ed
    obtain ⟨x1, f1, f2⟩ := r2.get ey
    refine ⟨⟨xs, x1, k1, f1⟩, fun x H2 z => ?_⟩
    obtain ⟨T, x2, rfl, hT, rfl, z1⟩ := z
    have w1 := z1 xs k1
    rw [f1] at w1
    cases w1
    refine ⟨grow_upd hT, ?_⟩
    simp only [Rep]
    refine ⟨T, _, rfl, .inl (.inl upd_same), Reps.cons (by simp only [Rep, Nat.zero_add]) (Reps.cons (Rep.adv (Adv.new hT) _ _ f2) Reps.nil)⟩
  · exact h1.elim

/-! ### a tuple of texts that is the module's -/
def GTup (K : PySem.W.Frag) (mg : Str → Option Value) (x : Str) (xs : List Str) : Prop := ∃ (a : Addr) (o : Obj) (its : Array Value) (n : Nat), mg x = some (.ref a) ∧ K.lookup a = some o ∧ o.cls = .type "tuple" ∧ o.data = .seq its n ∧ its.size ≤ sizeLine ∧ Vals (xs.map V.str) its.toList
theorem re_gtup {cm : Cm} {X : Cx} {x : Str} {xs : List Str} {pos : Pos} (hg : Gl X x) (h : GTup X.K X.mg x xs) (hd : (x == ("__debug__" : Str)) = false := by decide) : RE cm X (.Name x pos) (mC (.tup (xs.map D.str))) := fun W tk m S H σ en Q C hq => by
  obtain ⟨a, o, its, n, hm, h1, h2, h3, h4, h5⟩ := h
  refine wE_of (pe_glob (v := .ref a) hg hm rfl hd) (PQ.now hq C.rel ?_)
  simp only [Rep]
  exact ⟨a, _, rfl, .inr ⟨o, its, n, h1, h2, h3, h4, h5⟩, reps_map (fun a => by simp only [Rep]) xs⟩
end Mi

/-! MiF: what a text must hold of classes, raising and trying, in short. -/
namespace Mi
open PySem PySem.Spec PyProof.Rows L2

/-! ### long argument lists -/
def noStar : Expr → Bool
  | .Starred _ _ => false
  | _ => true
theorem star_c {e : Expr} {es : List Expr} {env : Env} (h : noStar e = true) : starEach (e :: es) env = (false, eval e env) :: starEach es env := by
  cases e <;> first | rfl | exact nomatch h
theorem ra_c {cm : Cm} {X : Cx} {e : Expr} {es : List Expr} {f : E D} {g : E (List D)} (h1 : RE cm X e f) (h2 : RA cm X es g) (hs : noStar e = true := by rfl) : RA cm X (e :: es) (aCons f g) := ra_cons h1 h2 (star_c hs)

/-! ### methods -/
def MFnd (K : PySem.W.Frag) (cm : Cm) (n name qual : Str) (st : Stmt) (ps : List Str) : Prop := ∃ C f fd, cm.cls n = some C ∧ OwnC K C ∧ PySem.W.findIn K (.ref C) name = some (some (.ref f)) ∧ PySem.W.isFn K (.ref f) = true ∧ Fun K name qual st f fd ∧ Binds K fd ps []
def MakeFnd (K : PySem.W.Frag) (mg : Str → Option Value) (cm : Cm) (x qual : Str) (st : Stmt) (ps : List Str) (n : Nat) (ks : List Str) (G : List D → List D → List D) : Prop := ∃ C f fd dvs kws, cm.cls x = some C ∧ mg x = some (.ref C) ∧ Mk K C f ∧
  FunD K "__init__" qual (defArgs st) (defBody st) (defScope st) dvs kws f fd ∧ MkB K ⟨K, cm.cls, cm.exc⟩ fd ps n ks G
section
variable {P : Program} {w : World} {K : PySem.W.Frag} {mg : Str → Option Value} {base : Heap} {cm : Cm}
theorem MethM.of {n name qual : Str} {st : Stmt} {N ps : List Str} {k : Nat} {g : T} (F : MFnd K cm n name qual st ps) (S : FnScope N ps (defScope st))
    (hb : ∀ (f : Addr) (cdv : Value) (A : Around) (outer : List Env) (s : Shared) (H : Hp) (E : XK), Room k (A.deeper (envOfC qual (defScope st) s.heap.objs.size f cdv)) →
      RSs cm (cxOf (L2.CX P w) P w K mg base N qual (defScope st) f cdv A outer s H E) (defBody st) g) : MethM P w K mg base cm (k + 1) n name (bodyM N.length ps.length g) := by
  obtain ⟨C, f, fd, h1, h2, h3, h4, b, c⟩ := F
  exact ⟨C, f, fd, ps, h1, h2, h3, h4, fnm_of b S hb, c, fun ds S' h => by unfold bodyM; rw [if_neg h], b.kp⟩
theorem fnm_ofD {x qual : Str} {params : Arguments} {body : List Stmt} {scope : Scope} {dvs : List V} {kws : List (Str × V)} {f : Addr} {fd : FuncData} {N ps : List Str} {k : Nat} {g : T} (b : FunD K x qual params body scope dvs kws f fd) (S : FnScope N ps scope)
    (hb : ∀ (f : Addr) (cdv : Value) (A : Around) (outer : List Env) (s : Shared) (H : Hp) (E : XK), Room k (A.deeper (envOfC qual scope s.heap.objs.size f cdv)) →
      RSs cm (cxOf (L2.CX P w) P w K mg base N qual scope f cdv A outer s H E) body g) : FnOk P w K mg base (L2.CX P w) (k + 1) f fd ps (spF ⟨K, cm.cls, cm.exc⟩ ps.length (bodyM N.length ps.length g)) := by
  refine b.ok S (fun _ _ _ _ h => h.1) (fun cdv A outer s H vs Q E hr hsp => ?_)
  obtain ⟨hl, m, S1, ds, R, rs, h⟩ := hsp
  refine ⟨_, pss_w, ?_⟩
  have hl2 : ds.length = ps.length := by rw [← hl]; exact rs.length
  unfold bodyM at h
  rw [if_pos hl2] at h
  refine hb f cdv A outer s H E hr (fun cls d _ H => E cls d H) (takes_of rfl rfl rfl rfl) m S1 H _ (ds.map some ++ List.replicate (N.length - ps.length) none) _ (by rw [← hl2]; exact cond_start R rs) ?_
  revert h
  cases g (ds.map some ++ List.replicate (N.length - ps.length) none) S1 with
  | bad => exact fun h => h.elim
  | err x en' S' => exact fun h cls dd m' σ' H' A' C' X' => h cls dd m' H' A' C'.rel X'
  | ok fl S' =>
    cases fl with
    | nx en' => exact fun h m' σ' H' A' C' => h .non m' H' A' C'.rel (by simp only [Rep])
    | rt d => exact fun h v m' H' A' R' r' => h v m' H' A' R' r'
    | bk _ => exact fun h => h.elim
    | ct _ => exact fun h => h.elim
theorem MakeM.of {x qual : Str} {st : Stmt} {N ps : List Str} {k n : Nat} {ks : List Str} {G : List D → List D → List D} {g : T} (F : MakeFnd K mg cm x qual st ps n ks G) (S : FnScope N ps (defScope st))
    (hb : ∀ (f : Addr) (cdv : Value) (A : Around) (outer : List Env) (s : Shared) (H : Hp) (E : XK), Room k (A.deeper (envOfC qual (defScope st) s.heap.objs.size f cdv)) →
      RSs cm (cxOf (L2.CX P w) P w K mg base N qual (defScope st) f cdv A outer s H E) (defBody st) g) : MakeM P w K mg base cm (k + 1) x (bodyM N.length ps.length g) n ks G := by
  obtain ⟨C, f, fd, dvs, kws, h1, h2, h3, h4, h5⟩ := F
  exact ⟨C, f, fd, ps, h1, h2, h3, fnm_ofD h4 S hb, fun ds S' h => by unfold bodyM; rw [if_neg h], h5⟩
end

/-! ### what the module names -/
theorem re_gintE {cm : Cm} {X : Cx} {x : Str} {i : Int} {pos : Pos} (hg : Gl X x) (hm : ∃ t, X.mg x = some (.int i t)) (hd : (x == ("__debug__" : Str)) = false := by decide) : RE cm X (.Name x pos) (mC (.int i)) := let ⟨_, h⟩ := hm; re_gint hg h hd
theorem re_gstrE {cm : Cm} {X : Cx} {x y : Str} {pos : Pos} (hg : Gl X x) (hm : ∃ t, X.mg x = some (.str y t)) (hd : (x == ("__debug__" : Str)) = false := by decide) : RE cm X (.Name x pos) (mC (.str y)) := let ⟨_, h⟩ := hm; re_gstr hg h hd

/-! ### raising -/
def Rs1 (K : PySem.W.Frag) (mg : Str → Option Value) (cm : Cm) (x : Str) (bmB : List Value) (newId : String) : Prop := ∃ C, cm.exc x = some C ∧ mg x = some (.ref C) ∧ PySem.W.keepIn K (.ref C) = true ∧ PySem.W.excIn K C bmB newId = true ∧
  PySem.W.subIn K (.ref C) (.type "BaseException") = some true ∧ PySem.W.typeIn K (.ref C) = some (.type "type")
section
variable {cm : Cm} {X : Cx} {x : Str} {k : Nat} {e : Expr} {fe : E D} {p p2 pos pos' : Pos} {B newId initId : String} {bmB : List Value}
theorem rs_raise1o {t : Str} {j} (F : ExcBaseFacts B newId initId bmB) (h : Rs1 X.K X.mg cm x bmB newId) (hc : X.calm = true) (hg : Gl X x) (hdb : (x == ("__debug__" : Str)) = false := by decide) :
    RS cm X (.Raise (some (.Call (.Name x p) [.Constant (.str t) j p2] [] pos)) none pos') (sRs1 x) := by
  obtain ⟨C, h1, h2, h3, h4, h5, h6⟩ := h
  exact rs_raise1 hc F h4 h2 h3 (raises_own h5 h6) h1 hg hdb
theorem rs_raiseFo {f : Str} (F : XB newId initId bmB) (h : MkF X.prog X.w X.K X.mg X.base cm k x f bmB newId) (hr : Room (k + 1) X.A) (hc : X.calm = true) (hg : Gl X x) (he' : RE cm X e fe)
    (hdb : (x == ("__debug__" : Str)) = false := by decide) (he : starEach [e] X.env = (false, eval e X.env) :: starEach [] X.env := by rfl) (hpl : (backTo pos (starEach [] X.env)).any (·.1) = false := by rfl) :
    RS cm X (.Raise (some (.Call (.Name x p) [e] [] pos)) none pos') (sRsF x f (aCons fe aNil)) := by
  obtain ⟨C, fI, fd, ps, T, h1, h2, h3, h4, h5, h6, h7⟩ := h
  exact rs_raiseF hc F T h1 h2 h3 h4 hr h5 h6 hg h7 he' hdb he hpl
end

/-! ### trying -/
def Exm (K : PySem.W.Frag) (mg : Str → Option Value) (cm : Cm) (x : Str) (g : Str → Bool) : Prop := ∃ C, mg x = some (.ref C) ∧ ∀ n D, cm.exc n = some D → PySem.W.exmOne K (.ref D) (.ref C) = some (g n)
def TryJ (cm : Cm) (X : Cx) (hs : List ExceptHandler) (cs : List Ch) : Prop := ∃ l, ClsOk X hs l ∧ CJs cm X l cs
section
variable {cm : Cm} {X : Cx} {x n f t : Str} {g : Str → Bool} {i k j : Nat} {p p' p1 p2 p3 p4 p5 pos : Pos} {b : Stmt} {st body : List Stmt} {h0 : ExceptHandler} {hs : List ExceptHandler} {cs : List Ch} {ft fb : T}
theorem tj_nil : TryJ cm X [] [] := ⟨[], .nil, .nil⟩
theorem tj_plain (h : Exm X.K X.mg cm x g) (hg : Gl X x) (hst : ∀ a pn, RSs cm (X.suite a pn) (b :: st) ft) (r : TryJ cm X hs cs) (hdb : (x == ("__debug__" : Str)) = false := by decide) :
    TryJ cm X (.ExceptHandler (some (.Name x p)) none (b :: st) p' :: hs) (⟨g, fun _ => ft⟩ :: cs) := by
  obtain ⟨C, hC, hT⟩ := h
  obtain ⟨l, r1, r2⟩ := r
  exact ⟨_, .plain (c := .ref C) ⟨hg, hdb, .inl hC⟩ suite_of r1, .cons (cj_plain hT hst) r2⟩
theorem tj_ret (h : Exm X.K X.mg cm x g) (hX : NoX X.K cm f) (hg : Gl X x) (nd : X.N.Nodup) (hi : X.N[i]? = some n) (hl : X.env.kindOf n = some .local) (r : TryJ cm X hs cs) (hdb : (x == ("__debug__" : Str)) = false := by decide) (hd : (n == ("__debug__" : Str)) = false := by decide) (hcd : (n == ("__classdict__" : Str)) = false := by decide)
    (hb : attributeBase (.Name n p2) f X.env (eval (.Name n p2) X.env) = eval (.Name n p2) X.env := by rfl)
    (hs1 : ∀ a pn, starEach [.Constant (.str t) j p1, .Attribute (.Name n p2) f p3] (X.suite a pn).env = (false, eval (.Constant (.str t) j p1) (X.suite a pn).env) :: starEach [.Attribute (.Name n p2) f p3] (X.suite a pn).env := by intros; rfl)
    (hs2 : ∀ a pn, starEach [.Attribute (.Name n p2) f p3] (X.suite a pn).env = (false, eval (.Attribute (.Name n p2) f p3) (X.suite a pn).env) :: starEach [] (X.suite a pn).env := by intros; rfl) :
    TryJ cm X (.ExceptHandler (some (.Name x p)) (some n) [.Return (some (.Tuple [.Constant (.str t) j p1, .Attribute (.Name n p2) f p3] k p4)) p5] p' :: hs) (⟨g, sHret i t f⟩ :: cs) := by
  obtain ⟨C, hC, hT⟩ := h
  obtain ⟨l, r1, r2⟩ := r
  exact ⟨_, .named (i := i) (c := .ref C) nd hi hl ⟨hg, hdb, .inl hC⟩ suite_of r1, .cons (cj_ret hT (fun n C e => (hX n C e).1) (fun n C e => (hX n C e).2) hi hl hd hcd hb hs1 hs2) r2⟩
theorem rs_tryJ (hst : X.stack = X.env :: X.outer) (hf : X.env.frame = some X.env.locals) (hb : ∀ pn xe, RSs cm (X.tr pn xe) body fb) (h : TryJ cm X (h0 :: hs) cs) : RS cm X (.Try body (h0 :: hs) [] [] pos) (sTry fb cs) := by
  obtain ⟨l, h1, h2⟩ := h
  exact rs_try hst hf hb h1 h2
end
end Mi

/-! MiN: own != (no own __ne__), own == with a value of any kind on the right. -/
namespace Mi
open PySem PySem.Spec PyProof.Rows L2
section
variable {prog : Program} {w : World} {A : Around} {E : Value → Shared → Prop} {s : Shared} {K : PySem.W.Frag} {x C L f : Addr} {h₀ : Heap} {m : Str → Option Value} {ox : Obj} {od : Option Obj} {name : Str} {b tb : Value}
theorem ifBound_b {M : Model} {id : String} {as : List Value} {Q : Option Value → Shared → Prop} (X : K.In s.heap) (I : PySem.W.InstAt s.heap x ox C od) (S : Slot "object" name id) (hs : PySem.W.findIn K (.ref C) name = some (some (.builtin id)))
    (hq : wpAny M A (call (.builtin id) (Value.ref x :: as)) (fun v s1 => Q (some v) s1) E s) : wpAny M A (callSpecialIfBound? (.ref x) name as) Q E s := by
  unfold callSpecialIfBound? bindSpecialIfBound?
  refine wpAny_holding <| wpAny_bind <| wpAny_bind <| wpAny_bind <| I.type.here <| (PySem.W.looks_findIn X hs).here ?_
  have z : wpAny M A (call (.builtin id) ([Value.ref x] ++ as) >>= fun v => pure (some v)) Q E s := wpAny_bind (wpAny_mono hq (fun _ _ k => wpAny_pure k) fun _ _ k => k)
  simp only [S.bind]
  refine wpAny_bind <| wpAny_askSetting <| wpAny_ite ?_
  split
  · exact wpAny_bind <| wpAny_pure <| wpAny_pure z
  · refine wpAny_tryCatch ?_
    exact wpAny_bind <| wpAny_pure <| wpAny_pure z
theorem ne_own {Q : Value → Shared → Prop} (hu : A.units + 1 < cLine) (X : K.In s.heap) (I : PySem.W.InstAt s.heap x ox C od) (hb : PySem.W.Looks (model prog w) s.heap (typeOf b) tb) (hn : PySem.W.notFirst K C tb = true)
    (hne : PySem.W.findIn K (.ref C) "__ne__" = some (some (.builtin "object.__ne__"))) (hm : PySem.W.mroIn K C (.type "object") = some true)
    (hs : PySem.W.findIn K (.ref C) "__eq__" = some (some (.ref f))) (hf : PySem.W.isFn K (.ref f) = true)
    (h : wpAny (model prog w) A.in1 (call (.ref f) [.ref x, b]) (fun v s' => ∃ r, v = .bool r ∧ Q (.bool (!r)) s') E s) : wpAny (model prog w) A (richCompare .NotEq (.ref x) b) Q E s := by
  have one : wpAny (model prog w) A (tryCompare (.ref x) "__ne__" b) (fun r s' => ∃ v, r = some v ∧ Q v s') E s := by
    unfold tryCompare
    refine wpAny_bind (ifBound_b X I PySem.F.cmp_object.ne hne (wpAny_call (codeAny_call_builtin PySem.F.cmp_object.ne.plain PySem.F.cmpEntry_ne ?_)))
    have LI : PySem.W.Looks (model prog w) s.heap (isInstance (.ref x) (.type "object")) true := I.type.andThen (PySem.W.looks_subIn X hm)
    refine @PySem.W.check_slot (model prog w) _ _ s "object.__ne__" "object" "__ne__" (.ref x) [b] [] _ (by decide +kernel) (by decide +kernel) LI (PySem.F.cmpArgs_ne _ _) ?_
    unfold Builtin.«object.__ne__»
    repeat (first
      | with_reducible refine wpAny_cRoomFor (A := A.in1) (by show A.in1.units < cLine; exact hu) ?_
      | (refine wpAny_bind (m := callSpecialIfBound? (.ref x) (Str.ofString "__eq__") [b]) (PySem.W.ifBound_K X I hs hf (wpAny_mono h (fun v s' z => by
          obtain ⟨r, rfl, q⟩ := z
          repeat (first | exact ⟨_, rfl, q⟩ | (refine wpAny_bind (m := truthy (.bool _)) (wpAny_truthy_bool ?_)) | wp_step)) fun _ _ e => e)))
      | wp_step)
  unfold richCompare
  simp only [oneThing_ref]
  refine wpAny_holding <| wpAny_bind <| wpAny_cRoomFor (Nat.lt_of_succ_lt hu) ?_
  refine wpAny_bind <| I.type.here <| wpAny_bind <| hb.here ?_
  have tl : ∀ c : Bool, c = false → wpAny (model prog w) A (do
      if c then
        if let some v ← tryCompare b "__ne__" (.ref x) then rule "compare.subclass-reflected-first"; return v
      if let some v ← tryCompare (.ref x) "__ne__" b then return v
      if !c then
        if let some v ← tryCompare b "__ne__" (.ref x) then return v
      rule "compare.ne-identity"
      return .bool (!(← isSame (.ref x) b))) Q E s := fun c hc => by
    subst hc
    simp only [Bool.false_eq_true, if_false]
    refine wpAny_bind (wpAny_mono one (fun r s' z => ?_) fun _ _ e => e)
    obtain ⟨v, rfl, q⟩ := z
    exact wpAny_pure q
  split
  · rename_i q
    have e : PySem.W.subIn K tb (.ref C) = some false := by
      rcases Bool.or_eq_true_iff.mp hn with e | e
      · rw [beq_iff_eq.mp e] at q; simp at q
      · exact beq_iff_eq.mp e
    exact wpAny_bind <| (PySem.W.looks_subIn X e).here (tl _ rfl)
  · exact wpAny_bind <| wpAny_pure (tl _ rfl)
end
/-- no built-in type is below the class -/
def NotSub (K : PySem.W.Frag) (C : Addr) : Prop := ∀ T : Ty, PySem.W.subIn K (.type T.name) (.ref C) = some false
/-- the class has no own __ne__ -/
def NoNe (K : PySem.W.Frag) (C : Addr) : Prop := PySem.W.findIn K (.ref C) "__ne__" = some (some (.builtin "object.__ne__"))
section
variable {cm : Cm} {X : Cx} {k : Nat} {n : Str} {F : Fm}
/-- the class of what stands on the right -/
theorem right_of {m : Am} {S : So} {H : Hp} {C : Addr} {pins : List (Addr × Obj)} {σ : St} {s : Shared} {b : D} {y : V} {u : Value} (I : Inv X pins σ H s) (R : RelS (ct X cm) m S H) (rb : Rep (ct X cm) m S H b y) (ru : RelV y u) (hc : cm.cls n = some C) (ns : NotSub X.K C)
    (h : isOwn b S = some n ∨ (tyD b S).isSome = true) : ∃ tb, PySem.W.Looks (model X.prog X.w) s.heap (typeOf u) tb ∧ PySem.W.notFirst X.K C tb = true := by
  rcases h with o | o
  · obtain ⟨bb, C2, dy, gs, rfl, hc3, h3⟩ := own_v R rb o
    obtain rfl : C = C2 := Option.some.inj (hc.symm.trans hc3)
    obtain rfl : u = Value.ref bb := ru
    obtain ⟨mB, Om2, _, _, _, _⟩ := ins_get I.hok h3
    obtain ⟨od2, J2, _⟩ := Om2.look
    exact ⟨_, J2.type, by simp [PySem.W.notFirst]⟩
  · obtain ⟨T, eT⟩ := Option.isSome_iff_exists.mp o
    obtain ⟨P, kx, hp, _⟩ := kit_of I ru (tyD_v R rb eT)
    exact ⟨_, kx.ty _ _ I.kIn hp, by simp [PySem.W.notFirst, ns T]⟩
/-- a == b, a of class n or of built-in kinds both -/
def dEqA (n : Str) (F : Fm) : Op2 := fun a b S => if isOwn a S = some n then (if isOwn b S = some n ∨ (tyD b S).isSome = true then oneOf (F [a, b] S) else none) else dEq a b S
theorem od_eqA (M : MethM X.prog X.w X.K X.mg X.base cm k n "__eq__" F) (ns : ∀ C, cm.cls n = some C → NotSub X.K C) (hr : Room k X.A) (hu : X.A.units + 64 < cLine) : OpD cm X (compareOp .Eq) (dEqA n F) := fun m S H a b x y Q R ra rb h => by
  unfold dEqA at h
  split at h
  · rename_i oa
    split at h
    · rename_i ob
      obtain ⟨C1, f, fd, ps, hc, ho1, hm, hk, hF, hbd, hbad, hkp⟩ := M
      obtain ⟨aa, C2, dx, fs, rfl, hc2, h1⟩ := own_v R ra oa
      obtain rfl : C1 = C2 := Option.some.inj (hc.symm.trans hc2)
      intro pins s σ v u I rv ru
      obtain ⟨tb, l, nf⟩ := right_of I R rb ru hc (ns _ hc) ob
      obtain rfl : v = Value.ref aa := rv
      obtain ⟨mA, Om, _, _, _, _⟩ := ins_get I.hok h1
      obtain ⟨od, J, _⟩ := Om.look
      obtain ⟨mm, hFr⟩ := I.fr
      have hp := pd_of h
      show wpAny (model X.prog X.w) X.A (richCompare .Eq (.ref aa) u) _ _ _
      refine PySem.W.cmp_K (op := .Eq) hr.units0 hFr I.ok.mod.kin J l nf hm hk (wpAny_mono (run_no (vs := [.ref aa, y]) (Q := Q) hF hr hbd I (.cons rfl (.cons ru .nil)) ⟨?_, m, S, [a, b], R, Reps.cons ra (Reps.cons rb Reps.nil), hp⟩) (fun v s' z => ret_back z) fun _ _ z => z)
      show 2 = ps.length
      by_cases e : [a, b].length = ps.length
      · exact e
      · rw [hbad _ S e] at hp
        exact hp.elim
    · exact h.no.elim
  · exact od_eq hu m S H a b x y Q R ra rb h
/-- a != b -/
def dNeA (n : Str) (F : Fm) : Op2 := fun a b S => if isOwn a S = some n then (if isOwn b S = some n ∨ (tyD b S).isSome = true then (match oneOf (F [a, b] S) with
    | some (.bl r, S') => some (.bl (!r), S')
    | _ => none) else none) else dNe a b S
theorem od_neA (M : MethM X.prog X.w X.K X.mg X.base cm k n "__eq__" F) (ns : ∀ C, cm.cls n = some C → NotSub X.K C ∧ NoNe X.K C) (hr : Room (k + 1) X.A) (hu : X.A.units + 64 < cLine) : OpD cm X (compareOp .NotEq) (dNeA n F) := fun m S H a b x y Q R ra rb h => by
  unfold dNeA at h
  split at h
  · rename_i oa
    split at h
    · rename_i ob
      split at h
      · rename_i r S' eo
        obtain ⟨C1, f, fd, ps, hc, ho1, hm, hk, hF, hbd, hbad, hkp⟩ := M
        obtain ⟨aa, C2, dx, fs, rfl, hc2, h1⟩ := own_v R ra oa
        obtain rfl : C1 = C2 := Option.some.inj (hc.symm.trans hc2)
        intro pins s σ v u I rv ru
        obtain ⟨tb, l, nf⟩ := right_of I R rb ru hc (ns _ hc).1 ob
        obtain rfl : v = Value.ref aa := rv
        obtain ⟨mA, Om, _, _, _, _⟩ := ins_get I.hok h1
        obtain ⟨od, J, _⟩ := Om.look
        have hp : PD (ct X cm) m S H (F [a, b] S) (fun v H' => v = .bl r ∧ Q (.bl (!r)) H') fun _ _ _ => False := by
          revert eo
          cases F [a, b] S with
          | ok d' S2 =>
            intro eo v m' H' A R' r'
            simp only [oneOf, Option.some.injEq, Prod.mk.injEq] at eo
            obtain ⟨e1, e2⟩ := eo
            subst e1 e2
            have r2 := r'
            simp only [Rep] at r2
            exact ⟨r2, POk.at h A R' (by simp only [Rep])⟩
          | err _ _ _ => intro eo; cases eo
          | bad => intro eo; cases eo
        show wpAny (model X.prog X.w) X.A (richCompare .NotEq (.ref aa) u) _ _ _
        refine ne_own (by have := hr.units; omega) I.kIn J l nf (ns _ hc).2 ho1.hm hm hk (wpAny_mono (run_in1 (vs := [.ref aa, y]) hF hr hbd I (.cons rfl (.cons ru .nil)) ⟨?_, m, S, [a, b], R, Reps.cons ra (Reps.cons rb Reps.nil), hp⟩) (fun v s' z => ?_) fun _ _ z => z)
        · show 2 = ps.length
          by_cases e : [a, b].length = ps.length
          · exact e
          · rw [hbad _ S e] at hp
            exact hp.elim
        · obtain ⟨v', H', I', rv', ev, q⟩ := z
          subst ev
          exact ⟨r, rv', .bl (!r), H', I', rfl, q⟩
      · exact h.no.elim
    · exact h.no.elim
  · exact od_ne hu m S H a b x y Q R ra rb h
end
end Mi

/-! MiG: str(x) of texts, ints, own instances; f-strings. -/
namespace Mi
open PySem PySem.Spec PyProof.Rows L2
section
variable {cm : Cm} {X : Cx} {k : Nat} {n : Str} {F : Fm} {f : Addr} {fd : FuncData} {ps : List Str} {sp : Sp}
theorem run_in2 {pins : List (Addr × Obj)} {σ : St} {H : Hp} {s : Shared} {Q : VK} {us : List Value} {vs : List V} {E' : Value → Shared → Prop} (G : FnOk X.prog X.w X.K X.mg X.base (L2.CX X.prog X.w) k f fd ps sp) (hr : Room (k + 2) X.A) (hb : Binds X.K fd ps [])
    (I : Inv X pins σ H s) (r : Vals vs us) (h : sp vs H Q fun _ _ _ => False) : wpAny (model X.prog X.w) X.A.in1.in1 (call (.ref f) us) (EP X pins σ Q) E' s := by
  have l : us.length = ps.length := r.length.symm.trans (G.len _ _ _ _ h)
  have b := hb s us I.kIn (by rw [List.append_nil]; exact l)
  rw [List.append_nil] at b
  have h2 : Room k X.A.in1.in1 := (show Room (k + 1) X.A.in1 from hr.in1).in1
  refine wpAny_call (codeAny_mono (G.run X.A.in1.in1 X.stack s H ⟨us, []⟩ us vs Q _ h2 I.env0.in1.in1 b r h) fun z s' q => ?_)
  match z, q with
  | .error _, q =>
    obtain ⟨_, _, _, _, _, _, _, _, _, _, _, _, y⟩ := q
    exact y.elim
  | .ok (.ret u), q => exact I.after q
  | .ok .next, q => exact q.elim
  | .ok .brk, q => exact q.elim
  | .ok .cont, q => exact q.elim
/-- str(x) -/
def bStrA (n : Str) (F : Fm) : OpL := fun l S => match l with
  | [d] => if isOwn d S = some n then (match oneOf (F [d] S) with
      | some (.str y, S') => some (.str y, S')
      | _ => none)
    else (match d with
      | .int i => if i.natAbs.log2 < 1920 then some (.str (toString i), S) else none
      | .str y => some (.str y, S)
      | _ => none)
  | _ => none
theorem cd_strA (M : MethM X.prog X.w X.K X.mg X.base cm k n "__str__" F) (hr : Room (k + 2) X.A) : CallD cm X (.type "str") (bStrA n F) := fun m S H ds vs Q R r h => by
  obtain ⟨C1, f, fd, ps, hc, ho1, hm, hk, hF, hbd, hbad, hkp⟩ := M
  unfold bStrA at h
  split at h
  · rename_i d
    obtain ⟨x, rfl, rx⟩ := reps1 r
    intro pins s σ us I rv
    obtain ⟨u, rfl, ru⟩ := vals1 rv
    split at h
    · rename_i ho
      split at h
      · rename_i y S' eo
        obtain ⟨a, C2, dx, fs, rfl, hc2, h1⟩ := own_v R rx ho
        obtain rfl : C1 = C2 := Option.some.inj (hc.symm.trans hc2)
        cases ru
        obtain ⟨mA, Om, _, _, _, _⟩ := ins_get I.hok h1
        obtain ⟨od, J, _⟩ := Om.look
        have hp : PD (ct X cm) m S H (F [d] S) (fun v H' => v = .str y ∧ Q v H') fun _ _ _ => False := by
          revert eo
          cases F [d] S with
          | ok d' S2 =>
            intro eo v m' H' A R' r'
            simp only [oneOf, Option.some.injEq, Prod.mk.injEq] at eo
            obtain ⟨e1, e2⟩ := eo
            subst e1 e2
            have r2 := r'
            simp only [Rep] at r2
            exact ⟨r2, POk.at h A R' r'⟩
          | err _ _ _ => intro eo; cases eo
          | bad => intro eo; cases eo
        refine PySem.W.kso_call (by have := (show Room (k + 1) X.A.in1 from hr.in1).in1.units0; exact this) I.kIn J hm hk (wpAny_mono (run_in2 (vs := [.ref a]) hF hr hbd I (.cons rfl .nil) ⟨?_, m, S, [d], R, Reps.cons rx Reps.nil, hp⟩) (fun v s' z => ?_) fun _ _ z => z)
        · show 1 = ps.length
          by_cases e : [d].length = ps.length
          · exact e
          · rw [hbad _ S e] at hp
            exact hp.elim
        · obtain ⟨v', H', I', rv', ev, q⟩ := z
          subst ev
          obtain ⟨t, rfl⟩ := rv'
          exact ⟨.str y, H', I', ⟨t, rfl⟩, q⟩
      · exact h.no.elim
    · split at h
      · rename_i i _
        split at h
        · rename_i hi
          simp only [Rep] at rx
          subst rx
          obtain ⟨t, rfl⟩ := ru
          exact PySem.P.str_of_int hi ⟨.str (toString i), H, I.tok _, ⟨_, rfl⟩, h.now R (by simp only [Rep])⟩
        · exact h.no.elim
      · rename_i y _
        simp only [Rep] at rx
        subst rx
        obtain ⟨t, rfl⟩ := ru
        exact PySem.P.str_of_str ⟨.str y, H, I, ⟨_, rfl⟩, h.now R (by simp only [Rep])⟩
      · exact h.no.elim
  · exact h.no.elim
end
/-! ### f-strings -/
def mFmt (fe : E D) : E D := fun en S => (fe en S).bind fun d S1 => match d with
  | .str y => if y.length ≤ sizeLine then .ok (.str y) S1 else .bad
  | .int i => if i.natAbs.log2 < 1920 then .ok (.str (toString i)) S1 else .bad
  | _ => .bad
def mJs : List (E D) → Str → E D
  | [], acc => fun _ S => .ok (.str acc) S
  | f :: fs, acc => fun en S => (f en S).bind fun d S1 => match d with
    | .str y => if (acc ++ y).length ≤ sizeLine then mJs fs (acc ++ y) en S1 else .bad
    | _ => .bad
inductive RJ (cm : Cm) (X : Cx) : List Expr → List (E D) → Prop where
  | nil : RJ cm X [] []
  | cons {e : Expr} {f : E D} {es : List Expr} {fs : List (E D)} (h : RE cm X e f) (r : RJ cm X es fs) : RJ cm X (e :: es) (f :: fs)
section
variable {cm : Cm} {X : Cx} {pos : Pos}
theorem re_fmt {e : Expr} {fe : E D} (he : RE cm X e fe) : RE cm X (.FormattedValue e (-1) none pos) (mFmt fe) := fun W tk m S H σ en Q C h => by
  refine wE_of (pe_fmt pe_w) (he W tk m S H σ en _ C (PQ.bind h fun d S1 x m1 H1 e1 A1 R1 r1 h1 => ?_))
  split at h1
  · rename_i y
    split at h1
    · rename_i hz
      simp only [Rep] at r1
      exact .inl ⟨y, r1, hz, h1.now R1 (by simp only [Rep])⟩
    · exact h1.elim
  · rename_i i
    split at h1
    · rename_i hz
      simp only [Rep] at r1
      exact .inr ⟨i, r1, hz, h1.now R1 (by simp only [Rep])⟩
    · exact h1.elim
  · exact h1.elim
theorem pj_w : ∀ es : List Expr, PJ X es (es.map fun e => wE X e)
  | [] => .nil
  | _ :: es => .cons pe_w (pj_w es)
theorem js_ok {es : List Expr} {fs : List (E D)} (r : RJ cm X es fs) : ∀ (acc : Str) W, Takes X W → ∀ m S H σ en Q, Cond (ct X cm) m S H σ en → PQ (Rep (ct X cm)) (ct X cm) m S H σ W (mJs fs acc en S) Q → tJs (es.map fun e => wE X e) acc σ H fun out H1 => Q (.str out) H1 := by
  induction r with
  | nil => exact fun acc W tk m S H σ en Q C h => h.now C.rel (by simp only [Rep])
  | cons he _ ih =>
    intro acc W tk m S H σ en Q C h
    refine he W tk m S H σ en _ C (PQ.bind h fun d S1 x m1 H1 e1 A1 R1 r1 h1 => ?_)
    split at h1
    · rename_i y
      split at h1
      · rename_i hz
        simp only [Rep] at r1
        exact ⟨y, r1, hz, ih _ W tk m1 S1 H1 σ en Q (C.adv A1 R1) h1⟩
      · exact h1.elim
    · exact h1.elim
theorem re_joined {v1 v2 : Expr} {rest : List Expr} {fs : List (E D)} (r : RJ cm X (v1 :: v2 :: rest) fs) : RE cm X (.JoinedStr (v1 :: v2 :: rest) pos) (mJs fs Str.empty) := fun W tk m S H σ en Q C h =>
  wE_of (pe_joined (pj_w _)) (js_ok r _ W tk m S H σ en Q C h)
end
end Mi

/-! MiS: sorted(set(t)), t a tuple of texts. -/
namespace Mi
open PySem PySem.Spec PyProof.Rows L2
/-- the set at a holds the texts l, laid as the model lays it -/
def SetX (P : Program) (w : World) (a : Addr) (l : List Str) (h : Heap) : Prop := ∃ D : PySem.Froz.SD, h.get? a = some (PySem.Froz.sObj "set" D) ∧ PySem.Froz.TxOk P w D l ∧ Ris D.2.2.place.toList ∧ (w.params.followText "set-order" = true ∨ D.2.2.led = true)
def ins1 (l : List Str) (x : Str) : List Str := if x ∈ l then l else x :: l
def uniq (xs : List Str) : List Str := xs.foldl ins1 []
theorem ins1_mem {l : List Str} {x k : Str} : k ∈ ins1 l x ↔ k ∈ l ∨ k = x := by
  unfold ins1
  split
  · rename_i h
    exact ⟨.inl, fun z => z.elim id fun e => e ▸ h⟩
  · rw [List.mem_cons]
    exact Or.comm
theorem ins1_len {l : List Str} {x : Str} : (ins1 l x).length ≤ l.length + 1 := by
  unfold ins1
  split
  · omega
  · rw [List.length_cons]; omega
theorem ins1_nd {l : List Str} {x : Str} (h : l.Nodup) : (ins1 l x).Nodup := by
  unfold ins1
  split
  · exact h
  · rename_i q
    exact List.nodup_cons.mpr ⟨q, h⟩
theorem fold_all : ∀ (xs l : List Str), l.Nodup → (xs.foldl ins1 l).Nodup ∧ (xs.foldl ins1 l).length ≤ l.length + xs.length ∧ ∀ k, k ∈ xs.foldl ins1 l ↔ k ∈ l ∨ k ∈ xs
  | [], l, h => ⟨h, by simp, fun k => by simp⟩
  | x :: xs, l, h => by
    obtain ⟨a, b, c⟩ := fold_all xs (ins1 l x) (ins1_nd h)
    refine ⟨a, ?_, fun k => ?_⟩
    · have := ins1_len (l := l) (x := x)
      rw [List.length_cons]
      show (List.foldl ins1 (ins1 l x) xs).length ≤ _
      omega
    · show k ∈ List.foldl ins1 (ins1 l x) xs ↔ _
      rw [c k, ins1_mem, List.mem_cons, or_assoc]
theorem uniq_nd (xs : List Str) : (uniq xs).Nodup := (fold_all xs [] List.nodup_nil).1
theorem uniq_len (xs : List Str) : (uniq xs).length ≤ xs.length := by
  have := (fold_all xs [] List.nodup_nil).2.1
  rw [List.length_nil, Nat.zero_add] at this
  exact this
theorem uniq_mem (xs : List Str) (k : Str) : k ∈ uniq xs ↔ k ∈ xs := by
  rw [show uniq xs = xs.foldl ins1 [] from rfl, (fold_all xs [] List.nodup_nil).2.2 k]
  simp
theorem uniq_add (xs : List Str) {i : Nat} {x : Str} (h : xs[i]? = some x) : uniq (xs.take (i + 1)) = ins1 (uniq (xs.take i)) x := by
  unfold uniq
  rw [List.take_add_one, h, List.foldl_append]
  rfl
/-! ### the set grows -/
theorem tail_ris {ep : Nat} {es1 : Array (Int × Value)} {t2 : SetTable} {b : Bool} (r : Ris t2.place.toList) : Ris (PySem.Froz.tailTx ep es1 t2 b).2.2.place.toList ∧ (PySem.Froz.tailTx ep es1 t2 b).2.2.led = t2.led := by
  unfold PySem.Froz.tailTx
  split
  · exact ⟨relayAll_ris _ _ _, relayAll_led _ _ _⟩
  · exact ⟨r, rfl⟩
theorem add_ris {h : Int} {v : Value} {D : PySem.Froz.SD} (r : Ris D.2.2.place.toList) : Ris (PySem.Froz.addTx h v D).2.2.place.toList ∧ (PySem.Froz.addTx h v D).2.2.led = D.2.2.led := by
  have r1 := layNew_ris D.2.2 D.1 h v r
  have l1 := layNew_led D.2.2 D.1 h v
  unfold PySem.Froz.addTx
  split
  · obtain ⟨a, b⟩ := tail_ris (ep := D.2.1) (es1 := (layNew D.2.2 D.1 h v).1) (t2 := { (layNew D.2.2 D.1 h v).2.1 with plain := false }) (b := (layNew D.2.2 D.1 h v).2.2.1) r1
    exact ⟨a, b.trans l1⟩
  · obtain ⟨a, b⟩ := tail_ris (ep := D.2.1) (es1 := (layNew D.2.2 D.1 h v).1) (t2 := (layNew D.2.2 D.1 h v).2.1) (b := (layNew D.2.2 D.1 h v).2.2.1) r1
    exact ⟨a, b.trans l1⟩
section
variable {P : Program} {w : World} {A : Around} {E : Value → Shared → Prop} {z : Shared} {a : Addr} {l : List Str}
theorem SetX.at {h h' : Heap} (R : SetX P w a l h) (k : ∀ o, h.get? a = some o → h'.get? a = some o) : SetX P w a l h' := by
  obtain ⟨D, e, r⟩ := R
  exact ⟨D, k _ e, r⟩
/-- a text that it has -/
theorem again_x {D : PySem.Froz.SD} {k : Str} {u : Tok} {Q : Bool → Shared → Prop} (ho : z.heap.get? a = some (PySem.Froz.sObj "set" D)) (F : PySem.Froz.TxOk P w D l) (hk : k ∈ l) (hb : l.length < scanBound)
    (q : Q false z) : wpAny (model P w) A (setAddHashed a (.str k u) (hashStr w k)) Q E z := by
  have hd : (PySem.Froz.sObj "set" D).data = .set D.1 D.2.1 D.2.2 := rfl
  have hz : D.1.size < scanBound := by rw [F.sz]; exact hb
  have hkey : (strKind P w).is k (.str k u) = true := PySem.Froz.is_str k u
  unfold setAddHashed setAddHashedIn
  refine wpAny_holding (wpAny_bind (wpAny_setState_of ho hd F.fit ?_))
  dsimp only
  rw [byScan_of (x := Value.str k u) rfl hz F.el]
  simp only [↓reduceIte]
  unfold setAddByScan
  refine wpAny_bind <| wpAny_bind <| wpAny_rule <| wpAny_bind <| wpAny_setScan_of (knd := strKind P w) (k := k) hkey ho hd F.fit F.el ?_
  cases e : List.findIdx? (fun e => (strKind P w).is k e.2) D.1.toList with
  | some j =>
    dsimp only
    exact wpAny_pure (wpAny_pure q)
  | none =>
    obtain ⟨x, hx, y⟩ := (F.mem k).mp hk
    have c := List.findIdx?_eq_none_iff.mp e x hx
    rw [y] at c
    cases c
theorem setX_add {k : Str} {u : Tok} {Q : Bool → Shared → Prop} (R : SetX P w a l z.heap) (room : l.length + 1 < scanBound)
    (q : ∀ b h', Heap.SameBut a z.heap h' → SetX P w a (ins1 l k) h' → Q b { z with heap := h' }) : wpAny (model P w) A (setAddHashed a (.str k u) (hashStr w k)) Q E z := by
  obtain ⟨D, ho, F, r, hl⟩ := R
  by_cases hk : k ∈ l
  · refine again_x ho F hk (by omega) (q false z.heap (Heap.SameBut.refl a z.heap) ⟨D, ho, ?_, r, hl⟩)
    unfold ins1
    rw [if_pos hk]
    exact F
  · refine PySem.Froz.add_x ho F hk room (q true _ ⟨Heap.size_after_update .., fun b hb => Heap.get?_update_other _ _ (Ne.symm hb)⟩ ⟨_, PySem.Froz.get_upd _ ho rfl, ?_, (add_ris r).1, hl.imp id fun y => by rw [(add_ris r).2]; exact y⟩)
    unfold ins1
    rw [if_neg hk]
    exact PySem.Froz.add_ok u F
/-- set.update, text by text -/
theorem set_update_texts {I : Addr} {fp wr : List Addr} {G : Array GenState → Array GenState → Prop} {n : Nat} {Pv : Nat → Value → Prop} {St : Nat → Shared → Prop} {R : Result → Shared → Prop}
    (W : WalksS P w A.in1 I fp wr G n Pv St) (S : Addr) (hSf : S ∉ fp) (xs : List Str) (hn : n = xs.length) (hb : xs.length + 1 < scanBound) (hval : ∀ i v, Pv i v → ∃ k t, xs[i]? = some k ∧ v = .str k t) :
    ∀ (k i : Nat) (z : Shared), n - i = k → i ≤ n → St i z → SetX P w S (uniq (xs.take i)) z.heap →
      (∀ z', Moved (S :: wr) G z z' → SetX P w S (uniq xs) z'.heap → R (.ok (.ret .none)) z') → codeAny (model P w) A (.builtin "set.update.loop" ⟨[.ref S, .ref I], []⟩) R z := by
  have hSw : S ∉ wr := fun y => hSf (W.sub _ y)
  have hsub : ∀ b ∈ wr, b ∈ S :: wr := fun b y => List.mem_cons_of_mem _ y
  intro k
  induction k with
  | zero =>
    intro i z hk' hi hst hS hR
    have hin : i = n := by omega
    subst hin
    refine codeAny_builtin F.entry_set_update_loop ?_
    rw [Around.under_plainId F.plain_set_update_loop _]
    show wpAny _ A.in1 (pyNext (.ref I) >>= _) _ _ z
    refine wpAny_bind (W.done z _ _ hst fun z' hm => ?_)
    show wpAny _ A.in1 (ret Value.none) _ _ z'
    rw [show xs.take i = xs from List.take_of_length_le (by omega)] at hS
    exact wpAny_pure (hR z' (hm.mono hsub) (hS.at fun o e => hm.heap S o hSw e))
  | succ k ih =>
    intro i z hk' hi hst hS hR
    have hlt : i < n := by omega
    refine codeAny_builtin F.entry_set_update_loop ?_
    rw [Around.under_plainId F.plain_set_update_loop _]
    show wpAny _ A.in1 (pyNext (.ref I) >>= _) _ _ z
    refine wpAny_bind (W.item i z _ _ hlt hst fun v z' hP hst' hm => ?_)
    obtain ⟨x, t, hx, rfl⟩ := hval i v hP
    have hS' : SetX P w S (uniq (xs.take i)) z'.heap := hS.at fun o e => hm.heap S o hSw e
    show wpAny _ A.in1 (holding [Value.str x t] (setAdd S (.str x t)) >>= _) _ _ z'
    refine wpAny_bind (wpAny_holding ?_)
    unfold setAdd
    refine wpAny_holding ?_
    refine wpAny_bind ((strKind P w).pyHash (k := x) (PySem.Froz.is_str _ _) ?_)
    have hlen : (uniq (xs.take i)).length + 1 < scanBound := by
      have y := uniq_len (xs.take i)
      rw [List.length_take] at y
      omega
    refine setX_add (z := { z' with toks := z'.toks + 1 }) hS' hlen fun b h' hsb hS2 => ?_
    rw [← uniq_add xs hx] at hS2
    refine wpAny_pure ⟨plainId_quiet F.plain_set_update_loop _, ih (i + 1) _ (by omega) hlt (W.frame _ z' _ _ hst' (Nat.le_succ _) fun b hb o e => ?_) hS2 fun z'' hm'' hS'' => ?_⟩
    · rw [hsb.2 b (fun y : b = S => hSf (by rw [← y]; exact hb))]; exact e
    · refine hR z'' (Moved.trans W.gtrans ((hm.mono hsub).then_heap (Nat.le_succ _) fun b o hb e => ?_) hm'') hS''
      rw [hsb.2 b (fun y : b = S => hb (by rw [y]; exact List.mem_cons_self))]; exact e
theorem setX_new {h : Heap} (ho : h.get? a = some { cls := .type "set", dict := none, data := .set #[] 0 (.fresh 0 0 (!w.params.followText "set-order")) }) : SetX P w a [] h :=
  ⟨(#[], 0, .fresh 0 0 (!w.params.followText "set-order")), ho, PySem.Froz.TxOk.nil (by rfl), List.Pairwise.nil, by
    show _ ∨ (!w.params.followText "set-order") = true
    cases w.params.followText "set-order"
    · exact .inr rfl
    · exact .inl rfl⟩
end
section
variable {P : Program} {w : World} {A : Around} {E : Value → Shared → Prop} {z : Shared}
theorem str_in : ∀ {us : List Value} {xs : List Str}, StrsAre us xs → ∀ {i : Nat} {v : Value}, us[i]? = some v → ∃ k t, xs[i]? = some k ∧ v = .str k t
  | _, _, .nil, i, v, e => by simp at e
  | _, _, .cons k t r, 0, v, e => by
    simp only [List.getElem?_cons_zero, Option.some.injEq] at e
    exact ⟨k, t, rfl, e.symm⟩
  | _, _, .cons k t r, i + 1, v, e => by
    simp only [List.getElem?_cons_succ] at e ⊢
    exact str_in r e
set_option maxRecDepth 100000 in
set_option maxHeartbeats 3200000 in
/-- set(t), t a tuple of texts -/
theorem call_set_texts {t : Addr} {its : Array Value} (xs : List Str) {Q : Value → Shared → Prop} (hh : A.handled = none) (ht : z.heap.IsTuple t its) (hv : StrsAre its.toList xs) (hb : xs.length + 1 < scanBound)
    (q : ∀ (h' : Heap) (tk : Nat), SetX P w z.heap.objs.size (uniq xs) h' → (∀ b o, z.heap.get? b = some o → h'.get? b = some o) → Q (.ref z.heap.objs.size) { z with heap := h', toks := tk }) :
    wpAny (model P w) A (call (.type "set") [.ref t]) Q E z := by
  have hz : its.size = xs.length := by rw [← StrsAre.len_eq hv, Array.length_toList]
  obtain ⟨c0, tl0, w1⟩ := F.called_set.mro
  have w2 := F.called_set.made
  have w3 := F.called_set.sub
  refine wpAny_call (codeAny_of_tree ?_)
  show wpAny _ _ (callAny (.type "set") _) _ _ _
  refine wpAny_pure ⟨Code.quiet_builtin _ (by decide +kernel), codeAny_builtin F.entry_type_call ?_⟩
  rw [Around.under_plain (weight_type_call_type "set" [.ref t] []) rfl]
  have w4 := F.called_set.notType
  have w5 := F.called_set.canCreate
  have w6 := F.typeCall_set_1 (.ref t)
  repeat (any_goals (first | assumption | wp_step))
  refine codeAny_mono (code_set_led1 (.ref t) (E := E) (Q₁ := fun obj s₁ => obj = .ref z.heap.objs.size ∧ s₁ = { z with heap := z.heap.push { cls := .type "set", dict := none, data := .set #[] 0 (.fresh 0 0 (!w.params.followText "set-order")) } }) ⟨rfl, rfl⟩) fun r s₁ hr => ?_
  cases r with
  | error e => exact hr
  | ok fl =>
    cases fl with
    | ret obj =>
      obtain ⟨rfl, rfl⟩ := hr
      have hS : (z.heap.push { cls := .type "set", dict := none, data := .set #[] 0 (.fresh 0 0 (!w.params.followText "set-order")) }).get? z.heap.objs.size = some { cls := .type "set", dict := none, data := .set #[] 0 (.fresh 0 0 (!w.params.followText "set-order")) } := Heap.get?_push_size _ rfl
      have hT : Shared.TypeIs { z with heap := z.heap.push { cls := .type "set", dict := none, data := .set #[] 0 (.fresh 0 0 (!w.params.followText "set-order")) } } (.ref z.heap.objs.size) "set" := ⟨_, hS, rfl⟩
      have w7 := F.called_set.init.lookup
      have w8 := F.called_set.init.bind (.ref z.heap.objs.size)
      repeat (any_goals (first | assumption | wp_step))
      refine codeAny_mono (codeAny_call_builtin (R := wants (fun r s₂ => r = .none ∧ ∃ h' tk, s₂ = { z with heap := h', toks := tk } ∧ SetX P w z.heap.objs.size (uniq xs) h' ∧
          (∀ b o, z.heap.get? b = some o → h'.get? b = some o)) E) F.called_set.init.plain F.entry_set_init (check_set_init_1 hT ?_)) fun r₂ s₂ hr₂ => ?_
      · obtain ⟨ol, hol, hcl, nl, hdl⟩ := ht
        obtain ⟨oc, odd, oda, osl⟩ := ol
        simp only at hcl hdl
        subst hcl; subst hdl
        have hol' : (z.heap.push { cls := .type "set", dict := none, data := .set #[] 0 (.fresh 0 0 (!w.params.followText "set-order")) }).get? t = some { cls := .type "tuple", dict := odd, data := .seq its nl, slots := osl } := Heap.get?_push_of_some _ hol
        have w9 := F.sub_tuple_set
        have w10 := F.sub_tuple_frozenset
        have w11 : (Value.type "tuple" == Value.type "dict") = false := by decide
        have hl1 : (z.heap.push { cls := .type "set", dict := none, data := .set #[] 0 (.fresh 0 0 (!w.params.followText "set-order")) }).IsTuple t its := ⟨_, hol', rfl, nl, rfl⟩
        unfold Builtin.«set.__init__» noKeywords Builtin.Frozenset.updateFrom
        generalize hPI : pyIter = PI
        wp_walk
        subst hPI
        refine wpAny_pyIter_tuple hl1 (wpAny_bind (wpAny_runValue ?_))
        have tlt : t < z.heap.objs.size := Heap.lt_size hol
        have hh3 : A.in1.in1.in1.handled = none := by simp [hh]
        have hneI : t ≠ (z.heap.push { cls := .type "set", dict := none, data := .set #[] 0 (.fresh 0 0 (!w.params.followText "set-order")) }).objs.size := by
          rw [Heap.size_push]; exact Nat.ne_of_lt (Nat.lt_succ_of_lt tlt)
        have hSf : z.heap.objs.size ∉ [(z.heap.push { cls := .type "set", dict := none, data := .set #[] 0 (.fresh 0 0 (!w.params.followText "set-order")) }).objs.size, t] := by
          rw [Heap.size_push]
          intro y
          rcases List.mem_cons.mp y with y | y
          · exact absurd y (Nat.ne_of_lt (Nat.lt_succ_self _))
          · exact absurd (List.mem_singleton.mp y) (Nat.ne_of_gt tlt)
        refine set_update_texts ((Walks.tuple hh3 _ t hneI its).toS) z.heap.objs.size hSf xs hz hb (fun i v e => str_in hv (by rw [Array.getElem?_toList]; exact e)) (its.size - 0) 0 _ (by omega) (Nat.zero_le _)
          ⟨⟨_, Heap.get?_push_size _ rfl, rfl, rfl⟩, (hl1.push _)⟩ ?hS0 ?hR
        case hS0 => exact setX_new (Heap.get?_push_of_some _ hS)
        case hR =>
          intro z' hm hS'
          obtain ⟨h', g2, d', tk', os'⟩ := z'
          have eg : g2 = z.gens := hm.gens
          have ed : d' = z.drawn := hm.drawn
          have eo : os' = z.os := hm.os
          subst eg; subst ed; subst eo
          show wpAny _ _ _ _ _ _
          refine wpAny_pure ?_
          show wpAny _ _ (ret Value.none) _ _ _
          refine wpAny_pure ⟨rfl, h', tk', rfl, hS', fun b o e => ?_⟩
          have b0 : b < z.heap.objs.size := Heap.lt_size e
          refine hm.heap b o (fun y => ?_) (Heap.get?_push_of_some _ (Heap.get?_push_of_some _ e))
          rcases List.mem_cons.mp y with y | y
          · exact absurd y (Nat.ne_of_lt b0)
          · have y2 := List.mem_singleton.mp y
            rw [Heap.size_push] at y2
            exact absurd b0 (by rw [y2]; exact Nat.not_lt_of_le (Nat.le_succ _))
      · cases r₂ with
        | error e => exact hr₂
        | ok fl₂ =>
          cases fl₂ with
          | ret r =>
            obtain ⟨rfl, h', tk, rfl, hS', hk'⟩ := hr₂
            repeat (any_goals (first | assumption | wp_step))
            exact q _ _ hS' hk'
          | _ => exact hr₂.elim
    | _ => exact hr.elim
/-! ### sorted -/
theorem perm_len : ∀ {l ks : List Str}, l.Nodup → (∀ k, k ∈ l → k ∈ ks) → ks.length = l.length → ks.Perm l
  | [], ks, _, _, e => by
    rw [List.length_nil] at e
    rw [List.length_eq_zero_iff.mp e]
  | x :: l, ks, nd, h, e => by
    obtain ⟨n1, n2⟩ := List.nodup_cons.mp nd
    have hx : x ∈ ks := h x (List.mem_cons_self ..)
    have p1 := List.perm_cons_erase hx
    have p2 := perm_len (l := l) (ks := ks.erase x) n2 (fun k hk => (List.mem_erase_of_ne (fun z : k = x => n1 (z ▸ hk))).mpr (h k (List.mem_cons_of_mem _ hk))) (by
      rw [List.length_erase_of_mem hx, e, List.length_cons]
      omega)
    exact p1.trans (p2.cons x)
theorem shape_of {e : Int × Value} {es : List (Int × Value)} (g : ElemsOf (strKind P w) es) (he : e ∈ es) : ∃ k t, e.2 = .str k t := by
  obtain ⟨⟨k, hk, _⟩, _⟩ := g e he
  obtain ⟨t, q⟩ := Value.isStrOf_shape hk
  exact ⟨k, t, q⟩
theorem list_strs : ∀ (vs : List Value), (∀ v ∈ vs, ∃ k t, v = Value.str k t) → ∃ ks, StrsAre vs ks ∧ ∀ k, (∃ t, Value.str k t ∈ vs) → k ∈ ks
  | [], _ => ⟨[], .nil, fun k ⟨t, h⟩ => by cases h⟩
  | v :: vs, h => by
    obtain ⟨k, t, rfl⟩ := h v (List.mem_cons_self ..)
    obtain ⟨ks, h1, h2⟩ := list_strs vs fun u hu => h u (List.mem_cons_of_mem _ hu)
    refine ⟨k :: ks, .cons k t h1, fun j ⟨u, hu⟩ => ?_⟩
    rcases List.mem_cons.mp hu with e | e
    · cases e
      exact List.mem_cons_self ..
    · exact List.mem_cons_of_mem _ (h2 j ⟨u, e⟩)
/-- sorted(s), s such a set -/
theorem sorted_setX {a : Addr} {l : List Str} {Q : Value → Shared → Prop} (R : SetX P w a l z.heap) (nd : l.Nodup) (hh : A.handled = none) (h64 : l.length < 64)
    (q : ∀ z' p (out : Array Value) (c : Nat) (ks : List Str), (∀ b o, z.heap.get? b = some o → z'.heap.get? b = some o) → z'.gens = z.gens → z'.os = z.os → z.heap.objs.size ≤ p →
      z'.heap.get? p = some (seqObj "list" out c) → StrsAre out.toList ks → ks.Perm l → sortedS ks = true → Q (.ref p) z') :
    wpAny (model P w) A (call (.builtin "sorted") [.ref a]) Q E z := by
  obtain ⟨D, ho, F, r, hl⟩ := R
  have hb : D.1.size < scanBound := by rw [F.sz]; unfold scanBound; omega
  refine Calls.call_function_entry kind_sorted plain_sorted entry_sorted (args_sorted1 _) ?_
  unfold Builtin.«sorted»
  refine wpAny_bind (m := checkCount "sorted" 1 1 _) (wpAny_pure ?_)
  refine wpAny_bind (collect_set (A := A.in1) hh ⟨_, ho, rfl, rfl⟩ F.fit hb r hl fun s1 vs k1 hz g1 o1 pm => ?_)
  have hvl : vs.length = l.length := by rw [pm.length_eq, List.length_map, Array.length_toList]; exact F.sz
  obtain ⟨ks, hS, hin⟩ := list_strs vs fun v hv => by
    obtain ⟨e, he, y⟩ := List.mem_map.mp (pm.mem_iff.mp hv)
    rw [← y]
    exact shape_of F.el he
  have pk : ks.Perm l := perm_len nd (fun k hk => by
    obtain ⟨e, he, y⟩ := (F.mem k).mp hk
    obtain ⟨t, et⟩ := Value.isStrOf_shape y
    refine hin k ⟨t, pm.mem_iff.mpr ?_⟩
    rw [← et]
    exact List.mem_map_of_mem he) (by rw [← StrsAre.len_eq hS]; exact hvl)
  refine wpAny_bind (wpAny_newList ?_ (by rw [hvl, sizeLine_eq]; omega))
  have hoL : (s1.heap.push (seqObj "list" vs.toArray 0)).get? s1.heap.objs.size = some (seqObj "list" vs.toArray 0) := Heap.get?_push_size _ rfl
  refine wpAny_bind (wpAny_holding (wpAny_call_entry slot_list_sort ⟨_, hoL, rfl⟩ entry_list_sort (list_sort_treeK strKind_oneLt hoL hS.keysOf (fun v₁ v₂ rest e => keyKind_strs (by rw [← e]; exact hS)) (by rw [hvl]; exact h64) fun st' hp hs => ⟨_, rfl, ?_⟩) (args_list_sort _)))
  obtain ⟨ss', a1, a2, a3⟩ := sorted_out_str hS hp hs
  obtain ⟨c, hc⟩ := sortedHeap_at (vs := vs) (out := (arrOf st').map (·.2)) hoL
  refine wpAny_pure ⟨_, rfl, q _ s1.heap.objs.size _ c ss' (fun b u e => ?_) g1 o1 hz hc a1 (a2.trans pk) a3⟩
  have y := k1 b u e
  have lt := Heap.lt_size y
  show (sortedHeap (s1.heap.push (seqObj "list" vs.toArray 0)) s1.heap.objs.size vs _).get? b = some u
  rw [sortedHeap_old (Nat.ne_of_lt lt) (by rw [size_push']; exact Nat.lt_succ_of_lt lt)]
  exact Heap.get?_push_of_some _ y
end
/-! ### sorted(set(e)), as one expression -/
def tSortSet (K : PySem.W.Frag) (ta : TE) : TE := fun σ H Q => ta σ H fun x H1 => ∃ t xs, x = V.ref t ∧ SqT K H1 t (xs.map V.str) ∧ xs.length < 64 ∧ ∀ (ys : List Str) (p : Addr), ys.Perm (uniq xs) → sortedS ys = true → H1 p = none → Q (.ref p) (upd H1 p (.lst (ys.map V.str)))
section
variable {X : Cx} {cm : Cm}
theorem pe_sortSet {a : Expr} {ta : TE} {p p2 q pos : Pos} (hc : X.calm = true) (hg : Gl X "sorted") (hm : X.mg "sorted" = none) (hg2 : Gl X "set") (hm2 : X.mg "set" = none) (ha : PE X a ta)
    (na : starEach [a] X.env = (false, eval a X.env) :: starEach [] X.env := by rfl) : PE X (.Call (.Name "sorted" p) [.Call (.Name "set" p2) [a] [] q] [] pos) (tSortSet X.K ta) := by
  refine ⟨fun pins s σ H Q I h => ?_⟩
  refine Call_ (ld_blt I hg hm PyProof.Rows.boot_sorted ?_)
  refine PyProof.Rows.callWith_builtin1 (PyProof.Rows.args_cons ?_ rfl) rfl rfl
  refine Call_ (ld_blt I hg2 hm2 boot_set ?_)
  refine PyProof.Rows.callWith_type1 (PyProof.Rows.args_cons (thn (ha.run pins s σ H _ I h) fun v s1 ⟨x, H1, I1, r1, q1⟩ => PyProof.Rows.args_nil ?_) na) na rfl
  obtain ⟨t, xs, rfl, hs, h64, q1⟩ := q1
  cases r1
  obtain ⟨its, r, pl, hz⟩ := I1.tuple hs
  have hv : StrsAre its.toArray.toList xs := by simpa using r.strs
  refine call_set_texts xs (I1.ok.hd hc) pl hv (by unfold scanBound; omega) fun h' tk hS hk => ?_
  have I2 : Inv X pins σ H1 { s1 with heap := h', toks := tk } := I1.kept hk
  have hS2 : SetX X.prog X.w s1.heap.objs.size (uniq xs) ({ s1 with heap := h', toks := tk } : Shared).heap := hS
  generalize ({ s1 with heap := h', toks := tk } : Shared) = s2 at hS2 I2 ⊢
  refine PyProof.Rows.args_nil ?_
  refine sorted_setX hS2 (uniq_nd xs) (I2.ok.hd hc) (by have := uniq_len xs; omega) fun s' p out c ks k g o hp hgt hst pm so => ?_
  have hn : H1 p = none := I2.hok.fresh hp
  have hlen : (ks.map V.str).length ≤ sizeLine := by
    rw [List.length_map, pm.length_eq, sizeLine_eq]
    have := uniq_len xs
    omega
  have J : Inv X pins σ (upd H1 p (.lst (ks.map V.str))) { s2 with heap := s'.heap, gens := s'.gens, drawn := s'.drawn, toks := s'.toks } :=
    I2.call (ch := []) (Un.laid k hp hn) (I2.hok.laid k hp ⟨hlen, out.toList, c, vals_of_strs hst, hgt⟩) (by rw [g]; exact I2.bare) (fun _ y => nomatch y)
  have e : s' = { s2 with heap := s'.heap, gens := s'.gens, drawn := s'.drawn, toks := s'.toks } := by
    cases s'
    cases s2
    cases o
    rfl
  rw [e]
  exact ⟨.ref p, _, J, rfl, q1 ks p pm so hn⟩
/-- sorted(set(t)) -/
def mSortSet (fa : E D) : E D := fun en S => (fa en S).bind fun d S1 => match d with
  | .tup l => match strsOf l with
    | some xs => if xs.length < 64 then .ok (.lst ((srtS (uniq xs)).map D.str)) S1 else .bad
    | none => .bad
  | _ => .bad
theorem re_sortSet {e : Expr} {fe : E D} {p p2 q pos : Pos} (hc : X.calm = true) (hg : Gl X "sorted") (hm : X.mg "sorted" = none) (hg2 : Gl X "set") (hm2 : X.mg "set" = none) (he : RE cm X e fe)
    (na : starEach [e] X.env = (false, eval e X.env) :: starEach [] X.env := by rfl) : RE cm X (.Call (.Name "sorted" p) [.Call (.Name "set" p2) [e] [] q] [] pos) (mSortSet fe) := fun W tk m S H σ en Q C h => by
  refine wE_of (pe_sortSet hc hg hm hg2 hm2 pe_w na) (he W tk m S H σ en _ C (PQ.bind h fun d S1 x m1 H1 e1 A1 R1 r1 h1 => ?_))
  split at h1
  · rename_i l
    split at h1
    · rename_i xs ex
      split at h1
      · rename_i hz
        simp only [Rep] at r1
        obtain ⟨t, vs, rfl, hs, hv⟩ := r1
        have := reps_strs ex hv
        subst this
        refine ⟨t, xs, rfl, hs, hz, fun ys p hp hso hn => ?_⟩
        rw [srtS_eq hp hso]
        refine h1 _ _ _ (Adv.new hn) (R1.grow (grow_upd hn)) ?_
        simp only [Rep]
        exact ⟨p, _, rfl, upd_same, R1.free_new hn, reps_map (fun a => by simp only [Rep]) _⟩
      · exact h1.elim
    · exact h1.elim
  · exact h1.elim
end
end Mi

/-! MiK: t[::-1] of a tuple; dict(pairs) that is changed later. -/
namespace Mi
open PySem PySem.Spec PyProof.Rows L2
theorem fm_congr {α β : Type} {f g : α → Option β} : ∀ {l : List α}, (∀ m ∈ l, f m = g m) → l.filterMap f = l.filterMap g
  | [], _ => rfl
  | m :: l, h => by
    rw [List.filterMap_cons, List.filterMap_cons, h m (List.mem_cons_self ..), fm_congr fun k hk => h k (List.mem_cons_of_mem _ hk)]
theorem pick_rev (xs : Array Value) : ((List.range xs.size).filterMap fun (m : Nat) => xs[(((xs.size : Int) - 1) + (m : Int) * (-1)).toNat]?).toArray = xs.toList.reverse.toArray := by
  have e : ((List.range xs.size).filterMap fun (m : Nat) => xs[(((xs.size : Int) - 1) + (m : Int) * (-1)).toNat]?) = ((List.range xs.size).map fun k => xs.size - 1 - k).filterMap (xs[·]?) := by
    rw [List.filterMap_map]
    refine fm_congr fun m hm => ?_
    have := List.mem_range.mp hm
    show _ = xs[xs.size - 1 - m]?
    rw [show (((xs.size : Int) - 1) + (m : Int) * (-1)).toNat = xs.size - 1 - m by omega]
  rw [e, PySem.W.krv_range, List.filterMap_reverse, PySem.W.krv_all]
section
variable {prog : Program} {w : World} {A : Around} {E : Value → Shared → Prop} {z : Shared}
theorem applied_rev {sl : Addr} {vl vu vs : Value} {n : Nat} {Q : Int × Int × Nat → Shared → Prop} (hs : z.heap.IsSliceOf sl vl vu vs) (pl : IsPart vl none) (pu : IsPart vu none) (ps : IsPart vs (some (-1)))
    (q : Q ((n : Int) - 1, -1, n) z) : wpAny (model prog w) A (Builtin.Slice.sliceApplied (.ref sl) (pure (n : Int))) Q E z := by
  obtain ⟨os, hos, hcs, hds⟩ := id hs
  unfold Builtin.Slice.sliceApplied Builtin.Slice.sliceFields
  refine wpAny_bind <| wpAny_bind <| wpAny_field hos hds (x := vl) rfl <| wpAny_bind <| wpAny_field hos hds (x := vu) rfl <| wpAny_bind <| wpAny_field hos hds (x := vs) rfl <| wpAny_pure ?_
  refine wpAny_bind (HT.slicePart_ ps ?_)
  show wpAny _ _ (if ((-1 : Int) == 0) = true then _ else _) _ _ z
  rw [if_neg (by decide)]
  refine wpAny_bind <| HT.slicePart_ pl <| wpAny_bind <| HT.slicePart_ pu <| wpAny_bind <| wpAny_pure ?_
  show wpAny _ _ (match Builtin.Slice.sliceAdjust none none (-1) (n : Int) with | (lo, hi) => pure (lo, (-1 : Int), Builtin.Slice.slicePlaces lo hi (-1))) _ _ z
  have e : Builtin.Slice.sliceAdjust none none (-1) (n : Int) = ((n : Int) - 1, -1) := by
    unfold Builtin.Slice.sliceAdjust
    first | rfl | simp
  rw [e]
  show wpAny _ _ (pure ((n : Int) - 1, (-1 : Int), Builtin.Slice.slicePlaces ((n : Int) - 1) (-1) (-1))) _ _ z
  have e2 : Builtin.Slice.slicePlaces ((n : Int) - 1) (-1) (-1) = n := by
    unfold Builtin.Slice.slicePlaces
    have h1 : ¬ ((-1 : Int) > 0) := by decide
    simp only [h1, if_false]
    split <;> first | omega | (simp; done) | (simp; omega)
  rw [e2]
  exact wpAny_pure q
theorem getItem_tuple_rev {t sl : Addr} {its : Array Value} {vl vu vs : Value} {Q : Value → Shared → Prop} (ht : IsTup z.heap t its) (hs : z.heap.IsSliceOf sl vl vu vs) (pl : IsPart vl none) (pu : IsPart vu none) (ps : IsPart vs (some (-1)))
    (q : Q (.ref z.heap.objs.size) { z with heap := z.heap.push { cls := .type "tuple", data := .seq its.toList.reverse.toArray } }) (hsz : its.size ≤ sizeLine) : wpAny (model prog w) A (getItem (.ref t) (.ref sl)) Q E z := by
  have hk : sizeOk (.seq its.toList.reverse.toArray) := by
    show its.toList.reverse.toArray.size ≤ sizeLine
    rw [List.size_toArray, List.length_reverse, Array.length_toList]
    exact hsz
  obtain ⟨os, hos, hcs, hds⟩ := id hs
  have hT : z.TypeIs (.ref sl) "slice" := ⟨os, hos, hcs⟩
  unfold getItem
  try with_reducible refine wpAny_holding ?_
  first | refine wpAny_bind (wpAny_pure ?_) | skip
  refine wpAny_bind <| wpAny_sequenceKey ht.typeIs (by decide) ?_
  refine wpAny_bind <| wpAny_callSpecial?_slot (name := Str.ofString "__getitem__") ht.typeIs PyProof.Rows.slot_tuple_getitem <| wpAny_call_entry PyProof.Rows.slot_tuple_getitem ht.typeIs entry_tuple_getitem ?_ (args_tuple_getitem _ _)
  show wpAny _ _ (Builtin.Tuple.tupleItemsOf (.ref t) >>= _) _ _ z
  refine wpAny_bind <| tupleItemsOf_ ht <| wpAny_bind <| wpAny_typeOf hT ?_
  rw [if_pos (by decide)]
  refine wpAny_bind (applied_rev hs pl pu ps ?_)
  have hno : ¬ ((((its.size : Int) - 1) == 0 && (-1 : Int) == 1 && its.size == its.size) = true) := by simp
  show wpAny _ _ (if (((its.size : Int) - 1) == 0 && (-1 : Int) == 1 && its.size == its.size) = true then _ else _) _ _ z
  rw [if_neg hno, pick_rev]
  first
    | exact wpAny_bind (m := Builtin.Tuple.tupleExact _) (wpAny_newObj_type (wpAny_pure ⟨_, rfl, wpAny_pure q⟩) hk)
    | exact wpAny_bind (m := Builtin.Tuple.tupleExact _) (wpAny_newObj_type (wpAny_bind (wpAny_pure (wpAny_pure ⟨_, rfl, wpAny_pure q⟩))) hk)
    | exact wpAny_bind (wpAny_bind (m := Builtin.Tuple.tupleExact _) (wpAny_newObj_type (wpAny_pure (wpAny_pure ⟨_, rfl, wpAny_pure q⟩)) hk))
    | exact wpAny_bind (wpAny_bind (m := Builtin.Tuple.tupleExact _) (wpAny_newObj_type (wpAny_pure ⟨_, rfl, wpAny_pure q⟩) hk))
end
section
variable {X : Cx}
/-- t[::-1] -/
def tRevT (K : PySem.W.Frag) (te : TE) : TE := fun σ H Q => te σ H fun x H1 => ∃ a xs, x = .ref a ∧ SqT K H1 a xs ∧ ∀ p, H1 p = none → Q (.ref p) (upd H1 p (.tup xs.reverse))
theorem pe_revT {e : Expr} {te : TE} {k : Nat} {p1 p2 p3 pos : Pos} (he : PE X e te) : PE X (.Subscript e (.Slice none none (some (.UnaryOp .USub (.Constant (.int 1) k p1) p2)) p3) pos) (tRevT X.K te) := by
  refine ⟨fun pins s σ H Q I h => ?_⟩
  refine Subscript_ (thn (he.run pins s σ H _ I h) fun v s1 ⟨x, H1, I1, r1, a, xs, ex, hx, q⟩ => ?_)
  subst ex
  cases r1
  have hst : PO X (some (.UnaryOp .USub (.Constant (.int 1) k p1) p2)) (tPart (tUn (rU fun i => .int (-i)) (tC (.int 1)))) := po_some (pe_un un_neg pe_int)
  refine wpAny_Slice (thn (po_none.run pins s1 σ H1 (fun o H2 => o = none ∧ H2 = H1) I1 ⟨rfl, rfl⟩) fun vl s2 ⟨l, H2, I2, pl, el, e2⟩ => ?_)
  subst el e2
  refine thn (po_none.run pins s2 σ H2 (fun o H3 => o = none ∧ H3 = H2) I2 ⟨rfl, rfl⟩) fun vu s3 ⟨u, H3, I3, pu, eu, e3⟩ => ?_
  subst eu e3
  refine thn (hst.run pins s3 σ H3 (fun o H4 => o = some (-1) ∧ H4 = H3) I3 ⟨1, rfl, -1, rfl, rfl, rfl⟩) fun vs s4 ⟨o, H4, I4, ps, eo, e4⟩ => ?_
  subst eo e4
  have I5 : Inv X pins σ H4 { s4 with heap := s4.heap.push { cls := .type "slice", data := .fields #[vl, vu, vs] } } := I4.kept (t' := s4.toks) fun b ob y => Heap.get?_push_of_some _ y
  obtain ⟨its, r, ht, hz⟩ := I5.tuple hx
  have hl := r.length
  show wpAny (model X.prog X.w) X.A (subscriptTail e (.Slice none none (some (.UnaryOp .USub (.Constant (.int 1) k p1) p2)) p3) (.ref a) (.ref s4.heap.objs.size)) (EP X pins σ Q) X.xe { s4 with heap := s4.heap.push { cls := .type "slice", data := .fields #[vl, vu, vs] } }
  refine tail_any (ops := [.ref a, .ref s4.heap.objs.size]) ht.typeIs PyProof.Rows.slot_tuple_getitem.lookup ?_ (by with_unfolding_all rfl)
  refine getItem_tuple_rev ht (Heap.IsSliceOf.new _ vl vu vs) pl pu ps ?_ (by rw [List.size_toArray]; omega)
  refine ⟨.ref _, _, I5.laid (t' := s4.toks) (o := .tup xs.reverse) (fun b ob y => Heap.get?_push_of_some _ y) (Nat.le_refl _) ?_, rfl, q _ (I5.hok.fresh (Nat.le_refl _))⟩
  exact ⟨by rw [List.length_reverse]; exact hz, _, r.reverse, IsTup.new _ _⟩
end
/-- t[::-1] -/
def mRevT (fe : E D) : E D := fun en S => (fe en S).bind fun d S1 => match d with
  | .tup l => .ok (.tup l.reverse) S1
  | _ => .bad
theorem Reps.rev {cm : Ct} {m : Am} {S : So} {H : Hp} : ∀ {ds : List D} {vs : List V}, Reps cm m S H ds vs → Reps cm m S H ds.reverse vs.reverse
  | [], vs, r => by
    simp only [Reps] at r
    subst r
    exact Reps.nil
  | d :: ds, vs, r => by
    simp only [Reps] at r
    obtain ⟨v, r', rfl, h1, h2⟩ := r
    rw [List.reverse_cons, List.reverse_cons]
    exact (Reps.rev h2).append (Reps.cons h1 Reps.nil)
section
variable {X : Cx} {cm : Cm}
theorem re_revT {e : Expr} {fe : E D} {k : Nat} {p1 p2 p3 pos : Pos} (he : RE cm X e fe) : RE cm X (.Subscript e (.Slice none none (some (.UnaryOp .USub (.Constant (.int 1) k p1) p2)) p3) pos) (mRevT fe) := fun W tk m S H σ en Q C h => by
  refine wE_of (pe_revT pe_w) (he W tk m S H σ en _ C (PQ.bind h fun d S1 x m1 H1 e1 A1 R1 r1 h1 => ?_))
  split at h1
  · simp only [Rep] at r1
    obtain ⟨a, vs, rfl, hs, hv⟩ := r1
    refine ⟨a, vs, rfl, hs, fun p hn => h1 _ _ _ (Adv.new hn) (R1.grow (grow_upd hn)) ?_⟩
    simp only [Rep]
    exact ⟨p, _, rfl, .inl (.inl upd_same), Reps.adv (Adv.new hn) _ _ (Reps.rev hv)⟩
  · exact h1.elim
/-- dict(pairs) that is changed later -/
def bDictN : OpL := fun l S => match l with
  | [d] => match lstOf d S with
    | some l => match pairsD l with
      | some kds => some (.ref S.length, S ++ [some (.dct (mergeKD ([], []) kds).1 (mergeKD ([], []) kds).2)])
      | none => none
    | none => none
  | _ => none
theorem cd_dictN (hc : X.calm = true) : CallD cm X (.type "dict") bDictN := fun m S H ds vs Q R r h => by
  unfold bDictN at h
  split at h
  · split at h
    · rename_i l el
      split at h
      · rename_i kds ek
        obtain ⟨x, rfl, rx⟩ := reps1 r
        obtain ⟨a, ws, rfl, h1, h2⟩ := lst_at R rx el
        obtain ⟨ps, kvs, g1, g2, g3, g4⟩ := pairsD_v ek h2
        subst g1
        refine rW_of (call_dictP hc) ⟨a, ps, kvs, rfl, .inl (.inl h1), g2, fun p hp => ?_⟩
        obtain ⟨m1', m2'⟩ := mergeKD_v (kvs0 := []) (ks := []) (l := []) g3 g4 rfl Reps.nil List.nodup_nil
        exact h.cell R hp fun m' S' H' A e => ⟨_, e, m1', Reps.adv A _ _ m2'⟩
      · exact h.no.elim
    · exact h.no.elim
  · exact h.no.elim
end
end Mi

/-! MiZ: defs that are walked where nothing is being shown (the guards are known to be none): FnG stands beside HandS's FnOk. -/
namespace Mi
open PySem PySem.Spec PyProof.Rows L2

structure FnG (P : Program) (w : World) (K : PySem.W.Frag) (mg : Str → Option Value) (base : Heap) (CX : CXT) (k : Nat) (f : Addr) (fd : FuncData) (ps : List Str) (sp : Sp) : Prop where
  len : ∀ vs H Q E, sp vs H Q E → vs.length = ps.length
  run : ∀ (A : Around) (outer : List Env) (s : Shared) (H : Hp) (args : Args) (us : List Value) (vs : List V) (Q : VK) (E : XK), A.guards = some [] → Room k A → Env0 P w K mg base A outer s H → BindsTo s fd args (ps.zip us) → Vals vs us → sp vs H Q E →
    codeAny (model P w) A (.call (.ref f) args) (CR CX outer P w H s Q E) s
theorem FnG.mono {P : Program} {w : World} {K : PySem.W.Frag} {mg : Str → Option Value} {base : Heap} {CX : CXT} {j k : Nat} {f : Addr} {fd : FuncData} {ps : List Str} {sp : Sp} (F : FnG P w K mg base CX j f fd ps sp) (h : j ≤ k) :
    FnG P w K mg base CX k f fd ps sp := ⟨F.len, fun A outer s H args us vs Q E gd hr => F.run A outer s H args us vs Q E gd (hr.mono h)⟩
theorem FnG.imp {P : Program} {w : World} {K : PySem.W.Frag} {mg : Str → Option Value} {base : Heap} {CX : CXT} {k : Nat} {f : Addr} {fd : FuncData} {ps : List Str} {sp sp' : Sp} (F : FnG P w K mg base CX k f fd ps sp)
    (hi : ∀ vs H Q E, sp' vs H Q E → sp vs H Q E) : FnG P w K mg base CX k f fd ps sp' :=
  ⟨fun vs H Q E q => F.len vs H Q E (hi _ _ _ _ q), fun A outer s H args us vs Q E gd hr he hb hv hs => F.run A outer s H args us vs Q E gd hr he hb hv (hi _ _ _ _ hs)⟩
theorem fn_ofG {CX : CXT} {P : Program} {w : World} {K : PySem.W.Frag} {mg : Str → Option Value} {base : Heap} {kk : Nat} {f : Addr} {nme qual : Str} {prm : Arguments} {bod : List Stmt} {scope : Scope} {dV kV doc pm cdv ct oc : Value} {an od : Option Addr}
    {osl : Array (Option Value)} {N ps : List Str} {sp : Sp} (lk : K.lookup f = some ⟨oc, od, .func (PySem.W.fnOf nme qual prm bod scope dV kV doc pm an cdv ct), osl⟩) (hcd : PySem.W.codeIn K cdv qual = true) (Sc : FnScope N ps scope)
    (hlen : ∀ vs HH QQ EE, sp vs HH QQ EE → vs.length = ps.length)
    (hbd : ∀ (AA : Around) (out : List Env) (sh : Shared) (HH : Hp) (vs : List V) (QQ : VK) (EE : XK), AA.guards = some [] → Room kk (AA.deeper (envOfC qual scope sh.heap.objs.size f cdv)) → sp vs HH QQ EE →
      ∃ tt, PSs (cxOf CX P w K mg base N qual scope f cdv AA out sh HH EE) bod tt ∧ tt { nx := fun _ Hx => QQ .non Hx, rt := QQ } (start N vs) HH) :
    FnG P w K mg base CX (kk + 1) f (PySem.W.fnOf nme qual prm bod scope dV kV doc pm an cdv ct) ps sp := by
  refine ⟨hlen, fun AA out sh HH args us vs QQ EE gds room env0 bnd rel promise => ?_⟩
  have hll := hlen _ _ _ _ promise
  have kin : K.In sh.heap := env0.mod.kin.keeps fun b o e => (env0.bs b o e).1
  have nolim : sh.heap.NoLimit := env0.mod.nolimit.keeps fun b o e => (env0.bs b o e).1
  have hknd : ∀ y ∈ ps.zip us, scope.names.lookup y.1 = some .local ∨ (scope.names.lookup y.1 = some .cell ∧ ((cellsFrom (sh.heap.objs.size + 1) scope.names []).lookup y.1).isSome = true) := fun ⟨n, vv⟩ hy => by
    rcases Sc.par n (List.of_mem_zip hy).1 with qq | qq
    · exact .inl qq
    · exact .inr ⟨qq, PySem.W.cellsFrom_some _ _ _ (.inl qq)⟩
  refine codeAny_call_function room.depth (kin _ _ lk) rfl Sc.co Sc.gen rfl (PySem.W.codeRec_of kin hcd) (bnd _ _ _ _ ?_)
  refine wpAny_newFunctionEnv_cells Sc.kind hknd fun enw hen s1 xx => ?_
  subst hen
  refine ⟨nolim.keeps xx.toInCall.keep, codeAny_func ?_⟩
  obtain ⟨tt, htt, hqq⟩ := hbd AA out sh HH vs QQ EE gds (room.deeper _) promise
  have inv : Inv (cxOf CX P w K mg base N qual scope f cdv AA out sh HH EE) [] (start N vs) HH s1 := inv_start Sc room.hd env0 hll rel xx
  refine wpAny_mono (htt.run [] s1 (start N vs) HH _ inv hqq) (fun fl sx hsh => ?_) fun e sx hsh => hsh
  have fini : ∀ {σx : St} {Hx : Hp} {vv : V} {uu : Value}, Inv (cxOf CX P w K mg base N qual scope f cdv AA out sh HH EE) [] σx Hx sx → RelV vv uu → QQ vv Hx → CE out P w HH sh QQ uu sx :=
    fun {σx Hx vv uu} inw rvv qq => ⟨vv, Hx, inw.os, inw.bare, inw.base, inw.hok, rvv, qq⟩
  cases fl with
  | ret uu =>
    obtain ⟨vv, σx, Hx, inw, rvv, qq⟩ := hsh
    exact fini inw rvv qq
  | next =>
    obtain ⟨σx, Hx, inw, qq⟩ := hsh
    exact fini (vv := V.non) (uu := Value.none) inw rfl qq
  | brk =>
    obtain ⟨_, _, _, qq⟩ := hsh
    exact False.elim qq
  | cont =>
    obtain ⟨_, _, _, qq⟩ := hsh
    exact False.elim qq

section
variable {P : Program} {w : World} {K : PySem.W.Frag} {mg : Str → Option Value} {base : Heap}
theorem okG {x qual : Str} {st : Stmt} {f : Addr} {fd : FuncData} {N ps : List Str} {k : Nat} {sp : Sp} (F : Fun K x qual st f fd) (S : FnScope N ps (defScope st)) (len : ∀ vs H Q E, sp vs H Q E → vs.length = ps.length)
    (hb : ∀ (cdv : Value) (A : Around) (outer : List Env) (s : Shared) (H : Hp) (vs : List V) (Q : VK) (E : XK), A.guards = some [] → Room k (A.deeper (envOfC qual (defScope st) s.heap.objs.size f cdv)) → sp vs H Q E →
      ∃ t, PSs (cxOf (L2.CX P w) P w K mg base N qual (defScope st) f cdv A outer s H E) (defBody st) t ∧ t { nx := fun _ H' => Q .non H', rt := Q } (L2.start N vs) H) : FnG P w K mg base (L2.CX P w) (k + 1) f fd ps sp := by
  obtain ⟨oc, od, kV, doc, pm, an, cdv, ct, osl, e0, lk, hcd⟩ := F.ex
  subst e0
  exact fn_ofG lk hcd S len fun A outer s H vs Q E gd hr hsp => hb cdv A outer s H vs Q E gd hr hsp
end
section
variable {X : Cx} {CX : CXT} {k : Nat} {f : Addr} {fd : FuncData} {ps : List Str} {sp : Sp} {E : St → XK} {x : Str} {p pos : Pos} {e : Expr} {es : List Expr} {t : TA}
theorem run_fnG {pins : List (Addr × Obj)} {σ : St} {H : Hp} {s : Shared} {Q : VK} {us : List Value} {vs : List V} (Fo : FnG X.prog X.w X.K X.mg X.base CX k f fd ps sp) (gd : X.A.guards = some []) (hr : Room k X.A) (hbd : Binds X.K fd ps []) (hx : PassesAt CX X σ (E σ))
    (I : Inv X pins σ H s) (rv : Vals vs us) (hsp : sp vs H Q (E σ)) : wpAny (model X.prog X.w) X.A (call (.ref f) us) (EP X pins σ Q) X.xe s := by
  have hlu : us.length = ps.length := by rw [← rv.length]; exact Fo.len _ _ _ _ hsp
  have bt := hbd s us I.kIn (by rw [List.append_nil]; exact hlu)
  rw [List.append_nil] at bt
  refine wpAny_call (codeAny_mono (Fo.run X.A X.stack s H ⟨us, []⟩ us vs Q (E σ) gd hr I.env0 bt rv hsp) fun fl s' hq => ?_)
  cases fl with
  | error y => exact hx pins H s y s' I hq
  | ok fl =>
    cases fl with
    | ret u => exact I.after hq
    | next => exact False.elim hq
    | brk => exact False.elim hq
    | cont => exact False.elim hq
theorem pe_callG (Fo : FnG X.prog X.w X.K X.mg X.base CX k f fd ps sp) (gd : X.A.guards = some []) (hr : Room k X.A) (hg : Gl X x) (hm : X.mg x = some (.ref f)) (hk : PySem.W.keepIn X.K (.ref f) = true) (hbd : Binds X.K fd ps []) (hx : ∀ σ, PassesAt CX X σ (E σ))
    (ha : PA X (e :: es) t) (hdb : (x == ("__debug__" : Str)) = false := by decide) (he : starEach (e :: es) X.env = (false, eval e X.env) :: starEach es X.env := by rfl) (hpl : (backTo pos (starEach es X.env)).any (·.1) = false := by rfl) :
    PE X (.Call (.Name x p) (e :: es) [] pos) (tCallS sp E t) := by
  refine ⟨fun pins s σ H Q I hh => wpAny_Call_Name_kw (ld_glob I hg hm ?_ hdb)⟩
  exact PySem.W.callWith_K (h₀ := X.base) I.ok.mod.kin hk (thn (ha.run pos pins s σ H _ I hh) fun us s1 ⟨vs, H1, I1, rv, q⟩ => ⟨I1.kIn, run_fnG Fo gd hr hbd (hx σ) I1 rv q⟩) he hpl
end
section
variable {P : Program} {w : World} {K : PySem.W.Frag} {mg : Str → Option Value} {base : Heap} {cm : Cm}
def DefG (P : Program) (w : World) (K : PySem.W.Frag) (mg : Str → Option Value) (base : Heap) (cm : Cm) (k : Nat) (x : Str) (F : Fm) : Prop :=
  ∃ f fd ps, mg x = some (.ref f) ∧ PySem.W.keepIn K (.ref f) = true ∧ FnG P w K mg base (L2.CX P w) k f fd ps (spF ⟨K, cm.cls, cm.exc⟩ ps.length F) ∧ Binds K fd ps [] ∧ ∀ ds S, ds.length ≠ ps.length → F ds S = .bad
theorem DefG.mono {j k : Nat} {x : Str} {F : Fm} (h : DefG P w K mg base cm j x F) (l : j ≤ k) : DefG P w K mg base cm k x F := let ⟨f, fd, ps, a, b, c, d⟩ := h; ⟨f, fd, ps, a, b, c.mono l, d⟩
theorem fnm_ofG {x qual : Str} {st : Stmt} {f : Addr} {fd : FuncData} {N ps : List Str} {k : Nat} {g : T} (b : Fun K x qual st f fd) (S : FnScope N ps (defScope st))
    (hb : ∀ (f : Addr) (cdv : Value) (A : Around) (outer : List Env) (s : Shared) (H : Hp) (E : XK), A.guards = some [] → Room k (A.deeper (envOfC qual (defScope st) s.heap.objs.size f cdv)) →
      RSs cm (cxOf (L2.CX P w) P w K mg base N qual (defScope st) f cdv A outer s H E) (defBody st) g) : FnG P w K mg base (L2.CX P w) (k + 1) f fd ps (spF ⟨K, cm.cls, cm.exc⟩ ps.length (bodyM N.length ps.length g)) := by
  refine okG b S (fun _ _ _ _ h => h.1) (fun cdv A outer s H vs Q E gd hr hsp => ?_)
  obtain ⟨hl, m, S1, ds, R, rs, h⟩ := hsp
  refine ⟨_, pss_w, ?_⟩
  have hl2 : ds.length = ps.length := by rw [← hl]; exact rs.length
  unfold bodyM at h
  rw [if_pos hl2] at h
  refine hb f cdv A outer s H E gd hr (fun cls d _ H => E cls d H) (takes_of rfl rfl rfl rfl) m S1 H _ (ds.map some ++ List.replicate (N.length - ps.length) none) _ (by rw [← hl2]; exact cond_start R rs) ?_
  revert h
  cases g (ds.map some ++ List.replicate (N.length - ps.length) none) S1 with
  | bad => exact fun h => h.elim
  | err x en' S' => exact fun h cls dd m' σ' H' A' C' X' => h cls dd m' H' A' C'.rel X'
  | ok fl S' =>
    cases fl with
    | nx en' => exact fun h m' σ' H' A' C' => h .non m' H' A' C'.rel (by simp only [Rep])
    | rt d => exact fun h v m' H' A' R' r' => h v m' H' A' R' r'
    | bk _ => exact fun h => h.elim
    | ct _ => exact fun h => h.elim
theorem DefG.of {x qual : Str} {st : Stmt} {N ps : List Str} {k : Nat} {g : T} (F : Fnd K mg x qual st ps) (S : FnScope N ps (defScope st))
    (hb : ∀ (f : Addr) (cdv : Value) (A : Around) (outer : List Env) (s : Shared) (H : Hp) (E : XK), A.guards = some [] → Room k (A.deeper (envOfC qual (defScope st) s.heap.objs.size f cdv)) →
      RSs cm (cxOf (L2.CX P w) P w K mg base N qual (defScope st) f cdv A outer s H E) (defBody st) g) : DefG P w K mg base cm (k + 1) x (bodyM N.length ps.length g) := by
  obtain ⟨f, fd, a, b, c⟩ := F
  exact ⟨f, fd, ps, a, b.kp, fnm_ofG b S hb, c, fun ds S' h => by unfold bodyM; rw [if_neg h]⟩
end
section
variable {cm : Cm} {X : Cx} {k : Nat} {x : Str} {F : Fm} {p pos : Pos} {e : Expr} {es : List Expr} {fa : E (List D)}
theorem re_callG (Dm : DefG X.prog X.w X.K X.mg X.base cm k x F) (gd : X.A.guards = some []) (hr : Room k X.A) (hg : Gl X x) (ha : RA cm X (e :: es) fa) (hdb : (x == ("__debug__" : Str)) = false := by decide)
    (he : starEach (e :: es) X.env = (false, eval e X.env) :: starEach es X.env := by rfl) (hpl : (backTo pos (starEach es X.env)).any (·.1) = false := by rfl) :
    RE cm X (.Call (.Name x p) (e :: es) [] pos) (mCall F fa) := fun W tk m S H σ en Q C h => by
  obtain ⟨f, fd, ps, hm, hk, hF, hb, hbad⟩ := Dm
  refine wE_of (pe_callG hF gd hr hg hm hk hb (passAt tk) pa_w hdb he hpl) ?_
  refine ha W tk m S H σ en _ C (PQ.bind h fun ds S1 vs m1 H1 e1 A1 R1 rs h1 => ?_)
  have hl : ds.length = ps.length := by
    by_cases q : ds.length = ps.length
    · exact q
    · rw [hbad ds S1 q] at h1
      exact h1.elim
  exact ⟨by rw [← hl]; exact rs.length.symm, m1, S1, ds, R1, rs, h1.pd (C.adv A1 R1)⟩
end
/-! ### repr(x) -/
def bRepr : OpL := fun l S => match l with
  | [d] => match toPt d S with
    | some q => if q.showable = true ∧ q.hasDict = false ∧ q.depth + 1 ≤ 60 ∧ q.shown.length ≤ sizeLine then some (.str q.shown, S) else none
    | none => none
  | _ => none
/-- x != y of texts as they stand -/
def dNeT : Op2 := fun a b S => match a, b with
  | .str x, .str y => some (.bl (!decide (x = y)), S)
  | _, _ => none
section
variable {cm : Cm} {X : Cx}
theorem od_neT : OpD cm X (compareOp .NotEq) dNeT := fun m S H a b x y Q R ra rb h => by
  unfold dNeT at h
  split at h
  · rename_i u v
    simp only [Rep] at ra rb
    subst ra rb
    refine wO2_of op_ne ⟨rfl, ?_⟩
    have e : decide (V.str u = V.str v) = decide (u = v) := by
      rw [Bool.eq_iff_iff, decide_eq_true_eq, decide_eq_true_eq]
      exact ⟨fun z => by cases z; rfl, fun z => by rw [z]⟩
    rw [e]
    exact h.bl R
  · exact h.no.elim
theorem cd_repr (gd : X.A.guards = some []) (hu : X.A.units + 64 < cLine) : CallD cm X (.builtin "repr") bRepr := fun m S H ds vs Q R r h => by
  unfold bRepr at h
  split at h
  · obtain ⟨x, rfl, rx⟩ := reps1 r
    split at h
    · rename_i q eq
      split at h
      · rename_i hc
        obtain ⟨c1, c2, c3, c4⟩ := hc
        have dp := toPt_dp (cm := ct X cm) R rx eq
        have hq : Q (.str q.shown) H := h.str R
        intro pins s σ us I rv
        cases rv with
        | cons z zs =>
          cases zs
          rename_i u
          obtain ⟨as, rd⟩ := Dp.reads I q x u dp z
          cases dp with
          | non =>
            obtain rfl : u = Value.none := z
            exact PySem.P.repr_of_none ⟨.str _, H, I.tok _, ⟨_, rfl⟩, hq⟩
          | bl b =>
            obtain rfl : u = Value.bool b := z
            refine PySem.P.repr_of_bool ⟨.str _, H, I.tok _, ⟨_, rfl⟩, ?_⟩
            have e : PyData.shown (.bool b) = (if b then "True" else "False" : Str) := by cases b <;> rfl
            rw [e] at hq
            exact hq
          | int i =>
            obtain ⟨t, rfl⟩ := z
            have ci : i.natAbs.log2 < 1920 := by simpa [PyData.showable] using c1
            exact PySem.P.repr_of_int ci ⟨.str _, H, I.tok _, ⟨_, rfl⟩, hq⟩
          | str y =>
            obtain ⟨t, rfl⟩ := z
            exact PySem.P.repr_of_str (hsz := c4) ⟨.str _, H, I.tok _, ⟨_, rfl⟩, hq⟩
          | lst _ _ =>
            obtain rfl : u = Value.ref _ := z
            exact repr_of_reads' rd c1 (fun e => by rw [c2] at e; cases e) gd (by omega) (fun _ _ e => e) (fun h' u tk hk => ⟨.str _, H, I.kept hk, ⟨_, rfl⟩, hq⟩) c4
          | tup _ _ =>
            obtain rfl : u = Value.ref _ := z
            exact repr_of_reads' rd c1 (fun e => by rw [c2] at e; cases e) gd (by omega) (fun _ _ e => e) (fun h' u tk hk => ⟨.str _, H, I.kept hk, ⟨_, rfl⟩, hq⟩) c4
      · exact h.no.elim
    · exact h.no.elim
  · exact h.no.elim
end
theorem law_callG {P : Program} {w : World} {K : PySem.W.Frag} {mg mb : Str → Option Value} {CX : CXT} {k : Nat} {fa aa : Addr} {fd : FuncData} {x : Str} {sp : Sp} {sA : Shared} {vvs : List Value} {nns : List Int}
    (kin : K.In sA.heap) (nsm : sA.heap.Ns mainGlobals mg) (nsb : sA.heap.Ns builtinsNs mb) (nsbb : ∀ x : Str, x ≠ "__name__" → mb x = bootBuiltins x) (nolim : sA.heap.NoLimit) (gens0 : sA.gens = #[])
    (laid : sA.heap.get? aa = some { cls := .type "list", data := .seq vvs.toArray }) (intz : IntsAre vvs nns) (hll : nns.length ≤ sizeLine) (room : Room k callerA)
    (FF : ∀ base : Heap, K.In base → base.Ns mainGlobals mg → FnG P w K mg base CX k fa fd [x] sp) (bnd : ∀ (s : Shared) (uu : Value), BindsTo s fd ⟨[uu], []⟩ [(x, uu)])
    (promise : ∀ HH : Hp, Only HH → SqL K HH aa (nns.map V.int) → sp [.ref aa] HH (fun vv _ => vv = .bl true) fun _ _ _ => False)
    (hcx : ∀ HH ee sx, CX [] HH sA (fun _ _ _ => False) ee sx → False) :
    codeAny (model P w) callerA (.call (.ref fa) ⟨[.ref aa], []⟩) (fun rr sx => rr = .ok (.ret (.bool true)) ∧ OldK sA.heap sx.heap ∧ sx.os = sA.os ∧ AllBare sx.gens) sA := by
  have rvv := vals_ints intz
  have lnv := intz.length
  have kern : ∀ HH : Hp, Only HH → SqL K HH aa (nns.map V.int) → HOk P w HH sA.heap → (∀ bb, HH bb ≠ none → bb = aa) → (HH aa ≠ none → K.lookup aa = none) →
      codeAny (model P w) callerA (.call (.ref fa) ⟨[.ref aa], []⟩) (fun rr sx => rr = .ok (.ret (.bool true)) ∧ OldK sA.heap sx.heap ∧ sx.os = sA.os ∧ AllBare sx.gens) sA := by
    intro HH only hsq hokk hun hkk
    have bsof : ∀ {bb : Addr} {oo : Obj}, sA.heap.get? bb = some oo → HH bb = none → (hidT sA.heap HH).get? bb = some oo := fun ee nn => hidT_get ee nn
    have nod : ∀ {bb : Addr} {oo : Obj} {ess : Array DictEntry} {epp : Nat}, sA.heap.get? bb = some oo → oo.data = .dict ess epp → HH bb = none := fun {bb oo ess epp} ee dd => by
      cases qq : HH bb with
      | none => rfl
      | some uu =>
        have ez : bb = aa := hun bb (by rw [qq]; simp)
        subst ez
        rw [laid] at ee; cases ee
        have dz : Data.seq vvs.toArray _ = Data.dict ess epp := dd
        cases dz
    have nsk : ∀ {bb : Addr} {mm : Str → Option Value}, sA.heap.Ns bb mm → (hidT sA.heap HH).Ns bb mm := fun {bb mm} ⟨oo, ess, epp, ee, dd, rr⟩ => ⟨oo, ess, epp, bsof ee (nod ee dd), dd, rr⟩
    have kinb : K.In (hidT sA.heap HH) := fun bb oo ee => bsof (kin bb oo ee) (by
      cases qq : HH bb with
      | none => rfl
      | some uu =>
        have ez : bb = aa := hun bb (by rw [qq]; simp)
        subst ez
        rw [hkk (by rw [qq]; simp)] at ee; cases ee)
    have modl : Mod K mg (hidT sA.heap HH) := ⟨kinb, nsk nsm, ⟨mb, nsk nsb, nsbb⟩, let ⟨mc, h1, h2⟩ := nolim; ⟨mc, nsk h1, h2⟩⟩
    have env0 : Env0 P w K mg (hidT sA.heap HH) callerA [] sA HH := ⟨rfl, modl, fun bb oo ee => of_hidT ee, Nat.le_of_eq (hidT_size _ _), trivial, fun bb nsb => absurd (show bb ∈ ([] : List Addr) from nsb) (by simp), hokk, .of_eq gens0⟩
    refine codeAny_mono ((FF _ kinb (nsk nsm)).run callerA [] sA HH ⟨[.ref aa], []⟩ [.ref aa] [.ref aa] _ _ rfl room env0 (bnd sA (.ref aa)) (.cons rfl .nil) (promise HH only hsq)) fun rr sx hh => ?_
    cases rr with
    | error ee => exact (hcx HH ee sx hh).elim
    | ok fl =>
      cases fl with
      | next => exact False.elim hh
      | brk => exact False.elim hh
      | cont => exact False.elim hh
      | ret uu =>
        obtain ⟨vv, Hx, osx, bar, unn, hoky, rz, qq⟩ := hh
        have qz : vv = .bl true := qq
        subst qz
        obtain rfl : uu = Value.bool true := rz
        refine ⟨rfl, OldK.of_keep fun bb oo ee => ?_, osx, bar⟩
        cases qq : HH bb with
        | none => exact unn.keep bb oo ee qq (by intro zz; exact absurd (show bb ∈ ([] : List Addr) from zz) (by simp)) (by simp)
        | some uu =>
          rcases only bb with zz | ⟨obj, xxs, zz⟩
          · rw [qq] at zz; cases zz
          · have zy := unn.frzs bb obj _ zz
            obtain ⟨ea, _⟩ := hokk bb _ zz
            obtain ⟨eb, _⟩ := hoky bb _ zy
            rw [ee] at ea; cases ea
            exact eb
  cases hlk : K.lookup aa with
  | some oo =>
    have ee := kin aa oo hlk
    rw [laid] at ee
    cases ee
    refine kern (fun _ => none) (fun _ => .inl rfl) (.inr ⟨_, vvs.toArray, _, hlk, rfl, rfl, rfl, by rw [List.size_toArray, lnv]; exact hll, by simpa using rvv⟩) (fun bb uu zz => by have zx : (none : Option HO) = some uu := zz; cases zx) (fun bb zz => absurd rfl zz) fun zz => absurd rfl zz
  | none =>
    refine kern (fun bb => if bb = aa then some (.frz { cls := .type "list", data := .seq vvs.toArray } (.lst (nns.map V.int))) else none) (fun bb => ?_) (.inl (.inr ⟨{ cls := .type "list", data := .seq vvs.toArray }, if_pos rfl⟩)) (fun bb uu zz => ?_) (fun bb zz => ?_) fun _ => hlk
    · by_cases nsb : bb = aa
      · exact .inr ⟨_, _, if_pos nsb⟩
      · exact .inl (if_neg nsb)
    · by_cases nsb : bb = aa
      · have zx := (if_pos nsb).symm.trans zz
        cases zx
        subst nsb
        exact ⟨laid, by rw [List.length_map]; exact hll, vvs, _, rvv, laid⟩
      · have zx := (if_neg nsb).symm.trans zz
        cases zx
    · by_cases nsb : bb = aa
      · exact nsb
      · exact absurd (if_neg nsb) zz

theorem walk_ofG {l : PySem.W.OpenLaw} {n k : Nat} {q : Program} {loose : List Str} {XP : (Str → Option Value) → Heap → Prop} {YP : World → Heap → Prop} {d : DefRec} {K : Params → PySem.W.Frag} {CX : World → CXT} {sp : World → Sp} {x : Str}
    (hn : l.most = some n) (hn2 : n ≤ sizeLine) (hdf : d.params.defaults = []) (hr : Room k callerA) (hY : ∀ (w : World) (h : Heap), YP w h → (K w.params).In h)
    (F : ∀ (w : World) (mg : Str → Option Value) (fa : Addr) (h : Heap), (K w.params).In h → h.Ns mainGlobals mg → mg d.name = some (.ref fa) → ∃ fd : FuncData, (∀ (s : Shared) (u : Value), BindsTo s fd ⟨[u], []⟩ [(x, u)]) ∧ ∀ base : Heap, (K w.params).In base → base.Ns mainGlobals mg → FnG l.prog w (K w.params) mg base (CX w) k fa fd [x] (sp w))
    (hsp : ∀ (w : World) (H : Hp) (a : Addr) (ns : List Int), ns.length ≤ n → Only H → SqL (K w.params) H a (ns.map V.int) → sp w [.ref a] H (fun v _ => v = .bl true) fun _ _ _ => False)
    (hCX : ∀ (w : World) (H : Hp) (s : Shared) (e : Value) (s' : Shared), CX w [] H s (fun _ _ _ => False) e s' → False) : PySem.W.WalkO q loose XP YP l.row.toRowW d [] (fun f vs => PySem.call f vs) := by
  refine Att.attach_call hn hdf fun w s0 s1 mg mb fa o pm cd doc a vs ns G Y ho hd hcd hmg hobj hints hlen hg => ?_
  obtain ⟨fd, hb, hF⟩ := F w mg fa _ (hY w _ Y) G.T.g hmg
  exact law_callG (hY w _ Y) G.T.g G.T.b G.T.builtins G.T.nolimit hg hobj hints (Nat.le_trans hlen hn2) hr hF hb (fun H hO hS => hsp w H a ns hlen hO hS) fun H e s' => hCX w H s1 e s'
end Mi

/-! MiA: t * 1, t * 0; max, min, sum of a list; zip of lists; list(range(..)). -/
namespace Mi
open PySem PySem.Spec PyProof.Rows L2
theorem tuple_mul1 (l : Addr) (its : Array Value) (n : Nat) (dd : Option Addr) (sl : Array (Option Value)) (u : Tok) :
    Meets (Builtin.«tuple.__mul__» ⟨[.ref l, .int 1 u], []⟩) (fun _ R s => s.heap.get? l = some { cls := .type "tuple", dict := dd, data := .seq its n, slots := sl } ∧ ∀ tk, R (.ok (.ret (Value.ref l))) { s with toks := tk }) :=
  .of_wp fun prog w A R s h => by
    obtain ⟨hp, g, d, tk, os⟩ := s
    obtain ⟨hl, h⟩ := h
    have f1 := AutoSeq1.idx_int
    wp_walk using wpAny_loadPart' hl
    exact ⟨_, rfl, h tk⟩
theorem tuple_mul0 (l : Addr) (its : Array Value) (n : Nat) (dd : Option Addr) (sl : Array (Option Value)) (u : Tok) (c1 : (its.isEmpty || (0 : Int) == 1) = false) :
    Meets (Builtin.«tuple.__mul__» ⟨[.ref l, .int 0 u], []⟩) (fun _ R s => s.heap.get? l = some { cls := .type "tuple", dict := dd, data := .seq its n, slots := sl } ∧
      R (.ok (.ret (Value.ref s.heap.objs.size))) { s with heap := s.heap.push { cls := Value.type "tuple", data := Data.seq #[] }, toks := s.toks }) :=
  .of_wp fun prog w A R s h => by
    obtain ⟨hp, g, d, tk, os⟩ := s
    obtain ⟨hl, h⟩ := h
    have f1 := AutoSeq1.idx_int
    wp_walk using wpAny_loadPart' hl
    repeat (first
      | (refine wpAny_ite_false (decide_eq_false (by rw [c1]; exact Bool.false_ne_true)) ?_; wp_walk using wpAny_loadPart' hl))
    exact ⟨_, rfl, h⟩
/-- t * 1, t * 0 -/
def rRep1 (K : PySem.W.Frag) : R2 := fun x y H Q => ∃ l xs, x = .ref l ∧ SqT K H l xs ∧ ((y = .int 1 ∧ Q (.ref l) H) ∨ (y = .int 0 ∧ xs ≠ [] ∧ ∀ p, H p = none → Q (.ref p) (upd H p (.tup []))))
theorem op_rep1 {X : Cx} : OpR X (binaryOp .Mult) (rRep1 X.K) := by
  intro pins s σ H x y v u Q I rx ry h
  obtain ⟨l, xs, rfl, hT, h⟩ := h
  cases rx
  obtain ⟨its, r, ⟨⟨cls, dd, data, sl⟩, ho, hc, n, hd⟩, hs⟩ := I.tuple hT
  simp only at hc hd
  subst hc hd
  rcases h with ⟨rfl, q⟩ | ⟨rfl, hne, q⟩
  · obtain ⟨t, rfl⟩ := ry
    refine wpAny_binaryOp_repeat_ref (T := "tuple") (U := "int") (by decide) ⟨_, ho, rfl⟩ (fun s' => typeIs_int s' 1 t) noFill_tuple_mul F.fills_int_mul F.slot_int_rmul repeat_tuple F.slot_int_index.lookup ?_
    refine call_meets F.slot_int_rmul (typeIs_int s 1 t) F.entry_int_rmul (F.args_int_rmul_2 _ _) (int_rmul_tuple 1 t l its.toArray n dd sl) ⟨ho, rfl, ⟨_, ho, rfl⟩, ?_⟩
    exact call_meets F.slot_tuple_mul ⟨_, ho, rfl⟩ F.entry_tuple_mul (F.args_tuple_mul_2 _ _) (tuple_mul1 l its.toArray n dd sl t) ⟨ho, fun tk => ⟨.ref l, H, I.tok _, rfl, q⟩⟩
  · obtain ⟨t, rfl⟩ := ry
    have hi : its.toArray.isEmpty = false := by
      cases its with
      | nil => exact absurd (List.eq_nil_of_length_eq_zero r.length) hne
      | cons a b => rfl
    refine wpAny_binaryOp_repeat_ref (T := "tuple") (U := "int") (by decide) ⟨_, ho, rfl⟩ (fun s' => typeIs_int s' 0 t) noFill_tuple_mul F.fills_int_mul F.slot_int_rmul repeat_tuple F.slot_int_index.lookup ?_
    refine call_meets F.slot_int_rmul (typeIs_int s 0 t) F.entry_int_rmul (F.args_int_rmul_2 _ _) (int_rmul_tuple 0 t l its.toArray n dd sl) ⟨ho, rfl, ⟨_, ho, rfl⟩, ?_⟩
    refine call_meets F.slot_tuple_mul ⟨_, ho, rfl⟩ F.entry_tuple_mul (F.args_tuple_mul_2 _ _) (tuple_mul0 l its.toArray n dd sl t (by rw [hi]; rfl)) ⟨ho, ?_⟩
    refine ⟨.ref s.heap.objs.size, _, I.laid (t' := s.toks) (o := .tup []) (fun b ob z => Heap.get?_push_of_some _ z) (Nat.le_refl _) ?_, rfl, q _ (I.hok.fresh (Nat.le_refl _))⟩
    exact ⟨Nat.zero_le _, [], .nil, IsTup.new _ _⟩
def dMulT : Op2 := fun a b S => match a, b with
  | .tup l, .int 1 => some (.tup l, S)
  | .tup l, .int 0 => if l ≠ [] then some (.tup [], S) else none
  | a, b => dMul a b S
theorem od_mulT {cm : Cm} {X : Cx} : OpD cm X (binaryOp .Mult) dMulT := fun m S H a b x y Q R ra rb h => by
  unfold dMulT at h
  split at h
  · simp only [Rep] at ra rb
    obtain ⟨p, xs, rfl, hx, rx⟩ := ra
    refine wO2_of op_rep1 ⟨p, xs, rfl, hx, .inl ⟨rb, h.now R ?_⟩⟩
    simp only [Rep]
    exact ⟨p, xs, rfl, hx, rx⟩
  · split at h
    · rename_i hc
      simp only [Rep] at ra rb
      obtain ⟨p, xs, rfl, hx, rx⟩ := ra
      refine wO2_of op_rep1 ⟨p, xs, rfl, hx, .inr ⟨rb, fun z => hc (List.eq_nil_of_length_eq_zero (by rw [rx.length, z]; rfl)), fun z hz => h.tup R hz Reps.nil⟩⟩
    · exact h.no.elim
  · exact od_mul m S H a b x y Q R ra rb h

/-! ### max, min, sum of a list -/
def intsOf : List D → Option (List Int)
  | [] => some []
  | .int b :: l => (intsOf l).map (b :: ·)
  | _ => none
theorem reps_intsOf {cm : Ct} {m : Am} {S : So} {H : Hp} : ∀ {l : List D} {bs : List Int} {vs : List V}, intsOf l = some bs → Reps cm m S H l vs → vs = bs.map V.int
  | [], bs, vs, e, r => by
    simp only [intsOf, Option.some.injEq] at e
    subst e
    simp only [Reps] at r
    exact r
  | .int b :: l, bs, vs, e, r => by
    simp only [intsOf, Option.map_eq_some_iff] at e
    obtain ⟨bs', e1, rfl⟩ := e
    simp only [Reps, Rep] at r
    obtain ⟨v, r', rfl, rfl, h⟩ := r
    rw [reps_intsOf e1 h]
    rfl
  | .non :: l, bs, vs, e, r => by simp [intsOf] at e
  | .bl _ :: l, bs, vs, e, r => by simp [intsOf] at e
  | .str _ :: l, bs, vs, e, r => by simp [intsOf] at e
  | .tup _ :: l, bs, vs, e, r => by simp [intsOf] at e
  | .lst _ :: l, bs, vs, e, r => by simp [intsOf] at e
  | .dct _ _ :: l, bs, vs, e, r => by simp [intsOf] at e
  | .ins _ _ _ :: l, bs, vs, e, r => by simp [intsOf] at e
  | .ref _ :: l, bs, vs, e, r => by simp [intsOf] at e
  | .scr _ :: l, bs, vs, e, r => by simp [intsOf] at e
  | .exc _ _ _ :: l, bs, vs, e, r => by simp [intsOf] at e
  | .cls _ :: l, bs, vs, e, r => by simp [intsOf] at e
def maxI : Int → List Int → Int
  | a, [] => a
  | a, b :: l => maxI (if b > a then b else a) l
def minI : Int → List Int → Int
  | a, [] => a
  | a, b :: l => minI (if b < a then b else a) l
theorem maxI_mem : ∀ (l : List Int) (a : Int), maxI a l ∈ a :: l
  | [], a => List.mem_cons_self ..
  | b :: l, a => by
    unfold maxI
    have := maxI_mem l (if b > a then b else a)
    rcases List.mem_cons.mp this with e | e
    · rw [e]
      split
      · simp
      · simp
    · exact List.mem_cons_of_mem _ (List.mem_cons_of_mem _ e)
theorem maxI_le : ∀ (l : List Int) (a y : Int), y ∈ a :: l → y ≤ maxI a l
  | [], a, y, h => by
    rw [List.mem_singleton.mp h]
    exact Int.le_refl _
  | b :: l, a, y, h => by
    unfold maxI
    obtain ⟨z, hz⟩ : ∃ z, z = (if b > a then b else a) := ⟨_, rfl⟩
    have hb : a ≤ z ∧ b ≤ z := by
      rw [hz]
      split <;> omega
    rw [← hz]
    have hm := maxI_le l z z (List.mem_cons_self ..)
    rcases List.mem_cons.mp h with e | h
    · rw [e]
      omega
    · rcases List.mem_cons.mp h with e | h
      · rw [e]
        omega
      · exact maxI_le l _ y (List.mem_cons_of_mem _ h)
theorem minI_mem : ∀ (l : List Int) (a : Int), minI a l ∈ a :: l
  | [], a => List.mem_cons_self ..
  | b :: l, a => by
    unfold minI
    have := minI_mem l (if b < a then b else a)
    rcases List.mem_cons.mp this with e | e
    · rw [e]
      split
      · simp
      · simp
    · exact List.mem_cons_of_mem _ (List.mem_cons_of_mem _ e)
theorem minI_le : ∀ (l : List Int) (a y : Int), y ∈ a :: l → minI a l ≤ y
  | [], a, y, h => by
    rw [List.mem_singleton.mp h]
    exact Int.le_refl _
  | b :: l, a, y, h => by
    unfold minI
    obtain ⟨z, hz⟩ : ∃ z, z = (if b < a then b else a) := ⟨_, rfl⟩
    have hb : z ≤ a ∧ z ≤ b := by
      rw [hz]
      split <;> omega
    rw [← hz]
    have hm := minI_le l z z (List.mem_cons_self ..)
    rcases List.mem_cons.mp h with e | h
    · rw [e]
      omega
    · rcases List.mem_cons.mp h with e | h
      · rw [e]
        omega
      · exact minI_le l _ y (List.mem_cons_of_mem _ h)
def intsIn (d : D) (S : So) : Option (List Int) := match lstOf d S with
  | some l => intsOf l
  | none => none
def bMaxL : OpL := fun l S => match l with
  | [d] => match intsIn d S with
    | some (a :: r) => some (.int (maxI a r), S)
    | _ => none
  | _ => none
def bMinL : OpL := fun l S => match l with
  | [d] => match intsIn d S with
    | some (a :: r) => some (.int (minI a r), S)
    | _ => none
  | _ => none
def bSum : OpL := fun l S => match l with
  | [d] => match intsIn d S with
    | some r => some (.int r.sum, S)
    | none => none
  | _ => none
section
variable {cm : Cm} {X : Cx}
theorem ints_at {m : Am} {S : So} {H : Hp} {d : D} {x : V} {r : List Int} (R : RelS (ct X cm) m S H) (rx : Rep (ct X cm) m S H d x) (e : intsIn d S = some r) : ∃ a, x = .ref a ∧ SqL X.K H a (r.map V.int) := by
  unfold intsIn at e
  split at e
  · rename_i l el
    obtain ⟨a, ws, rfl, h1, h2⟩ := lst_at R rx el
    have := reps_intsOf e h2
    subst this
    exact ⟨a, rfl, .inl (.inl h1)⟩
  · cases e
theorem cd_maxL (hc : X.calm = true) : CallD cm X (.builtin "max") bMaxL := fun m S H ds vs Q R r h => by
  unfold bMaxL at h
  split at h
  · split at h
    · rename_i a r' e
      obtain ⟨x, rfl, rx⟩ := reps1 r
      obtain ⟨p, rfl, hs⟩ := ints_at R rx e
      refine rW_of (cr_max hc) ⟨p, a :: r', rfl, hs, by simp, fun m' h1 h2 => ?_⟩
      have : m' = maxI a r' := Int.le_antisymm (maxI_le _ _ _ h1) (h2 _ (maxI_mem _ _))
      rw [this]
      exact h.int R
    · exact h.no.elim
  · exact h.no.elim
theorem cd_minL (hc : X.calm = true) : CallD cm X (.builtin "min") bMinL := fun m S H ds vs Q R r h => by
  unfold bMinL at h
  split at h
  · split at h
    · rename_i a r' e
      obtain ⟨x, rfl, rx⟩ := reps1 r
      obtain ⟨p, rfl, hs⟩ := ints_at R rx e
      refine rW_of (cr_min hc) ⟨p, a :: r', rfl, hs, by simp, fun m' h1 h2 => ?_⟩
      have : m' = minI a r' := Int.le_antisymm (h2 _ (minI_mem _ _)) (minI_le _ _ _ h1)
      rw [this]
      exact h.int R
    · exact h.no.elim
  · exact h.no.elim
theorem cd_sum (hc : X.calm = true) : CallD cm X (.builtin "sum") bSum := fun m S H ds vs Q R r h => by
  unfold bSum at h
  split at h
  · split at h
    · rename_i r' e
      obtain ⟨x, rfl, rx⟩ := reps1 r
      obtain ⟨p, rfl, hs⟩ := ints_at R rx e
      exact rW_of (cr_sum hc) ⟨p, r', rfl, hs, h.int R⟩
    · exact h.no.elim
  · exact h.no.elim
end
end Mi

/-! MiB: zip of lists, list(range(..)), a list comprehension as a cell. -/
namespace Mi
open PySem PySem.Spec PyProof.Rows L2
/-! ### zip(a, b) of lists -/
def holdOf : D → Option Nat
  | .ref n => some n
  | _ => none
def iZipL (fa : E (List D)) : E Src := fun en S => (fa en S).bind fun l S1 => match l with
  | [a, .lst k] => match lstOf a S1 with
    | some xs => .ok ⟨holdOf a, (xs.zip k).map fun p => .tup [p.1, p.2]⟩ S1
    | none => .bad
  | _ => .bad
theorem lst_live {cm : Ct} {m : Am} {S : So} {H : Hp} {d : D} {x : V} {l : List D} (R : RelS cm m S H) (r : Rep cm m S H d x) (e : lstOf d S = some l) :
    ∃ a, x = .ref a ∧ ∀ m' S' H', Adv m S H m' S' H' → RelS cm m' S' H' → still (holdOf d) S S' = true → ∃ ws, H' a = some (.lst ws) ∧ Reps cm m' S' H' l ws := by
  cases d with
  | lst k =>
    simp only [lstOf, Option.some.injEq] at e
    subst e
    simp only [Rep] at r
    obtain ⟨a, vs, rfl, h1, h2, h3⟩ := r
    exact ⟨a, rfl, fun m' S' H' A _ _ => ⟨vs, (A.fr _ _ h1 h2.1).lst, Reps.adv A _ _ h3⟩⟩
  | ref n =>
    simp only [lstOf] at e
    split at e
    · rename_i l' e0
      simp only [Option.some.injEq] at e
      subst e
      simp only [Rep] at r
      obtain ⟨hn, rfl⟩ := r
      refine ⟨_, rfl, fun m' S' H' A R' st => ?_⟩
      have e' : S'[n]? = some (some (.lst l')) := (still_of.mp st n rfl).trans e0
      obtain ⟨ws, g1, g2⟩ := R'.at_ n _ e'
      rw [A.mm n hn] at g1
      exact ⟨ws, g1, g2⟩
    · cases e
  | _ => simp [lstOf] at e
theorem ri_zipL {cm : Cm} {X : Cx} {e e2 : Expr} {fa : E (List D)} {p pos tpos : Pos} {elts : List Expr} {kk : Nat} (hg : Gl X "zip") (hm : X.mg "zip" = none) (ha : RA cm X [e, e2] fa)
    (hs : starEach [e, e2] X.env = (false, eval e X.env) :: starEach [e2] X.env := by rfl) (hpl : (backTo pos (starEach [e2] X.env)).any (·.1) = false := by rfl) :
    RI cm X (.Tuple elts kk tpos) (.Call (.Name "zip" p) [e, e2] [] pos) (iZipL fa) := fun W tk m S H σ en R C hq => by
  refine wI_of (RZ.pi_zipA hg hm pa_w hs hpl) ?_
  refine ha W tk m S H σ en _ C (PQ.bind hq fun l S1 vs m1 H1 e1 A1 R1 r1 h1 => ?_)
  split at h1
  · rename_i da k
    split at h1
    · rename_i xs el
      obtain ⟨x, y, rfl, rx, ry⟩ := reps2 r1
      obtain ⟨a, rfl, lv⟩ := lst_live R1 rx el
      simp only [Rep] at ry
      obtain ⟨b, ys, rfl, g1, g2, g3⟩ := ry
      obtain ⟨ws, q1, q2⟩ := lv _ _ _ Adv.refl R1 (still_same fun _ _ => rfl)
      refine ⟨a, b, ws, ys, rfl, .inl ⟨.inl (.inl q1), .inl (.inl g1), PQ.now h1 R1 ?_⟩⟩
      intro m' S' H' A' R' st
      obtain ⟨ws', w1, w2⟩ := lv _ _ _ A' R' st
      have k1 : SqL (ct X cm).K H' a ws' := .inl (.inl w1)
      have k2 : SqL (ct X cm).K H' b ys := .inl (.inl (A'.fr _ _ g1 g2.1).lst)
      have r3 := Reps.adv A' _ _ g3
      refine ⟨fun i d ed => ?_, ⟨ws', ys, k1, k2, ?_⟩⟩
      · simp only [List.getElem?_map, Option.map_eq_some_iff] at ed
        obtain ⟨pr, e2, rfl⟩ := ed
        obtain ⟨u, v⟩ := pr
        obtain ⟨eu, ev⟩ := List.getElem?_zip_eq_some.mp e2
        obtain ⟨x1, f1, f2⟩ := w2.get eu
        obtain ⟨y1, f3, f4⟩ := r3.get ev
        refine ⟨⟨ws', ys, x1, y1, k1, k2, f1, f3⟩, fun x H2 z => ?_⟩
        obtain ⟨T, x2, y2, rfl, hT, rfl, z1, z2⟩ := z
        have v1 := z1 ws' k1
        have v2 := z2 ys k2
        rw [f1] at v1
        rw [f3] at v2
        cases v1
        cases v2
        refine ⟨grow_upd hT, ?_⟩
        simp only [Rep]
        exact ⟨T, _, rfl, .inl (.inl upd_same), Reps.cons (Rep.adv (Adv.new hT) _ _ f2) (Reps.cons (Rep.adv (Adv.new hT) _ _ f4) Reps.nil)⟩
      · show ws'.length ≤ ((xs.zip k).map _).length ∨ ys.length ≤ ((xs.zip k).map _).length
        rw [List.length_map, List.length_zip, w2.length, g3.length]
        omega
    · exact h1.elim
  · exact h1.elim

/-! ### list(range(n)), list(range(i, n)) -/
def ranI (i j : Int) : List D := (List.range (j - i).toNat).map fun k => D.int (i + (k : Nat))
def bListRg1 : OpL := fun l S => match l with
  | [.int n] => if 0 ≤ n ∧ n ≤ 1000000 then some (.lst (ranI 0 n), S) else none
  | _ => none
def bListRg2 : OpL := fun l S => match l with
  | [.int i, .int j] => if 0 ≤ i ∧ i ≤ 1000000 ∧ 0 ≤ j ∧ j ≤ 1000000 then some (.lst (ranI i j), S) else none
  | _ => none
theorem ranI_v (i j : Int) : rgV i j = (List.range (j - i).toNat).map fun k => V.int (i + (k : Nat)) := rfl
theorem reps_ran {cm : Ct} {m : Am} {S : So} {H : Hp} (i j : Int) : Reps cm m S H (ranI i j) (rgV i j) := by
  have e : ranI i j = ((List.range (j - i).toNat).map fun k => i + (k : Nat)).map D.int := by
    unfold ranI
    rw [List.map_map]
    rfl
  have e2 : rgV i j = ((List.range (j - i).toNat).map fun k => i + (k : Nat)).map V.int := by
    rw [ranI_v, List.map_map]
    rfl
  rw [e, e2]
  exact reps_ints _
section
variable {cm : Cm} {X : Cx} {a b : Expr} {fa fb : E D} {p p2 pos pos2 : Pos}
def mListRg1 (fa : E D) : E D := fun en S => (fa en S).bind fun d S1 => R.of (bListRg1 [d] S1)
theorem re_listRg1 (hc : X.calm = true) (hg : Gl X "list") (hm : X.mg "list" = none) (hg2 : Gl X "range") (hm2 : X.mg "range" = none) (ha : RE cm X a fa)
    (na : starEach [a] X.env = (false, eval a X.env) :: starEach [] X.env := by rfl) (nb : starEach [.Call (.Name "range" p2) [a] [] pos2] X.env = (false, eval (.Call (.Name "range" p2) [a] [] pos2) X.env) :: starEach [] X.env := by rfl) :
    RE cm X (.Call (.Name "list" p) [.Call (.Name "range" p2) [a] [] pos2] [] pos) (mListRg1 fa) := fun W tk m S H σ en Q C h => by
  refine wE_of (pe_listRg hc hg hm (prg_1 hg2 hm2 pe_w na) nb) (ha W tk m S H σ en _ C (PQ.bind h fun d S1 x m1 H1 e1 A1 R1 r1 h1 => ?_))
  have k1 := h1.pok
  clear h1
  unfold bListRg1 at k1
  split at k1
  · rename_i n heq
    cases heq
    split at k1
    · rename_i hn
      simp only [Rep] at r1
      exact ⟨n, r1, RgOk.of_le (Int.le_refl 0) (by omega) (by omega) hn.1, fun q hq => k1.lst R1 hq (reps_ran 0 n)⟩
    · exact k1.no.elim
  · exact k1.no.elim
/-- .. that is changed later -/
def mListRg1N (fa : E D) : E D := fun en S => (fa en S).bind fun d S1 => match d with
  | .int n => if 0 ≤ n ∧ n ≤ 1000000 then .ok (.ref S1.length) (S1 ++ [some (.lst (ranI 0 n))]) else .bad
  | _ => .bad
theorem re_listRg1N (hc : X.calm = true) (hg : Gl X "list") (hm : X.mg "list" = none) (hg2 : Gl X "range") (hm2 : X.mg "range" = none) (ha : RE cm X a fa)
    (na : starEach [a] X.env = (false, eval a X.env) :: starEach [] X.env := by rfl) (nb : starEach [.Call (.Name "range" p2) [a] [] pos2] X.env = (false, eval (.Call (.Name "range" p2) [a] [] pos2) X.env) :: starEach [] X.env := by rfl) :
    RE cm X (.Call (.Name "list" p) [.Call (.Name "range" p2) [a] [] pos2] [] pos) (mListRg1N fa) := fun W tk m S H σ en Q C h => by
  refine wE_of (pe_listRg hc hg hm (prg_1 hg2 hm2 pe_w na) nb) (ha W tk m S H σ en _ C (PQ.bind h fun d S1 x m1 H1 e1 A1 R1 r1 k1 => ?_))
  split at k1
  · rename_i n
    split at k1
    · rename_i hn
      simp only [Rep] at r1
      exact ⟨n, r1, RgOk.of_le (Int.le_refl 0) (by omega) (by omega) hn.1, fun q hq => PQ.cell k1 R1 hq fun m' S' H' A e => ⟨_, e, reps_ran 0 n⟩⟩
    · exact k1.elim
  · exact k1.elim
def mListRg2 (fa fb : E D) : E D := fun en S => (fa en S).bind fun d S1 => (fb en S1).bind fun d2 S2 => R.of (bListRg2 [d, d2] S2)
theorem re_listRg2 (hc : X.calm = true) (hg : Gl X "list") (hm : X.mg "list" = none) (hg2 : Gl X "range") (hm2 : X.mg "range" = none) (ha : RE cm X a fa) (hb : RE cm X b fb) (nc : starEach [b] X.env = (false, eval b X.env) :: starEach [] X.env := by rfl) (nb : starEach [.Call (.Name "range" p2) [a, b] [] pos2] X.env = (false, eval (.Call (.Name "range" p2) [a, b] [] pos2) X.env) :: starEach [] X.env := by rfl)
    (na : starEach [a, b] X.env = (false, eval a X.env) :: starEach [b] X.env := by rfl) (hp : (backTo pos2 (starEach [b] X.env)).any (·.1) = false := by rfl) :
    RE cm X (.Call (.Name "list" p) [.Call (.Name "range" p2) [a, b] [] pos2] [] pos) (mListRg2 fa fb) := fun W tk m S H σ en Q C h => by
  refine wE_of (pe_listRg hc hg hm (prg_2 hg2 hm2 pe_w pe_w na nc hp) nb) (ha W tk m S H σ en _ C (PQ.bind h fun d S1 x m1 H1 e1 A1 R1 r1 h1 => ?_))
  refine hb W tk m1 S1 H1 σ en _ (C.adv A1 R1) (PQ.bind h1 fun d2 S2 y m2 H2 e2 A2 R2 r2 h2 => ?_)
  have k2 := h2.pok
  clear h2
  unfold bListRg2 at k2
  split at k2
  · rename_i i j heq
    cases heq
    split at k2
    · rename_i hn
      have r1' := Rep.adv A2 _ _ r1
      simp only [Rep] at r1' r2
      exact ⟨i, j, r1', r2, RgOk.of_le hn.1 (by omega) (by omega) hn.2.2.1, fun q hq => k2.lst R2 hq (reps_ran i j)⟩
    · exact k2.no.elim
  · exact k2.no.elim
end
end Mi

/-! MiC: classmethods: C.m(..), cls(..). -/
namespace Mi
open PySem PySem.Spec PyProof.Rows L2
section
variable {P : Program} {w : World} {K : PySem.W.Frag} {mg : Str → Option Value} {base : Heap} {cm : Cm}
/-- C.m is a classmethod that does F -/
def ClsM (P : Program) (w : World) (K : PySem.W.Frag) (mg : Str → Option Value) (base : Heap) (cm : Cm) (k : Nat) (n name : Str) (F : Fm) : Prop :=
  ∃ C p g mc fd ps, cm.cls n = some C ∧ mg n = some (.ref C) ∧ ClX.CRead K C mc ∧ ClX.CMet K C mc name p g ∧ FnOk P w K mg base (L2.CX P w) k g fd ps (spF ⟨K, cm.cls, cm.exc⟩ ps.length F) ∧ Binds K fd ps [] ∧ ∀ ds S, ds.length ≠ ps.length → F ds S = .bad
theorem ClsM.mono {j k : Nat} {n x : Str} {F : Fm} (h : ClsM P w K mg base cm j n x F) (l : j ≤ k) : ClsM P w K mg base cm k n x F :=
  let ⟨C, p, g, mc, fd, ps, a, b, c, d, e, f⟩ := h
  ⟨C, p, g, mc, fd, ps, a, b, c, d, e.mono l, f⟩
/-- the text of a classmethod, found -/
def CFnd (K : PySem.W.Frag) (mg : Str → Option Value) (cm : Cm) (n name qual : Str) (st : Stmt) (ps : List Str) : Prop :=
  ∃ C p g mc fd, cm.cls n = some C ∧ mg n = some (.ref C) ∧ ClX.CRead K C mc ∧ ClX.CMet K C mc name p g ∧ Fun K name qual st g fd ∧ Binds K fd ps []
theorem ClsM.of {n name qual : Str} {st : Stmt} {N ps : List Str} {k : Nat} {g : T} (F : CFnd K mg cm n name qual st ps) (S : FnScope N ps (defScope st))
    (hb : ∀ (f : Addr) (cdv : Value) (A : Around) (outer : List Env) (s : Shared) (H : Hp) (E : XK), Room k (A.deeper (envOfC qual (defScope st) s.heap.objs.size f cdv)) →
      RSs cm (cxOf (L2.CX P w) P w K mg base N qual (defScope st) f cdv A outer s H E) (defBody st) g) : ClsM P w K mg base cm (k + 1) n name (bodyM N.length ps.length g) := by
  obtain ⟨C, p, f, mc, fd, a, b, c, d, e, h⟩ := F
  exact ⟨C, p, f, mc, fd, ps, a, b, c, d, fnm_of e S hb, h, fun ds S' hl => by unfold bodyM; rw [if_neg hl]⟩
end
def mCm (n : Str) (F : Fm) (fa : E (List D)) : E D := fun en S => (fa en S).bind fun ds S1 => (F (.cls n :: ds) S1).at en
section
variable {cm : Cm} {X : Cx} {k : Nat} {n y : Str} {F : Fm} {p p2 pos apos : Pos} {e : Expr} {es : List Expr} {fa : E (List D)} {fv : E D} {pl : Sem Bool} {m' : Str}
theorem run_cmS {CX : CXT} {q C g : Addr} {fd : FuncData} {ps : List Str} {sp : Sp} {E : St → XK} {pins : List (Addr × Obj)} {σ : St} {H : Hp} {s : Shared} {Q : VK} {us : List Value} {vs : List V} (Fo : FnOk X.prog X.w X.K X.mg X.base CX k g fd ps sp) (hr : Room k X.A)
    (hbd : Binds X.K fd ps []) (hx : PassesAt CX X σ (E σ)) (I : Inv X ((q, PySem.W.methodObj (.ref g) (.ref C)) :: pins) σ H s) (rv : Vals vs us) (hsp : sp (.ref C :: vs) H Q (E σ)) : wpAny (model X.prog X.w) X.A (call (.ref q) us) (EP X pins σ Q) X.xe s := by
  have rv2 : Vals (.ref C :: vs) (.ref C :: us) := .cons rfl rv
  have hlu : (Value.ref C :: us).length = ps.length := by rw [← rv2.length]; exact Fo.len _ _ _ _ hsp
  have bt := hbd s (.ref C :: us) I.kIn (by rw [List.append_nil]; exact hlu)
  rw [List.append_nil] at bt
  have z : wpAny (model X.prog X.w) X.A (call (.ref q) us) (EP X ((q, PySem.W.methodObj (.ref g) (.ref C)) :: pins) σ Q) X.xe s := by
    refine wpAny_call (PySem.W.method_call (ClX.pin_at I) (codeAny_mono (Fo.run X.A X.stack s H ⟨.ref C :: us, []⟩ (.ref C :: us) (.ref C :: vs) Q (E σ) hr I.env0 bt rv2 hsp) fun fl s' hq => ?_))
    cases fl with
    | error u => exact hx _ H s u s' I hq
    | ok fl =>
      cases fl with
      | ret u => exact I.after hq
      | next => exact False.elim hq
      | brk => exact False.elim hq
      | cont => exact False.elim hq
  exact thn z fun _ _ y => ClX.unpinE y
/-- C.m(e, ..) -/
theorem re_cm (M : ClsM X.prog X.w X.K X.mg X.base cm k n m' F) (hr : Room k X.A) (hg : Gl X n) (ha : RA cm X (e :: es) fa) (hdb : (n == ("__debug__" : Str)) = false := by decide)
    (hst : starEach (e :: es) X.env = (false, eval e X.env) :: starEach es X.env := by rfl) (hpl : (backTo pos (starEach es X.env)).any (·.1) = false := by rfl)
    (ht : eval (.Call (.Attribute (.Name n p) m' apos) (e :: es) [] pos) X.env = (do
      let ov ← eval (.Name n p) X.env
      standAt apos.atName
      let (f, first) ← holding [ov] (getMethod ov m' pl)
      callWith pos f first (backTo pos (starEach (e :: es) X.env)) (backToKw pos (keywordEach [] X.env))) := by rfl) :
    RE cm X (.Call (.Attribute (.Name n p) m' apos) (e :: es) [] pos) (mCm n F fa) := fun W tk m S H σ en Q C h => by
  obtain ⟨C1, q, g, mc, fd, ps, hc, hm, rd, mt, hF, hb, hbad⟩ := M
  refine wE_of (t := fun σ H Q => wA X (e :: es) σ H fun vs H1 => spF ⟨X.K, cm.cls, cm.exc⟩ ps.length F (.ref C1 :: vs) H1 Q (WE W σ)) ⟨fun pins s σ H Q I h => ?_⟩ ?_
  · refine PySem.W.methodCall_KW (pl := pl) (ld_glob I hg hm ?_ hdb) ht
    refine ClX.getmethcm_ok I rd mt fun s2 I2 => ?_
    exact ClX.callwith_cm I2 (ClX.base_none I (Nat.le_refl _)) mt.fi (thn (pa_w.run pos _ s2 σ H _ I2 h) fun us s3 ⟨vs, H2, I3, rv, q2⟩ => ⟨⟨ClX.pin_at I3, I3.kIn⟩, run_cmS hF hr hb (passAt tk σ) I3 rv q2⟩) hst hpl
  · refine ha W tk m S H σ en _ C (PQ.bind h fun ds S1 vs m1 H1 e1 A1 R1 rs h1 => ?_)
    have rs2 : Reps (ct X cm) m1 S1 H1 (.cls n :: ds) (.ref C1 :: vs) := Reps.cons (by simp only [Rep]; exact ⟨C1, rfl, hc⟩) rs
    have hl : (D.cls n :: ds).length = ps.length := by
      by_cases z : (D.cls n :: ds).length = ps.length
      · exact z
      · rw [hbad _ S1 z] at h1
        exact h1.elim
    exact ⟨by rw [← hl]; exact rs2.length.symm, m1, S1, _, R1, rs2, h1.pd (C.adv A1 R1)⟩
/-- cls(e, ..) -/
def mMakeV (x : Str) (F : Fm) (G : List D → List D → List D) (k : Nat) (fv : E D) (fa : E (List D)) : E D := fun en S => (fv en S).bind fun c S0 => match c with
  | .cls y => if y = x then mMake x F G k 0 fa aNil en S0 else .bad
  | _ => .bad
theorem re_makeV {x : Str} {G : List D → List D → List D} {nn : Nat} (M : MakeM X.prog X.w X.K X.mg X.base cm k x F nn [] G) (hr : Room (k + 1) X.A) (hv : RE cm X (.Name y p) fv) (ha : RA cm X (e :: es) fa)
    (he : starEach (e :: es) X.env = (false, eval e X.env) :: starEach es X.env := by rfl) (hpl : ((backTo pos (starEach (e :: es) X.env)).any (·.1) || (backToKw pos (keywordEach [] X.env)).any (·.1.isNone)) = false := by rfl) :
    RE cm X (.Call (.Name y p) (e :: es) [] pos) (mMakeV x F G nn fv fa) := fun W tk m S H σ en Q C h => by
  obtain ⟨C1, f, fd, ps, hc, hm, Mk1, hF, hbad, B⟩ := M
  refine wE_of (t := fun σ H Q => wE X (.Name y p) σ H fun c H0 => c = .ref C1 ∧ wA X (e :: es) σ H0 fun vs H1 => tMk X cm x F G 0 W en nn σ Q vs [] H1) ⟨fun pins s σ H Q I h => ?_⟩ ?_
  · refine wpAny_Call_Name_kw (thn (pe_w.run pins s σ H _ I h) fun c s0 hh => ?_)
    obtain ⟨cv, H0, I0, rc, ec, q0⟩ := hh
    subst ec
    obtain rfl : c = Value.ref C1 := rc
    refine PySem.W.callWith_KW (h₀ := X.base) I0.ok.mod.kin Mk1.kp rfl (thn (pa_w.run pos pins s0 σ H0 _ I0 q0) fun us s1 hh => ?_) hpl he
    obtain ⟨vs, H1, I1, r, q⟩ := hh
    refine thn (pk_nil.run pos pins s1 σ H1 (fun zs H2 => zs = [] ∧ tMk X cm x F G 0 W en nn σ Q vs [] H2) I1 ⟨rfl, q⟩) fun ws s2 hh => ?_
    obtain ⟨zs, H2, I2, rz, ez, q2⟩ := hh
    subst ez
    exact ⟨I2.kIn, run_mk tk hc Mk1 hF hbad B hr I2 r rz q2⟩
  · refine hv W tk m S H σ en _ C (PQ.bind h fun d S0 c m0 H0 e0 A0 R0 r0 h0 => ?_)
    split at h0
    · rename_i y'
      split at h0
      · rename_i ey
        subst ey
        simp only [Rep] at r0
        obtain ⟨C2, rfl, hc2⟩ := r0
        obtain rfl : C1 = C2 := by
          have := hc.symm.trans hc2
          cases this
          rfl
        refine ⟨rfl, ha W tk m0 S0 H0 σ en _ (C.adv A0 R0) (PQ.bind h0 fun ds S1 vs m1 H1 e1 A1 R1 r1 h1 => ?_)⟩
        have h2 : PQ (Rep (ct X cm)) (ct X cm) m1 S1 H1 σ W (if ds.length = nn ∧ ([] : List D).length = 0 then madeM S1.length en (F (G (.ref S1.length :: ds) []) (S1 ++ [some (.ins y' [] [])])) else .bad) Q := h1
        split at h2
        · rename_i hl
          exact ⟨m1, S1, ds, [], R1, r1, Reps.nil, (C.adv A0 R0).adv A1 R1, hl.1, rfl, h2⟩
        · exact h2.elim
      · exact h0.elim
    · exact h0.elim
end
end Mi

namespace Mi
open PySem PySem.Spec PyProof.Rows L2
/-! MiY: x in b, b of an own class with __contains__. -/
section
variable {K : PySem.W.Frag} {M : Model} {A : Around} {E : Value → Shared → Prop} {s : Shared} {x C f : Addr} {ox : Obj} {od : Option Obj}
theorem unless_own {u : Value} {ref : Sem Value} {Q : Option Value → Shared → Prop} (X : K.In s.heap) (I : PySem.W.InstAt s.heap x ox C od) (hs : PySem.W.findIn K (.ref C) "__contains__" = some (some (.ref f))) (hf : PySem.W.isFn K (.ref f) = true)
    (h : wpAny M A (call (.ref f) [.ref x, u]) (fun r s' => Q (some r) s') E s) : wpAny M A (callSpecialUnlessNone? (.ref x) "__contains__" [u] ref) Q E s := by
  refine wpAny_bind (wpAny_bind (I.type.here ((PySem.W.looks_findIn X hs).here (wpAny_holding (wpAny_bind ((PySem.W.bind_fn X _ (beq_iff_eq.mp hf)).here ?_))))))
  show wpAny M A (if (Value.ref f == Value.none) = true then _ else _) Q E s
  rw [if_neg (by simp)]
  exact wpAny_bind (wpAny_mono h (fun _ _ z => wpAny_pure z) fun _ _ z => z)
theorem in_own {u : Value} {Q : Value → Shared → Prop} (X : K.In s.heap) (I : PySem.W.InstAt s.heap x ox C od) (hs : PySem.W.findIn K (.ref C) "__contains__" = some (some (.ref f))) (hf : PySem.W.isFn K (.ref f) = true)
    (h : wpAny M A (call (.ref f) [.ref x, u]) (fun r s' => ∃ b, r = .bool b ∧ Q (.bool b) s') E s) : wpAny M A (compareOp .In u (.ref x)) Q E s := by
  show wpAny M A (do return .bool (← contains (.ref x) u)) Q E s
  refine wpAny_bind ?_
  unfold contains
  refine wpAny_holding ?_
  rw [show stdlibNamesSay? (.ref x) u = none from rfl]
  refine wpAny_bind (wpAny_bind (I.type.here ((PySem.W.looks_findIn X hs).here ?_)))
  show wpAny M A (if (some (Value.ref f) == some Value.none) = true then _ else _) _ E s
  rw [if_neg (by simp)]
  refine wpAny_bind (unless_own X I hs hf (wpAny_mono h (fun r s' z => ?_) fun _ _ z => z))
  obtain ⟨b, rfl, q⟩ := z
  exact wpAny_pure (wpAny_pure q)
end
section
variable {cm : Cm} {X : Cx} {k : Nat} {n : Str} {F : Fm}
def dInO (n : Str) (F : Fm) : Op2 := fun a b S => if isOwn b S = some n then (match oneOf (F [b, a] S) with
    | some (.bl r, S') => some (.bl r, S')
    | _ => none) else dIn a b S
theorem od_inO (M : MethM X.prog X.w X.K X.mg X.base cm k n "__contains__" F) (hr : Room k X.A) (hu : X.A.units + 65 < cLine) : OpD cm X (compareOp .In) (dInO n F) := fun m S H a b x y Q R ra rb h => by
  unfold dInO at h
  split at h
  · rename_i ob
    split at h
    · rename_i r S' eo
      obtain ⟨C1, f, fd, ps, hc, ho1, hm, hk, hF, hbd, hbad, hkp⟩ := M
      obtain ⟨aa, C2, dx, fs, rfl, hc2, h1⟩ := own_v R rb ob
      obtain rfl : C1 = C2 := Option.some.inj (hc.symm.trans hc2)
      intro pins s σ v u I rv ru
      obtain rfl : u = Value.ref aa := ru
      obtain ⟨mA, Om, _, _, _, _⟩ := ins_get I.hok h1
      obtain ⟨od, J, _⟩ := Om.look
      have hp : PD (ct X cm) m S H (F [b, a] S) (fun v H' => v = .bl r ∧ Q (.bl r) H') fun _ _ _ => False := by
        revert eo
        cases F [b, a] S with
        | ok d' S2 =>
          intro eo v m' H' A R' r'
          simp only [oneOf, Option.some.injEq, Prod.mk.injEq] at eo
          obtain ⟨e1, e2⟩ := eo
          subst e1 e2
          have r2 := r'
          simp only [Rep] at r2
          exact ⟨r2, POk.at h A R' (by simp only [Rep])⟩
        | err _ _ _ => intro eo; cases eo
        | bad => intro eo; cases eo
      refine in_own I.kIn J hm hk (wpAny_mono (run_no (vs := [.ref aa, x]) hF hr hbd I (.cons rfl (.cons rv .nil)) ⟨?_, m, S, [b, a], R, Reps.cons rb (Reps.cons ra Reps.nil), hp⟩) (fun v s' z => ?_) fun _ _ z => z)
      · show 2 = ps.length
        by_cases e : [b, a].length = ps.length
        · exact e
        · rw [hbad _ S e] at hp
          exact hp.elim
      · obtain ⟨v', H', I', rv', ev, q⟩ := z
        subst ev
        exact ⟨r, rv', .bl r, H', I', rfl, q⟩
    · exact h.no.elim
  · exact od_in hu m S H a b x y Q R ra rb h
end
section
variable {cm : Cm} {X : Cx}
/-- l.extend(m), m a list as a value -/
def mExt : OpM := fun d l S => match l with
  | [.lst zs] => match cellL d S with
    | some (n, xs) => if xs.length + zs.length ≤ sizeLine then some (.non, S.set n (some (.lst (xs ++ zs)))) else none
    | none => none
  | _ => none
theorem md_ext : MtD cm X "list.extend" mExt := fun m S H d ds x vs Q R r rs h => by
  unfold mExt at h
  split at h
  · rename_i zs
    obtain ⟨y, rfl, ry⟩ := reps1 rs
    split at h
    · rename_i n xs e
      split at h
      · rename_i hl
        obtain ⟨e1, rfl, ws, h1, h2⟩ := cellL_at R r e
        simp only [Rep] at ry
        obtain ⟨a, us, rfl, k1, _, k2⟩ := ry
        refine rM_of (show MtR X "list.extend" rExtend from mt_extend) ⟨_, _, ws, us, rfl, rfl, h1, k1, by rw [← h2.length, ← k2.length]; exact hl, ?_⟩
        obtain ⟨A, R'⟩ := cell_w (o' := .lst (xs ++ zs)) (u := .lst (ws ++ us)) R e1 fun K => ⟨_, upd_same, Reps.kp K _ _ (h2.append k2)⟩
        exact h.at A R' (by simp only [Rep])
      · exact h.no.elim
    · exact h.no.elim
  · exact h.no.elim
end
/-! ### i, j, l = a, b, c -/
def sPar3 (i j l : Nat) (f : E (List D)) : T := fun en S => (f en S).bind fun q S1 => match q with
  | [a, b, c] => .ok (.nx (((en.set i (some a)).set j (some b)).set l (some c))) S1
  | _ => .bad
section
variable {cm : Cm} {X : Cx} {pos : Pos}
theorem rs_par3 (i j l : Nat) {x y z : Str} {a b c : Expr} {fl : E (List D)} {px py pz pt : Pos} {kt k2 pt2} (hc : X.calm = true) (hN : X.N.Nodup) (hi : X.N[i]? = some x) (hj : X.N[j]? = some y) (hl : X.N[l]? = some z) (hij : i ≠ j) (hil : i ≠ l) (hjl : j ≠ l)
    (hx : X.env.scope.names.lookup x = some .local) (hy : X.env.scope.names.lookup y = some .local) (hz : X.env.scope.names.lookup z = some .local) (ha : RA cm X [a, b, c] fl)
    (hw : swappedStores [.Tuple [.Name x px, .Name y py, .Name z pz] kt pt] (.Tuple [a, b, c] k2 pt2) X.env = pure (some [x, y, z]))
    (hs : swapsWithSole [.Tuple [.Name x px, .Name y py, .Name z pz] kt pt] (.Tuple [a, b, c] k2 pt2) pos.line X.env = pure false := by rfl) :
    RS cm X (.Assign [.Tuple [.Name x px, .Name y py, .Name z pz] kt pt] (.Tuple [a, b, c] k2 pt2) pos) (sPar3 i j l fl) := fun W tk m S H σ en D C h => by
  refine wS_of (ps_par3 hc hN hi hj hl hij hil hjl hx hy hz pa_w hw hs) (ha W tk m S H σ en _ C (PF.bind h fun q S1 vs m1 H1 e1 A1 R1 r1 k1 => ?_))
  split at k1
  · simp only [Reps] at r1
    obtain ⟨v, r, e1, r1, w, r', e2, r2, u, r'', e3, r3, e4⟩ := r1
    subst e4 e3 e2 e1
    exact ⟨v, w, u, rfl, k1.nx ((((C.adv A1 R1).set i r1).set j r2).set l r3)⟩
  · exact k1.elim
end
end Mi

namespace Mi
open PySem PySem.Spec PyProof.Rows L2
/-! MiW: dicts whose keys are tuples of ints; sorted of such a dict. -/
abbrev kfT (k : List Int) : List (Int ⊕ List Nat) := PySem.W.keyToks (.tuple (k.map PyData.int))
/-- the keys in order -/
def srtT (ks : List (List Int)) : List (List Int) := ks.mergeSort (PySem.W.sortLe (listOrd itemOrd) false kfT)
theorem srtT_perm (ks : List (List Int)) : (srtT ks).Perm ks := List.mergeSort_perm _ _
/-- the tuple of ints k stands at v -/
def TupV (H : Hp) (v : Value) (k : List Int) : Prop := ∃ b, v = .ref b ∧ H b = some (.tup (k.map V.int))
theorem keysEach {H : Hp} : ∀ {kvs : List (List Key × V)} {xs : List (List Key × Addr × Value)} {ks : List (List Int)}, Paired (fun (p : List Key × V) (q : List Key × Addr × Value) => p.1 = q.1 ∧ H q.2.1 = some (.tup (p.1.map kV)) ∧ RelV p.2 q.2.2) kvs xs →
    kvs.map (·.1) = ks.map (fun k => k.map Sum.inl) → PySem.W.EachIs (TupV H) (xs.map fun x => Value.ref x.2.1) ks := by
  intro kvs xs ks h
  induction h generalizing ks with
  | nil =>
    intro e
    cases ks with
    | nil => exact .nil
    | cons _ _ => cases e
  | @cons p q ps qs hq t ih =>
    intro e
    cases ks with
    | nil => cases e
    | cons k ks =>
      simp only [List.map_cons, List.cons.injEq] at e
      refine .cons ⟨q.2.1, rfl, ?_⟩ (ih e.2)
      rw [hq.2.1, e.1, List.map_map]
      rfl
theorem alike_ints : ∀ l k : List Int, PySem.W.alikeAll (l.map PyData.int) (k.map PyData.int) = true
  | [], _ => by simp [PySem.W.alikeAll]
  | _ :: _, [] => by simp [PySem.W.alikeAll]
  | x :: l, y :: k => by simp only [List.map_cons, PySem.W.alikeAll, PySem.W.alike, alike_ints l k, Bool.and_self]
theorem alike_tups (l k : List Int) : PySem.W.alike (.tuple (l.map PyData.int)) (.tuple (k.map PyData.int)) = true := by
  simp only [PySem.W.alike]
  exact alike_ints l k
theorem dp_ints {K : PySem.W.Frag} {H : Hp} : ∀ l : List Int, DpAll K H (l.map V.int) (l.map PyData.int)
  | [] => .nil
  | x :: l => .cons (.int x) (dp_ints l)
theorem dep_ints : ∀ l : List Int, PyData.depthAll (l.map PyData.int) ≤ 1
  | [] => Nat.zero_le _
  | x :: l => by
    have := dep_ints l
    simp only [List.map_cons, PyData.depthAll, PyData.depth]
    omega
theorem out_refs {H : Hp} : ∀ {vs : List Value} {ks : List (List Int)}, PySem.W.EachIs (TupV H) vs ks → ∃ bs : List Addr, vs = bs.map Value.ref ∧ PySem.W.EachIs (fun b k => H b = some (.tup (k.map V.int))) bs ks
  | _, _, .nil => ⟨[], rfl, .nil⟩
  | _, _, .cons ⟨b, e, h⟩ t => by
    obtain ⟨bs, e2, h2⟩ := out_refs t
    exact ⟨b :: bs, by rw [e, e2]; rfl, .cons h h2⟩
section
variable {X : Cx}
open PySem.W in
theorem call_sortedDT (hcalm : X.calm = true) (hu : X.A.units + 64 < cLine) : CallR X (.builtin "sorted") (fun xs H Q => ∃ (a : Addr) (kvs : List (List Key × V)) (ks : List (List Int)), xs = [V.ref a] ∧ H a = some (.dT kvs) ∧ kvs.map (·.1) = ks.map (fun k => k.map Sum.inl) ∧ ((∀ k ∈ ks, k ≠ []) ∨ ks.length ≤ 1) ∧
    ∀ (p : Addr) (bs : List Addr), H p = none → EachIs (fun b k => H b = some (.tup (k.map V.int))) bs (srtT ks) → Q (.ref p) (upd H p (.lst (bs.map V.ref)))) := by
  intro pins s σ H xs us Q I r q
  obtain ⟨a, kvs, ks, rfl, hd, hks, hne, q⟩ := q
  obtain ⟨u, rfl, rx⟩ := r.one
  cases rx
  obtain ⟨z, hs, xs', pr, o, es, ep, ho, hx, hdt, he, hn⟩ := (show ObjOk X.prog X.w H s.heap a (.dT kvs) from I.hok a _ hd)
  have l1 : es.size = xs'.length := size_of_entries he
  have l2 : kvs.length = xs'.length := Paired.length pr
  have h16 : es.size ≤ sizeLine := by omega
  refine Calls.call_function_entry PyProof.Rows.kind_sorted PyProof.Rows.plain_sorted PyProof.Rows.entry_sorted (PyProof.Rows.args_sorted1 _) ?_
  unfold Builtin.«sorted»
  refine wpAny_bind (m := checkCount "sorted" 1 1 _) (wpAny_pure ?_)
  refine wpAny_bind (PySem.W.kdu_collect (A := X.A.in1) (kdl_raw hs hx hdt) (I.ok.hd hcalm) ho h16 fun h' tk acc hk hacc => ?_)
  have ea : acc.toList = xs'.map fun x => Value.ref x.2.1 := by
    have hl : acc.toList.length = xs'.length := by rw [Array.length_toList, hacc.1]; exact l1
    apply List.ext_getElem?
    intro j
    rw [List.getElem?_map]
    cases hj : acc.toList[j]? with
    | none =>
      have h1 := List.getElem?_eq_none_iff.mp hj
      rw [List.getElem?_eq_none (by omega)]
      all_goals rfl
    | some v =>
      obtain ⟨en, hen, hv⟩ := hacc.2 j v (by rw [← Array.getElem?_toList]; exact hj)
      have qe := entry_at he j
      rw [hen] at qe
      cases hb : xs'[j]? with
      | none =>
        rw [hb] at qe
        exact nomatch (show some en = none from qe)
      | some b =>
        rw [hb] at qe
        have e2 : en = entryOfKey (tupleKind (mixKind X.prog X.w)) b := Option.some.inj qe
        rw [hv, e2]
        all_goals rfl
  have each : EachIs (TupV H) acc.toList ks := by rw [ea]; exact keysEach pr hks
  have hal : acc.toList.length = ks.length := each.length
  have hL : acc.toList.length ≤ sizeLine := by rw [ea, List.length_map]; omega
  have I1 : Inv X pins σ H { s with heap := h', toks := tk } := I.kept hk
  refine wpAny_bind (wpAny_newList ?_ hL)
  have hoL : (h'.push (seqObj "list" acc.toList.toArray 0)).get? h'.objs.size = some (seqObj "list" acc.toList.toArray 0) := Heap.get?_push_size _ rfl
  show wpAny _ _ _ _ _ { s with heap := h'.push (seqObj "list" acc.toList.toArray 0), toks := tk }
  obtain ⟨hp, hhp⟩ : ∃ hp, hp = sortingHeap (h'.push (seqObj "list" acc.toList.toArray 0)) h'.objs.size acc.toList := ⟨_, rfl⟩
  have keep : ∀ b o, h'.get? b = some o → hp.get? b = some o := fun b o e => by
    rw [hhp]
    exact sortingHeap_old (Nat.ne_of_lt (Heap.lt_size e)) (Heap.get?_push_of_some _ e)
  obtain ⟨ds, hds⟩ : ∃ ds, ds = ks.map fun k => PyData.tuple (k.map PyData.int) := ⟨_, rfl⟩
  have rd : EachIs (fun v k => ∃ as, Reads hp v (.tuple (k.map PyData.int)) as) acc.toList ks := each.mono fun v k ⟨b, e, h⟩ => by
    obtain ⟨as, q⟩ := Dp.reads I1 (.tuple (k.map PyData.int)) (.ref b) (.ref b) (.tup (.inl (.inl h)) (dp_ints k)) rfl
    rw [e]
    exact ⟨as, Reads.keeps keep q⟩
  have rds : EachIs (fun v d => ∃ as, Reads hp v d as) acc.toList ds := by
    rw [hds]
    have : ∀ {vs : List Value} {ks : List (List Int)}, EachIs (fun v k => ∃ as, Reads hp v (.tuple (k.map PyData.int)) as) vs ks → EachIs (fun v d => ∃ as, Reads hp v d as) vs (ks.map fun k => PyData.tuple (k.map PyData.int)) := by
      intro vs ks h
      induction h with
      | nil => exact .nil
      | cons h _ ih => exact .cons h ih
    exact this rd
  have hall : AllAlike ds := fun d hd d' hd' => by
    rw [hds] at hd hd'
    obtain ⟨k, _, rfl⟩ := List.mem_map.mp hd
    obtain ⟨k', _, rfl⟩ := List.mem_map.mp hd'
    exact alike_tups k k'
  have hdep : ∀ d, d ∈ ds → X.A.in1.in1.units + d.depth < cLine ∧ X.A.in1.in1.in1.units + d.depth < cLine := fun d hd => by
    rw [hds] at hd
    obtain ⟨k, _, rfl⟩ := List.mem_map.mp hd
    have := dep_ints k
    simp only [PyData.depth]
    have e1 : X.A.in1.in1.units ≤ X.A.units + 20 := by simp [Around.in1, Around.units]
    have e2 : X.A.in1.in1.in1.units ≤ X.A.units + 30 := by simp [Around.in1, Around.units]
    omega
  have kof : ∀ {v : Value} {k : List Int}, k ∈ ks → (∃ as, Reads hp v (.tuple (k.map PyData.int)) as) → (dataKind hp ds).keyOf v = some (kfT k) := fun {v k} hk ⟨as, r⟩ => dataKind_some hall (by rw [hds]; exact List.mem_map.mpr ⟨k, hk, rfl⟩) r
  have hk2 : EachIs (fun v k => (dataKind hp ds).keyOf v = some (kfT k)) acc.toList ks := (each_mem rd).mono fun v k h => kof h.2 h.1
  have out := sortVals_each (κ := dataKind hp ds) (rev := false) kfT each hk2
  obtain ⟨bs, eb, hbs⟩ := out_refs out
  have fin : ∀ {A' : Around}, A'.units + 10 < cLine → SortsAt X.prog X.w A' { s with heap := hp, toks := tk } (dataKind hp ds) acc.toList := fun {A'} hA => by
    have hd2 : ∀ d, d ∈ ds → A'.units + d.depth < cLine := fun d hd => by
      rw [hds] at hd
      obtain ⟨k, _, rfl⟩ := List.mem_map.mp hd
      have := dep_ints k
      simp only [PyData.depth]
      omega
    rcases hne with hne | hne
    · exact SortsAt.data rds hall (.inl fun d hd => by
        rw [hds] at hd
        obtain ⟨k, hk, rfl⟩ := List.mem_map.mp hd
        cases k with
        | nil => exact (hne _ hk rfl).elim
        | cons x r => exact ⟨.int x, r.map PyData.int, rfl⟩) hd2
    · refine ⟨fun v hv => ?_, general', fun E x y a b Q ha hb hq => ?_, fun h2 => by omega⟩
      · obtain ⟨d, hd, as, r⟩ := rds.left v hv
        exact ⟨_, dataKind_some hall hd r⟩
      · obtain ⟨d, as, hd, ra, rfl⟩ := dataKind_inv ha
        obtain ⟨d', as', hd', rb, rfl⟩ := dataKind_inv hb
        show wpAny _ _ (oneLt' false x y) Q E _
        refine oneLt_alike (fun z => by cases z) ra rb (hall d hd d' hd') (fun z => ?_) (Nat.lt_of_le_of_lt (Nat.add_le_add_left (Nat.min_le_left _ _) _) (hd2 d hd)) hq
        rw [hds] at hd
        obtain ⟨k, _, e⟩ := List.mem_map.mp hd
        rw [z] at e
        cases e
  have hun : X.A.in1.in1.units + 10 < cLine := by
    have e1 : X.A.in1.in1.units ≤ X.A.units + 20 := by simp [Around.in1, Around.units]
    omega
  refine wpAny_bind (wpAny_holding (wpAny_call_entry PyProof.Rows.slot_list_sort ⟨_, hoL, rfl⟩ PyProof.Rows.entry_list_sort
    (list_sort_vals (s := { s with heap := h'.push (seqObj "list" acc.toList.toArray 0), toks := tk }) hoL (by rw [← hhp]; exact fin hun) hL ⟨_, rfl, ?_⟩)
    (PyProof.Rows.args_list_sort _)))
  rw [eb]
  obtain ⟨e', he'⟩ := PyProof.Rows.sortedHeap_at (vs := acc.toList) (out := (bs.map Value.ref).toArray) hoL
  have hlen : (bs.map V.ref).length ≤ sizeLine := by
    rw [List.length_map, hbs.length]
    refine Nat.le_trans (Nat.le_of_eq (srtT_perm ks).length_eq) ?_
    rw [← hal]
    exact hL
  refine wpAny_pure ⟨_, rfl, .ref h'.objs.size, upd H h'.objs.size (.lst (bs.map V.ref)), I1.laid (t' := tk) (fun b u e => ?_) (Nat.le_refl _)
    (show ObjOk X.prog X.w _ _ _ (.lst (bs.map V.ref)) from ⟨hlen, bs.map Value.ref, e', vals_refs bs, he'⟩), rfl, q _ bs (I1.hok.fresh (Nat.le_refl _)) hbs⟩
  have hb : b < h'.objs.size := Heap.lt_size e
  rw [PyProof.Rows.sortedHeap_old (Nat.ne_of_lt hb) (by rw [size_push']; exact Nat.lt_succ_of_lt hb)]
  exact Heap.get?_push_of_some _ e
end
/-! ### over deep data -/
section
variable {cm : Cm} {X : Cx} {pos : Pos}
/-- {} -/
def mDctT : E D := fun _ S => .ok (.ref S.length) (S ++ [some (.tdt [])])
theorem re_dctT : RE cm X (.Dict [] [] pos) mDctT := fun W tk m S H σ en Q C h => by
  refine wE_of pe_dnewT fun p hp => ?_
  exact PQ.cell h C.rel hp fun m' S' H' A e => e
/-- tuple([ints]), known as an object -/
def bTupT : OpL := fun l S => match l with
  | [d] => match lstOf d S with
    | some l => match intsOf l with
      | some ns => some (.ref S.length, S ++ [some (.tt ns)])
      | none => none
    | none => none
  | _ => none
theorem cd_tupT : CallD cm X (.type "tuple") bTupT := fun m S H ds vs Q R r h => by
  unfold bTupT at h
  split at h
  · obtain ⟨x, rfl, rx⟩ := reps1 r
    split at h
    · rename_i l e
      split at h
      · rename_i ns en
        obtain ⟨a, vs, rfl, h1, h2⟩ := lst_at R rx e
        have := reps_intsOf en h2
        subst this
        exact rW_of call_tuple_of ⟨a, _, rfl, .inl ⟨.inl (.inl h1), fun p hp => h.cell R hp fun m' S' H' A e => e⟩⟩
      · exact h.no.elim
    · exact h.no.elim
  · exact h.no.elim
/-- what is known as an object, read as a tuple -/
def mTh (f : E D) : E D := fun en S => (f en S).bind fun d S1 => match d with
  | .ref n => match S1[n]? with
    | some (some (.tt l)) => .ok (.tup (l.map D.int)) S1
    | _ => .bad
  | _ => .bad
theorem re_th {e : Expr} {f : E D} (he : RE cm X e f) : RE cm X e (mTh f) := fun W tk m S H σ en Q C h => by
  refine he W tk m S H σ en Q C (PQ.bind h fun d S1 x m1 H1 e1 A1 R1 r1 h1 => ?_)
  split at h1
  · rename_i n
    split at h1
    · rename_i l el
      have r2 := r1
      simp only [Rep] at r2
      obtain ⟨_, rfl⟩ := r2
      have o := R1.at_ _ _ el
      exact PQ.now h1 R1 (by
        simp only [Rep]
        exact ⟨_, _, rfl, .inl (.inl o), reps_ints l⟩)
    · exact h1.elim
  · exact h1.elim
end
/-! ### d[t] = True -/
abbrev ent (k : List Int) : List Key × V := (k.map Sum.inl, V.bl true)
theorem inl_inj : ∀ {l k : List Int}, l.map (Sum.inl : Int → Key) = k.map Sum.inl → l = k
  | [], [], _ => rfl
  | [], _ :: _, h => by cases h
  | _ :: _, [], h => by cases h
  | x :: l, y :: k, h => by
    simp only [List.map_cons, List.cons.injEq, Sum.inl.injEq] at h
    rw [h.1, inl_inj h.2]
/-- one key more -/
def addT (ks : List (List Int)) (k : List Int) : List (List Int) := if k ∈ ks then ks else ks ++ [k]
theorem putK_ent (ks : List (List Int)) (k : List Int) : putK (ks.map ent) (k.map Sum.inl) (V.bl true) = (addT ks k).map ent := by
  have an : (ks.map ent).any (fun q => decide (q.1 = k.map Sum.inl)) = decide (k ∈ ks) := by
    rw [Bool.eq_iff_iff, List.any_eq_true, decide_eq_true_eq]
    constructor
    · rintro ⟨q, hq, e⟩
      obtain ⟨l, hl, rfl⟩ := List.mem_map.mp hq
      rw [← inl_inj (of_decide_eq_true e)]
      exact hl
    · intro h
      exact ⟨ent k, List.mem_map.mpr ⟨k, h, rfl⟩, decide_eq_true rfl⟩
  unfold putK addT
  by_cases c : k ∈ ks
  · rw [if_pos (by first | (rw [an]; exact decide_eq_true c) | simpa [c] using an), if_pos c]
    rw [List.map_map]
    refine List.map_congr_left fun l _ => ?_
    show (if (ent l).1 = k.map Sum.inl then ((ent l).1, V.bl true) else ent l) = ent l
    split <;> rfl
  · rw [if_neg (by first | (rw [an, decide_eq_false c]; decide) | simpa [c] using an), if_neg c, List.map_append]
    rfl
def putTD (o i v : D) (S : So) : Option So := match o, i, v with
  | .ref n, .ref j, .bl true => match S[n]?, S[j]? with
    | some (some (.tdt ks)), some (some (.tt k)) => if ks.length < sizeLine then some (S.set n (some (.tdt (addT ks k)))) else none
    | _, _ => none
  | _, _, _ => none
def sPutT (fv fo fi : E D) : T := fun en S => (fv en S).bind fun v S1 => (fo en S1).bind fun o S2 => (fi en S2).bind fun i S3 => match putTD o i v S3 with
  | some S4 => .ok (.nx en) S4
  | none => .bad
section
variable {cm : Cm} {X : Cx} {o i e : Expr} {fo fi fv : E D} {pos pos' : Pos}
theorem putT_run (hu : X.A.units + 1 < cLine) {m : Am} {S S' : So} {H : Hp} {dO dI dV : D} {o i v : V} {Q : Hp → Prop} (R : RelS (ct X cm) m S H) (ro : Rep (ct X cm) m S H dO o) (ri : Rep (ct X cm) m S H dI i) (rv : Rep (ct X cm) m S H dV v)
    (h : putTD dO dI dV S = some S') (q : ∀ H', Adv m S H m S' H' → RelS (ct X cm) m S' H' → Q H') : wSet X o i v H Q := by
  unfold putTD at h
  split at h
  · rename_i n j
    simp only [Rep] at ro ri rv
    obtain ⟨_, rfl⟩ := ro
    obtain ⟨_, rfl⟩ := ri
    subst rv
    split at h
    · rename_i ks k e1 e2
      split at h
      · rename_i hl
        cases h
        have h1 := R.at_ _ _ e1
        have h2 := R.at_ _ _ e2
        obtain ⟨A, R'⟩ := cell_w (o' := .tdt (addT ks k)) (u := .dT ((addT ks k).map ent)) R e1 fun K => upd_same
        refine wSet_of (set_dict hu) ⟨_, _, rfl, DPut.t (k := k.map Sum.inl) h1 (by rw [List.map_map]; exact h2) (by rw [List.length_map]; exact hl), ?_⟩
        rw [putK_ent]
        exact q _ A R'
      · cases h
    · cases h
  · cases h
theorem rs_putT (hu : X.A.units + 1 < cLine) (hv : RE cm X e fv) (ho : RE cm X o fo) (hi : RE cm X i fi) (hs : swapsWithSole [.Subscript o i pos'] e pos.line X.env = pure false := by rfl) (hw : swappedStores [.Subscript o i pos'] e X.env = pure none := by rfl)
    (h1 : (assignEach [.Subscript o i pos'] X.env).map (·.2) = [assign (.Subscript o i pos') X.env] := by rfl)
    (ha : ∀ v, assign (.Subscript o i pos') X.env v = (do
      let ov ← holding [v] (eval o X.env)
      let iv ← holding [v, ov] (eval i X.env)
      standAt pos'
      holding [v, ov, iv] (setItem ov iv v)
      release [v, ov, iv] []) := by intro _; rfl) : RS cm X (.Assign [.Subscript o i pos'] e pos) (sPutT fv fo fi) := fun W tk m S H σ en D C h => by
  refine wS_of (ps_asg pe_w (pg_sub pe_w pe_w pset_w ha) hs hw h1) (hv W tk m S H σ en _ C (PF.bind h fun d S1 y m1 H1 e1 A1 R1 r1 k1 => ?_))
  refine ho W tk m1 S1 H1 σ en _ (C.adv A1 R1) (PF.bind k1 fun d2 S2 y2 m2 H2 e2 A2 R2 r2 k2 => ?_)
  refine hi W tk m2 S2 H2 σ en _ ((C.adv A1 R1).adv A2 R2) (PF.bind k2 fun d3 S3 y3 m3 H3 e3 A3 R3 r3 k3 => ?_)
  cases e4 : putTD d2 d3 d S3 with
  | none => rw [e4] at k3; exact k3.elim
  | some S4 =>
    rw [e4] at k3
    exact putT_run hu R3 (Rep.adv A3 _ _ r2) r3 (Rep.adv A3 _ _ (Rep.adv A2 _ _ r1)) e4 fun H' A' R' => k3 _ _ _ A' ((((C.adv A1 R1).adv A2 R2).adv A3 R3).adv A' R')
/-! ### sorted(d) -/
def tupI (k : List Int) : D := .tup (k.map D.int)
def bSortT : OpL := fun l S => match l with
  | [.ref n] => match S[n]? with
    | some (some (.tdt ks)) => if (∀ k ∈ ks, k ≠ []) ∨ ks.length ≤ 1 then some (.lst ((srtT ks).map tupI), S) else none
    | _ => none
  | _ => none
theorem reps_tups {cm : Ct} {m : Am} {S : So} {H : Hp} : ∀ {bs : List Addr} {ks : List (List Int)}, PySem.W.EachIs (fun b k => H b = some (.tup (k.map V.int))) bs ks → Reps cm m S H (ks.map tupI) (bs.map V.ref)
  | _, _, .nil => Reps.nil
  | _, _, .cons h t => Reps.cons (by
      simp only [tupI, Rep]
      exact ⟨_, _, rfl, .inl (.inl h), reps_ints _⟩) (reps_tups t)
theorem cd_sortT (hc : X.calm = true) (hu : X.A.units + 64 < cLine) : CallD cm X (.builtin "sorted") bSortT := fun m S H ds vs Q R r h => by
  unfold bSortT at h
  split at h
  · rename_i n
    obtain ⟨x, rfl, rx⟩ := reps1 r
    simp only [Rep] at rx
    obtain ⟨_, rfl⟩ := rx
    split at h
    · rename_i ks e
      split at h
      · rename_i hk
        have h1 := R.at_ _ _ e
        refine rW_of (call_sortedDT hc hu) ⟨_, _, ks, rfl, h1, by rw [List.map_map]; rfl, hk, fun p bs hp hb => ?_⟩
        exact h.lst R hp (reps_tups hb)
      · exact h.no.elim
    · exact h.no.elim
  · exact h.no.elim
end
/-! ### len(set(ints)) -/
/-- each number once -/
def distI (ns : List Int) : List Int := PyProof.Rows.firstMet (fun i => ns.getD i 0) ns.length
def tLenSetG (K : PySem.W.Frag) (ta : TE) : TE := fun σ H Q => ta σ H fun x H1 => ∃ (l : Addr) (ns : List Int), x = .ref l ∧ SqL K H1 l (ns.map V.int) ∧ ns.length ≤ 4000 ∧ (distI ns).length ≤ 4000 ∧ Q (.int ((distI ns).length : Nat)) H1
theorem pe_lenSetG {X : Cx} {a : Expr} {ta : TE} {p p2 q pos : Pos} (hg : Gl X "len") (hm : X.mg "len" = none) (hg2 : Gl X "set") (hm2 : X.mg "set" = none) (ha : PE X a ta) (hc : X.calm = true)
    (na : starEach [a] X.env = (false, eval a X.env) :: starEach [] X.env := by rfl) : PE X (.Call (.Name "len" p) [.Call (.Name "set" p2) [a] [] q] [] pos) (tLenSetG X.K ta) := ⟨fun pins s σ H Q I h => by
  refine Call_ (ld_blt I hg hm boot_len ?_)
  refine callWith_builtin1 (args_cons (Call_ (ld_blt I hg2 hm2 boot_set (callWith_type1 (args_cons (thn (ha.run pins s σ H _ I h) fun v s1 w => args_nil ?_) na) na rfl))) rfl) rfl rfl
  obtain ⟨x, H1, I1, r1, l, ns, rfl, hq, hl, hl2, q1⟩ := w
  cases r1
  obtain ⟨its, r, pl, hz⟩ := I1.list hq
  have hs : its.toArray.size = ns.length := by rw [List.size_toArray, ← r.length, List.length_map]
  refine call_set_list (I1.ok.hd hc) pl.isList (by simpa using RZ.intsAre_vals r) (by rw [hs]; unfold scanBound; omega) fun h' tk hS hk => args_nil ?_
  rw [hs] at hS
  obtain ⟨o, es, ep, t, ho, hex, hd, _, _, _, hf, hn⟩ := hS
  exact call_len_set ho hex hd hf (by have : es.size = (distI ns).length := hn; omega) ⟨.int (distI ns).length, H1, (I1.kept (t' := tk) fun b o e => hk b o (Heap.lt_size e) e).tok _, ⟨_, by rw [show es.size = (distI ns).length from hn]⟩, q1⟩⟩
def mLenSet (f : E D) : E D := fun en S => (f en S).bind fun d S1 => match lstOf d S1 with
  | some l => match intsOf l with
    | some ns => if ns.length ≤ 4000 ∧ (distI ns).length ≤ 4000 then .ok (.int ((distI ns).length : Nat)) S1 else .bad
    | none => .bad
  | none => .bad
theorem re_lenSet {cm : Cm} {X : Cx} {e : Expr} {fe : E D} {p p2 q pos : Pos} (hc : X.calm = true) (hg : Gl X "len") (hm : X.mg "len" = none) (hg2 : Gl X "set") (hm2 : X.mg "set" = none) (he : RE cm X e fe)
    (na : starEach [e] X.env = (false, eval e X.env) :: starEach [] X.env := by rfl) : RE cm X (.Call (.Name "len" p) [.Call (.Name "set" p2) [e] [] q] [] pos) (mLenSet fe) := fun W tk m S H σ en Q C h => by
  refine wE_of (pe_lenSetG hg hm hg2 hm2 pe_w hc na) (he W tk m S H σ en _ C (PQ.bind h fun d S1 x m1 H1 e1 A1 R1 r1 h1 => ?_))
  split at h1
  · rename_i l el
    split at h1
    · rename_i ns en'
      split at h1
      · rename_i hl
        obtain ⟨a, vs, rfl, k1, k2⟩ := lst_at R1 r1 el
        have := reps_intsOf en' k2
        subst this
        exact ⟨a, ns, rfl, .inl (.inl k1), hl.1, hl.2, PQ.now h1 R1 (by simp only [Rep])⟩
      · exact h1.elim
    · exact h1.elim
  · exact h1.elim
end Mi

namespace Mi
open PySem PySem.Spec PyProof.Rows L2
/-! MiL: x not in b, b of an own class with __contains__. -/
section
variable {K : PySem.W.Frag} {M : Model} {A : Around} {E : Value → Shared → Prop} {s : Shared} {x C f : Addr} {ox : Obj} {od : Option Obj}
theorem notIn_own {u : Value} {Q : Value → Shared → Prop} (X : K.In s.heap) (I : PySem.W.InstAt s.heap x ox C od) (hs : PySem.W.findIn K (.ref C) "__contains__" = some (some (.ref f))) (hf : PySem.W.isFn K (.ref f) = true)
    (h : wpAny M A (call (.ref f) [.ref x, u]) (fun r s' => ∃ b, r = .bool b ∧ Q (.bool (!b)) s') E s) : wpAny M A (compareOp .NotIn u (.ref x)) Q E s := by
  show wpAny M A (do return .bool (!(← contains (.ref x) u))) Q E s
  refine wpAny_bind ?_
  unfold contains
  refine wpAny_holding ?_
  rw [show stdlibNamesSay? (.ref x) u = none from rfl]
  refine wpAny_bind (wpAny_bind (I.type.here ((PySem.W.looks_findIn X hs).here ?_)))
  show wpAny M A (if (some (Value.ref f) == some Value.none) = true then _ else _) _ E s
  rw [if_neg (by simp)]
  refine wpAny_bind (unless_own X I hs hf (wpAny_mono h (fun r s' z => ?_) fun _ _ z => z))
  obtain ⟨b, rfl, q⟩ := z
  exact wpAny_pure (wpAny_pure q)
end
section
variable {cm : Cm} {X : Cx} {k : Nat} {n : Str} {F : Fm}
def dNInO (n : Str) (F : Fm) : Op2 := fun a b S => if isOwn b S = some n then (match oneOf (F [b, a] S) with
    | some (.bl r, S') => some (.bl (!r), S')
    | _ => none) else dNotIn a b S
theorem od_nInO (M : MethM X.prog X.w X.K X.mg X.base cm k n "__contains__" F) (hr : Room k X.A) (hu : X.A.units + 65 < cLine) : OpD cm X (compareOp .NotIn) (dNInO n F) := fun m S H a b x y Q R ra rb h => by
  unfold dNInO at h
  split at h
  · rename_i ob
    split at h
    · rename_i r S' eo
      obtain ⟨C1, f, fd, ps, hc, ho1, hm, hk, hF, hbd, hbad, hkp⟩ := M
      obtain ⟨aa, C2, dx, fs, rfl, hc2, h1⟩ := own_v R rb ob
      obtain rfl : C1 = C2 := Option.some.inj (hc.symm.trans hc2)
      intro pins s σ v u I rv ru
      obtain rfl : u = Value.ref aa := ru
      obtain ⟨mA, Om, _, _, _, _⟩ := ins_get I.hok h1
      obtain ⟨od, J, _⟩ := Om.look
      have hp : PD (ct X cm) m S H (F [b, a] S) (fun v H' => v = .bl r ∧ Q (.bl (!r)) H') fun _ _ _ => False := by
        revert eo
        cases F [b, a] S with
        | ok d' S2 =>
          intro eo v m' H' A R' r'
          simp only [oneOf, Option.some.injEq, Prod.mk.injEq] at eo
          obtain ⟨e1, e2⟩ := eo
          subst e1 e2
          have r2 := r'
          simp only [Rep] at r2
          exact ⟨r2, POk.at h A R' (by simp only [Rep])⟩
        | err _ _ _ => intro eo; cases eo
        | bad => intro eo; cases eo
      refine notIn_own I.kIn J hm hk (wpAny_mono (run_no (vs := [.ref aa, x]) hF hr hbd I (.cons rfl (.cons rv .nil)) ⟨?_, m, S, [b, a], R, Reps.cons rb (Reps.cons ra Reps.nil), hp⟩) (fun v s' z => ?_) fun _ _ z => z)
      · show 2 = ps.length
        by_cases e : [b, a].length = ps.length
        · exact e
        · rw [hbad _ S e] at hp
          exact hp.elim
      · obtain ⟨v', H', I', rv', ev, q⟩ := z
        subst ev
        exact ⟨r, rv', .bl (!r), H', I', rfl, q⟩
    · exact h.no.elim
  · exact od_notIn hu m S H a b x y Q R ra rb h
end
end Mi

/-! MiJ: l[::-1] of a list. -/
namespace Mi
open PySem PySem.Spec PyProof.Rows L2
/-- l[::-1] -/
def mRevL (fe : E D) : E D := fun en S => (fe en S).bind fun d S1 => match lstOf d S1 with
  | some l => .ok (.lst l.reverse) S1
  | none => .bad
section
variable {X : Cx} {cm : Cm}
theorem re_revL {e : Expr} {fe : E D} {k : Nat} {p1 p2 p3 pos : Pos} (he : RE cm X e fe) : RE cm X (.Subscript e (.Slice none none (some (.UnaryOp .USub (.Constant (.int 1) k p1) p2)) p3) pos) (mRevL fe) := fun W tk m S H σ en Q C h => by
  refine wE_of (pe_revL pe_w) (he W tk m S H σ en _ C (PQ.bind h fun d S1 x m1 H1 e1 A1 R1 r1 h1 => ?_))
  split at h1
  · rename_i l e
    obtain ⟨a, vs, rfl, hs, hv⟩ := lst_at R1 r1 e
    refine ⟨a, vs, rfl, .inl (.inl hs), fun p hn => h1 _ _ _ (Adv.new hn) (R1.grow (grow_upd hn)) ?_⟩
    simp only [Rep]
    exact ⟨p, _, rfl, upd_same, R1.free_new hn, Reps.adv (Adv.new hn) _ _ (Reps.rev hv)⟩
  · exact h1.elim
end
end Mi

namespace K25
open PySem PySem.Spec PyProof.Rows L2 Mi
/-- the classes below x -/
def isSub (x c : Str) : Bool := match ([(("PushError" : Str), (["PushError", "InvalidBounds", "InvalidOperation"] : List Str)), (("InvalidBounds" : Str), (["InvalidBounds"] : List Str)), (("InvalidOperation" : Str), (["InvalidOperation"] : List Str)), (("UnknownIndex" : Str), (["UnknownIndex"] : List Str)), (("InvalidNumber" : Str), (["InvalidNumber"] : List Str))] : List (Str × List Str)).lookup x with
  | some l => l.contains c
  | none => false
/-- the arguments of Bounds as they come to __init__ -/
def G1 (ds _ : List D) : List D := ds
noncomputable def m_is_integer : Fm := bodyM 1 1 (sRet (mAnd (mIs .int (mV 0)) (mAnd (mNot (mIs .bl (mV 0))) (mChain dLe dLe (m1 dNeg (mC (.int 999999999999999999999999999999999999999999999999999999999999))) (mV 0) (mC (.int 999999999999999999999999999999999999999999999999999999999999))))))
noncomputable def m_are_rows : Fm := bodyM 3 1 (sSeq (sIf (tOr' (tNot' (tTru (mIs .tup (mV 0)))) (tNot' (tB' (mChain dLe dLe (mC (.int 1)) (mB bLen (aCons (mV 0) aNil)) (m2 dAdd (mC (.int 12)) (mC (.int 1))))))) (sRet (mC (.bl false))) sNil)
    (sSeq (sFor (iSeq (mV 0)) (gN 1) (sSeq (sIf (tOr' (tNot' (tTru (mIs .tup (mV 1)))) (tB' (m2 dNe (mB bLen (aCons (mV 1) aNil)) (mB bLen (aCons (mV 0) aNil))))) (sRet (mC (.bl false))) sNil)
    (sIf (tNot' (tTru (mB bAll (aCons (mComp (iSeq (mV 1)) (gN 2) tT (mCall m_is_integer (aCons (mV 2) aNil)) [2]) aNil)))) (sRet (mC (.bl false))) sNil)))
    (sRet (mC (.bl true)))))
noncomputable def m_tightened : Fm := bodyM 7 1 (sSeq (sSet 1 (mB bLen (aCons (mV 0) aNil)))
    (sSeq (sSet 2 (mComp (iRg1 (aCons (mV 1) aNil)) (gN 4) tT (mComp (iRg1 (aCons (mV 1) aNil)) (gN 5) tT (mIf (tB' (m2 dNe (mV 4) (mV 5))) (m2 dIx (m2 dIx (mV 0) (mV 4)) (mV 5)) (mB bMin (aCons (mC (.int 0)) (aCons (m2 dIx (m2 dIx (mV 0) (mV 4)) (mV 5)) aNil)))) [5]) [4]))
    (sSeq (sFor (iRg1 (aCons (mV 1) aNil)) (gN 3) (sSet 2 (mComp (iRg1 (aCons (mV 1) aNil)) (gN 4) tT (mComp (iRg1 (aCons (mV 1) aNil)) (gN 5) tT (mB bMin (aCons (m2 dIx (m2 dIx (mV 2) (mV 4)) (mV 5)) (aCons (m2 dAdd (m2 dIx (m2 dIx (mV 2) (mV 4)) (mV 3)) (m2 dIx (m2 dIx (mV 2) (mV 3)) (mV 5))) aNil))) [5]) [4])))
    (sSeq (sIf (tTru (mB bAny (aCons (mComp (iRg1 (aCons (mV 1) aNil)) (gN 4) tT (m2 dLt (m2 dIx (m2 dIx (mV 2) (mV 4)) (mV 4)) (mC (.int 0))) [4]) aNil))) (sRet (mC .non)) sNil)
    (sRet (mB bTup (aCons (mComp (iSeq (mV 2)) (gN 6) tT (mB bTup (aCons (mV 6) aNil)) [6]) aNil)))))))
noncomputable def m_Bounds_init : Fm := bodyM 3 2 (sSeq (sIf (tNot' (tTru (mCall m_are_rows (aCons (mV 1) aNil)))) (sRs1 ("InvalidBounds" : Str)) sNil)
    (sSeq (sSet 2 (mCall m_tightened (aCons (mV 1) aNil)))
    (sSeq (sIf (tB' (m2 dIsN (mV 2) (mC .non))) (sRs1 ("InvalidBounds" : Str)) sNil)
    (sFput ("own_rows" : Str) (mV 2) (mV 0)))))
noncomputable def m_met_in : Fm := bodyM 6 2 (sRet (mCall m_tightened (aCons (mComp (iZipT (aCons (mV 0) (aCons (mV 1) aNil))) (gT 2 (gsCons (gN 2) (gsCons (gN 3) gsNil))) tT (mComp (iZipT (aCons (mV 2) (aCons (mV 3) aNil))) (gT 2 (gsCons (gN 4) (gsCons (gN 5) gsNil))) tT (mB bMin (aCons (mV 4) (aCons (mV 5) aNil))) [4, 5]) [2, 3]) aNil)))
noncomputable def m_Bounds_and : Fm := bodyM 3 2 (sSeq (sIf (tOr' (tNot' (tTru (mIsO "Bounds" (mV 1)))) (tB' (m2 dNe (mB bLen (aCons (mFld ("own_rows" : Str) (mV 1)) aNil)) (mB bLen (aCons (mFld ("own_rows" : Str) (mV 0)) aNil))))) (sRs1 ("InvalidOperation" : Str)) sNil)
    (sSeq (sSet 2 (mCall m_met_in (aCons (mFld ("own_rows" : Str) (mV 0)) (aCons (mFld ("own_rows" : Str) (mV 1)) aNil))))
    (sRet (mIf (tB' (m2 dIsN (mV 2) (mC .non))) (mC .non) (mMake "Bounds" m_Bounds_init G1 1 0 (aCons (mV 2) aNil) aNil)))))
noncomputable def m_holds_in : Fm := bodyM 8 2 (sSeq (sIf (tOr' (tNot' (tTru (mIs .tup (mV 1)))) (tB' (m2 dNe (mB bLen (aCons (mV 1) aNil)) (m2 dSub (mB bLen (aCons (mV 0) aNil)) (mC (.int 1)))))) (sRet (mC (.bl false))) sNil)
    (sSeq (sIf (tNot' (tTru (mB bAll (aCons (mComp (iSeq (mV 1)) (gN 7) tT (mCall m_is_integer (aCons (mV 7) aNil)) [7]) aNil)))) (sRet (mC (.bl false))) sNil)
    (sSeq (sSet 2 (m2 dAdd (mTup (aCons (mC (.int 0)) aNil)) (mV 1)))
    (sSeq (sFor (iZipT (aCons (mV 2) (aCons (mV 0) aNil))) (gT 2 (gsCons (gN 3) (gsCons (gN 4) gsNil))) (sFor (iZipT (aCons (mV 2) (aCons (mV 4) aNil))) (gT 2 (gsCons (gN 5) (gsCons (gN 6) gsNil))) (sIf (tB' (m2 dGt (m2 dSub (mV 3) (mV 5)) (mV 6))) (sRet (mC (.bl false))) sNil)))
    (sRet (mC (.bl true)))))))
noncomputable def m_Bounds_contains : Fm := bodyM 2 2 (sRet (mCall m_holds_in (aCons (mFld ("own_rows" : Str) (mV 0)) (aCons (mV 1) aNil))))
noncomputable def m_is_time : Fm := bodyM 1 1 (sRet (mAnd (mCall m_is_integer (aCons (mV 0) aNil)) (m2 dGe (mV 0) (mC (.int 0)))))
noncomputable def m_later_in : Fm := bodyM 6 2 (sSeq (sSet 2 (mLst (aCons (mB bTup (aCons (mComp (iEnT (aCons (m2 dIx (mV 0) (mC (.int 0))) aNil)) (gT 2 (gsCons (gN 4) (gsCons (gN 5) gsNil))) tT (mIf (tB' (m2 dGt (mV 4) (mC (.int 0)))) (m2 dSub (mV 5) (mV 1)) (mC (.int 0))) [4, 5]) aNil)) aNil)))
    (sSeq (sFor (iSeq (mSl dSl (mV 0) (pSo (mC (.int 1))) pNo)) (gN 3) (sSet 2 (m2 dAdd (mV 2) (mLst (aCons (m2 dAdd (mTup (aCons (m2 dAdd (m2 dIx (mV 3) (mC (.int 0))) (mV 1)) aNil)) (mSl dSl (mV 3) (pSo (mC (.int 1))) pNo)) aNil)))))
    (sRet (mB bTup (aCons (mV 2) aNil)))))
noncomputable def m_Bounds_rshift : Fm := bodyM 3 2 (sSeq (sIf (tNot' (tTru (mCall m_is_time (aCons (mV 1) aNil)))) (sRsF ("InvalidNumber" : Str) ("value" : Str) (aCons (mV 1) aNil)) sNil)
    (sSeq (sSet 2 (mCall m_later_in (aCons (mFld ("own_rows" : Str) (mV 0)) (aCons (mV 1) aNil))))
    (sSeq (sIf (tNot' (tTru (mCall m_are_rows (aCons (mV 2) aNil)))) (sRsF ("InvalidNumber" : Str) ("value" : Str) (aCons (mV 1) aNil)) sNil)
    (sRet (mMake "Bounds" m_Bounds_init G1 1 0 (aCons (mV 2) aNil) aNil)))))
noncomputable def m_least_in : Fm := bodyM 2 1 (sRet (mB bTup (aCons (mComp (iSeq (mSl dSl (m2 dIx (mV 0) (mC (.int 0))) (pSo (mC (.int 1))) pNo)) (gN 1) tT (m1 dNeg (mV 1)) [1]) aNil)))
noncomputable def m_Bounds_least : Fm := bodyM 1 1 (sRet (mCall m_least_in (aCons (mFld ("own_rows" : Str) (mV 0)) aNil)))
noncomputable def m_are_places_in : Fm := bodyM 4 2 (sSeq (sIf (tOr' (tNot' (tTru (mIs .tup (mV 0)))) (tB' (m2 dGt (mB bLen (aCons (mV 0) aNil)) (mC (.int 12))))) (sRet (mC (.bl false))) sNil)
    (sSeq (sIf (tNot' (tTru (mB bAll (aCons (mComp (iSeq (mV 0)) (gN 3) tT (mAnd (mCall m_is_integer (aCons (mV 3) aNil)) (mChain dLe dLe (mC (.int 0)) (mV 3) (mV 1))) [3]) aNil)))) (sRet (mC (.bl false))) sNil)
    (sSeq (sSet 2 (mComp (iSeq (mV 0)) (gN 3) (tB' (m2 dGt (mV 3) (mC (.int 0)))) (mV 3) [3]))
    (sRet (m2 dEq (mLenSet (mV 2)) (mB bLen (aCons (mV 2) aNil)))))))
noncomputable def m_moved_in : Fm := bodyM 5 2 (sSeq (sSet 2 (m2 dAdd (mTup (aCons (mC (.int 0)) aNil)) (mV 1)))
    (sRet (mB bTup (aCons (mComp (iSeq (mV 2)) (gN 3) tT (mB bTup (aCons (mComp (iSeq (mV 2)) (gN 4) tT (m2 dIx (m2 dIx (mV 0) (mV 3)) (mV 4)) [4]) aNil)) [3]) aNil))))
noncomputable def m_Bounds_moved : Fm := bodyM 2 2 (sSeq (sIf (tNot' (tTru (mCall m_are_places_in (aCons (mV 1) (aCons (m2 dSub (mB bLen (aCons (mFld ("own_rows" : Str) (mV 0)) aNil)) (mC (.int 1))) aNil))))) (sRs1 ("InvalidBounds" : Str)) sNil)
    (sRet (mMake "Bounds" m_Bounds_init G1 1 0 (aCons (mCall m_moved_in (aCons (mFld ("own_rows" : Str) (mV 0)) (aCons (mV 1) aNil))) aNil) aNil)))
noncomputable def m_risen_in : Fm := bodyM 6 2 (sSeq (sSet 2 (mComp (iSeq (mV 0)) (gN 5) tT (mB bLstN (aCons (mV 5) aNil)) [5]))
    (sSeq (sFor (iEnT (aCons (mV 1) aNil)) (gT 2 (gsCons (gN 3) (gsCons (gN 4) gsNil))) (sPut (mV 4) (m2 dIx (mV 2) (m2 dAdd (mV 3) (mC (.int 1)))) (mC (.int 0))))
    (sRet (mCall m_tightened (aCons (mV 2) aNil)))))
noncomputable def m_Bounds_risen : Fm := bodyM 4 2 (sSeq (sIf (tOr' (tNot' (tTru (mIs .tup (mV 1)))) (tB' (m2 dNe (mB bLen (aCons (mV 1) aNil)) (m2 dSub (mB bLen (aCons (mFld ("own_rows" : Str) (mV 0)) aNil)) (mC (.int 1)))))) (sRs1 ("InvalidBounds" : Str)) sNil)
    (sSeq (sIf (tNot' (tTru (mB bAll (aCons (mComp (iSeq (mV 1)) (gN 3) tT (mCall m_is_integer (aCons (mV 3) aNil)) [3]) aNil)))) (sRs1 ("InvalidBounds" : Str)) sNil)
    (sSeq (sSet 2 (mCall m_risen_in (aCons (mFld ("own_rows" : Str) (mV 0)) (aCons (mV 1) aNil))))
    (sRet (mIf (tB' (m2 dIsN (mV 2) (mC .non))) (mC .non) (mMake "Bounds" m_Bounds_init G1 1 0 (aCons (mV 2) aNil) aNil))))))
noncomputable def m_Bounds_zero : Fm := bodyM 2 2 (sSeq (sIf (tOr' (tNot' (tTru (mCall m_is_integer (aCons (mV 1) aNil)))) (tNot' (tB' (mChain dLe dLe (mC (.int 0)) (mV 1) (mC (.int 12)))))) (sRsF ("InvalidNumber" : Str) ("value" : Str) (aCons (mV 1) aNil)) sNil)
    (sRet (mMakeV "Bounds" m_Bounds_init G1 1 (mV 0) (aCons (m2 dMulT (mTup (aCons (m2 dMulT (mTup (aCons (mC (.int 0)) aNil)) (m2 dAdd (mV 1) (mC (.int 1)))) aNil)) (m2 dAdd (mV 1) (mC (.int 1)))) aNil))))
noncomputable def m_cut_in : Fm := bodyM 6 4 (sSeq (sSet 4 (mComp (iSeq (mV 0)) (gN 5) tT (mB bLstN (aCons (mV 5) aNil)) [5]))
    (sSeq (sPut (mB bMin (aCons (m2 dIx (m2 dIx (mV 4) (mV 1)) (mV 2)) (aCons (mV 3) aNil))) (m2 dIx (mV 4) (mV 1)) (mV 2))
    (sRet (mCall m_tightened (aCons (mV 4) aNil)))))
noncomputable def m_Bounds_cut : Fm := bodyM 6 4 (sSeq (sFor (iSeq (mTup (aCons (mV 1) (aCons (mV 2) aNil)))) (gN 4) (sIf (tOr' (tNot' (tTru (mCall m_is_integer (aCons (mV 4) aNil)))) (tNot' (tB' (mChain dLe dLt (mC (.int 0)) (mV 4) (mB bLen (aCons (mFld ("own_rows" : Str) (mV 0)) aNil)))))) (sRsF ("UnknownIndex" : Str) ("index" : Str) (aCons (mV 4) aNil)) sNil))
    (sSeq (sIf (tNot' (tTru (mCall m_is_integer (aCons (mV 3) aNil)))) (sRsF ("InvalidNumber" : Str) ("value" : Str) (aCons (mV 3) aNil)) sNil)
    (sSeq (sSet 5 (mCall m_cut_in (aCons (mFld ("own_rows" : Str) (mV 0)) (aCons (mV 1) (aCons (mV 2) (aCons (mV 3) aNil))))))
    (sRet (mIf (tB' (m2 dIsN (mV 5) (mC .non))) (mC .non) (mMake "Bounds" m_Bounds_init G1 1 0 (aCons (mV 5) aNil) aNil))))))
noncomputable def m_law_cut_to : Fm := bodyM 5 3 (sSeq (sFor (iEnT (aCons (mV 1) aNil)) (gT 2 (gsCons (gN 3) (gsCons (gN 4) gsNil))) (sIf (tAnd' (tB' (m2 dNotN (mV 0) (mC .non))) (tB' (m2 dIn (m2 dAdd (mV 3) (mC (.int 1))) (mV 2)))) (sSet 0 (mMeth "Bounds" "cut" m_Bounds_cut (mV 0) (aCons (mC (.int 0)) (aCons (m2 dAdd (mV 3) (mC (.int 1))) (aCons (m1 dNeg (mV 4)) aNil))))) (sIf (tB' (m2 dNotN (mV 0) (mC .non))) (sSet 0 (mMeth "Bounds" "cut" m_Bounds_cut (mV 0) (aCons (m2 dAdd (mV 3) (mC (.int 1))) (aCons (mC (.int 0)) (aCons (m2 dSub (mV 4) (mC (.int 1))) aNil))))) sNil)))
    (sRet (mV 0)))
noncomputable def m_law_due_now : Fm := bodyM 7 3 (sSeq (sSet 3 (mLstN aNil))
    (sSeq (sFor (iSeq (mV 0)) (gN 4) (sIf (tTru (mB bAll (aCons (mComp (iEnT (aCons (mV 4) aNil)) (gT 2 (gsCons (gN 5) (gsCons (gN 6) gsNil))) tT (m2 dEq (m2 dEq (mV 6) (m2 dIx (mV 1) (mV 5))) (m2 dIn (m2 dAdd (mV 5) (mC (.int 1))) (mV 2))) [5, 6]) aNil))) (sEx (mM "list" mApp (mV 3) (aCons (mV 4) aNil))) sNil))
    (sRet (mFrz (mV 3)))))
noncomputable def m_law_greatest : Fm := bodyM 7 1 (sSeq (sSet 1 (mComp (iSeq (mV 0)) (gN 4) tT (m2 dAdd (mTup (aCons (mC (.int 0)) aNil)) (mV 4)) [4]))
    (sSeq (sSet 2 (mLstN aNil))
    (sSeq (sFor (iRg1 (aCons (mB bLen (aCons (m2 dIx (mV 1) (mC (.int 0))) aNil)) aNil)) (gN 3) (sEx (mM "list" mApp (mV 2) (aCons (mB bTup (aCons (mComp (iRg1 (aCons (mB bLen (aCons (m2 dIx (mV 1) (mC (.int 0))) aNil)) aNil)) (gN 5) tT (mB bMaxL (aCons (mComp (iSeq (mV 1)) (gN 6) tT (m2 dSub (m2 dIx (mV 6) (mV 3)) (m2 dIx (mV 6) (mV 5))) [6]) aNil)) [5]) aNil)) aNil))))
    (sRet (mB bTup (aCons (mV 2) aNil))))))
noncomputable def m_law_same : Nat → Fm
  | 0 => fBad
  | n + 1 => bodyM 3 2 (sSeq (sIf (tOr' (tTru (mIs .tup (mV 0))) (tTru (mIs .tup (mV 1)))) (sSeq (sIf (tOr' (tNot' (tTru (mIs .tup (mV 0)))) (tOr' (tNot' (tTru (mIs .tup (mV 1)))) (tB' (m2 dNe (mB bLen (aCons (mV 0) aNil)) (mB bLen (aCons (mV 1) aNil)))))) (sRet (mC (.bl false))) sNil)
    (sRet (mB bAll (aCons (mComp (iRg1 (aCons (mB bLen (aCons (mV 0) aNil)) aNil)) (gN 2) tT (mCall (m_law_same n) (aCons (m2 dIx (mV 0) (mV 2)) (aCons (m2 dIx (mV 1) (mV 2)) aNil))) [2]) aNil)))) sNil)
    (sRet (mAnd (mIs .int (mV 0)) (mAnd (mNot (mIs .bl (mV 0))) (m2 dEq (mV 0) (mV 1))))))
noncomputable def m_law_is_of : Fm := bodyM 2 2 (sSeq (sIf (tB' (m2 dEq (mV 1) (mLst aNil))) (sRet (m2 dIsN (mV 0) (mC .non))) sNil)
    (sRet (mAnd (mIsO "Bounds" (mV 0)) (mCall (m_law_same 4) (aCons (mFld ("own_rows" : Str) (mV 0)) (aCons (mCall m_law_greatest (aCons (mV 1) aNil)) aNil))))))
noncomputable def m_law_moved : Fm := bodyM 6 2 (sSeq (sSet 2 mDctT)
    (sSeq (sFor (iSeq (mV 0)) (gN 3) (sSeq (sSet 4 (m2 dAdd (mTup (aCons (mC (.int 0)) aNil)) (mV 3)))
    (sPutT (mC (.bl true)) (mV 2) (mB bTupT (aCons (mComp (iSeq (mV 1)) (gN 5) tT (m2 dIx (mV 4) (mV 5)) [5]) aNil)))))
    (sRet (mB bSortT (aCons (mV 2) aNil)))))
noncomputable def m_law_throw : Fm := bodyM 6 2 (sSeq (sIf (tB' (m2 dGt (m2 dIx (mV 0) (mC (.int 0))) (mC (.int 0)))) (sSeq (sSet 5 (m2 dMod (mB bInt (aCons (m2 dIx (mV 0) (mC (.int 0))) aNil)) (mV 1)))
    (sSeq (sPut (m2 dDiv (m2 dIx (mV 0) (mC (.int 0))) (mV 1)) (mV 0) (mC (.int 0)))
    (sRet (mV 5)))) sNil)
    (sSeq (sPut (m2 dAdd (m2 dIx (mV 0) (mC (.int 2))) (mC (.int 1))) (mV 0) (mC (.int 2)))
    (sSeq (sSet 2 (m2 dMod (mB bInt (aCons (m2 dAdd (m2 dIx (mV 0) (mC (.int 1))) (m2 dMulT (mC (.int 1000003)) (m2 dIx (mV 0) (mC (.int 2))))) aNil)) (mC (.int 2305843009213693951))))
    (sSeq (sSet 3 (m2 dMod (mB bInt (aCons (m2 dAdd (m2 dMulT (mV 2) (mV 2)) (m2 dMulT (mC (.int 12347)) (m2 dIx (mV 0) (mC (.int 2))))) aNil)) (mC (.int 2305843009213693921))))
    (sSeq (sSet 4 (m2 dMod (mB bInt (aCons (m2 dAdd (m2 dMulT (mV 3) (mV 2)) (mC (.int 777767777))) aNil)) (mC (.int 2305843009213693951))))
    (sRet (m2 dMod (mB bInt (aCons (m2 dDiv (mV 4) (mC (.int 4096))) aNil)) (mV 1))))))))
noncomputable def m_law_places : Fm := bodyM 7 3 (sSeq (sSet 3 (mComp (iRg2 (aCons (mC (.int 1)) (aCons (m2 dAdd (mV 1) (mC (.int 1))) aNil))) (gN 6) (tAnd' (tB' (m2 dNotIn (mV 6) (mV 2))) (tB' (m2 dGt (mCall m_law_throw (aCons (mV 0) (aCons (mC (.int 5)) aNil))) (mC (.int 0))))) (mV 6) [6]))
    (sSeq (sIf (tB' (m2 dEq (mCall m_law_throw (aCons (mV 0) (aCons (mC (.int 3)) aNil))) (mC (.int 0)))) (sSet 3 (mRevL (mV 3))) sNil)
    (sSeq (sFor (iRg1 (aCons (mCall m_law_throw (aCons (mV 0) (aCons (mC (.int 3)) aNil))) aNil)) (gN 4) (sSeq (sSet 5 (mCall m_law_throw (aCons (mV 0) (aCons (m2 dAdd (mB bLen (aCons (mV 3) aNil)) (mC (.int 1))) aNil))))
    (sSet 3 (m2 dAdd (m2 dAdd (mSl dSl (mV 3) pNo (pSo (mV 5))) (mLst (aCons (mC (.int 0)) aNil))) (mSl dSl (mV 3) (pSo (mV 5)) pNo)))))
    (sRet (mB bTup (aCons (mSl dSl (mV 3) pNo (pSo (mC (.int 3)))) aNil))))))
noncomputable def m_law_risen : Fm := bodyM 8 2 (sSeq (sSet 2 mDctT)
    (sSeq (sFor (iSeq (mV 0)) (gN 3) (sFor (iRg1 (aCons (mC (.int 9)) aNil)) (gN 4) (sSeq (sSet 5 (mB bTupT (aCons (mComp (iSeq (mV 3)) (gN 6) tT (m2 dAdd (mV 6) (mV 4)) [6]) aNil)))
    (sIf (tTru (mB bAll (aCons (mComp (iZipT (aCons (mTh (mV 5)) (aCons (mV 1) aNil))) (gT 2 (gsCons (gN 6) (gsCons (gN 7) gsNil))) tT (m2 dLe (mV 6) (mV 7)) [6, 7]) aNil))) (sPutT (mC (.bl true)) (mV 2) (mV 5)) sNil))))
    (sRet (mB bSortT (aCons (mV 2) aNil)))))
noncomputable def m_law_start : Fm := bodyM 5 2 (sSeq (sSet 2 (mIf (tB' (m2 dLt (mV 1) (mB bLen (aCons (mV 0) aNil)))) (m2 dIx (mV 0) (mV 1)) (m2 dAdd (m2 dMulT (mC (.int 53)) (mV 1)) (mC (.int 7)))))
    (sSeq (sSet 3 (m2 dMod (mB bInt (aCons (mB bAbs (aCons (mV 2) aNil)) aNil)) (m2 dPow (m2 dPow (mC (.int 10)) (mC (.int 60))) (mC (.int 10)))))
    (sSeq (sSet 4 (m2 dAdd (m2 dMulT (m2 dMod (mB bInt (aCons (mV 3) aNil)) (mC (.int 2305843009213693921))) (mC (.int 3))) (mB bInt (aCons (m2 dLt (mV 2) (mC (.int 0))) aNil))))
    (sRet (mLstN (aCons (mB bMax (aCons (mC (.int 0)) (aCons (m2 dSub (mV 3) (m2 dPow (mC (.int 10)) (mC (.int 18)))) aNil))) (aCons (m2 dMod (mB bInt (aCons (m2 dAdd (m2 dAdd (m2 dMulT (mV 4) (mC (.int 40009))) (m2 dMulT (mC (.int 7919)) (mV 1))) (mC (.int 17))) aNil)) (mC (.int 2305843009213693951))) (aCons (mC (.int 0)) aNil))))))))
noncomputable def m_law : Fm := bodyM 20 1 (sSeq (sAsg (gT 4 (gsCons (gN 2) (gsCons (gN 3) (gsCons (gN 4) (gsCons (gN 5) gsNil))))) (mTup (aCons (mCm "Bounds" m_Bounds_zero (aCons (mC (.int 0)) aNil)) (aCons (mLst (aCons (mTup aNil) aNil)) (aCons (mTup aNil) (aCons (mLstN aNil) aNil))))))
    (sSeq (sFor (iRg1 (aCons (mB bMax (aCons (mC (.int 1)) (aCons (mB bLen (aCons (mV 0) aNil)) aNil))) aNil)) (gN 1) (sSeq (sSet 6 (mCall m_law_start (aCons (mV 0) (aCons (mV 1) aNil))))
    (sSeq (sAsg (gT 4 (gsCons (gN 9) (gsCons (gN 10) (gsCons (gN 11) (gsCons (gN 12) gsNil))))) (mTup (aCons (mCall m_law_throw (aCons (mV 6) (aCons (mC (.int 3)) aNil))) (aCons (mTup aNil) (aCons (mV 3) (aCons (mV 2) aNil))))))
    (sSeq (sIf (tB' (m2 dEq (mV 9) (mC (.int 0)))) (sSeq (sSet 10 (mB bTup (aCons (mComp (iRg2 (aCons (mC (.int 1)) (aCons (m2 dAdd (mB bLen (aCons (mV 4) aNil)) (mC (.int 1))) aNil))) (gN 17) (tB' (m2 dEq (mCall m_law_throw (aCons (mV 6) (aCons (mC (.int 2)) aNil))) (mC (.int 0)))) (mV 17) [17]) aNil)))
    (sSeq (sSet 11 (mCall m_law_due_now (aCons (mV 3) (aCons (mV 4) (aCons (mV 10) aNil)))))
    (sSeq (sSet 12 (mCall m_law_cut_to (aCons (mV 2) (aCons (mV 4) (aCons (mV 10) aNil)))))
    (sSeq (sIf (tNot' (tTru (mCall m_law_is_of (aCons (mV 12) (aCons (mV 11) aNil))))) (sRet (mC (.bl false))) sNil)
    (sIf (tB' (m2 dEq (mV 11) (mLst aNil))) (sPar3 10 11 12 (aCons (mTup aNil) (aCons (mV 3) (aCons (mV 2) aNil)))) (sSeq (sSet 11 (mComp (iSeq (mV 11)) (gN 18) tT (mB bTup (aCons (mComp (iSeq (mV 18)) (gN 19) tT (m2 dAdd (mV 19) (mC (.int 1))) [19]) aNil)) [18]))
    (sSet 12 (mOwn "Bounds" m_Bounds_rshift (mV 12) (mC (.int 1)))))))))) sNil)
    (sSeq (sSet 7 (mCall m_law_places (aCons (mV 6) (aCons (mB bLen (aCons (mV 4) aNil)) (aCons (mV 10) aNil)))))
    (sSeq (sSet 4 (mB bTup (aCons (mComp (iSeq (mV 7)) (gN 13) tT (mIf (tB' (m2 dGt (mV 13) (mC (.int 0)))) (m2 dIx (mV 4) (m2 dSub (mV 13) (mC (.int 1)))) (mCall m_law_throw (aCons (mV 6) (aCons (mC (.int 4)) aNil)))) [13]) aNil)))
    (sSeq (sAsg (gT 2 (gsCons (gN 2) (gsCons (gN 3) gsNil))) (mTup (aCons (mMeth "Bounds" "moved" m_Bounds_moved (mV 12) (aCons (mV 7) aNil)) (aCons (mCall m_law_moved (aCons (mV 11) (aCons (mV 7) aNil))) aNil))))
    (sSeq (sSet 8 (mB bTup (aCons (mComp (iRg1 (aCons (mB bLen (aCons (mV 4) aNil)) aNil)) (gN 14) tT (mB bMinL (aCons (mComp (iSeq (mV 3)) (gN 18) tT (m2 dIx (mV 18) (mV 14)) [18]) aNil)) [14]) aNil)))
    (sSeq (sIf (tOr' (tNot' (tTru (mCall m_law_is_of (aCons (mV 2) (aCons (mV 3) aNil))))) (tOr' (tNot' (tTru (mCall (m_law_same 4) (aCons (mMeth "Bounds" "least" m_Bounds_least (mV 2) aNil) (aCons (mV 8) aNil))))) (tB' (m2 (dNInO "Bounds" m_Bounds_contains) (mV 8) (mV 2))))) (sRet (mC (.bl false))) sNil)
    (sSeq (sAsg (gT 2 (gsCons (gN 2) (gsCons (gN 3) gsNil))) (mTup (aCons (mMeth "Bounds" "risen" m_Bounds_risen (mV 2) (aCons (mV 4) aNil)) (aCons (mCall m_law_risen (aCons (mV 3) (aCons (mV 4) aNil))) aNil))))
    (sSeq (sIf (tOr' (tNot' (tTru (mCall m_law_is_of (aCons (mV 2) (aCons (mV 3) aNil))))) (tNot' (tTru (mCall m_law_is_of (aCons (mOwn "Bounds" m_Bounds_and (mV 2) (mV 2)) (aCons (mV 3) aNil)))))) (sRet (mC (.bl false))) sNil)
    (sEx (mM "list" mApp (mV 5) (aCons (mTup (aCons (mV 2) (aCons (mV 3) aNil))) aNil))))))))))))))
    (sRet (mB bAll (aCons (mComp (iSeq (mV 5)) (gT 2 (gsCons (gN 15) (gsCons (gN 16) gsNil))) tT (mCall m_law_is_of (aCons (mV 15) (aCons (mV 16) aNil))) [15, 16]) aNil)))))
end K25

namespace K25
open PySem PySem.Spec PyProof.Rows L2 Mi
def top (i : Nat) : Stmt := PySem.Challenge.pw_pushalike_k25_whole_histories_of_bounds.main.body.getD i (.Pass ⟨0, 0, 0, 0⟩)
def stAt (l : List Stmt) (i : Nat) : Stmt := l.getD i (.Pass ⟨0, 0, 0, 0⟩)
def forBody : Stmt → List Stmt
  | .For _ _ b _ _ => b
  | _ => []
def ifBody : Stmt → List Stmt
  | .If _ b _ _ => b
  | _ => []
def ifElse : Stmt → List Stmt
  | .If _ _ b _ => b
  | _ => []
abbrev s_is_integer : Stmt := top 3
theorem sc_is_integer : FnScope ["value"] ["value"] (defScope s_is_integer) := ⟨rfl, rfl, rfl, by decide +kernel, rfl, by decide +kernel, by decide +kernel⟩
abbrev s_are_rows : Stmt := top 13
theorem sc_are_rows : FnScope ["value", "row", "entry"] ["value"] (defScope s_are_rows) := ⟨rfl, rfl, rfl, by decide +kernel, rfl, by decide +kernel, by decide +kernel⟩
abbrev s_tightened : Stmt := top 14
theorem sc_tightened : FnScope ["rows", "size", "table", "k", "i", "j", "row"] ["rows"] (defScope s_tightened) := ⟨rfl, rfl, rfl, by decide +kernel, rfl, by decide +kernel, by decide +kernel⟩
abbrev s_Bounds_init : Stmt := inClass (top 23) 0
theorem sc_Bounds_init : FnScope ["self", "rows", "tight"] ["self", "rows"] (defScope s_Bounds_init) := ⟨rfl, rfl, rfl, by decide +kernel, rfl, by decide +kernel, by decide +kernel⟩
abbrev s_met_in : Stmt := top 17
theorem sc_met_in : FnScope ["rows", "others", "row", "more", "one", "other"] ["rows", "others"] (defScope s_met_in) := ⟨rfl, rfl, rfl, by decide +kernel, rfl, by decide +kernel, by decide +kernel⟩
abbrev s_Bounds_and : Stmt := inClass (top 23) 7
theorem sc_Bounds_and : FnScope ["self", "other", "rows"] ["self", "other"] (defScope s_Bounds_and) := ⟨rfl, rfl, rfl, by decide +kernel, rfl, by decide +kernel, by decide +kernel⟩
abbrev s_holds_in : Stmt := top 15
theorem sc_holds_in : FnScope ["rows", "value", "point", "one", "row", "other", "most", "reading"] ["rows", "value"] (defScope s_holds_in) := ⟨rfl, rfl, rfl, by decide +kernel, rfl, by decide +kernel, by decide +kernel⟩
abbrev s_Bounds_contains : Stmt := inClass (top 23) 6
theorem sc_Bounds_contains : FnScope ["self", "value"] ["self", "value"] (defScope s_Bounds_contains) := ⟨rfl, rfl, rfl, by decide +kernel, rfl, by decide +kernel, by decide +kernel⟩
abbrev s_is_time : Stmt := top 4
theorem sc_is_time : FnScope ["value"] ["value"] (defScope s_is_time) := ⟨rfl, rfl, rfl, by decide +kernel, rfl, by decide +kernel, by decide +kernel⟩
abbrev s_later_in : Stmt := top 18
theorem sc_later_in : FnScope ["rows", "time", "found", "row", "j", "entry"] ["rows", "time"] (defScope s_later_in) := ⟨rfl, rfl, rfl, by decide +kernel, rfl, by decide +kernel, by decide +kernel⟩
abbrev s_Bounds_rshift : Stmt := inClass (top 23) 8
theorem sc_Bounds_rshift : FnScope ["self", "time", "rows"] ["self", "time"] (defScope s_Bounds_rshift) := ⟨rfl, rfl, rfl, by decide +kernel, rfl, by decide +kernel, by decide +kernel⟩
abbrev s_least_in : Stmt := top 21
theorem sc_least_in : FnScope ["rows", "entry"] ["rows"] (defScope s_least_in) := ⟨rfl, rfl, rfl, by decide +kernel, rfl, by decide +kernel, by decide +kernel⟩
abbrev s_Bounds_least : Stmt := inClass (top 23) 9
theorem sc_Bounds_least : FnScope ["self"] ["self"] (defScope s_Bounds_least) := ⟨rfl, rfl, rfl, by decide +kernel, rfl, by decide +kernel, by decide +kernel⟩
abbrev s_are_places_in : Stmt := top 22
theorem sc_are_places_in : FnScope ["value", "many", "clocks", "place"] ["value", "many"] (defScope s_are_places_in) := ⟨rfl, rfl, rfl, by decide +kernel, rfl, by decide +kernel, by decide +kernel⟩
abbrev s_moved_in : Stmt := top 20
theorem sc_moved_in : FnScope ["rows", "places", "order", "i", "j"] ["rows", "places"] (defScope s_moved_in) := ⟨rfl, rfl, rfl, by decide +kernel, rfl, by decide +kernel, by decide +kernel⟩
abbrev s_Bounds_moved : Stmt := inClass (top 23) 13
theorem sc_Bounds_moved : FnScope ["self", "places"] ["self", "places"] (defScope s_Bounds_moved) := ⟨rfl, rfl, rfl, by decide +kernel, rfl, by decide +kernel, by decide +kernel⟩
abbrev s_risen_in : Stmt := top 19
theorem sc_risen_in : FnScope ["rows", "tops", "table", "i", "top", "row"] ["rows", "tops"] (defScope s_risen_in) := ⟨rfl, rfl, rfl, by decide +kernel, rfl, by decide +kernel, by decide +kernel⟩
abbrev s_Bounds_risen : Stmt := inClass (top 23) 12
theorem sc_Bounds_risen : FnScope ["self", "tops", "rows", "top"] ["self", "tops"] (defScope s_Bounds_risen) := ⟨rfl, rfl, rfl, by decide +kernel, rfl, by decide +kernel, by decide +kernel⟩
abbrev s_Bounds_zero : Stmt := inClass (top 23) 1
theorem sc_Bounds_zero : FnScope ["cls", "many"] ["cls", "many"] (defScope s_Bounds_zero) := ⟨rfl, rfl, rfl, by decide +kernel, rfl, by decide +kernel, by decide +kernel⟩
abbrev s_cut_in : Stmt := top 16
theorem sc_cut_in : FnScope ["rows", "i", "j", "most", "table", "row"] ["rows", "i", "j", "most"] (defScope s_cut_in) := ⟨rfl, rfl, rfl, by decide +kernel, rfl, by decide +kernel, by decide +kernel⟩
abbrev s_Bounds_cut : Stmt := inClass (top 23) 11
theorem sc_Bounds_cut : FnScope ["self", "i", "j", "most", "place", "rows"] ["self", "i", "j", "most"] (defScope s_Bounds_cut) := ⟨rfl, rfl, rfl, by decide +kernel, rfl, by decide +kernel, by decide +kernel⟩
abbrev s_law_cut_to : Stmt := top 35
theorem sc_law_cut_to : FnScope ["bounds", "tops", "gone", "at", "top"] ["bounds", "tops", "gone"] (defScope s_law_cut_to) := ⟨rfl, rfl, rfl, by decide +kernel, rfl, by decide +kernel, by decide +kernel⟩
abbrev s_law_due_now : Stmt := top 34
theorem sc_law_due_now : FnScope ["points", "tops", "gone", "found", "point", "at", "reading"] ["points", "tops", "gone"] (defScope s_law_due_now) := ⟨rfl, rfl, rfl, by decide +kernel, rfl, by decide +kernel, by decide +kernel⟩
abbrev s_law_greatest : Stmt := top 28
theorem sc_law_greatest : FnScope ["points", "fulls", "rows", "i", "point", "j", "full"] ["points"] (defScope s_law_greatest) := ⟨rfl, rfl, rfl, by decide +kernel, rfl, by decide +kernel, by decide +kernel⟩
abbrev s_law_same : Stmt := top 29
theorem sc_law_same : FnScope ["one", "other", "k"] ["one", "other"] (defScope s_law_same) := ⟨rfl, rfl, rfl, by decide +kernel, rfl, by decide +kernel, by decide +kernel⟩
abbrev s_law_is_of : Stmt := top 30
theorem sc_law_is_of : FnScope ["bounds", "points"] ["bounds", "points"] (defScope s_law_is_of) := ⟨rfl, rfl, rfl, by decide +kernel, rfl, by decide +kernel, by decide +kernel⟩
abbrev s_law_moved : Stmt := top 33
theorem sc_law_moved : FnScope ["points", "places", "found", "point", "full", "place"] ["points", "places"] (defScope s_law_moved) := ⟨rfl, rfl, rfl, by decide +kernel, rfl, by decide +kernel, by decide +kernel⟩
abbrev s_law_throw : Stmt := top 26
theorem sc_law_throw : FnScope ["bag", "total", "one", "two", "three", "found"] ["bag", "total"] (defScope s_law_throw) := ⟨rfl, rfl, rfl, by decide +kernel, rfl, by decide +kernel, by decide +kernel⟩
abbrev s_law_places : Stmt := top 32
theorem sc_law_places : FnScope ["bag", "many", "gone", "places", "turn", "at", "clock"] ["bag", "many", "gone"] (defScope s_law_places) := ⟨rfl, rfl, rfl, by decide +kernel, rfl, by decide +kernel, by decide +kernel⟩
abbrev s_law_risen : Stmt := top 31
theorem sc_law_risen : FnScope ["points", "tops", "found", "point", "turn", "higher", "reading", "top"] ["points", "tops"] (defScope s_law_risen) := ⟨rfl, rfl, rfl, by decide +kernel, rfl, by decide +kernel, by decide +kernel⟩
abbrev s_law_start : Stmt := top 25
theorem sc_law_start : FnScope ["script", "at", "cell", "great", "mixed"] ["script", "at"] (defScope s_law_start) := ⟨rfl, rfl, rfl, by decide +kernel, rfl, by decide +kernel, by decide +kernel⟩
abbrev s_law : Stmt := top 36
theorem sc_law : FnScope ["script", "at", "bounds", "points", "tops", "told", "bag", "places", "least", "way", "gone", "later", "shown", "place", "spot", "one", "some", "clock", "point", "reading"] ["script"] (defScope s_law) := ⟨rfl, rfl, rfl, by decide +kernel, rfl, by decide +kernel, by decide +kernel⟩
structure Txt (K : PySem.W.Frag) (mg : Str → Option Value) (cm : Cm) : Prop where
  z_abs : mg "abs" = none
  z_all : mg "all" = none
  z_any : mg "any" = none
  z_bool : mg "bool" = none
  z_enumerate : mg "enumerate" = none
  z_int : mg "int" = none
  z_isinstance : mg "isinstance" = none
  z_len : mg "len" = none
  z_list : mg "list" = none
  z_max : mg "max" = none
  z_min : mg "min" = none
  z_range : mg "range" = none
  z_set : mg "set" = none
  z_sorted : mg "sorted" = none
  z_tuple : mg "tuple" = none
  z_zip : mg "zip" = none
  g_MAX_VALUE : ∃ t, mg "MAX_VALUE" = some (.int 999999999999999999999999999999999999999999999999999999999999 t)
  g_MOST_CLOCKS : ∃ t, mg "MOST_CLOCKS" = some (.int 12 t)
  f_is_integer : Fnd K mg "is_integer" "is_integer" s_is_integer ["value"]
  f_are_rows : Fnd K mg "are_rows" "are_rows" s_are_rows ["value"]
  f_tightened : Fnd K mg "tightened" "tightened" s_tightened ["rows"]
  k_Bounds_G1 : MakeFnd K mg cm "Bounds" "Bounds.__init__" s_Bounds_init ["self", "rows"] 1 [] G1
  f_met_in : Fnd K mg "met_in" "met_in" s_met_in ["rows", "others"]
  f_Bounds_and : MFnd K cm "Bounds" "__and__" "Bounds.__and__" s_Bounds_and ["self", "other"]
  f_holds_in : Fnd K mg "holds_in" "holds_in" s_holds_in ["rows", "value"]
  f_Bounds_contains : MFnd K cm "Bounds" "__contains__" "Bounds.__contains__" s_Bounds_contains ["self", "value"]
  f_is_time : Fnd K mg "is_time" "is_time" s_is_time ["value"]
  f_later_in : Fnd K mg "later_in" "later_in" s_later_in ["rows", "time"]
  f_Bounds_rshift : MFnd K cm "Bounds" "__rshift__" "Bounds.__rshift__" s_Bounds_rshift ["self", "time"]
  f_least_in : Fnd K mg "least_in" "least_in" s_least_in ["rows"]
  f_Bounds_least : MFnd K cm "Bounds" "least" "Bounds.least" s_Bounds_least ["self"]
  f_are_places_in : Fnd K mg "are_places_in" "are_places_in" s_are_places_in ["value", "many"]
  f_moved_in : Fnd K mg "moved_in" "moved_in" s_moved_in ["rows", "places"]
  f_Bounds_moved : MFnd K cm "Bounds" "moved" "Bounds.moved" s_Bounds_moved ["self", "places"]
  f_risen_in : Fnd K mg "risen_in" "risen_in" s_risen_in ["rows", "tops"]
  f_Bounds_risen : MFnd K cm "Bounds" "risen" "Bounds.risen" s_Bounds_risen ["self", "tops"]
  c_Bounds_zero : CFnd K mg cm "Bounds" "zero" "Bounds.zero" s_Bounds_zero ["cls", "many"]
  f_cut_in : Fnd K mg "cut_in" "cut_in" s_cut_in ["rows", "i", "j", "most"]
  f_Bounds_cut : MFnd K cm "Bounds" "cut" "Bounds.cut" s_Bounds_cut ["self", "i", "j", "most"]
  f_law_cut_to : Fnd K mg "_law_cut_to" "_law_cut_to" s_law_cut_to ["bounds", "tops", "gone"]
  f_law_due_now : Fnd K mg "_law_due_now" "_law_due_now" s_law_due_now ["points", "tops", "gone"]
  f_law_greatest : Fnd K mg "_law_greatest" "_law_greatest" s_law_greatest ["points"]
  f_law_same : Fnd K mg "_law_same" "_law_same" s_law_same ["one", "other"]
  f_law_is_of : Fnd K mg "_law_is_of" "_law_is_of" s_law_is_of ["bounds", "points"]
  f_law_moved : Fnd K mg "_law_moved" "_law_moved" s_law_moved ["points", "places"]
  f_law_throw : Fnd K mg "_law_throw" "_law_throw" s_law_throw ["bag", "total"]
  f_law_places : Fnd K mg "_law_places" "_law_places" s_law_places ["bag", "many", "gone"]
  f_law_risen : Fnd K mg "_law_risen" "_law_risen" s_law_risen ["points", "tops"]
  f_law_start : Fnd K mg "_law_start" "_law_start" s_law_start ["script", "at"]
  f_law : Fnd K mg "law" "law" s_law ["script"]
  own : OwnAll K cm
  op_Bounds_and : ∀ C, cm.cls "Bounds" = some C → OwnOp K C "and"
  op_Bounds_rshift : ∀ C, cm.cls "Bounds" = some C → OwnOp K C "rshift"
  na_own_rows : NoAt K cm "own_rows"
  pr_rows : ∀ (P : Program) (w : World) (base : Heap), PropM P w K mg base cm "rows" "own_rows"
  io_Bounds : IsOwn K mg cm "Bounds"
  rs_InvalidBounds : Rs1 K mg cm "InvalidBounds" [Value.type "ValueError", Value.type "Exception", Value.type "BaseException", Value.type "object"] "ValueError.__new__"
  rs_InvalidOperation : Rs1 K mg cm "InvalidOperation" [Value.type "ValueError", Value.type "Exception", Value.type "BaseException", Value.type "object"] "ValueError.__new__"
  mk_InvalidNumber : ∀ (P : Program) (w : World) (base : Heap), MkF P w K mg base cm 1 "InvalidNumber" "value" [Value.type "RuntimeError", Value.type "Exception", Value.type "BaseException", Value.type "object"] "RuntimeError.__new__"
  mk_UnknownIndex : ∀ (P : Program) (w : World) (base : Heap), MkF P w K mg base cm 1 "UnknownIndex" "index" [Value.type "IndexError", Value.type "LookupError", Value.type "Exception", Value.type "BaseException", Value.type "object"] "IndexError.__new__"
section
variable {P : Program} {w : World} {K : PySem.W.Frag} {mg : Str → Option Value} {base : Heap} {cm : Cm}
theorem d_is_integer (T : Txt K mg cm) : DefM P w K mg base cm 3 "is_integer" m_is_integer :=
  DefM.of (N := ["value"]) (ps := ["value"]) (k := 2) T.f_is_integer sc_is_integer fun f cdv A outer s H E hr =>
    (rss_one (rs_ret (re_and (re_is .int T.own rfl T.z_isinstance rfl T.z_int (by decide +kernel) (re_v 0)) (re_and (re_not (re_is .bl T.own rfl T.z_isinstance rfl T.z_bool (by decide +kernel) (re_v 0))) (re_one (re_chain od_le od_le (re_un ud_neg (re_gintE rfl T.g_MAX_VALUE)) (re_v 0) (re_gintE rfl T.g_MAX_VALUE)))))))
theorem d_are_rows (T : Txt K mg cm) : DefM P w K mg base cm 5 "are_rows" m_are_rows :=
  DefM.of (N := ["value", "row", "entry"]) (ps := ["value"]) (k := 4) T.f_are_rows sc_are_rows fun f cdv A outer s H E hr =>
    (by refine rss_cons ?_ ?_; exact (rs_if (rt_w (rw_or (rt_not (rt_tru (re_is .tup T.own rfl T.z_isinstance rfl T.z_tuple (by decide +kernel) (re_v 0)))) (rw_or1 (rt_not (rt_chain od_le od_le re_int (re_b cd_len rfl T.z_len (by decide +kernel) (ra_c (re_v 0) ra_nil)) (re_op od_add (re_gintE rfl T.g_MOST_CLOCKS) re_int)))))) (rss_one (rs_ret re_bl)) rss_nil); exact (by refine rss_cons ?_ ?_; exact (rs_for (passes_of rfl) rfl (ri_seq (re_v 0)) (rg_n 1 sc_are_rows.nd rfl (by first | exact .inl rfl | exact .inr rfl)) (by refine rss_cons ?_ ?_; exact (rs_if (rt_w (rw_or (rt_not (rt_tru (re_is .tup T.own rfl T.z_isinstance rfl T.z_tuple (by decide +kernel) (re_v 1)))) (rw_or1 (rt_cmp (od_ne (u64 hr)) (re_b cd_len rfl T.z_len (by decide +kernel) (ra_c (re_v 1) ra_nil)) (re_b cd_len rfl T.z_len (by decide +kernel) (ra_c (re_v 0) ra_nil)) rfl)))) (rss_one (rs_ret re_bl)) rss_nil); exact (rss_one (rs_if (rt_not (rt_tru (re_b (cd_all rfl) rfl T.z_all (by decide +kernel) (ra_c (re_comp (own := [(("entry" : Str), 2)]) rfl sc_are_rows.nd (ri_seq (re_v 1)) (blk_of (by kernel_rfl)) (fun _ _ _ _ _ => (rg_n 2 sc_are_rows.nd rfl (by first | exact .inl rfl | exact .inr rfl))) (fun _ _ _ _ _ => rts_nil) (fun _ _ _ _ _ => (re_call (d_is_integer T) (hr.mono (by omega)) rfl (ra_c (re_v 2) ra_nil)))) ra_nil)))) (rss_one (rs_ret re_bl)) rss_nil)))); exact (rss_one (rs_ret re_bl))))
theorem d_tightened (T : Txt K mg cm) : DefM P w K mg base cm 3 "tightened" m_tightened :=
  DefM.of (N := ["rows", "size", "table", "k", "i", "j", "row"]) (ps := ["rows"]) (k := 2) T.f_tightened sc_tightened fun f cdv A outer s H E hr =>
    (by refine rss_cons ?_ ?_; exact (by refine rs_set 1 ?_ ?_ ?_ ?_ ?_ ?_; exact sc_tightened.nd; exact rfl; exact (by first | exact .inl rfl | exact .inr rfl); exact (re_b cd_len rfl T.z_len (by decide +kernel) (ra_c (re_v 0) ra_nil)); exact rfl; exact (by first | exact .inl rfl | exact .inr rfl)); exact (by refine rss_cons ?_ ?_; exact (by refine rs_set 2 ?_ ?_ ?_ ?_ ?_ ?_; exact sc_tightened.nd; exact rfl; exact (by first | exact .inl rfl | exact .inr rfl); exact (re_comp (own := [(("i" : Str), 4)]) rfl sc_tightened.nd (ri_rg1 rfl T.z_range (ra_c (re_v 1) ra_nil)) (blk_of (by kernel_rfl)) (fun _ _ _ _ _ => (rg_n 4 sc_tightened.nd rfl (by first | exact .inl rfl | exact .inr rfl))) (fun _ _ _ _ _ => rts_nil) (fun _ _ _ _ _ => (re_comp (own := [(("j" : Str), 5)]) rfl sc_tightened.nd (ri_rg1 rfl T.z_range (ra_c (re_v 1) ra_nil)) (blk_of (by kernel_rfl)) (fun _ _ _ _ _ => (rg_n 5 sc_tightened.nd rfl (by first | exact .inl rfl | exact .inr rfl))) (fun _ _ _ _ _ => rts_nil) (fun _ _ _ _ _ => (re_if (rt_cmp (od_ne (u64 hr)) (re_v 4) (re_v 5) rfl) (re_ix (u1 hr) (re_ix (u1 hr) (re_v 0) (re_v 4) (fun _ _ => rfl)) (re_v 5) (fun _ _ => rfl)) (re_b (cd_min rfl) rfl T.z_min (by decide +kernel) (ra_c re_int (ra_c (re_ix (u1 hr) (re_ix (u1 hr) (re_v 0) (re_v 4) (fun _ _ => rfl)) (re_v 5) (fun _ _ => rfl)) ra_nil)))))))); exact rfl; exact (by first | exact .inl rfl | exact .inr rfl)); exact (by refine rss_cons ?_ ?_; exact (rs_for (passes_of rfl) rfl (ri_rg1 rfl T.z_range (ra_c (re_v 1) ra_nil)) (rg_n 3 sc_tightened.nd rfl (by first | exact .inl rfl | exact .inr rfl)) (rss_one (by refine rs_set 2 ?_ ?_ ?_ ?_ ?_ ?_; exact sc_tightened.nd; exact rfl; exact (by first | exact .inl rfl | exact .inr rfl); exact (re_comp (own := [(("i" : Str), 4)]) rfl sc_tightened.nd (ri_rg1 rfl T.z_range (ra_c (re_v 1) ra_nil)) (blk_of (by kernel_rfl)) (fun _ _ _ _ _ => (rg_n 4 sc_tightened.nd rfl (by first | exact .inl rfl | exact .inr rfl))) (fun _ _ _ _ _ => rts_nil) (fun _ _ _ _ _ => (re_comp (own := [(("j" : Str), 5)]) rfl sc_tightened.nd (ri_rg1 rfl T.z_range (ra_c (re_v 1) ra_nil)) (blk_of (by kernel_rfl)) (fun _ _ _ _ _ => (rg_n 5 sc_tightened.nd rfl (by first | exact .inl rfl | exact .inr rfl))) (fun _ _ _ _ _ => rts_nil) (fun _ _ _ _ _ => (re_b (cd_min rfl) rfl T.z_min (by decide +kernel) (ra_c (re_ix (u1 hr) (re_ix (u1 hr) (re_v 2) (re_v 4) (fun _ _ => rfl)) (re_v 5) (fun _ _ => rfl)) (ra_c (re_op od_add (re_ix (u1 hr) (re_ix (u1 hr) (re_v 2) (re_v 4) (fun _ _ => rfl)) (re_v 3) (fun _ _ => rfl)) (re_ix (u1 hr) (re_ix (u1 hr) (re_v 2) (re_v 3) (fun _ _ => rfl)) (re_v 5) (fun _ _ => rfl))) ra_nil))))))); exact rfl; exact (by first | exact .inl rfl | exact .inr rfl)))); exact (by refine rss_cons ?_ ?_; exact (rs_if (rt_tru (re_b (cd_any rfl) rfl T.z_any (by decide +kernel) (ra_c (re_comp (own := [(("i" : Str), 4)]) rfl sc_tightened.nd (ri_rg1 rfl T.z_range (ra_c (re_v 1) ra_nil)) (blk_of (by kernel_rfl)) (fun _ _ _ _ _ => (rg_n 4 sc_tightened.nd rfl (by first | exact .inl rfl | exact .inr rfl))) (fun _ _ _ _ _ => rts_nil) (fun _ _ _ _ _ => (re_cmp od_lt (re_ix (u1 hr) (re_ix (u1 hr) (re_v 2) (re_v 4) (fun _ _ => rfl)) (re_v 4) (fun _ _ => rfl)) re_int rfl))) ra_nil))) (rss_one (rs_ret re_non)) rss_nil); exact (rss_one (rs_ret (re_ty cd_tup rfl T.z_tuple (by decide +kernel) (ra_c (re_comp (own := [(("row" : Str), 6)]) rfl sc_tightened.nd (ri_seq (re_v 2)) (blk_of (by kernel_rfl)) (fun _ _ _ _ _ => (rg_n 6 sc_tightened.nd rfl (by first | exact .inl rfl | exact .inr rfl))) (fun _ _ _ _ _ => rts_nil) (fun _ _ _ _ _ => (re_ty cd_tup rfl T.z_tuple (by decide +kernel) (ra_c (re_v 6) ra_nil)))) ra_nil))))))))
theorem b_Bounds_init (T : Txt K mg cm) (f : Addr) (cdv : Value) (A : Around) (outer : List Env) (s : Shared) (H : Hp) (E : XK) (hr : Room 6 (A.deeper (envOfC "Bounds.__init__" (defScope s_Bounds_init) s.heap.objs.size f cdv))) : RSs cm (cxOf (L2.CX P w) P w K mg base ["self", "rows", "tight"] "Bounds.__init__" (defScope s_Bounds_init) f cdv A outer s H E) (defBody s_Bounds_init) ((sSeq (sIf (tNot' (tTru (mCall m_are_rows (aCons (mV 1) aNil)))) (sRs1 ("InvalidBounds" : Str)) sNil)
    (sSeq (sSet 2 (mCall m_tightened (aCons (mV 1) aNil)))
    (sSeq (sIf (tB' (m2 dIsN (mV 2) (mC .non))) (sRs1 ("InvalidBounds" : Str)) sNil)
    (sFput ("own_rows" : Str) (mV 2) (mV 0)))))) :=
    (by refine rss_cons ?_ ?_; exact (rs_if (rt_not (rt_tru (re_call (d_are_rows T) (hr.mono (by omega)) rfl (ra_c (re_v 1) ra_nil)))) (rss_one (rs_raise1o PySem.F.excBase_ValueError T.rs_InvalidBounds rfl rfl)) rss_nil); exact (by refine rss_cons ?_ ?_; exact (by refine rs_set 2 ?_ ?_ ?_ ?_ ?_ ?_; exact sc_Bounds_init.nd; exact rfl; exact (by first | exact .inl rfl | exact .inr rfl); exact (re_call (d_tightened T) (hr.mono (by omega)) rfl (ra_c (re_v 1) ra_nil)); exact rfl; exact (by first | exact .inl rfl | exact .inr rfl)); exact (by refine rss_cons ?_ ?_; exact (rs_if (rt_cmp od_isN (re_v 2) re_non rfl) (rss_one (rs_raise1o PySem.F.excBase_ValueError T.rs_InvalidBounds rfl rfl)) rss_nil); exact (rss_one (rs_fput T.na_own_rows (re_v 2) (re_v 0))))))
theorem d_Bounds_init_G1 (T : Txt K mg cm) : MakeM P w K mg base cm 7 "Bounds" m_Bounds_init 1 [] G1 :=
  MakeM.of (N := ["self", "rows", "tight"]) (ps := ["self", "rows"]) (k := 6) T.k_Bounds_G1 sc_Bounds_init (b_Bounds_init T)
theorem d_met_in (T : Txt K mg cm) : DefM P w K mg base cm 5 "met_in" m_met_in :=
  DefM.of (N := ["rows", "others", "row", "more", "one", "other"]) (ps := ["rows", "others"]) (k := 4) T.f_met_in sc_met_in fun f cdv A outer s H E hr =>
    (rss_one (rs_ret (re_call (d_tightened T) (hr.mono (by omega)) rfl (ra_c (re_comp (own := [(("row" : Str), 2), (("more" : Str), 3)]) rfl sc_met_in.nd (ri_zipT rfl T.z_zip (ra_c (re_v 0) (ra_c (re_v 1) ra_nil))) (blk_of (by kernel_rfl)) (fun _ _ _ _ _ => (rg_t rfl (rgs_cons (rg_n 2 sc_met_in.nd rfl (by first | exact .inl rfl | exact .inr rfl)) (rgs_cons (rg_n 3 sc_met_in.nd rfl (by first | exact .inl rfl | exact .inr rfl)) rgs_nil)))) (fun _ _ _ _ _ => rts_nil) (fun _ _ _ _ _ => (re_comp (own := [(("one" : Str), 4), (("other" : Str), 5)]) rfl sc_met_in.nd (ri_zipT rfl T.z_zip (ra_c (re_v 2) (ra_c (re_v 3) ra_nil))) (blk_of (by kernel_rfl)) (fun _ _ _ _ _ => (rg_t rfl (rgs_cons (rg_n 4 sc_met_in.nd rfl (by first | exact .inl rfl | exact .inr rfl)) (rgs_cons (rg_n 5 sc_met_in.nd rfl (by first | exact .inl rfl | exact .inr rfl)) rgs_nil)))) (fun _ _ _ _ _ => rts_nil) (fun _ _ _ _ _ => (re_b (cd_min rfl) rfl T.z_min (by decide +kernel) (ra_c (re_v 4) (ra_c (re_v 5) ra_nil))))))) ra_nil))))
theorem d_Bounds_and (T : Txt K mg cm) : MethM P w K mg base cm 9 "Bounds" "__and__" m_Bounds_and :=
  MethM.of (N := ["self", "other", "rows"]) (ps := ["self", "other"]) (k := 8) T.f_Bounds_and sc_Bounds_and fun f cdv A outer s H E hr =>
    (by refine rss_cons ?_ ?_; exact (rs_if (rt_w (rw_or (rt_not (rt_tru (re_isO T.io_Bounds rfl T.z_isinstance rfl (re_v 1)))) (rw_or1 (rt_cmp (od_ne (u64 hr)) (re_b cd_len rfl T.z_len (by decide +kernel) (ra_c (re_fld T.na_own_rows (re_v 1)) ra_nil)) (re_b cd_len rfl T.z_len (by decide +kernel) (ra_c (re_fld T.na_own_rows (re_v 0)) ra_nil)) rfl)))) (rss_one (rs_raise1o PySem.F.excBase_ValueError T.rs_InvalidOperation rfl rfl)) rss_nil); exact (by refine rss_cons ?_ ?_; exact (by refine rs_set 2 ?_ ?_ ?_ ?_ ?_ ?_; exact sc_Bounds_and.nd; exact rfl; exact (by first | exact .inl rfl | exact .inr rfl); exact (re_call (d_met_in T) (hr.mono (by omega)) rfl (ra_c (re_fld T.na_own_rows (re_v 0)) (ra_c (re_fld T.na_own_rows (re_v 1)) ra_nil))); exact rfl; exact (by first | exact .inl rfl | exact .inr rfl)); exact (rss_one (rs_ret (re_if (rt_cmp od_isN (re_v 2) re_non rfl) re_non (re_make (d_Bounds_init_G1 T) (hr.mono (by omega)) rfl (ra_c (re_v 2) ra_nil) rk_nil))))))
theorem d_holds_in (T : Txt K mg cm) : DefM P w K mg base cm 5 "holds_in" m_holds_in :=
  DefM.of (N := ["rows", "value", "point", "one", "row", "other", "most", "reading"]) (ps := ["rows", "value"]) (k := 4) T.f_holds_in sc_holds_in fun f cdv A outer s H E hr =>
    (by refine rss_cons ?_ ?_; exact (rs_if (rt_w (rw_or (rt_not (rt_tru (re_is .tup T.own rfl T.z_isinstance rfl T.z_tuple (by decide +kernel) (re_v 1)))) (rw_or1 (rt_cmp (od_ne (u64 hr)) (re_b cd_len rfl T.z_len (by decide +kernel) (ra_c (re_v 1) ra_nil)) (re_op od_sub (re_b cd_len rfl T.z_len (by decide +kernel) (ra_c (re_v 0) ra_nil)) re_int) rfl)))) (rss_one (rs_ret re_bl)) rss_nil); exact (by refine rss_cons ?_ ?_; exact (rs_if (rt_not (rt_tru (re_b (cd_all rfl) rfl T.z_all (by decide +kernel) (ra_c (re_comp (own := [(("reading" : Str), 7)]) rfl sc_holds_in.nd (ri_seq (re_v 1)) (blk_of (by kernel_rfl)) (fun _ _ _ _ _ => (rg_n 7 sc_holds_in.nd rfl (by first | exact .inl rfl | exact .inr rfl))) (fun _ _ _ _ _ => rts_nil) (fun _ _ _ _ _ => (re_call (d_is_integer T) (hr.mono (by omega)) rfl (ra_c (re_v 7) ra_nil)))) ra_nil)))) (rss_one (rs_ret re_bl)) rss_nil); exact (by refine rss_cons ?_ ?_; exact (by refine rs_set 2 ?_ ?_ ?_ ?_ ?_ ?_; exact sc_holds_in.nd; exact rfl; exact (by first | exact .inl rfl | exact .inr rfl); exact (re_op od_add (re_tup (ra_c re_int ra_nil)) (re_v 1)); exact rfl; exact (by first | exact .inl rfl | exact .inr rfl)); exact (by refine rss_cons ?_ ?_; exact (rs_for (passes_of rfl) rfl (ri_zipT rfl T.z_zip (ra_c (re_v 2) (ra_c (re_v 0) ra_nil))) (rg_t rfl (rgs_cons (rg_n 3 sc_holds_in.nd rfl (by first | exact .inl rfl | exact .inr rfl)) (rgs_cons (rg_n 4 sc_holds_in.nd rfl (by first | exact .inl rfl | exact .inr rfl)) rgs_nil))) (rss_one (rs_for (passes_of rfl) rfl (ri_zipT rfl T.z_zip (ra_c (re_v 2) (ra_c (re_v 4) ra_nil))) (rg_t rfl (rgs_cons (rg_n 5 sc_holds_in.nd rfl (by first | exact .inl rfl | exact .inr rfl)) (rgs_cons (rg_n 6 sc_holds_in.nd rfl (by first | exact .inl rfl | exact .inr rfl)) rgs_nil))) (rss_one (rs_if (rt_cmp od_gt (re_op od_sub (re_v 3) (re_v 5)) (re_v 6) rfl) (rss_one (rs_ret re_bl)) rss_nil))))); exact (rss_one (rs_ret re_bl))))))
theorem d_Bounds_contains (T : Txt K mg cm) : MethM P w K mg base cm 7 "Bounds" "__contains__" m_Bounds_contains :=
  MethM.of (N := ["self", "value"]) (ps := ["self", "value"]) (k := 6) T.f_Bounds_contains sc_Bounds_contains fun f cdv A outer s H E hr =>
    (rss_one (rs_ret (re_call (d_holds_in T) (hr.mono (by omega)) rfl (ra_c (re_fld T.na_own_rows (re_v 0)) (ra_c (re_v 1) ra_nil)))))
theorem d_is_time (T : Txt K mg cm) : DefM P w K mg base cm 5 "is_time" m_is_time :=
  DefM.of (N := ["value"]) (ps := ["value"]) (k := 4) T.f_is_time sc_is_time fun f cdv A outer s H E hr =>
    (rss_one (rs_ret (re_and (re_call (d_is_integer T) (hr.mono (by omega)) rfl (ra_c (re_v 0) ra_nil)) (re_one (re_cmp od_ge (re_v 0) re_int rfl)))))
theorem d_later_in (T : Txt K mg cm) : DefM P w K mg base cm 3 "later_in" m_later_in :=
  DefM.of (N := ["rows", "time", "found", "row", "j", "entry"]) (ps := ["rows", "time"]) (k := 2) T.f_later_in sc_later_in fun f cdv A outer s H E hr =>
    (by refine rss_cons ?_ ?_; exact (by refine rs_set 2 ?_ ?_ ?_ ?_ ?_ ?_; exact sc_later_in.nd; exact rfl; exact (by first | exact .inl rfl | exact .inr rfl); exact (re_lst (ra_c (re_ty cd_tup rfl T.z_tuple (by decide +kernel) (ra_c (re_comp (own := [(("j" : Str), 4), (("entry" : Str), 5)]) rfl sc_later_in.nd (ri_enumT rfl T.z_enumerate (ra_c (re_ix (u1 hr) (re_v 0) re_int (fun _ _ => rfl)) ra_nil)) (blk_of (by kernel_rfl)) (fun _ _ _ _ _ => (rg_t rfl (rgs_cons (rg_n 4 sc_later_in.nd rfl (by first | exact .inl rfl | exact .inr rfl)) (rgs_cons (rg_n 5 sc_later_in.nd rfl (by first | exact .inl rfl | exact .inr rfl)) rgs_nil)))) (fun _ _ _ _ _ => rts_nil) (fun _ _ _ _ _ => (re_if (rt_cmp od_gt (re_v 4) re_int rfl) (re_op od_sub (re_v 5) (re_v 1)) re_int))) ra_nil)) ra_nil)); exact rfl; exact (by first | exact .inl rfl | exact .inr rfl)); exact (by refine rss_cons ?_ ?_; exact (rs_for (passes_of rfl) rfl (ri_seq (re_sl sd_sl (re_v 0) (ro_some re_int) ro_none)) (rg_n 3 sc_later_in.nd rfl (by first | exact .inl rfl | exact .inr rfl)) (rss_one (by refine rs_set 2 ?_ ?_ ?_ ?_ ?_ ?_; exact sc_later_in.nd; exact rfl; exact (by first | exact .inl rfl | exact .inr rfl); exact (re_op od_add (re_v 2) (re_lst (ra_c (re_op od_add (re_tup (ra_c (re_op od_add (re_ix (u1 hr) (re_v 3) re_int (fun _ _ => rfl)) (re_v 1)) ra_nil)) (re_sl sd_sl (re_v 3) (ro_some re_int) ro_none)) ra_nil))); exact rfl; exact (by first | exact .inl rfl | exact .inr rfl)))); exact (rss_one (rs_ret (re_ty cd_tup rfl T.z_tuple (by decide +kernel) (ra_c (re_v 2) ra_nil))))))
theorem d_Bounds_rshift (T : Txt K mg cm) : MethM P w K mg base cm 9 "Bounds" "__rshift__" m_Bounds_rshift :=
  MethM.of (N := ["self", "time", "rows"]) (ps := ["self", "time"]) (k := 8) T.f_Bounds_rshift sc_Bounds_rshift fun f cdv A outer s H E hr =>
    (by refine rss_cons ?_ ?_; exact (rs_if (rt_not (rt_tru (re_call (d_is_time T) (hr.mono (by omega)) rfl (ra_c (re_v 1) ra_nil)))) (rss_one (rs_raiseFo (XB.of PySem.F.excBase_RuntimeError) (T.mk_InvalidNumber P w base) (hr.mono (by omega)) rfl rfl (re_v 1))) rss_nil); exact (by refine rss_cons ?_ ?_; exact (by refine rs_set 2 ?_ ?_ ?_ ?_ ?_ ?_; exact sc_Bounds_rshift.nd; exact rfl; exact (by first | exact .inl rfl | exact .inr rfl); exact (re_call (d_later_in T) (hr.mono (by omega)) rfl (ra_c (re_fld T.na_own_rows (re_v 0)) (ra_c (re_v 1) ra_nil))); exact rfl; exact (by first | exact .inl rfl | exact .inr rfl)); exact (by refine rss_cons ?_ ?_; exact (rs_if (rt_not (rt_tru (re_call (d_are_rows T) (hr.mono (by omega)) rfl (ra_c (re_v 2) ra_nil)))) (rss_one (rs_raiseFo (XB.of PySem.F.excBase_RuntimeError) (T.mk_InvalidNumber P w base) (hr.mono (by omega)) rfl rfl (re_v 1))) rss_nil); exact (rss_one (rs_ret (re_make (d_Bounds_init_G1 T) (hr.mono (by omega)) rfl (ra_c (re_v 2) ra_nil) rk_nil))))))
theorem d_least_in (T : Txt K mg cm) : DefM P w K mg base cm 3 "least_in" m_least_in :=
  DefM.of (N := ["rows", "entry"]) (ps := ["rows"]) (k := 2) T.f_least_in sc_least_in fun f cdv A outer s H E hr =>
    (rss_one (rs_ret (re_ty cd_tup rfl T.z_tuple (by decide +kernel) (ra_c (re_comp (own := [(("entry" : Str), 1)]) rfl sc_least_in.nd (ri_seq (re_sl sd_sl (re_ix (u1 hr) (re_v 0) re_int (fun _ _ => rfl)) (ro_some re_int) ro_none)) (blk_of (by kernel_rfl)) (fun _ _ _ _ _ => (rg_n 1 sc_least_in.nd rfl (by first | exact .inl rfl | exact .inr rfl))) (fun _ _ _ _ _ => rts_nil) (fun _ _ _ _ _ => (re_un ud_neg (re_v 1)))) ra_nil))))
theorem d_Bounds_least (T : Txt K mg cm) : MethM P w K mg base cm 5 "Bounds" "least" m_Bounds_least :=
  MethM.of (N := ["self"]) (ps := ["self"]) (k := 4) T.f_Bounds_least sc_Bounds_least fun f cdv A outer s H E hr =>
    (rss_one (rs_ret (re_call (d_least_in T) (hr.mono (by omega)) rfl (ra_c (re_fld T.na_own_rows (re_v 0)) ra_nil))))
theorem d_are_places_in (T : Txt K mg cm) : DefM P w K mg base cm 5 "are_places_in" m_are_places_in :=
  DefM.of (N := ["value", "many", "clocks", "place"]) (ps := ["value", "many"]) (k := 4) T.f_are_places_in sc_are_places_in fun f cdv A outer s H E hr =>
    (by refine rss_cons ?_ ?_; exact (rs_if (rt_w (rw_or (rt_not (rt_tru (re_is .tup T.own rfl T.z_isinstance rfl T.z_tuple (by decide +kernel) (re_v 0)))) (rw_or1 (rt_cmp od_gt (re_b cd_len rfl T.z_len (by decide +kernel) (ra_c (re_v 0) ra_nil)) (re_gintE rfl T.g_MOST_CLOCKS) rfl)))) (rss_one (rs_ret re_bl)) rss_nil); exact (by refine rss_cons ?_ ?_; exact (rs_if (rt_not (rt_tru (re_b (cd_all rfl) rfl T.z_all (by decide +kernel) (ra_c (re_comp (own := [(("place" : Str), 3)]) rfl sc_are_places_in.nd (ri_seq (re_v 0)) (blk_of (by kernel_rfl)) (fun _ _ _ _ _ => (rg_n 3 sc_are_places_in.nd rfl (by first | exact .inl rfl | exact .inr rfl))) (fun _ _ _ _ _ => rts_nil) (fun _ _ _ _ _ => (re_and (re_call (d_is_integer T) (hr.mono (by omega)) rfl (ra_c (re_v 3) ra_nil)) (re_one (re_chain od_le od_le re_int (re_v 3) (re_v 1)))))) ra_nil)))) (rss_one (rs_ret re_bl)) rss_nil); exact (by refine rss_cons ?_ ?_; exact (rs_comp (own := [(("place" : Str), 3)]) 2 rfl sc_are_places_in.nd rfl rfl rfl (ri_seq (re_v 0)) (blk_of (by kernel_rfl)) (fun _ _ _ _ _ => (rg_n 3 sc_are_places_in.nd rfl (by first | exact .inl rfl | exact .inr rfl))) (fun _ _ _ _ _ => (rts_one (rt_cmp od_gt (re_v 3) re_int rfl))) (fun _ _ _ _ _ => (re_v 3))); exact (rss_one (rs_ret (re_cmp (od_eq (u64 hr)) (re_lenSet rfl rfl T.z_len rfl T.z_set (re_v 2)) (re_b cd_len rfl T.z_len (by decide +kernel) (ra_c (re_v 2) ra_nil)) rfl))))))
theorem d_moved_in (T : Txt K mg cm) : DefM P w K mg base cm 3 "moved_in" m_moved_in :=
  DefM.of (N := ["rows", "places", "order", "i", "j"]) (ps := ["rows", "places"]) (k := 2) T.f_moved_in sc_moved_in fun f cdv A outer s H E hr =>
    (by refine rss_cons ?_ ?_; exact (by refine rs_set 2 ?_ ?_ ?_ ?_ ?_ ?_; exact sc_moved_in.nd; exact rfl; exact (by first | exact .inl rfl | exact .inr rfl); exact (re_op od_add (re_tup (ra_c re_int ra_nil)) (re_v 1)); exact rfl; exact (by first | exact .inl rfl | exact .inr rfl)); exact (rss_one (rs_ret (re_ty cd_tup rfl T.z_tuple (by decide +kernel) (ra_c (re_comp (own := [(("i" : Str), 3)]) rfl sc_moved_in.nd (ri_seq (re_v 2)) (blk_of (by kernel_rfl)) (fun _ _ _ _ _ => (rg_n 3 sc_moved_in.nd rfl (by first | exact .inl rfl | exact .inr rfl))) (fun _ _ _ _ _ => rts_nil) (fun _ _ _ _ _ => (re_ty cd_tup rfl T.z_tuple (by decide +kernel) (ra_c (re_comp (own := [(("j" : Str), 4)]) rfl sc_moved_in.nd (ri_seq (re_v 2)) (blk_of (by kernel_rfl)) (fun _ _ _ _ _ => (rg_n 4 sc_moved_in.nd rfl (by first | exact .inl rfl | exact .inr rfl))) (fun _ _ _ _ _ => rts_nil) (fun _ _ _ _ _ => (re_ix (u1 hr) (re_ix (u1 hr) (re_v 0) (re_v 3) (fun _ _ => rfl)) (re_v 4) (fun _ _ => rfl)))) ra_nil)))) ra_nil)))))
theorem d_Bounds_moved (T : Txt K mg cm) : MethM P w K mg base cm 9 "Bounds" "moved" m_Bounds_moved :=
  MethM.of (N := ["self", "places"]) (ps := ["self", "places"]) (k := 8) T.f_Bounds_moved sc_Bounds_moved fun f cdv A outer s H E hr =>
    (by refine rss_cons ?_ ?_; exact (rs_if (rt_not (rt_tru (re_call (d_are_places_in T) (hr.mono (by omega)) rfl (ra_c (re_v 1) (ra_c (re_op od_sub (re_b cd_len rfl T.z_len (by decide +kernel) (ra_c (re_fld T.na_own_rows (re_v 0)) ra_nil)) re_int) ra_nil))))) (rss_one (rs_raise1o PySem.F.excBase_ValueError T.rs_InvalidBounds rfl rfl)) rss_nil); exact (rss_one (rs_ret (re_make (d_Bounds_init_G1 T) (hr.mono (by omega)) rfl (ra_c (re_call (d_moved_in T) (hr.mono (by omega)) rfl (ra_c (re_fld T.na_own_rows (re_v 0)) (ra_c (re_v 1) ra_nil))) ra_nil) rk_nil))))
theorem d_risen_in (T : Txt K mg cm) : DefM P w K mg base cm 5 "risen_in" m_risen_in :=
  DefM.of (N := ["rows", "tops", "table", "i", "top", "row"]) (ps := ["rows", "tops"]) (k := 4) T.f_risen_in sc_risen_in fun f cdv A outer s H E hr =>
    (by refine rss_cons ?_ ?_; exact (rs_comp (own := [(("row" : Str), 5)]) 2 rfl sc_risen_in.nd rfl rfl rfl (ri_seq (re_v 0)) (blk_of (by kernel_rfl)) (fun _ _ _ _ _ => (rg_n 5 sc_risen_in.nd rfl (by first | exact .inl rfl | exact .inr rfl))) (fun _ _ _ _ _ => rts_nil) (fun _ _ _ _ _ => (re_ty cd_lstN rfl T.z_list (by decide +kernel) (ra_c (re_v 5) ra_nil)))); exact (by refine rss_cons ?_ ?_; exact (rs_for (passes_of rfl) rfl (ri_enumT rfl T.z_enumerate (ra_c (re_v 1) ra_nil)) (rg_t rfl (rgs_cons (rg_n 3 sc_risen_in.nd rfl (by first | exact .inl rfl | exact .inr rfl)) (rgs_cons (rg_n 4 sc_risen_in.nd rfl (by first | exact .inl rfl | exact .inr rfl)) rgs_nil))) (rss_one (rs_put (u1 hr) (re_v 4) (re_ix (u1 hr) (re_v 2) (re_op od_add (re_v 3) re_int) (fun _ _ => rfl)) re_int))); exact (rss_one (rs_ret (re_call (d_tightened T) (hr.mono (by omega)) rfl (ra_c (re_v 2) ra_nil))))))
theorem d_Bounds_risen (T : Txt K mg cm) : MethM P w K mg base cm 9 "Bounds" "risen" m_Bounds_risen :=
  MethM.of (N := ["self", "tops", "rows", "top"]) (ps := ["self", "tops"]) (k := 8) T.f_Bounds_risen sc_Bounds_risen fun f cdv A outer s H E hr =>
    (by refine rss_cons ?_ ?_; exact (rs_if (rt_w (rw_or (rt_not (rt_tru (re_is .tup T.own rfl T.z_isinstance rfl T.z_tuple (by decide +kernel) (re_v 1)))) (rw_or1 (rt_cmp (od_ne (u64 hr)) (re_b cd_len rfl T.z_len (by decide +kernel) (ra_c (re_v 1) ra_nil)) (re_op od_sub (re_b cd_len rfl T.z_len (by decide +kernel) (ra_c (re_fld T.na_own_rows (re_v 0)) ra_nil)) re_int) rfl)))) (rss_one (rs_raise1o PySem.F.excBase_ValueError T.rs_InvalidBounds rfl rfl)) rss_nil); exact (by refine rss_cons ?_ ?_; exact (rs_if (rt_not (rt_tru (re_b (cd_all rfl) rfl T.z_all (by decide +kernel) (ra_c (re_comp (own := [(("top" : Str), 3)]) rfl sc_Bounds_risen.nd (ri_seq (re_v 1)) (blk_of (by kernel_rfl)) (fun _ _ _ _ _ => (rg_n 3 sc_Bounds_risen.nd rfl (by first | exact .inl rfl | exact .inr rfl))) (fun _ _ _ _ _ => rts_nil) (fun _ _ _ _ _ => (re_call (d_is_integer T) (hr.mono (by omega)) rfl (ra_c (re_v 3) ra_nil)))) ra_nil)))) (rss_one (rs_raise1o PySem.F.excBase_ValueError T.rs_InvalidBounds rfl rfl)) rss_nil); exact (by refine rss_cons ?_ ?_; exact (by refine rs_set 2 ?_ ?_ ?_ ?_ ?_ ?_; exact sc_Bounds_risen.nd; exact rfl; exact (by first | exact .inl rfl | exact .inr rfl); exact (re_call (d_risen_in T) (hr.mono (by omega)) rfl (ra_c (re_fld T.na_own_rows (re_v 0)) (ra_c (re_v 1) ra_nil))); exact rfl; exact (by first | exact .inl rfl | exact .inr rfl)); exact (rss_one (rs_ret (re_if (rt_cmp od_isN (re_v 2) re_non rfl) re_non (re_make (d_Bounds_init_G1 T) (hr.mono (by omega)) rfl (ra_c (re_v 2) ra_nil) rk_nil)))))))
theorem d_Bounds_zero (T : Txt K mg cm) : ClsM P w K mg base cm 9 "Bounds" "zero" m_Bounds_zero :=
  ClsM.of (N := ["cls", "many"]) (ps := ["cls", "many"]) (k := 8) T.c_Bounds_zero sc_Bounds_zero fun f cdv A outer s H E hr =>
    (by refine rss_cons ?_ ?_; exact (rs_if (rt_w (rw_or (rt_not (rt_tru (re_call (d_is_integer T) (hr.mono (by omega)) rfl (ra_c (re_v 1) ra_nil)))) (rw_or1 (rt_not (rt_chain od_le od_le re_int (re_v 1) (re_gintE rfl T.g_MOST_CLOCKS)))))) (rss_one (rs_raiseFo (XB.of PySem.F.excBase_RuntimeError) (T.mk_InvalidNumber P w base) (hr.mono (by omega)) rfl rfl (re_v 1))) rss_nil); exact (rss_one (rs_ret (re_makeV (d_Bounds_init_G1 T) (hr.mono (by omega)) (re_v 0) (ra_c (re_op od_mulT (re_tup (ra_c (re_op od_mulT (re_tup (ra_c re_int ra_nil)) (re_op od_add (re_v 1) re_int)) ra_nil)) (re_op od_add (re_v 1) re_int)) ra_nil)))))
theorem d_cut_in (T : Txt K mg cm) : DefM P w K mg base cm 5 "cut_in" m_cut_in :=
  DefM.of (N := ["rows", "i", "j", "most", "table", "row"]) (ps := ["rows", "i", "j", "most"]) (k := 4) T.f_cut_in sc_cut_in fun f cdv A outer s H E hr =>
    (by refine rss_cons ?_ ?_; exact (rs_comp (own := [(("row" : Str), 5)]) 4 rfl sc_cut_in.nd rfl rfl rfl (ri_seq (re_v 0)) (blk_of (by kernel_rfl)) (fun _ _ _ _ _ => (rg_n 5 sc_cut_in.nd rfl (by first | exact .inl rfl | exact .inr rfl))) (fun _ _ _ _ _ => rts_nil) (fun _ _ _ _ _ => (re_ty cd_lstN rfl T.z_list (by decide +kernel) (ra_c (re_v 5) ra_nil)))); exact (by refine rss_cons ?_ ?_; exact (rs_put (u1 hr) (re_b (cd_min rfl) rfl T.z_min (by decide +kernel) (ra_c (re_ix (u1 hr) (re_ix (u1 hr) (re_v 4) (re_v 1) (fun _ _ => rfl)) (re_v 2) (fun _ _ => rfl)) (ra_c (re_v 3) ra_nil))) (re_ix (u1 hr) (re_v 4) (re_v 1) (fun _ _ => rfl)) (re_v 2)); exact (rss_one (rs_ret (re_call (d_tightened T) (hr.mono (by omega)) rfl (ra_c (re_v 4) ra_nil))))))
theorem d_Bounds_cut (T : Txt K mg cm) : MethM P w K mg base cm 9 "Bounds" "cut" m_Bounds_cut :=
  MethM.of (N := ["self", "i", "j", "most", "place", "rows"]) (ps := ["self", "i", "j", "most"]) (k := 8) T.f_Bounds_cut sc_Bounds_cut fun f cdv A outer s H E hr =>
    (by refine rss_cons ?_ ?_; exact (rs_for (passes_of rfl) rfl (ri_seq (re_tup (ra_c (re_v 1) (ra_c (re_v 2) ra_nil)))) (rg_n 4 sc_Bounds_cut.nd rfl (by first | exact .inl rfl | exact .inr rfl)) (rss_one (rs_if (rt_w (rw_or (rt_not (rt_tru (re_call (d_is_integer T) (hr.mono (by omega)) rfl (ra_c (re_v 4) ra_nil)))) (rw_or1 (rt_not (rt_chain od_le od_lt re_int (re_v 4) (re_b cd_len rfl T.z_len (by decide +kernel) (ra_c (re_fld T.na_own_rows (re_v 0)) ra_nil))))))) (rss_one (rs_raiseFo (XB.of PySem.F.excBase_IndexError) (T.mk_UnknownIndex P w base) (hr.mono (by omega)) rfl rfl (re_v 4))) rss_nil))); exact (by refine rss_cons ?_ ?_; exact (rs_if (rt_not (rt_tru (re_call (d_is_integer T) (hr.mono (by omega)) rfl (ra_c (re_v 3) ra_nil)))) (rss_one (rs_raiseFo (XB.of PySem.F.excBase_RuntimeError) (T.mk_InvalidNumber P w base) (hr.mono (by omega)) rfl rfl (re_v 3))) rss_nil); exact (by refine rss_cons ?_ ?_; exact (by refine rs_set 5 ?_ ?_ ?_ ?_ ?_ ?_; exact sc_Bounds_cut.nd; exact rfl; exact (by first | exact .inl rfl | exact .inr rfl); exact (re_call (d_cut_in T) (hr.mono (by omega)) rfl (ra_c (re_fld T.na_own_rows (re_v 0)) (ra_c (re_v 1) (ra_c (re_v 2) (ra_c (re_v 3) ra_nil))))); exact rfl; exact (by first | exact .inl rfl | exact .inr rfl)); exact (rss_one (rs_ret (re_if (rt_cmp od_isN (re_v 5) re_non rfl) re_non (re_make (d_Bounds_init_G1 T) (hr.mono (by omega)) rfl (ra_c (re_v 5) ra_nil) rk_nil)))))))
theorem d_law_cut_to (T : Txt K mg cm) : DefM P w K mg base cm 11 "_law_cut_to" m_law_cut_to :=
  DefM.of (N := ["bounds", "tops", "gone", "at", "top"]) (ps := ["bounds", "tops", "gone"]) (k := 10) T.f_law_cut_to sc_law_cut_to fun f cdv A outer s H E hr =>
    (by refine rss_cons ?_ ?_; exact (rs_for (passes_of rfl) rfl (ri_enumT rfl T.z_enumerate (ra_c (re_v 1) ra_nil)) (rg_t rfl (rgs_cons (rg_n 3 sc_law_cut_to.nd rfl (by first | exact .inl rfl | exact .inr rfl)) (rgs_cons (rg_n 4 sc_law_cut_to.nd rfl (by first | exact .inl rfl | exact .inr rfl)) rgs_nil))) (rss_one (rs_if (rt_w (rw_and (rt_cmp od_notN (re_v 0) re_non rfl) (rw_and1 (rt_cmp (od_in (u65 hr)) (re_op od_add (re_v 3) re_int) (re_v 2) rfl)))) (rss_one (by refine rs_set 0 ?_ ?_ ?_ ?_ ?_ ?_; exact sc_law_cut_to.nd; exact rfl; exact (by first | exact .inl rfl | exact .inr rfl); exact (re_meth (d_Bounds_cut T) (hr.mono (by omega)) (re_v 0) (ra_c re_int (ra_c (re_op od_add (re_v 3) re_int) (ra_c (re_un ud_neg (re_v 4)) ra_nil)))); exact rfl; exact (by first | exact .inl rfl | exact .inr rfl))) (rss_one (rs_if (rt_cmp od_notN (re_v 0) re_non rfl) (rss_one (by refine rs_set 0 ?_ ?_ ?_ ?_ ?_ ?_; exact sc_law_cut_to.nd; exact rfl; exact (by first | exact .inl rfl | exact .inr rfl); exact (re_meth (d_Bounds_cut T) (hr.mono (by omega)) (re_v 0) (ra_c (re_op od_add (re_v 3) re_int) (ra_c re_int (ra_c (re_op od_sub (re_v 4) re_int) ra_nil)))); exact rfl; exact (by first | exact .inl rfl | exact .inr rfl))) rss_nil))))); exact (rss_one (rs_ret (re_v 0))))
theorem d_law_due_now (T : Txt K mg cm) : DefM P w K mg base cm 3 "_law_due_now" m_law_due_now :=
  DefM.of (N := ["points", "tops", "gone", "found", "point", "at", "reading"]) (ps := ["points", "tops", "gone"]) (k := 2) T.f_law_due_now sc_law_due_now fun f cdv A outer s H E hr =>
    (by refine rss_cons ?_ ?_; exact (by refine rs_set 3 ?_ ?_ ?_ ?_ ?_ ?_; exact sc_law_due_now.nd; exact rfl; exact (by first | exact .inl rfl | exact .inr rfl); exact (re_lstN ra_nil); exact rfl; exact (by first | exact .inl rfl | exact .inr rfl)); exact (by refine rss_cons ?_ ?_; exact (rs_for (passes_of rfl) rfl (ri_seq (re_v 0)) (rg_n 4 sc_law_due_now.nd rfl (by first | exact .inl rfl | exact .inr rfl)) (rss_one (rs_if (rt_tru (re_b (cd_all rfl) rfl T.z_all (by decide +kernel) (ra_c (re_comp (own := [(("at" : Str), 5), (("reading" : Str), 6)]) rfl sc_law_due_now.nd (ri_enumT rfl T.z_enumerate (ra_c (re_v 4) ra_nil)) (blk_of (by kernel_rfl)) (fun _ _ _ _ _ => (rg_t rfl (rgs_cons (rg_n 5 sc_law_due_now.nd rfl (by first | exact .inl rfl | exact .inr rfl)) (rgs_cons (rg_n 6 sc_law_due_now.nd rfl (by first | exact .inl rfl | exact .inr rfl)) rgs_nil)))) (fun _ _ _ _ _ => rts_nil) (fun _ _ _ _ _ => (re_cmp (od_eq (u64 hr)) (re_cmp (od_eq (u64 hr)) (re_v 6) (re_ix (u1 hr) (re_v 1) (re_v 5) (fun _ _ => rfl)) rfl) (re_cmp (od_in (u65 hr)) (re_op od_add (re_v 5) re_int) (re_v 2) rfl) rfl))) ra_nil))) (rss_one (rs_ex (re_m PySem.F.plainAttrs_list PySem.F.slot_list_append PySem.F.type_list_append md_app (re_v 3) (ra_c (re_v 4) ra_nil)))) rss_nil))); exact (rss_one (rs_ret (re_frz (re_v 3))))))
theorem d_law_greatest (T : Txt K mg cm) : DefM P w K mg base cm 3 "_law_greatest" m_law_greatest :=
  DefM.of (N := ["points", "fulls", "rows", "i", "point", "j", "full"]) (ps := ["points"]) (k := 2) T.f_law_greatest sc_law_greatest fun f cdv A outer s H E hr =>
    (by refine rss_cons ?_ ?_; exact (by refine rs_set 1 ?_ ?_ ?_ ?_ ?_ ?_; exact sc_law_greatest.nd; exact rfl; exact (by first | exact .inl rfl | exact .inr rfl); exact (re_comp (own := [(("point" : Str), 4)]) rfl sc_law_greatest.nd (ri_seq (re_v 0)) (blk_of (by kernel_rfl)) (fun _ _ _ _ _ => (rg_n 4 sc_law_greatest.nd rfl (by first | exact .inl rfl | exact .inr rfl))) (fun _ _ _ _ _ => rts_nil) (fun _ _ _ _ _ => (re_op od_add (re_tup (ra_c re_int ra_nil)) (re_v 4)))); exact rfl; exact (by first | exact .inl rfl | exact .inr rfl)); exact (by refine rss_cons ?_ ?_; exact (by refine rs_set 2 ?_ ?_ ?_ ?_ ?_ ?_; exact sc_law_greatest.nd; exact rfl; exact (by first | exact .inl rfl | exact .inr rfl); exact (re_lstN ra_nil); exact rfl; exact (by first | exact .inl rfl | exact .inr rfl)); exact (by refine rss_cons ?_ ?_; exact (rs_for (passes_of rfl) rfl (ri_rg1 rfl T.z_range (ra_c (re_b cd_len rfl T.z_len (by decide +kernel) (ra_c (re_ix (u1 hr) (re_v 1) re_int (fun _ _ => rfl)) ra_nil)) ra_nil)) (rg_n 3 sc_law_greatest.nd rfl (by first | exact .inl rfl | exact .inr rfl)) (rss_one (rs_ex (re_m PySem.F.plainAttrs_list PySem.F.slot_list_append PySem.F.type_list_append md_app (re_v 2) (ra_c (re_ty cd_tup rfl T.z_tuple (by decide +kernel) (ra_c (re_comp (own := [(("j" : Str), 5)]) rfl sc_law_greatest.nd (ri_rg1 rfl T.z_range (ra_c (re_b cd_len rfl T.z_len (by decide +kernel) (ra_c (re_ix (u1 hr) (re_v 1) re_int (fun _ _ => rfl)) ra_nil)) ra_nil)) (blk_of (by kernel_rfl)) (fun _ _ _ _ _ => (rg_n 5 sc_law_greatest.nd rfl (by first | exact .inl rfl | exact .inr rfl))) (fun _ _ _ _ _ => rts_nil) (fun _ _ _ _ _ => (re_b (cd_maxL rfl) rfl T.z_max (by decide +kernel) (ra_c (re_comp (own := [(("full" : Str), 6)]) rfl sc_law_greatest.nd (ri_seq (re_v 1)) (blk_of (by kernel_rfl)) (fun _ _ _ _ _ => (rg_n 6 sc_law_greatest.nd rfl (by first | exact .inl rfl | exact .inr rfl))) (fun _ _ _ _ _ => rts_nil) (fun _ _ _ _ _ => (re_op od_sub (re_ix (u1 hr) (re_v 6) (re_v 3) (fun _ _ => rfl)) (re_ix (u1 hr) (re_v 6) (re_v 5) (fun _ _ => rfl))))) ra_nil)))) ra_nil)) ra_nil))))); exact (rss_one (rs_ret (re_ty cd_tup rfl T.z_tuple (by decide +kernel) (ra_c (re_v 2) ra_nil)))))))
theorem d_law_same (T : Txt K mg cm) : ∀ n, DefM P w K mg base cm (2 + n) "_law_same" (m_law_same n)
  | 0 => (DefM.zero T.f_law_same).mono (Nat.zero_le _)
  | n + 1 => DefM.of (N := ["one", "other", "k"]) (ps := ["one", "other"]) (k := 2 + n) T.f_law_same sc_law_same fun f cdv A outer s H E hr => by
    have dn := d_law_same T n
    exact (by refine rss_cons ?_ ?_; exact (rs_if (rt_w (rw_or (rt_tru (re_is .tup T.own rfl T.z_isinstance rfl T.z_tuple (by decide +kernel) (re_v 0))) (rw_or1 (rt_tru (re_is .tup T.own rfl T.z_isinstance rfl T.z_tuple (by decide +kernel) (re_v 1)))))) (by refine rss_cons ?_ ?_; exact (rs_if (rt_w (rw_or (rt_not (rt_tru (re_is .tup T.own rfl T.z_isinstance rfl T.z_tuple (by decide +kernel) (re_v 0)))) (rw_or (rt_not (rt_tru (re_is .tup T.own rfl T.z_isinstance rfl T.z_tuple (by decide +kernel) (re_v 1)))) (rw_or1 (rt_cmp (od_ne (u64 hr)) (re_b cd_len rfl T.z_len (by decide +kernel) (ra_c (re_v 0) ra_nil)) (re_b cd_len rfl T.z_len (by decide +kernel) (ra_c (re_v 1) ra_nil)) rfl))))) (rss_one (rs_ret re_bl)) rss_nil); exact (rss_one (rs_ret (re_b (cd_all rfl) rfl T.z_all (by decide +kernel) (ra_c (re_comp (own := [(("k" : Str), 2)]) rfl sc_law_same.nd (ri_rg1 rfl T.z_range (ra_c (re_b cd_len rfl T.z_len (by decide +kernel) (ra_c (re_v 0) ra_nil)) ra_nil)) (blk_of (by kernel_rfl)) (fun _ _ _ _ _ => (rg_n 2 sc_law_same.nd rfl (by first | exact .inl rfl | exact .inr rfl))) (fun _ _ _ _ _ => rts_nil) (fun _ _ _ _ _ => (re_call dn (hr.mono (by omega)) rfl (ra_c (re_ix (u1 hr) (re_v 0) (re_v 2) (fun _ _ => rfl)) (ra_c (re_ix (u1 hr) (re_v 1) (re_v 2) (fun _ _ => rfl)) ra_nil))))) ra_nil))))) rss_nil); exact (rss_one (rs_ret (re_and (re_is .int T.own rfl T.z_isinstance rfl T.z_int (by decide +kernel) (re_v 0)) (re_and (re_not (re_is .bl T.own rfl T.z_isinstance rfl T.z_bool (by decide +kernel) (re_v 0))) (re_one (re_cmp (od_eq (u64 hr)) (re_v 0) (re_v 1) rfl)))))))
theorem d_law_is_of (T : Txt K mg cm) : DefM P w K mg base cm 8 "_law_is_of" m_law_is_of :=
  DefM.of (N := ["bounds", "points"]) (ps := ["bounds", "points"]) (k := 7) T.f_law_is_of sc_law_is_of fun f cdv A outer s H E hr =>
    (by refine rss_cons ?_ ?_; exact (rs_if (rt_cmp (od_eq (u64 hr)) (re_v 1) (re_lst ra_nil) rfl) (rss_one (rs_ret (re_cmp od_isN (re_v 0) re_non rfl))) rss_nil); exact (rss_one (rs_ret (re_and (re_isO T.io_Bounds rfl T.z_isinstance rfl (re_v 0)) (re_one (re_call (d_law_same T 4) (hr.mono (by omega)) rfl (ra_c (re_prop (T.pr_rows P w base) (hr.mono (by omega)) (re_v 0)) (ra_c (re_call (d_law_greatest T) (hr.mono (by omega)) rfl (ra_c (re_v 1) ra_nil)) ra_nil))))))))
theorem d_law_moved (T : Txt K mg cm) : DefM P w K mg base cm 3 "_law_moved" m_law_moved :=
  DefM.of (N := ["points", "places", "found", "point", "full", "place"]) (ps := ["points", "places"]) (k := 2) T.f_law_moved sc_law_moved fun f cdv A outer s H E hr =>
    (by refine rss_cons ?_ ?_; exact (by refine rs_set 2 ?_ ?_ ?_ ?_ ?_ ?_; exact sc_law_moved.nd; exact rfl; exact (by first | exact .inl rfl | exact .inr rfl); exact re_dctT; exact rfl; exact (by first | exact .inl rfl | exact .inr rfl)); exact (by refine rss_cons ?_ ?_; exact (rs_for (passes_of rfl) rfl (ri_seq (re_v 0)) (rg_n 3 sc_law_moved.nd rfl (by first | exact .inl rfl | exact .inr rfl)) (by refine rss_cons ?_ ?_; exact (by refine rs_set 4 ?_ ?_ ?_ ?_ ?_ ?_; exact sc_law_moved.nd; exact rfl; exact (by first | exact .inl rfl | exact .inr rfl); exact (re_op od_add (re_tup (ra_c re_int ra_nil)) (re_v 3)); exact rfl; exact (by first | exact .inl rfl | exact .inr rfl)); exact (rss_one (rs_putT (u1 hr) re_bl (re_v 2) (re_ty cd_tupT rfl T.z_tuple (by decide +kernel) (ra_c (re_comp (own := [(("place" : Str), 5)]) rfl sc_law_moved.nd (ri_seq (re_v 1)) (blk_of (by kernel_rfl)) (fun _ _ _ _ _ => (rg_n 5 sc_law_moved.nd rfl (by first | exact .inl rfl | exact .inr rfl))) (fun _ _ _ _ _ => rts_nil) (fun _ _ _ _ _ => (re_ix (u1 hr) (re_v 4) (re_v 5) (fun _ _ => rfl)))) ra_nil)))))); exact (rss_one (rs_ret (re_b (cd_sortT rfl (u64 hr)) rfl T.z_sorted (by decide +kernel) (ra_c (re_v 2) ra_nil))))))
theorem d_law_throw (T : Txt K mg cm) : DefM P w K mg base cm 3 "_law_throw" m_law_throw :=
  DefM.of (N := ["bag", "total", "one", "two", "three", "found"]) (ps := ["bag", "total"]) (k := 2) T.f_law_throw sc_law_throw fun f cdv A outer s H E hr =>
    (by refine rss_cons ?_ ?_; exact (rs_if (rt_cmp od_gt (re_ix (u1 hr) (re_v 0) re_int (fun _ _ => rfl)) re_int rfl) (by refine rss_cons ?_ ?_; exact (by refine rs_set 5 ?_ ?_ ?_ ?_ ?_ ?_; exact sc_law_throw.nd; exact rfl; exact (by first | exact .inl rfl | exact .inr rfl); exact (re_op od_mod (re_ty cd_int rfl T.z_int (by decide +kernel) (ra_c (re_ix (u1 hr) (re_v 0) re_int (fun _ _ => rfl)) ra_nil)) (re_v 1)); exact rfl; exact (by first | exact .inl rfl | exact .inr rfl)); exact (by refine rss_cons ?_ ?_; exact (rs_put (u1 hr) (re_op od_div (re_ix (u1 hr) (re_v 0) re_int (fun _ _ => rfl)) (re_v 1)) (re_v 0) re_int); exact (rss_one (rs_ret (re_v 5))))) rss_nil); exact (by refine rss_cons ?_ ?_; exact (rs_put (u1 hr) (re_op od_add (re_ix (u1 hr) (re_v 0) re_int (fun _ _ => rfl)) re_int) (re_v 0) re_int); exact (by refine rss_cons ?_ ?_; exact (by refine rs_set 2 ?_ ?_ ?_ ?_ ?_ ?_; exact sc_law_throw.nd; exact rfl; exact (by first | exact .inl rfl | exact .inr rfl); exact (re_op od_mod (re_ty cd_int rfl T.z_int (by decide +kernel) (ra_c (re_op od_add (re_ix (u1 hr) (re_v 0) re_int (fun _ _ => rfl)) (re_op od_mulT re_int (re_ix (u1 hr) (re_v 0) re_int (fun _ _ => rfl)))) ra_nil)) re_int); exact rfl; exact (by first | exact .inl rfl | exact .inr rfl)); exact (by refine rss_cons ?_ ?_; exact (by refine rs_set 3 ?_ ?_ ?_ ?_ ?_ ?_; exact sc_law_throw.nd; exact rfl; exact (by first | exact .inl rfl | exact .inr rfl); exact (re_op od_mod (re_ty cd_int rfl T.z_int (by decide +kernel) (ra_c (re_op od_add (re_op od_mulT (re_v 2) (re_v 2)) (re_op od_mulT re_int (re_ix (u1 hr) (re_v 0) re_int (fun _ _ => rfl)))) ra_nil)) re_int); exact rfl; exact (by first | exact .inl rfl | exact .inr rfl)); exact (by refine rss_cons ?_ ?_; exact (by refine rs_set 4 ?_ ?_ ?_ ?_ ?_ ?_; exact sc_law_throw.nd; exact rfl; exact (by first | exact .inl rfl | exact .inr rfl); exact (re_op od_mod (re_ty cd_int rfl T.z_int (by decide +kernel) (ra_c (re_op od_add (re_op od_mulT (re_v 3) (re_v 2)) re_int) ra_nil)) re_int); exact rfl; exact (by first | exact .inl rfl | exact .inr rfl)); exact (rss_one (rs_ret (re_op od_mod (re_ty cd_int rfl T.z_int (by decide +kernel) (ra_c (re_op od_div (re_v 4) re_int) ra_nil)) (re_v 1)))))))))
theorem d_law_places (T : Txt K mg cm) : DefM P w K mg base cm 5 "_law_places" m_law_places :=
  DefM.of (N := ["bag", "many", "gone", "places", "turn", "at", "clock"]) (ps := ["bag", "many", "gone"]) (k := 4) T.f_law_places sc_law_places fun f cdv A outer s H E hr =>
    (by refine rss_cons ?_ ?_; exact (rs_comp (own := [(("clock" : Str), 6)]) 3 rfl sc_law_places.nd rfl rfl rfl (ri_rg2 rfl T.z_range (ra_c re_int (ra_c (re_op od_add (re_v 1) re_int) ra_nil))) (blk_of (by kernel_rfl)) (fun _ _ _ _ _ => (rg_n 6 sc_law_places.nd rfl (by first | exact .inl rfl | exact .inr rfl))) (fun _ _ _ _ _ => (rts_one (rt_w (rw_and (rt_cmp (od_notIn (u65 hr)) (re_v 6) (re_v 2) rfl) (rw_and1 (rt_cmp od_gt (re_call (d_law_throw T) (hr.mono (by omega)) rfl (ra_c (re_v 0) (ra_c re_int ra_nil))) re_int rfl)))))) (fun _ _ _ _ _ => (re_v 6))); exact (by refine rss_cons ?_ ?_; exact (rs_if (rt_cmp (od_eq (u64 hr)) (re_call (d_law_throw T) (hr.mono (by omega)) rfl (ra_c (re_v 0) (ra_c re_int ra_nil))) re_int rfl) (rss_one (by refine rs_set 3 ?_ ?_ ?_ ?_ ?_ ?_; exact sc_law_places.nd; exact rfl; exact (by first | exact .inl rfl | exact .inr rfl); exact (re_revL (re_v 3)); exact rfl; exact (by first | exact .inl rfl | exact .inr rfl))) rss_nil); exact (by refine rss_cons ?_ ?_; exact (rs_for (passes_of rfl) rfl (ri_rg1 rfl T.z_range (ra_c (re_call (d_law_throw T) (hr.mono (by omega)) rfl (ra_c (re_v 0) (ra_c re_int ra_nil))) ra_nil)) (rg_n 4 sc_law_places.nd rfl (by first | exact .inl rfl | exact .inr rfl)) (by refine rss_cons ?_ ?_; exact (by refine rs_set 5 ?_ ?_ ?_ ?_ ?_ ?_; exact sc_law_places.nd; exact rfl; exact (by first | exact .inl rfl | exact .inr rfl); exact (re_call (d_law_throw T) (hr.mono (by omega)) rfl (ra_c (re_v 0) (ra_c (re_op od_add (re_b cd_len rfl T.z_len (by decide +kernel) (ra_c (re_v 3) ra_nil)) re_int) ra_nil))); exact rfl; exact (by first | exact .inl rfl | exact .inr rfl)); exact (rss_one (by refine rs_set 3 ?_ ?_ ?_ ?_ ?_ ?_; exact sc_law_places.nd; exact rfl; exact (by first | exact .inl rfl | exact .inr rfl); exact (re_op od_add (re_op od_add (re_sl sd_sl (re_v 3) ro_none (ro_some (re_v 5))) (re_lst (ra_c re_int ra_nil))) (re_sl sd_sl (re_v 3) (ro_some (re_v 5)) ro_none)); exact rfl; exact (by first | exact .inl rfl | exact .inr rfl))))); exact (rss_one (rs_ret (re_ty cd_tup rfl T.z_tuple (by decide +kernel) (ra_c (re_sl sd_sl (re_v 3) ro_none (ro_some re_int)) ra_nil)))))))
theorem d_law_risen (T : Txt K mg cm) : DefM P w K mg base cm 3 "_law_risen" m_law_risen :=
  DefM.of (N := ["points", "tops", "found", "point", "turn", "higher", "reading", "top"]) (ps := ["points", "tops"]) (k := 2) T.f_law_risen sc_law_risen fun f cdv A outer s H E hr =>
    (by refine rss_cons ?_ ?_; exact (by refine rs_set 2 ?_ ?_ ?_ ?_ ?_ ?_; exact sc_law_risen.nd; exact rfl; exact (by first | exact .inl rfl | exact .inr rfl); exact re_dctT; exact rfl; exact (by first | exact .inl rfl | exact .inr rfl)); exact (by refine rss_cons ?_ ?_; exact (rs_for (passes_of rfl) rfl (ri_seq (re_v 0)) (rg_n 3 sc_law_risen.nd rfl (by first | exact .inl rfl | exact .inr rfl)) (rss_one (rs_for (passes_of rfl) rfl (ri_rg1 rfl T.z_range (ra_c re_int ra_nil)) (rg_n 4 sc_law_risen.nd rfl (by first | exact .inl rfl | exact .inr rfl)) (by refine rss_cons ?_ ?_; exact (by refine rs_set 5 ?_ ?_ ?_ ?_ ?_ ?_; exact sc_law_risen.nd; exact rfl; exact (by first | exact .inl rfl | exact .inr rfl); exact (re_ty cd_tupT rfl T.z_tuple (by decide +kernel) (ra_c (re_comp (own := [(("reading" : Str), 6)]) rfl sc_law_risen.nd (ri_seq (re_v 3)) (blk_of (by kernel_rfl)) (fun _ _ _ _ _ => (rg_n 6 sc_law_risen.nd rfl (by first | exact .inl rfl | exact .inr rfl))) (fun _ _ _ _ _ => rts_nil) (fun _ _ _ _ _ => (re_op od_add (re_v 6) (re_v 4)))) ra_nil)); exact rfl; exact (by first | exact .inl rfl | exact .inr rfl)); exact (rss_one (rs_if (rt_tru (re_b (cd_all rfl) rfl T.z_all (by decide +kernel) (ra_c (re_comp (own := [(("reading" : Str), 6), (("top" : Str), 7)]) rfl sc_law_risen.nd (ri_zipT rfl T.z_zip (ra_c (re_th (re_v 5)) (ra_c (re_v 1) ra_nil))) (blk_of (by kernel_rfl)) (fun _ _ _ _ _ => (rg_t rfl (rgs_cons (rg_n 6 sc_law_risen.nd rfl (by first | exact .inl rfl | exact .inr rfl)) (rgs_cons (rg_n 7 sc_law_risen.nd rfl (by first | exact .inl rfl | exact .inr rfl)) rgs_nil)))) (fun _ _ _ _ _ => rts_nil) (fun _ _ _ _ _ => (re_cmp od_le (re_v 6) (re_v 7) rfl))) ra_nil))) (rss_one (rs_putT (u1 hr) re_bl (re_v 2) (re_v 5))) rss_nil)))))); exact (rss_one (rs_ret (re_b (cd_sortT rfl (u64 hr)) rfl T.z_sorted (by decide +kernel) (ra_c (re_v 2) ra_nil))))))
theorem d_law_start (T : Txt K mg cm) : DefM P w K mg base cm 3 "_law_start" m_law_start :=
  DefM.of (N := ["script", "at", "cell", "great", "mixed"]) (ps := ["script", "at"]) (k := 2) T.f_law_start sc_law_start fun f cdv A outer s H E hr =>
    (by refine rss_cons ?_ ?_; exact (by refine rs_set 2 ?_ ?_ ?_ ?_ ?_ ?_; exact sc_law_start.nd; exact rfl; exact (by first | exact .inl rfl | exact .inr rfl); exact (re_if (rt_cmp od_lt (re_v 1) (re_b cd_len rfl T.z_len (by decide +kernel) (ra_c (re_v 0) ra_nil)) rfl) (re_ix (u1 hr) (re_v 0) (re_v 1) (fun _ _ => rfl)) (re_op od_add (re_op od_mulT re_int (re_v 1)) re_int)); exact rfl; exact (by first | exact .inl rfl | exact .inr rfl)); exact (by refine rss_cons ?_ ?_; exact (by refine rs_set 3 ?_ ?_ ?_ ?_ ?_ ?_; exact sc_law_start.nd; exact rfl; exact (by first | exact .inl rfl | exact .inr rfl); exact (re_op od_mod (re_ty cd_int rfl T.z_int (by decide +kernel) (ra_c (re_b cd_abs rfl T.z_abs (by decide +kernel) (ra_c (re_v 2) ra_nil)) ra_nil)) (re_op od_pow (re_op od_pow re_int re_int) re_int)); exact rfl; exact (by first | exact .inl rfl | exact .inr rfl)); exact (by refine rss_cons ?_ ?_; exact (by refine rs_set 4 ?_ ?_ ?_ ?_ ?_ ?_; exact sc_law_start.nd; exact rfl; exact (by first | exact .inl rfl | exact .inr rfl); exact (re_op od_add (re_op od_mulT (re_op od_mod (re_ty cd_int rfl T.z_int (by decide +kernel) (ra_c (re_v 3) ra_nil)) re_int) re_int) (re_ty cd_int rfl T.z_int (by decide +kernel) (ra_c (re_cmp od_lt (re_v 2) re_int rfl) ra_nil))); exact rfl; exact (by first | exact .inl rfl | exact .inr rfl)); exact (rss_one (rs_ret (re_lstN (ra_c (re_b (cd_max rfl) rfl T.z_max (by decide +kernel) (ra_c re_int (ra_c (re_op od_sub (re_v 3) (re_op od_pow re_int re_int)) ra_nil))) (ra_c (re_op od_mod (re_ty cd_int rfl T.z_int (by decide +kernel) (ra_c (re_op od_add (re_op od_add (re_op od_mulT (re_v 4) re_int) (re_op od_mulT re_int (re_v 1))) re_int) ra_nil)) re_int) (ra_c re_int ra_nil)))))))))
theorem law_p0 (T : Txt K mg cm) {f : Addr} {cdv : Value} {A : Around} {outer : List Env} {s : Shared} {H : Hp} {E : XK} (hgd : A.guards = some []) (hr : Room 12 (A.deeper (envOfC "law" (defScope s_law) s.heap.objs.size f cdv))) : RS cm (cxOf (L2.CX P w) P w K mg base ["script", "at", "bounds", "points", "tops", "told", "bag", "places", "least", "way", "gone", "later", "shown", "place", "spot", "one", "some", "clock", "point", "reading"] "law" (defScope s_law) f cdv A outer s H E) (stAt (defBody s_law) 0) (sAsg (gT 4 (gsCons (gN 2) (gsCons (gN 3) (gsCons (gN 4) (gsCons (gN 5) gsNil))))) (mTup (aCons (mCm "Bounds" m_Bounds_zero (aCons (mC (.int 0)) aNil)) (aCons (mLst (aCons (mTup aNil) aNil)) (aCons (mTup aNil) (aCons (mLstN aNil) aNil)))))) :=
  (rs_asg (re_tup (ra_c (re_cm (d_Bounds_zero T) (hr.mono (by omega)) rfl (ra_c re_int ra_nil)) (ra_c (re_lst (ra_c (re_tup ra_nil) ra_nil)) (ra_c (re_tup ra_nil) (ra_c (re_lstN ra_nil) ra_nil))))) (rg_t rfl (rgs_cons (rg_n 2 sc_law.nd rfl (by first | exact .inl rfl | exact .inr rfl)) (rgs_cons (rg_n 3 sc_law.nd rfl (by first | exact .inl rfl | exact .inr rfl)) (rgs_cons (rg_n 4 sc_law.nd rfl (by first | exact .inl rfl | exact .inr rfl)) (rgs_cons (rg_n 5 sc_law.nd rfl (by first | exact .inl rfl | exact .inr rfl)) rgs_nil))))))
theorem law_p1 (T : Txt K mg cm) {f : Addr} {cdv : Value} {A : Around} {outer : List Env} {s : Shared} {H : Hp} {E : XK} (hgd : A.guards = some []) (hr : Room 12 (A.deeper (envOfC "law" (defScope s_law) s.heap.objs.size f cdv))) : RS cm (cxOf (L2.CX P w) P w K mg base ["script", "at", "bounds", "points", "tops", "told", "bag", "places", "least", "way", "gone", "later", "shown", "place", "spot", "one", "some", "clock", "point", "reading"] "law" (defScope s_law) f cdv A outer s H E) (stAt (forBody (stAt (defBody s_law) 1)) 0) (sSet 6 (mCall m_law_start (aCons (mV 0) (aCons (mV 1) aNil)))) :=
  (by refine rs_set 6 ?_ ?_ ?_ ?_ ?_ ?_; exact sc_law.nd; exact rfl; exact (by first | exact .inl rfl | exact .inr rfl); exact (re_call (d_law_start T) (hr.mono (by omega)) rfl (ra_c (re_v 0) (ra_c (re_v 1) ra_nil))); exact rfl; exact (by first | exact .inl rfl | exact .inr rfl))
theorem law_p2 (T : Txt K mg cm) {f : Addr} {cdv : Value} {A : Around} {outer : List Env} {s : Shared} {H : Hp} {E : XK} (hgd : A.guards = some []) (hr : Room 12 (A.deeper (envOfC "law" (defScope s_law) s.heap.objs.size f cdv))) : RS cm (cxOf (L2.CX P w) P w K mg base ["script", "at", "bounds", "points", "tops", "told", "bag", "places", "least", "way", "gone", "later", "shown", "place", "spot", "one", "some", "clock", "point", "reading"] "law" (defScope s_law) f cdv A outer s H E) (stAt (forBody (stAt (defBody s_law) 1)) 1) (sAsg (gT 4 (gsCons (gN 9) (gsCons (gN 10) (gsCons (gN 11) (gsCons (gN 12) gsNil))))) (mTup (aCons (mCall m_law_throw (aCons (mV 6) (aCons (mC (.int 3)) aNil))) (aCons (mTup aNil) (aCons (mV 3) (aCons (mV 2) aNil)))))) :=
  (rs_asg (re_tup (ra_c (re_call (d_law_throw T) (hr.mono (by omega)) rfl (ra_c (re_v 6) (ra_c re_int ra_nil))) (ra_c (re_tup ra_nil) (ra_c (re_v 3) (ra_c (re_v 2) ra_nil))))) (rg_t rfl (rgs_cons (rg_n 9 sc_law.nd rfl (by first | exact .inl rfl | exact .inr rfl)) (rgs_cons (rg_n 10 sc_law.nd rfl (by first | exact .inl rfl | exact .inr rfl)) (rgs_cons (rg_n 11 sc_law.nd rfl (by first | exact .inl rfl | exact .inr rfl)) (rgs_cons (rg_n 12 sc_law.nd rfl (by first | exact .inl rfl | exact .inr rfl)) rgs_nil))))))
theorem law_p3 (T : Txt K mg cm) {f : Addr} {cdv : Value} {A : Around} {outer : List Env} {s : Shared} {H : Hp} {E : XK} (hgd : A.guards = some []) (hr : Room 12 (A.deeper (envOfC "law" (defScope s_law) s.heap.objs.size f cdv))) : RS cm (cxOf (L2.CX P w) P w K mg base ["script", "at", "bounds", "points", "tops", "told", "bag", "places", "least", "way", "gone", "later", "shown", "place", "spot", "one", "some", "clock", "point", "reading"] "law" (defScope s_law) f cdv A outer s H E) (stAt (ifBody (stAt (forBody (stAt (defBody s_law) 1)) 2)) 0) (sSet 10 (mB bTup (aCons (mComp (iRg2 (aCons (mC (.int 1)) (aCons (m2 dAdd (mB bLen (aCons (mV 4) aNil)) (mC (.int 1))) aNil))) (gN 17) (tB' (m2 dEq (mCall m_law_throw (aCons (mV 6) (aCons (mC (.int 2)) aNil))) (mC (.int 0)))) (mV 17) [17]) aNil))) :=
  (by refine rs_set 10 ?_ ?_ ?_ ?_ ?_ ?_; exact sc_law.nd; exact rfl; exact (by first | exact .inl rfl | exact .inr rfl); exact (re_ty cd_tup rfl T.z_tuple (by decide +kernel) (ra_c (re_comp (own := [(("clock" : Str), 17)]) rfl sc_law.nd (ri_rg2 rfl T.z_range (ra_c re_int (ra_c (re_op od_add (re_b cd_len rfl T.z_len (by decide +kernel) (ra_c (re_v 4) ra_nil)) re_int) ra_nil))) (blk_of (by kernel_rfl)) (fun _ _ _ _ _ => (rg_n 17 sc_law.nd rfl (by first | exact .inl rfl | exact .inr rfl))) (fun _ _ _ _ _ => (rts_one (rt_cmp (od_eq (u64 hr)) (re_call (d_law_throw T) (hr.mono (by omega)) rfl (ra_c (re_v 6) (ra_c re_int ra_nil))) re_int rfl))) (fun _ _ _ _ _ => (re_v 17))) ra_nil)); exact rfl; exact (by first | exact .inl rfl | exact .inr rfl))
theorem law_p4 (T : Txt K mg cm) {f : Addr} {cdv : Value} {A : Around} {outer : List Env} {s : Shared} {H : Hp} {E : XK} (hgd : A.guards = some []) (hr : Room 12 (A.deeper (envOfC "law" (defScope s_law) s.heap.objs.size f cdv))) : RS cm (cxOf (L2.CX P w) P w K mg base ["script", "at", "bounds", "points", "tops", "told", "bag", "places", "least", "way", "gone", "later", "shown", "place", "spot", "one", "some", "clock", "point", "reading"] "law" (defScope s_law) f cdv A outer s H E) (stAt (ifBody (stAt (forBody (stAt (defBody s_law) 1)) 2)) 1) (sSet 11 (mCall m_law_due_now (aCons (mV 3) (aCons (mV 4) (aCons (mV 10) aNil))))) :=
  (by refine rs_set 11 ?_ ?_ ?_ ?_ ?_ ?_; exact sc_law.nd; exact rfl; exact (by first | exact .inl rfl | exact .inr rfl); exact (re_call (d_law_due_now T) (hr.mono (by omega)) rfl (ra_c (re_v 3) (ra_c (re_v 4) (ra_c (re_v 10) ra_nil)))); exact rfl; exact (by first | exact .inl rfl | exact .inr rfl))
theorem law_p5 (T : Txt K mg cm) {f : Addr} {cdv : Value} {A : Around} {outer : List Env} {s : Shared} {H : Hp} {E : XK} (hgd : A.guards = some []) (hr : Room 12 (A.deeper (envOfC "law" (defScope s_law) s.heap.objs.size f cdv))) : RS cm (cxOf (L2.CX P w) P w K mg base ["script", "at", "bounds", "points", "tops", "told", "bag", "places", "least", "way", "gone", "later", "shown", "place", "spot", "one", "some", "clock", "point", "reading"] "law" (defScope s_law) f cdv A outer s H E) (stAt (ifBody (stAt (forBody (stAt (defBody s_law) 1)) 2)) 2) (sSet 12 (mCall m_law_cut_to (aCons (mV 2) (aCons (mV 4) (aCons (mV 10) aNil))))) :=
  (by refine rs_set 12 ?_ ?_ ?_ ?_ ?_ ?_; exact sc_law.nd; exact rfl; exact (by first | exact .inl rfl | exact .inr rfl); exact (re_call (d_law_cut_to T) (hr.mono (by omega)) rfl (ra_c (re_v 2) (ra_c (re_v 4) (ra_c (re_v 10) ra_nil)))); exact rfl; exact (by first | exact .inl rfl | exact .inr rfl))
theorem law_p6 (T : Txt K mg cm) {f : Addr} {cdv : Value} {A : Around} {outer : List Env} {s : Shared} {H : Hp} {E : XK} (hgd : A.guards = some []) (hr : Room 12 (A.deeper (envOfC "law" (defScope s_law) s.heap.objs.size f cdv))) : RS cm (cxOf (L2.CX P w) P w K mg base ["script", "at", "bounds", "points", "tops", "told", "bag", "places", "least", "way", "gone", "later", "shown", "place", "spot", "one", "some", "clock", "point", "reading"] "law" (defScope s_law) f cdv A outer s H E) (stAt (ifBody (stAt (forBody (stAt (defBody s_law) 1)) 2)) 3) (sIf (tNot' (tTru (mCall m_law_is_of (aCons (mV 12) (aCons (mV 11) aNil))))) (sRet (mC (.bl false))) sNil) :=
  (rs_if (rt_not (rt_tru (re_call (d_law_is_of T) (hr.mono (by omega)) rfl (ra_c (re_v 12) (ra_c (re_v 11) ra_nil))))) (rss_one (rs_ret re_bl)) rss_nil)
theorem law_p7 (T : Txt K mg cm) {f : Addr} {cdv : Value} {A : Around} {outer : List Env} {s : Shared} {H : Hp} {E : XK} (hgd : A.guards = some []) (hr : Room 12 (A.deeper (envOfC "law" (defScope s_law) s.heap.objs.size f cdv))) : RS cm (cxOf (L2.CX P w) P w K mg base ["script", "at", "bounds", "points", "tops", "told", "bag", "places", "least", "way", "gone", "later", "shown", "place", "spot", "one", "some", "clock", "point", "reading"] "law" (defScope s_law) f cdv A outer s H E) (stAt (ifBody (stAt (ifBody (stAt (forBody (stAt (defBody s_law) 1)) 2)) 4)) 0) (sPar3 10 11 12 (aCons (mTup aNil) (aCons (mV 3) (aCons (mV 2) aNil)))) :=
  (rs_par3 10 11 12 rfl sc_law.nd rfl rfl rfl (by decide) (by decide) (by decide) rfl rfl rfl (ra_c (re_tup ra_nil) (ra_c (re_v 3) (ra_c (re_v 2) ra_nil))) rfl)
theorem law_p8 (T : Txt K mg cm) {f : Addr} {cdv : Value} {A : Around} {outer : List Env} {s : Shared} {H : Hp} {E : XK} (hgd : A.guards = some []) (hr : Room 12 (A.deeper (envOfC "law" (defScope s_law) s.heap.objs.size f cdv))) : RS cm (cxOf (L2.CX P w) P w K mg base ["script", "at", "bounds", "points", "tops", "told", "bag", "places", "least", "way", "gone", "later", "shown", "place", "spot", "one", "some", "clock", "point", "reading"] "law" (defScope s_law) f cdv A outer s H E) (stAt (ifElse (stAt (ifBody (stAt (forBody (stAt (defBody s_law) 1)) 2)) 4)) 0) (sSet 11 (mComp (iSeq (mV 11)) (gN 18) tT (mB bTup (aCons (mComp (iSeq (mV 18)) (gN 19) tT (m2 dAdd (mV 19) (mC (.int 1))) [19]) aNil)) [18])) :=
  (rs_comp (own := [(("point" : Str), 18)]) 11 rfl sc_law.nd rfl rfl rfl (ri_seq (re_v 11)) (blk_of (by kernel_rfl)) (fun _ _ _ _ _ => (rg_n 18 sc_law.nd rfl (by first | exact .inl rfl | exact .inr rfl))) (fun _ _ _ _ _ => rts_nil) (fun _ _ _ _ _ => (re_ty cd_tup rfl T.z_tuple (by decide +kernel) (ra_c (re_comp (own := [(("reading" : Str), 19)]) rfl sc_law.nd (ri_seq (re_v 18)) (blk_of (by kernel_rfl)) (fun _ _ _ _ _ => (rg_n 19 sc_law.nd rfl (by first | exact .inl rfl | exact .inr rfl))) (fun _ _ _ _ _ => rts_nil) (fun _ _ _ _ _ => (re_op od_add (re_v 19) re_int))) ra_nil))))
theorem law_p9 (T : Txt K mg cm) {f : Addr} {cdv : Value} {A : Around} {outer : List Env} {s : Shared} {H : Hp} {E : XK} (hgd : A.guards = some []) (hr : Room 12 (A.deeper (envOfC "law" (defScope s_law) s.heap.objs.size f cdv))) : RS cm (cxOf (L2.CX P w) P w K mg base ["script", "at", "bounds", "points", "tops", "told", "bag", "places", "least", "way", "gone", "later", "shown", "place", "spot", "one", "some", "clock", "point", "reading"] "law" (defScope s_law) f cdv A outer s H E) (stAt (ifElse (stAt (ifBody (stAt (forBody (stAt (defBody s_law) 1)) 2)) 4)) 1) (sSet 12 (mOwn "Bounds" m_Bounds_rshift (mV 12) (mC (.int 1)))) :=
  (by refine rs_set 12 ?_ ?_ ?_ ?_ ?_ ?_; exact sc_law.nd; exact rfl; exact (by first | exact .inl rfl | exact .inr rfl); exact (re_own (d_Bounds_rshift T) (fun C hC => T.op_Bounds_rshift C hC) (hr.mono (by omega)) (re_v 12) re_int); exact rfl; exact (by first | exact .inl rfl | exact .inr rfl))
theorem law_p10 (T : Txt K mg cm) {f : Addr} {cdv : Value} {A : Around} {outer : List Env} {s : Shared} {H : Hp} {E : XK} (hgd : A.guards = some []) (hr : Room 12 (A.deeper (envOfC "law" (defScope s_law) s.heap.objs.size f cdv))) : RS cm (cxOf (L2.CX P w) P w K mg base ["script", "at", "bounds", "points", "tops", "told", "bag", "places", "least", "way", "gone", "later", "shown", "place", "spot", "one", "some", "clock", "point", "reading"] "law" (defScope s_law) f cdv A outer s H E) (stAt (forBody (stAt (defBody s_law) 1)) 3) (sSet 7 (mCall m_law_places (aCons (mV 6) (aCons (mB bLen (aCons (mV 4) aNil)) (aCons (mV 10) aNil))))) :=
  (by refine rs_set 7 ?_ ?_ ?_ ?_ ?_ ?_; exact sc_law.nd; exact rfl; exact (by first | exact .inl rfl | exact .inr rfl); exact (re_call (d_law_places T) (hr.mono (by omega)) rfl (ra_c (re_v 6) (ra_c (re_b cd_len rfl T.z_len (by decide +kernel) (ra_c (re_v 4) ra_nil)) (ra_c (re_v 10) ra_nil)))); exact rfl; exact (by first | exact .inl rfl | exact .inr rfl))
theorem law_p11 (T : Txt K mg cm) {f : Addr} {cdv : Value} {A : Around} {outer : List Env} {s : Shared} {H : Hp} {E : XK} (hgd : A.guards = some []) (hr : Room 12 (A.deeper (envOfC "law" (defScope s_law) s.heap.objs.size f cdv))) : RS cm (cxOf (L2.CX P w) P w K mg base ["script", "at", "bounds", "points", "tops", "told", "bag", "places", "least", "way", "gone", "later", "shown", "place", "spot", "one", "some", "clock", "point", "reading"] "law" (defScope s_law) f cdv A outer s H E) (stAt (forBody (stAt (defBody s_law) 1)) 4) (sSet 4 (mB bTup (aCons (mComp (iSeq (mV 7)) (gN 13) tT (mIf (tB' (m2 dGt (mV 13) (mC (.int 0)))) (m2 dIx (mV 4) (m2 dSub (mV 13) (mC (.int 1)))) (mCall m_law_throw (aCons (mV 6) (aCons (mC (.int 4)) aNil)))) [13]) aNil))) :=
  (by refine rs_set 4 ?_ ?_ ?_ ?_ ?_ ?_; exact sc_law.nd; exact rfl; exact (by first | exact .inl rfl | exact .inr rfl); exact (re_ty cd_tup rfl T.z_tuple (by decide +kernel) (ra_c (re_comp (own := [(("place" : Str), 13)]) rfl sc_law.nd (ri_seq (re_v 7)) (blk_of (by kernel_rfl)) (fun _ _ _ _ _ => (rg_n 13 sc_law.nd rfl (by first | exact .inl rfl | exact .inr rfl))) (fun _ _ _ _ _ => rts_nil) (fun _ _ _ _ _ => (re_if (rt_cmp od_gt (re_v 13) re_int rfl) (re_ix (u1 hr) (re_v 4) (re_op od_sub (re_v 13) re_int) (fun _ _ => rfl)) (re_call (d_law_throw T) (hr.mono (by omega)) rfl (ra_c (re_v 6) (ra_c re_int ra_nil)))))) ra_nil)); exact rfl; exact (by first | exact .inl rfl | exact .inr rfl))
theorem law_p12 (T : Txt K mg cm) {f : Addr} {cdv : Value} {A : Around} {outer : List Env} {s : Shared} {H : Hp} {E : XK} (hgd : A.guards = some []) (hr : Room 12 (A.deeper (envOfC "law" (defScope s_law) s.heap.objs.size f cdv))) : RS cm (cxOf (L2.CX P w) P w K mg base ["script", "at", "bounds", "points", "tops", "told", "bag", "places", "least", "way", "gone", "later", "shown", "place", "spot", "one", "some", "clock", "point", "reading"] "law" (defScope s_law) f cdv A outer s H E) (stAt (forBody (stAt (defBody s_law) 1)) 5) (sAsg (gT 2 (gsCons (gN 2) (gsCons (gN 3) gsNil))) (mTup (aCons (mMeth "Bounds" "moved" m_Bounds_moved (mV 12) (aCons (mV 7) aNil)) (aCons (mCall m_law_moved (aCons (mV 11) (aCons (mV 7) aNil))) aNil)))) :=
  (rs_asg (re_tup (ra_c (re_meth (d_Bounds_moved T) (hr.mono (by omega)) (re_v 12) (ra_c (re_v 7) ra_nil)) (ra_c (re_call (d_law_moved T) (hr.mono (by omega)) rfl (ra_c (re_v 11) (ra_c (re_v 7) ra_nil))) ra_nil))) (rg_t rfl (rgs_cons (rg_n 2 sc_law.nd rfl (by first | exact .inl rfl | exact .inr rfl)) (rgs_cons (rg_n 3 sc_law.nd rfl (by first | exact .inl rfl | exact .inr rfl)) rgs_nil))))
theorem law_p13 (T : Txt K mg cm) {f : Addr} {cdv : Value} {A : Around} {outer : List Env} {s : Shared} {H : Hp} {E : XK} (hgd : A.guards = some []) (hr : Room 12 (A.deeper (envOfC "law" (defScope s_law) s.heap.objs.size f cdv))) : RS cm (cxOf (L2.CX P w) P w K mg base ["script", "at", "bounds", "points", "tops", "told", "bag", "places", "least", "way", "gone", "later", "shown", "place", "spot", "one", "some", "clock", "point", "reading"] "law" (defScope s_law) f cdv A outer s H E) (stAt (forBody (stAt (defBody s_law) 1)) 6) (sSet 8 (mB bTup (aCons (mComp (iRg1 (aCons (mB bLen (aCons (mV 4) aNil)) aNil)) (gN 14) tT (mB bMinL (aCons (mComp (iSeq (mV 3)) (gN 18) tT (m2 dIx (mV 18) (mV 14)) [18]) aNil)) [14]) aNil))) :=
  (by refine rs_set 8 ?_ ?_ ?_ ?_ ?_ ?_; exact sc_law.nd; exact rfl; exact (by first | exact .inl rfl | exact .inr rfl); exact (re_ty cd_tup rfl T.z_tuple (by decide +kernel) (ra_c (re_comp (own := [(("spot" : Str), 14)]) rfl sc_law.nd (ri_rg1 rfl T.z_range (ra_c (re_b cd_len rfl T.z_len (by decide +kernel) (ra_c (re_v 4) ra_nil)) ra_nil)) (blk_of (by kernel_rfl)) (fun _ _ _ _ _ => (rg_n 14 sc_law.nd rfl (by first | exact .inl rfl | exact .inr rfl))) (fun _ _ _ _ _ => rts_nil) (fun _ _ _ _ _ => (re_b (cd_minL rfl) rfl T.z_min (by decide +kernel) (ra_c (re_comp (own := [(("point" : Str), 18)]) rfl sc_law.nd (ri_seq (re_v 3)) (blk_of (by kernel_rfl)) (fun _ _ _ _ _ => (rg_n 18 sc_law.nd rfl (by first | exact .inl rfl | exact .inr rfl))) (fun _ _ _ _ _ => rts_nil) (fun _ _ _ _ _ => (re_ix (u1 hr) (re_v 18) (re_v 14) (fun _ _ => rfl)))) ra_nil)))) ra_nil)); exact rfl; exact (by first | exact .inl rfl | exact .inr rfl))
theorem law_p14 (T : Txt K mg cm) {f : Addr} {cdv : Value} {A : Around} {outer : List Env} {s : Shared} {H : Hp} {E : XK} (hgd : A.guards = some []) (hr : Room 12 (A.deeper (envOfC "law" (defScope s_law) s.heap.objs.size f cdv))) : RS cm (cxOf (L2.CX P w) P w K mg base ["script", "at", "bounds", "points", "tops", "told", "bag", "places", "least", "way", "gone", "later", "shown", "place", "spot", "one", "some", "clock", "point", "reading"] "law" (defScope s_law) f cdv A outer s H E) (stAt (forBody (stAt (defBody s_law) 1)) 7) (sIf (tOr' (tNot' (tTru (mCall m_law_is_of (aCons (mV 2) (aCons (mV 3) aNil))))) (tOr' (tNot' (tTru (mCall (m_law_same 4) (aCons (mMeth "Bounds" "least" m_Bounds_least (mV 2) aNil) (aCons (mV 8) aNil))))) (tB' (m2 (dNInO "Bounds" m_Bounds_contains) (mV 8) (mV 2))))) (sRet (mC (.bl false))) sNil) :=
  (rs_if (rt_w (rw_or (rt_not (rt_tru (re_call (d_law_is_of T) (hr.mono (by omega)) rfl (ra_c (re_v 2) (ra_c (re_v 3) ra_nil))))) (rw_or (rt_not (rt_tru (re_call (d_law_same T 4) (hr.mono (by omega)) rfl (ra_c (re_meth0 (d_Bounds_least T) (hr.mono (by omega)) (re_v 2)) (ra_c (re_v 8) ra_nil))))) (rw_or1 (rt_cmp (od_nInO (d_Bounds_contains T) (hr.mono (by omega)) (u65 hr)) (re_v 8) (re_v 2) rfl))))) (rss_one (rs_ret re_bl)) rss_nil)
theorem law_p15 (T : Txt K mg cm) {f : Addr} {cdv : Value} {A : Around} {outer : List Env} {s : Shared} {H : Hp} {E : XK} (hgd : A.guards = some []) (hr : Room 12 (A.deeper (envOfC "law" (defScope s_law) s.heap.objs.size f cdv))) : RS cm (cxOf (L2.CX P w) P w K mg base ["script", "at", "bounds", "points", "tops", "told", "bag", "places", "least", "way", "gone", "later", "shown", "place", "spot", "one", "some", "clock", "point", "reading"] "law" (defScope s_law) f cdv A outer s H E) (stAt (forBody (stAt (defBody s_law) 1)) 8) (sAsg (gT 2 (gsCons (gN 2) (gsCons (gN 3) gsNil))) (mTup (aCons (mMeth "Bounds" "risen" m_Bounds_risen (mV 2) (aCons (mV 4) aNil)) (aCons (mCall m_law_risen (aCons (mV 3) (aCons (mV 4) aNil))) aNil)))) :=
  (rs_asg (re_tup (ra_c (re_meth (d_Bounds_risen T) (hr.mono (by omega)) (re_v 2) (ra_c (re_v 4) ra_nil)) (ra_c (re_call (d_law_risen T) (hr.mono (by omega)) rfl (ra_c (re_v 3) (ra_c (re_v 4) ra_nil))) ra_nil))) (rg_t rfl (rgs_cons (rg_n 2 sc_law.nd rfl (by first | exact .inl rfl | exact .inr rfl)) (rgs_cons (rg_n 3 sc_law.nd rfl (by first | exact .inl rfl | exact .inr rfl)) rgs_nil))))
theorem law_p16 (T : Txt K mg cm) {f : Addr} {cdv : Value} {A : Around} {outer : List Env} {s : Shared} {H : Hp} {E : XK} (hgd : A.guards = some []) (hr : Room 12 (A.deeper (envOfC "law" (defScope s_law) s.heap.objs.size f cdv))) : RS cm (cxOf (L2.CX P w) P w K mg base ["script", "at", "bounds", "points", "tops", "told", "bag", "places", "least", "way", "gone", "later", "shown", "place", "spot", "one", "some", "clock", "point", "reading"] "law" (defScope s_law) f cdv A outer s H E) (stAt (forBody (stAt (defBody s_law) 1)) 9) (sIf (tOr' (tNot' (tTru (mCall m_law_is_of (aCons (mV 2) (aCons (mV 3) aNil))))) (tNot' (tTru (mCall m_law_is_of (aCons (mOwn "Bounds" m_Bounds_and (mV 2) (mV 2)) (aCons (mV 3) aNil)))))) (sRet (mC (.bl false))) sNil) :=
  (rs_if (rt_w (rw_or (rt_not (rt_tru (re_call (d_law_is_of T) (hr.mono (by omega)) rfl (ra_c (re_v 2) (ra_c (re_v 3) ra_nil))))) (rw_or1 (rt_not (rt_tru (re_call (d_law_is_of T) (hr.mono (by omega)) rfl (ra_c (re_own (d_Bounds_and T) (fun C hC => T.op_Bounds_and C hC) (hr.mono (by omega)) (re_v 2) (re_v 2)) (ra_c (re_v 3) ra_nil)))))))) (rss_one (rs_ret re_bl)) rss_nil)
theorem law_p17 (T : Txt K mg cm) {f : Addr} {cdv : Value} {A : Around} {outer : List Env} {s : Shared} {H : Hp} {E : XK} (hgd : A.guards = some []) (hr : Room 12 (A.deeper (envOfC "law" (defScope s_law) s.heap.objs.size f cdv))) : RS cm (cxOf (L2.CX P w) P w K mg base ["script", "at", "bounds", "points", "tops", "told", "bag", "places", "least", "way", "gone", "later", "shown", "place", "spot", "one", "some", "clock", "point", "reading"] "law" (defScope s_law) f cdv A outer s H E) (stAt (forBody (stAt (defBody s_law) 1)) 10) (sEx (mM "list" mApp (mV 5) (aCons (mTup (aCons (mV 2) (aCons (mV 3) aNil))) aNil))) :=
  (rs_ex (re_m PySem.F.plainAttrs_list PySem.F.slot_list_append PySem.F.type_list_append md_app (re_v 5) (ra_c (re_tup (ra_c (re_v 2) (ra_c (re_v 3) ra_nil))) ra_nil)))
theorem law_p18 (T : Txt K mg cm) {f : Addr} {cdv : Value} {A : Around} {outer : List Env} {s : Shared} {H : Hp} {E : XK} (hgd : A.guards = some []) (hr : Room 12 (A.deeper (envOfC "law" (defScope s_law) s.heap.objs.size f cdv))) : RS cm (cxOf (L2.CX P w) P w K mg base ["script", "at", "bounds", "points", "tops", "told", "bag", "places", "least", "way", "gone", "later", "shown", "place", "spot", "one", "some", "clock", "point", "reading"] "law" (defScope s_law) f cdv A outer s H E) (stAt (defBody s_law) 2) (sRet (mB bAll (aCons (mComp (iSeq (mV 5)) (gT 2 (gsCons (gN 15) (gsCons (gN 16) gsNil))) tT (mCall m_law_is_of (aCons (mV 15) (aCons (mV 16) aNil))) [15, 16]) aNil))) :=
  (rs_ret (re_b (cd_all rfl) rfl T.z_all (by decide +kernel) (ra_c (re_comp (own := [(("one" : Str), 15), (("some" : Str), 16)]) rfl sc_law.nd (ri_seq (re_v 5)) (blk_of (by kernel_rfl)) (fun _ _ _ _ _ => (rg_t rfl (rgs_cons (rg_n 15 sc_law.nd rfl (by first | exact .inl rfl | exact .inr rfl)) (rgs_cons (rg_n 16 sc_law.nd rfl (by first | exact .inl rfl | exact .inr rfl)) rgs_nil)))) (fun _ _ _ _ _ => rts_nil) (fun _ _ _ _ _ => (re_call (d_law_is_of T) (hr.mono (by omega)) rfl (ra_c (re_v 15) (ra_c (re_v 16) ra_nil))))) ra_nil)))
theorem d_law (T : Txt K mg cm) {f : Addr} {fd : FuncData} (b : Fun K "law" "law" s_law f fd) : FnG P w K mg base (L2.CX P w) 13 f fd ["script"] (spF ⟨K, cm.cls, cm.exc⟩ 1 m_law) :=
  fnm_ofG (N := ["script", "at", "bounds", "points", "tops", "told", "bag", "places", "least", "way", "gone", "later", "shown", "place", "spot", "one", "some", "clock", "point", "reading"]) (ps := ["script"]) (k := 12) b sc_law fun f cdv A outer s H E hgd hr =>
    (by refine rss_cons ?_ ?_; exact (law_p0 T hgd hr); exact (by refine rss_cons ?_ ?_; exact (rs_for (passes_of rfl) rfl (ri_rg1 rfl T.z_range (ra_c (re_b (cd_max rfl) rfl T.z_max (by decide +kernel) (ra_c re_int (ra_c (re_b cd_len rfl T.z_len (by decide +kernel) (ra_c (re_v 0) ra_nil)) ra_nil))) ra_nil)) (rg_n 1 sc_law.nd rfl (by first | exact .inl rfl | exact .inr rfl)) (by refine rss_cons ?_ ?_; exact (law_p1 T hgd hr); exact (by refine rss_cons ?_ ?_; exact (law_p2 T hgd hr); exact (by refine rss_cons ?_ ?_; exact (rs_if (rt_cmp (od_eq (u64 hr)) (re_v 9) re_int rfl) (by refine rss_cons ?_ ?_; exact (law_p3 T hgd hr); exact (by refine rss_cons ?_ ?_; exact (law_p4 T hgd hr); exact (by refine rss_cons ?_ ?_; exact (law_p5 T hgd hr); exact (by refine rss_cons ?_ ?_; exact (law_p6 T hgd hr); exact (rss_one (rs_if (rt_cmp (od_eq (u64 hr)) (re_v 11) (re_lst ra_nil) rfl) (rss_one (law_p7 T hgd hr)) (by refine rss_cons ?_ ?_; exact (law_p8 T hgd hr); exact (rss_one (law_p9 T hgd hr))))))))) rss_nil); exact (by refine rss_cons ?_ ?_; exact (law_p10 T hgd hr); exact (by refine rss_cons ?_ ?_; exact (law_p11 T hgd hr); exact (by refine rss_cons ?_ ?_; exact (law_p12 T hgd hr); exact (by refine rss_cons ?_ ?_; exact (law_p13 T hgd hr); exact (by refine rss_cons ?_ ?_; exact (law_p14 T hgd hr); exact (by refine rss_cons ?_ ?_; exact (law_p15 T hgd hr); exact (by refine rss_cons ?_ ?_; exact (law_p16 T hgd hr); exact (rss_one (law_p17 T hgd hr))))))))))))); exact (rss_one (law_p18 T hgd hr))))
end
end K25

/-! N0: shortest ways: one place after the other, and by squarings. -/
namespace Dbm
open Mi
/-- the weight of the way from i to j over l -/
def wt (a : Nat → Nat → Int) : Nat → List Nat → Nat → Int
  | i, [], j => a i j
  | i, k :: l, j => a i k + wt a k l j
def mn (i j : Int) : Int := if j < i then j else i
theorem mn_l (i j : Int) : mn i j ≤ i := by unfold mn; split <;> omega
theorem mn_r (i j : Int) : mn i j ≤ j := by unfold mn; split <;> omega
theorem mn_or (i j : Int) : mn i j = i ∨ mn i j = j := by unfold mn; split <;> simp
theorem mn_ge {i j z : Int} (h : z ≤ i) (k : z ≤ j) : z ≤ mn i j := by unfold mn; split <;> omega
theorem wt_app (a : Nat → Nat → Int) : ∀ (p : List Nat) (i v : Nat) (r : List Nat) (j : Nat), wt a i (p ++ v :: r) j = wt a i p v + wt a v r j
  | [], i, v, r, j => rfl
  | k :: p, i, v, r, j => by
    show a i k + wt a k (p ++ v :: r) j = a i k + wt a k p v + wt a v r j
    rw [wt_app a p k v r j]
    omega
abbrev Lt (n : Nat) (l : List Nat) : Prop := ∀ x ∈ l, x < n
def fw (a : Nat → Nat → Int) : Nat → Nat → Nat → Int
  | 0, i, j => a i j
  | k + 1, i, j => mn (fw a k i j) (fw a k i k + fw a k k j)
theorem fw_walk {a : Nat → Nat → Int} {n : Nat} : ∀ (k : Nat), k ≤ n → ∀ i j, ∃ l, Lt n l ∧ fw a k i j = wt a i l j
  | 0, _, i, j => ⟨[], (fun x hx => by cases hx), rfl⟩
  | k + 1, hk, i, j => by
    rcases mn_or (fw a k i j) (fw a k i k + fw a k k j) with e | e
    · obtain ⟨l, h, q⟩ := fw_walk (a := a) (n := n) k (by omega) i j
      exact ⟨l, h, e.trans q⟩
    · obtain ⟨l, h, q⟩ := fw_walk (a := a) (n := n) k (by omega) i k
      obtain ⟨l2, h2, q2⟩ := fw_walk (a := a) (n := n) k (by omega) k j
      refine ⟨l ++ k :: l2, fun x hx => ?_, ?_⟩
      · rcases List.mem_append.mp hx with hx | hx
        · exact h x hx
        · rcases List.mem_cons.mp hx with rfl | hx
          · omega
          · exact h2 x hx
      · rw [wt_app, ← q, ← q2]
        exact e
theorem fw_le {a : Nat → Nat → Int} {k : Nat} {i j : Nat} : fw a (k + 1) i j ≤ fw a k i j := mn_l _ _
theorem fw_mono {a : Nat → Nat → Int} {i j : Nat} : ∀ {k n : Nat}, k ≤ n → fw a n i j ≤ fw a k i j
  | k, 0, h => by rw [show k = 0 by omega]; exact Int.le_refl _
  | k, n + 1, h => by
    by_cases e : k = n + 1
    · rw [e]; exact Int.le_refl _
    · exact Int.le_trans fw_le (fw_mono (k := k) (n := n) (by omega))
/-- no way round is below 0 -/
def Nn (a : Nat → Nat → Int) (n : Nat) : Prop := ∀ l v, Lt n l → v < n → 0 ≤ wt a v l v
theorem fw_diag {a : Nat → Nat → Int} {n : Nat} (h : Nn a n) : ∀ i, i < n → 0 ≤ fw a n i i := fun i hi => by
  obtain ⟨l, hl, e⟩ := fw_walk (a := a) (n := n) n (Nat.le_refl _) i i
  rw [e]
  exact h l i hl hi
theorem fw_tri {a : Nat → Nat → Int} {n : Nat} (h : ∀ i, i < n → 0 ≤ fw a n i i) : ∀ k, k ≤ n → ∀ m, m < k → ∀ i j, fw a k i j ≤ fw a k i m + fw a k m j
  | 0, _, m, hm, _, _ => by omega
  | k + 1, hk, m, hm, i, j => by
    have hkk : 0 ≤ fw a k k k := Int.le_trans (h k (by omega)) (fw_mono (by omega))
    have b1 := mn_l (fw a k i j) (fw a k i k + fw a k k j)
    have b2 := mn_r (fw a k i j) (fw a k i k + fw a k k j)
    show mn (fw a k i j) (fw a k i k + fw a k k j) ≤ mn (fw a k i m) (fw a k i k + fw a k k m) + mn (fw a k m j) (fw a k m k + fw a k k j)
    by_cases e : m = k
    · subst e
      rcases mn_or (fw a m i m) (fw a m i m + fw a m m m) with q | q <;> rcases mn_or (fw a m m j) (fw a m m m + fw a m m j) with r | r <;> rw [q, r] <;> omega
    · have ih := fun i j => fw_tri h k (by omega) m (by omega) i j
      have i1 := ih i j
      have i2 := ih i k
      have i3 := ih k j
      have i4 := ih k k
      rcases mn_or (fw a k i m) (fw a k i k + fw a k k m) with q | q <;> rcases mn_or (fw a k m j) (fw a k m k + fw a k k j) with r | r <;> rw [q, r] <;> omega
theorem fw_le_wt {a : Nat → Nat → Int} {n : Nat} (h : ∀ i, i < n → 0 ≤ fw a n i i) : ∀ (l : List Nat) (i j : Nat), Lt n l → fw a n i j ≤ wt a i l j
  | [], i, j, _ => fw_mono (k := 0) (Nat.zero_le _)
  | k :: l, i, j, hl => by
    have e1 := fw_tri h n (Nat.le_refl _) k (hl k (by simp)) i j
    have e2 := fw_le_wt h l k j (fun x hx => hl x (by simp [hx]))
    have e3 : fw a n i k ≤ a i k := fw_mono (k := 0) (Nat.zero_le _)
    show fw a n i j ≤ a i k + wt a k l j
    omega
theorem fw_nn {a : Nat → Nat → Int} {n : Nat} (h : ∀ i, i < n → 0 ≤ fw a n i i) : Nn a n := fun l v hl hv => Int.le_trans (h v hv) (fw_le_wt h l v v hl)
/-! ### squarings -/
def mnL : List Int → Int
  | [] => 0
  | x :: r => minI x r
theorem mnL_le {l : List Int} {y : Int} (h : y ∈ l) : mnL l ≤ y := by
  cases l with
  | nil => cases h
  | cons x r => exact minI_le r x y h
theorem mnL_mem {l : List Int} (h : l ≠ []) : mnL l ∈ l := by
  cases l with
  | nil => exact absurd rfl h
  | cons x r => exact minI_mem r x
def sq (a : Nat → Nat → Int) (n : Nat) : Nat → Nat → Nat → Int
  | 0, i, j => a i j
  | t + 1, i, j => mnL ((List.range n).map fun k => sq a n t i k + sq a n t k j)
theorem sq_le {a : Nat → Nat → Int} {n t i j k : Nat} (h : k < n) : sq a n (t + 1) i j ≤ sq a n t i k + sq a n t k j := mnL_le (List.mem_map.mpr ⟨k, List.mem_range.mpr h, rfl⟩)
theorem sq_walk {a : Nat → Nat → Int} {n : Nat} : ∀ (t i j : Nat), i < n → ∃ l, Lt n l ∧ sq a n t i j = wt a i l j
  | 0, i, j, _ => ⟨[], (fun x hx => by cases hx), rfl⟩
  | t + 1, i, j, hi => by
    have hm := mnL_mem (l := (List.range n).map fun k => sq a n t i k + sq a n t k j) (by
      intro e
      have := congrArg List.length e
      simp at this
      omega)
    obtain ⟨k, hk, e⟩ := List.mem_map.mp hm
    have hk := List.mem_range.mp hk
    obtain ⟨l, h, q⟩ := sq_walk (a := a) (n := n) t i k hi
    obtain ⟨l2, h2, q2⟩ := sq_walk (a := a) (n := n) t k j hk
    refine ⟨l ++ k :: l2, fun x hx => ?_, ?_⟩
    · rcases List.mem_append.mp hx with hx | hx
      · exact h x hx
      · rcases List.mem_cons.mp hx with rfl | hx
        · exact hk
        · exact h2 x hx
    · rw [wt_app, ← q, ← q2]
      exact e.symm
theorem sq_le_wt {a : Nat → Nat → Int} {n : Nat} (hd : ∀ i, i < n → a i i ≤ 0) : ∀ (t : Nat) (l : List Nat) (i j : Nat), i < n → j < n → Lt n l → l.length + 1 ≤ 2 ^ t → sq a n t i j ≤ wt a i l j
  | 0, l, i, j, _, _, _, h => by
    have : l = [] := List.eq_nil_of_length_eq_zero (by simpa using h)
    subst this
    exact Int.le_refl _
  | t + 1, l, i, j, hi, hj, hl, h => by
    by_cases c : l.length + 1 ≤ 2 ^ t
    · have e1 := sq_le_wt hd t l i j hi hj hl c
      have e2 := sq_le_wt hd t [] j j hj hj (fun x hx => by cases hx) (Nat.one_le_two_pow)
      have e3 := hd j hj
      have e4 := sq_le (a := a) (n := n) (t := t) (i := i) (j := j) hj
      have e5 : wt a j [] j = a j j := rfl
      omega
    · have hp : 1 ≤ 2 ^ t := Nat.one_le_two_pow
      have hlt : 2 ^ t - 1 < l.length := by omega
      have e0 : l = l.take (2 ^ t - 1) ++ l[2 ^ t - 1] :: l.drop (2 ^ t - 1 + 1) := by
        rw [← List.drop_eq_getElem_cons hlt, List.take_append_drop]
      have hv : l[2 ^ t - 1] < n := hl _ (List.getElem_mem hlt)
      have e1 := sq_le_wt hd t (l.take (2 ^ t - 1)) i l[2 ^ t - 1] hi hv (fun x hx => hl x (List.mem_of_mem_take hx)) (by rw [List.length_take]; omega)
      have e2 := sq_le_wt hd t (l.drop (2 ^ t - 1 + 1)) l[2 ^ t - 1] j hv hj (fun x hx => hl x (List.mem_of_mem_drop hx)) (by
        rw [List.length_drop]
        have : 2 ^ (t + 1) = 2 ^ t + 2 ^ t := by rw [Nat.pow_succ]; omega
        omega)
      have e3 := sq_le (a := a) (n := n) (t := t) (i := i) (j := j) hv
      have e4 := wt_app a (l.take (2 ^ t - 1)) i l[2 ^ t - 1] (l.drop (2 ^ t - 1 + 1)) j
      rw [← e0] at e4
      omega
/-- a list of more than n numbers below n has one twice -/
theorem nodup_len : ∀ (n : Nat) (l : List Nat), l.Nodup → Lt n l → l.length ≤ n
  | 0, l, _, h => by
    cases l with
    | nil => exact Nat.le_refl _
    | cons x r => exact absurd (h x (by simp)) (by omega)
  | n + 1, l, nd, h => by
    have ih := nodup_len n (l.erase n) (nd.erase n) (fun x hx => by
      have h1 := h x (List.mem_of_mem_erase hx)
      have h2 : x ≠ n := fun e => by
        rw [e] at hx
        exact (List.Nodup.not_mem_erase nd) hx
      omega)
    by_cases hm : n ∈ l
    · rw [List.length_erase_of_mem hm] at ih
      omega
    · rw [List.erase_of_not_mem hm] at ih
      omega
theorem dup_split : ∀ {l : List Nat}, ¬ l.Nodup → ∃ p v q r, l = p ++ v :: (q ++ v :: r)
  | [], h => absurd List.nodup_nil h
  | x :: l, h => by
    by_cases hx : x ∈ l
    · obtain ⟨q, r, e⟩ := List.append_of_mem hx
      exact ⟨[], x, q, r, by rw [e]; rfl⟩
    · have : ¬ l.Nodup := fun z => h (List.nodup_cons.mpr ⟨hx, z⟩)
      obtain ⟨p, v, q, r, e⟩ := dup_split this
      exact ⟨x :: p, v, q, r, by rw [e]; rfl⟩
theorem dup {n : Nat} {l : List Nat} (h : Lt n l) (hn : n < l.length) : ∃ p v q r, l = p ++ v :: (q ++ v :: r) :=
  dup_split fun nd => by have := nodup_len n l nd h; omega
theorem cut_wt (a : Nat → Nat → Int) (p q r : List Nat) (v i j : Nat) : wt a i (p ++ v :: (q ++ v :: r)) j = wt a i (p ++ v :: r) j + wt a v q v := by
  rw [wt_app, wt_app, wt_app]
  omega
theorem cut_lt {n : Nat} {p q r : List Nat} {v : Nat} (h : Lt n (p ++ v :: (q ++ v :: r))) : Lt n (p ++ v :: r) ∧ Lt n q ∧ v < n := by
  refine ⟨fun x hx => h x ?_, fun x hx => h x ?_, h v (by simp)⟩
  · rcases List.mem_append.mp hx with hx | hx
    · simp [hx]
    · rcases List.mem_cons.mp hx with rfl | hx
      · simp
      · simp [hx]
  · simp [hx]
theorem sq_nn {a : Nat → Nat → Int} {n : Nat} (hd : ∀ i, i < n → a i i ≤ 0) (hn : n ≤ 15) (h : ∀ i, i < n → 0 ≤ sq a n 4 i i) : Nn a n := by
  have key : ∀ (m : Nat) (l : List Nat) (v : Nat), l.length ≤ m → Lt n l → v < n → 0 ≤ wt a v l v := by
    intro m
    induction m with
    | zero =>
      intro l v hm hl hv
      exact Int.le_trans (h v hv) (sq_le_wt hd 4 l v v hv hv hl (by omega))
    | succ m ih =>
      intro l v hm hl hv
      by_cases c : l.length ≤ n
      · exact Int.le_trans (h v hv) (sq_le_wt hd 4 l v v hv hv hl (by omega))
      · obtain ⟨p, u, q, r, rfl⟩ := dup hl (by omega)
        obtain ⟨h1, h2, h3⟩ := cut_lt hl
        rw [cut_wt]
        simp only [List.length_append, List.length_cons] at hm
        have e1 := ih (p ++ u :: r) v (by simp only [List.length_append, List.length_cons]; omega) h1 hv
        have e2 := ih q u (by omega) h2 h3
        omega
  exact fun l v hl hv => key l.length l v (Nat.le_refl _) hl hv
theorem shorten {a : Nat → Nat → Int} {n : Nat} (A : Nn a n) (i j : Nat) : ∀ (m : Nat) (l : List Nat), l.length ≤ m → Lt n l → ∃ l', Lt n l' ∧ l'.length ≤ n ∧ wt a i l' j ≤ wt a i l j := by
  intro m
  induction m with
  | zero =>
    intro l hm hl
    exact ⟨l, hl, by omega, Int.le_refl _⟩
  | succ m ih =>
    intro l hm hl
    by_cases c : l.length ≤ n
    · exact ⟨l, hl, c, Int.le_refl _⟩
    · obtain ⟨p, u, q, r, rfl⟩ := dup hl (by omega)
      obtain ⟨h1, h2, h3⟩ := cut_lt hl
      simp only [List.length_append, List.length_cons] at hm
      obtain ⟨l', k1, k2, k3⟩ := ih (p ++ u :: r) (by simp only [List.length_append, List.length_cons]; omega) h1
      have := A q u h2 h3
      rw [cut_wt]
      exact ⟨l', k1, k2, by omega⟩
/-- both are the same -/
theorem fw_sq {a : Nat → Nat → Int} {n : Nat} (hd : ∀ i, i < n → a i i ≤ 0) (hn : n ≤ 15) (A : Nn a n) {i j : Nat} (hi : i < n) (hj : j < n) : fw a n i j = sq a n 4 i j := by
  refine Int.le_antisymm ?_ ?_
  · obtain ⟨l, hl, e⟩ := sq_walk (a := a) (n := n) 4 i j hi
    rw [e]
    exact fw_le_wt (fw_diag A) l i j hl
  · obtain ⟨l, hl, e⟩ := fw_walk (a := a) (n := n) n (Nat.le_refl _) i j
    obtain ⟨l', h1, h2, h3⟩ := shorten A i j l.length l (Nat.le_refl _) hl
    rw [e]
    exact Int.le_trans (sq_le_wt hd 4 l' i j hi hj h1 (by omega)) h3
theorem sq_diag {a : Nat → Nat → Int} {n : Nat} (A : Nn a n) : ∀ i, i < n → 0 ≤ sq a n 4 i i := fun i hi => by
  obtain ⟨l, hl, e⟩ := sq_walk (a := a) (n := n) 4 i i hi
  rw [e]
  exact A l i hl hi
/-! ### tables whose ways are ways of another one -/
structure Over (n : Nat) (m a : Nat → Nat → Int) : Prop where
  le : ∀ i j, i < n → j < n → m i j ≤ a i j
  ge : ∀ i j, i < n → j < n → ∃ l, Lt n l ∧ wt a i l j ≤ m i j
theorem wt_le {n : Nat} {m a : Nat → Nat → Int} (h : ∀ i j, i < n → j < n → m i j ≤ a i j) : ∀ (l : List Nat) (i j : Nat), i < n → j < n → Lt n l → wt m i l j ≤ wt a i l j
  | [], i, j, hi, hj, _ => h i j hi hj
  | k :: l, i, j, hi, hj, hl => by
    have e1 := h i k hi (hl k (by simp))
    have e2 := wt_le h l k j (hl k (by simp)) hj (fun x hx => hl x (by simp [hx]))
    show m i k + wt m k l j ≤ a i k + wt a k l j
    omega
theorem Over.wt {n : Nat} {m a : Nat → Nat → Int} (O : Over n m a) : ∀ (l : List Nat) (i j : Nat), i < n → j < n → Lt n l → ∃ l', Lt n l' ∧ wt a i l' j ≤ wt m i l j
  | [], i, j, hi, hj, _ => O.ge i j hi hj
  | k :: l, i, j, hi, hj, hl => by
    have hk := hl k (by simp)
    obtain ⟨p, h1, e1⟩ := O.ge i k hi hk
    obtain ⟨q, h2, e2⟩ := Over.wt O l k j hk hj (fun x hx => hl x (by simp [hx]))
    refine ⟨p ++ k :: q, fun x hx => ?_, ?_⟩
    · rcases List.mem_append.mp hx with hx | hx
      · exact h1 x hx
      · rcases List.mem_cons.mp hx with rfl | hx
        · exact hk
        · exact h2 x hx
    · rw [wt_app]
      show _ ≤ m i k + Dbm.wt m k l j
      omega
theorem Over.nn {n : Nat} {m a : Nat → Nat → Int} (O : Over n m a) : Nn a n ↔ Nn m n := by
  constructor
  · intro A l v hl hv
    obtain ⟨l', h1, h2⟩ := O.wt l v v hv hv hl
    exact Int.le_trans (A l' v h1 hv) h2
  · intro A l v hl hv
    exact Int.le_trans (A l v hl hv) (wt_le O.le l v v hv hv hl)
theorem Over.fw {n : Nat} {m a : Nat → Nat → Int} (O : Over n m a) (A : Nn a n) {i j : Nat} (hi : i < n) (hj : j < n) : fw m n i j = fw a n i j := by
  have Am := O.nn.mp A
  refine Int.le_antisymm ?_ ?_
  · obtain ⟨l, hl, e⟩ := fw_walk (a := a) (n := n) n (Nat.le_refl _) i j
    rw [e]
    exact Int.le_trans (fw_le_wt (fw_diag Am) l i j hl) (wt_le O.le l i j hi hj hl)
  · obtain ⟨l, hl, e⟩ := fw_walk (a := m) (n := n) n (Nat.le_refl _) i j
    rw [e]
    obtain ⟨l', h1, h2⟩ := O.wt l i j hi hj hl
    exact Int.le_trans (fw_le_wt (fw_diag A) l' i j h1) h2
theorem over_fw {n : Nat} {a : Nat → Nat → Int} : Over n (Dbm.fw a n) a := ⟨fun i j _ _ => fw_mono (k := 0) (Nat.zero_le _), fun i j _ _ => by
  obtain ⟨l, hl, e⟩ := fw_walk (a := a) (n := n) n (Nat.le_refl _) i j
  exact ⟨l, hl, Int.le_of_eq e.symm⟩⟩
/-- entries lie between an entry and the other way's opposite -/
theorem fw_low {n : Nat} {a : Nat → Nat → Int} (A : Nn a n) {i j : Nat} (hi : i < n) (hj : j < n) : -(a j i) ≤ fw a n i j := by
  obtain ⟨l, hl, e⟩ := fw_walk (a := a) (n := n) n (Nat.le_refl _) i j
  have := A (l ++ [j]) i (fun x hx => by
    rcases List.mem_append.mp hx with hx | hx
    · exact hl x hx
    · rw [List.mem_singleton.mp hx]; exact hj) hi
  rw [wt_app] at this
  have e2 : wt a j [] i = a j i := rfl
  rw [e]
  omega
theorem fw_congr {n : Nat} {a b : Nat → Nat → Int} (h : ∀ i j, i < n → j < n → a i j = b i j) : ∀ (k : Nat), k ≤ n → ∀ i j, i < n → j < n → fw a k i j = fw b k i j
  | 0, _, i, j, hi, hj => h i j hi hj
  | k + 1, hk, i, j, hi, hj => by
    have ih := fw_congr h k (by omega)
    show mn _ _ = mn _ _
    rw [ih i j hi hj, ih i k hi (by omega), ih k j (by omega) hj]
theorem nn_congr {n : Nat} {a b : Nat → Nat → Int} (h : ∀ i j, i < n → j < n → a i j = b i j) (A : Nn a n) : Nn b n := fun l v hl hv =>
  Int.le_trans (A l v hl hv) (wt_le (fun i j hi hj => Int.le_of_eq (h i j hi hj)) l v v hv hv hl)
end Dbm

namespace K25
open PySem PySem.Spec PyProof.Rows L2 Mi
theorem body_rt {n k : Nat} {f : T} {ds : List D} {S S' : So} {d : D} (hl : ds.length = k) (h : f (ds.map some ++ List.replicate (n - k) none) S = .ok (.rt d) S') : bodyM n k f ds S = .ok d S' := by
  unfold bodyM
  rw [if_pos hl, h]
  rfl
theorem body_nx {n k : Nat} {f : T} {ds : List D} {S S' : So} {en : En} (hl : ds.length = k) (h : f (ds.map some ++ List.replicate (n - k) none) S = .ok (.nx en) S') : bodyM n k f ds S = .ok .non S' := by
  unfold bodyM
  rw [if_pos hl, h]
  rfl
theorem body_err {n k : Nat} {f : T} {ds : List D} {S S' : So} {en : En} {x : Ex} (hl : ds.length = k) (h : f (ds.map some ++ List.replicate (n - k) none) S = .err x en S') : bodyM n k f ds S = .err x [] S' := by
  unfold bodyM
  rw [if_pos hl, h]
  rfl
theorem seq_rt {f g : T} {en : En} {S S' : So} {d : D} (h : f en S = .ok (.rt d) S') : sSeq f g en S = .ok (.rt d) S' := by
  unfold sSeq
  rw [h]
  rfl
theorem seq_err {f g : T} {en en' : En} {S S' : So} {x : Ex} (h : f en S = .err x en' S') : sSeq f g en S = .err x en' S' := by
  unfold sSeq
  rw [h]
  rfl
theorem seq_nx {f g : T} {en en1 : En} {S S1 : So} {r : R Fl} (h : f en S = .ok (.nx en1) S1) (k : g en1 S1 = r) : sSeq f g en S = r := by
  unfold sSeq
  rw [h]
  exact k
theorem if_t {t : E Bool} {f g : T} {en : En} {S S1 : So} {r : R Fl} (h : t en S = .ok true S1) (k : f en S1 = r) : sIf t f g en S = r := by
  unfold sIf
  rw [h]
  exact k
theorem if_f {t : E Bool} {f g : T} {en : En} {S S1 : So} {r : R Fl} (h : t en S = .ok false S1) (k : g en S1 = r) : sIf t f g en S = r := by
  unfold sIf
  rw [h]
  exact k
theorem ife_t {t : E Bool} {f g : E D} {en : En} {S S1 : So} {r : R D} (h : t en S = .ok true S1) (k : f en S1 = r) : mIf t f g en S = r := by
  unfold mIf
  rw [h]
  exact k
theorem ife_f {t : E Bool} {f g : E D} {en : En} {S S1 : So} {r : R D} (h : t en S = .ok false S1) (k : g en S1 = r) : mIf t f g en S = r := by
  unfold mIf
  rw [h]
  exact k
theorem set_ok {i : Nat} {f : E D} {en : En} {S S1 : So} {d : D} (h : f en S = .ok d S1) : sSet i f en S = .ok (.nx (en.set i (some d))) S1 := by
  unfold sSet
  rw [h]
  rfl
theorem ret_ok {f : E D} {en : En} {S S1 : So} {d : D} (h : f en S = .ok d S1) : sRet f en S = .ok (.rt d) S1 := by
  unfold sRet
  rw [h]
  rfl
theorem ret_err {f : E D} {en en' : En} {S S1 : So} {x : Ex} (h : f en S = .err x en' S1) : sRet f en S = .err x en' S1 := by
  unfold sRet
  rw [h]
  rfl
theorem ex_ok {f : E D} {en : En} {S S1 : So} {d : D} (h : f en S = .ok d S1) : sEx f en S = .ok (.nx en) S1 := by
  unfold sEx
  rw [h]
  rfl
theorem par_ok {i j : Nat} {f : E (List D)} {en : En} {S S1 : So} {a b : D} (h : f en S = .ok [a, b] S1) : sPar i j f en S = .ok (.nx ((en.set i (some a)).set j (some b))) S1 := by
  unfold sPar
  rw [h]
  rfl
theorem lst_ok {g : E (List D)} {en : En} {S S1 : So} {l : List D} (h : g en S = .ok l S1) (hz : l.length ≤ sizeLine) : mLst g en S = .ok (.lst l) S1 := by
  unfold mLst
  rw [h]
  exact if_pos hz
theorem tup_ok {g : E (List D)} {en : En} {S S1 : So} {l : List D} (h : g en S = .ok l S1) (hz : l.length ≤ sizeLine) : mTup g en S = .ok (.tup l) S1 := by
  unfold mTup
  rw [h]
  exact if_pos hz
theorem m2_ok {o : Op2} {f g : E D} {en : En} {S S1 S2 S3 : So} {a b d : D} (h : f en S = .ok a S1) (k : g en S1 = .ok b S2) (e : o a b S2 = some (d, S3)) : m2 o f g en S = .ok d S3 := by
  unfold m2
  rw [h, R.bind_ok, k, R.bind_ok, e]
  rfl
theorem m1_ok {o : Op1} {f : E D} {en : En} {S S1 S3 : So} {a d : D} (h : f en S = .ok a S1) (e : o a S1 = some (d, S3)) : m1 o f en S = .ok d S3 := by
  unfold m1
  rw [h, R.bind_ok, e]
  rfl
theorem cons_ok {f : E D} {g : E (List D)} {en : En} {S S1 S2 : So} {d : D} {l : List D} (h : f en S = .ok d S1) (k : g en S1 = .ok l S2) : aCons f g en S = .ok (d :: l) S2 := by
  unfold aCons
  rw [h, R.bind_ok, k]
  rfl
theorem nil_ok {en : En} {S : So} : aNil en S = .ok [] S := rfl
theorem one_ok {f : E D} {en : En} {S S1 : So} {d : D} (h : f en S = .ok d S1) : aCons f aNil en S = .ok [d] S1 := cons_ok h rfl
theorem call_ok {F : Fm} {fa : E (List D)} {en : En} {S S1 S2 : So} {l : List D} {d : D} (h : fa en S = .ok l S1) (k : F l S1 = .ok d S2) : mCall F fa en S = .ok d S2 := by
  unfold mCall
  rw [h, R.bind_ok, k]
  rfl
theorem b_ok {o : OpL} {fa : E (List D)} {en : En} {S S1 S2 : So} {l : List D} {d : D} (h : fa en S = .ok l S1) (k : o l S1 = some (d, S2)) : mB o fa en S = .ok d S2 := by
  unfold mB
  rw [h, R.bind_ok, k]
  rfl
theorem tst_ok {f : E D} {en : En} {S S1 : So} {b : Bool} (h : f en S = .ok (.bl b) S1) : tB' f en S = .ok b S1 := by
  unfold tB'
  rw [h]
  rfl
theorem tru_bl {f : E D} {en : En} {S S1 : So} {b : Bool} (h : f en S = .ok (.bl b) S1) : tTru f en S = .ok b S1 := by
  unfold tTru
  rw [h]
  rfl
theorem tru_ok {f : E D} {en : En} {S S1 : So} {d : D} {b : Bool} (h : f en S = .ok d S1) (e : truD d S1 = some b) : tTru f en S = .ok b S1 := by
  unfold tTru
  rw [h, R.bind_ok, e]
theorem tnot {t : E Bool} {en : En} {S S1 : So} {b : Bool} (h : t en S = .ok b S1) : tNot' t en S = .ok (!b) S1 := by
  unfold tNot'
  rw [h]
  rfl
theorem tnot_t {t : E Bool} {en : En} {S S1 : So} (h : t en S = .ok true S1) : tNot' t en S = .ok false S1 := tnot h
theorem tnot_f {t : E Bool} {en : En} {S S1 : So} (h : t en S = .ok false S1) : tNot' t en S = .ok true S1 := tnot h
theorem tand_f {s t : E Bool} {en : En} {S S1 : So} (h : s en S = .ok false S1) : tAnd' s t en S = .ok false S1 := by
  unfold tAnd'
  rw [h]
  rfl
theorem tand_t {s t : E Bool} {en : En} {S S1 : So} {r : R Bool} (h : s en S = .ok true S1) (k : t en S1 = r) : tAnd' s t en S = r := by
  unfold tAnd'
  rw [h]
  exact k
theorem tor_t {s t : E Bool} {en : En} {S S1 : So} (h : s en S = .ok true S1) : tOr' s t en S = .ok true S1 := by
  unfold tOr'
  rw [h]
  rfl
theorem tor_f {s t : E Bool} {en : En} {S S1 : So} {r : R Bool} (h : s en S = .ok false S1) (k : t en S1 = r) : tOr' s t en S = r := by
  unfold tOr'
  rw [h]
  exact k
theorem and_f {f g : E D} {en : En} {S S1 : So} (h : f en S = .ok (.bl false) S1) : mAnd f g en S = .ok (.bl false) S1 := by
  unfold mAnd
  rw [h]
  rfl
theorem and_t {f g : E D} {en : En} {S S1 : So} {r : R D} (h : f en S = .ok (.bl true) S1) (k : g en S1 = r) : mAnd f g en S = r := by
  unfold mAnd
  rw [h]
  exact k
theorem not_ok {f : E D} {en : En} {S S1 : So} {b : Bool} (h : f en S = .ok (.bl b) S1) : mNot f en S = .ok (.bl (!b)) S1 := by
  unfold mNot
  rw [h]
  rfl
theorem is_ok {T : Ty} {f : E D} {en : En} {S S1 : So} {d : D} {b : Bool} (h : f en S = .ok d S1) (e : isD T d S1 = some b) : mIs T f en S = .ok (.bl b) S1 := by
  unfold mIs
  rw [h, R.bind_ok, e]
theorem fld_ok {f : Str} {e : E D} {en : En} {S S1 : So} {d v : D} (h : e en S = .ok d S1) (k : fldD f d S1 = some v) : mFld f e en S = .ok v S1 := by
  unfold mFld
  rw [h, R.bind_ok, k]
theorem own_ok {n : Str} {F : Fm} {f g : E D} {en : En} {S S1 S2 S3 : So} {a b d : D} (h : f en S = .ok a S1) (k : g en S1 = .ok b S2) (c : isOwn a S2 = some n ∧ ((tyD b S2).isSome = true ∨ isOwn b S2 = some n)) (e : F [a, b] S2 = .ok d S3) : mOwn n F f g en S = .ok d S3 := by
  unfold mOwn
  rw [h, R.bind_ok, k, R.bind_ok, if_pos c, e]
  rfl
theorem own_err {n : Str} {F : Fm} {f g : E D} {en en' : En} {S S1 S2 S3 : So} {a b : D} {x : Ex} (h : f en S = .ok a S1) (k : g en S1 = .ok b S2) (c : isOwn a S2 = some n ∧ ((tyD b S2).isSome = true ∨ isOwn b S2 = some n)) (e : F [a, b] S2 = .err x en' S3) : mOwn n F f g en S = .err x en S3 := by
  unfold mOwn
  rw [h, R.bind_ok, k, R.bind_ok, if_pos c, e]
  rfl
theorem meth_ok {n nm : Str} {F : Fm} {f : E D} {g : E (List D)} {en : En} {S S1 S2 S3 : So} {a d : D} {l l' : List D} {ks : List Str} (h : f en S = .ok a S1) (c : insOf a S1 = some (n, ks, l')) (hk : ks.contains nm = false) (k : g en S1 = .ok l S2) (e : F (a :: l) S2 = .ok d S3) : mMeth n nm F f g en S = .ok d S3 := by
  unfold mMeth
  rw [h, R.bind_ok, c]
  dsimp only
  rw [if_pos ⟨rfl, hk⟩, k, R.bind_ok, e]
  rfl
theorem meth_err {n nm : Str} {F : Fm} {f : E D} {g : E (List D)} {en en' : En} {S S1 S2 S3 : So} {a : D} {x : Ex} {l l' : List D} {ks : List Str} (h : f en S = .ok a S1) (c : insOf a S1 = some (n, ks, l')) (hk : ks.contains nm = false) (k : g en S1 = .ok l S2) (e : F (a :: l) S2 = .err x en' S3) : mMeth n nm F f g en S = .err x en S3 := by
  unfold mMeth
  rw [h, R.bind_ok, c]
  dsimp only
  rw [if_pos ⟨rfl, hk⟩, k, R.bind_ok, e]
  rfl
theorem pow_ok {i j : Int} {S : So} (h0 : 0 ≤ j) (h : (Builtin.Int.intBits i : Int) * j ≤ 2 ^ 27) : dPow (.int i) (.int j) S = some (.int (i ^ j.toNat), S) := if_pos ⟨h0, h⟩
theorem mod_ok {i j : Int} {S : So} (h : 0 < j ∧ j.natAbs.log2 < 9000 := by decide) : dMod (.int i) (.int j) S = some (.int (i % j), S) := by
  first
    | exact if_pos h
    | exact if_pos h.1
theorem mul_small {i j : Int} {S : So} (h : small64i j = true) : dMul (.int i) (.int j) S = some (.int (i * j), S) := if_pos (by rw [h, Bool.or_true])
theorem mul_smallL {i j : Int} {S : So} (h : small64i i = true) : dMul (.int i) (.int j) S = some (.int (i * j), S) := if_pos (by rw [h, Bool.true_or])
theorem eq_int {S : So} (i j : Int) : dEq (.int i) (.int j) S = some (.bl (i == j), S) := by
  simp [dEq, dEqP, toPt, toP, SeqAt.shaped, PyData.canLay0, PyData.depth, PyData.eqv]
theorem eq_bl {S : So} (i j : Bool) : dEq (.bl i) (.bl j) S = some (.bl (i == j), S) := by
  simp [dEq, dEqP, toPt, toP, SeqAt.shaped, PyData.canLay0, PyData.depth, PyData.eqv]
theorem ne_int {S : So} (i j : Int) : dNe (.int i) (.int j) S = some (.bl (!(i == j)), S) := by
  simp [dNe, dEqP, toPt, toP, SeqAt.shaped, PyData.canLay0, PyData.depth, PyData.eqv]
theorem ne_bl {S : So} (i j : Bool) : dNe (.bl i) (.bl j) S = some (.bl (!(i == j)), S) := by
  simp [dNe, dEqP, toPt, toP, SeqAt.shaped, PyData.canLay0, PyData.depth, PyData.eqv]
def Ok7 (x : Str) : Prop := ∀ c ∈ x.cps.toList, c < 0x110000
theorem Ok7.ok {x : Str} (h : Ok7 x) : PyData.strOk x = true := by
  unfold PyData.strOk
  rw [← Array.all_toList, List.all_eq_true]
  intro c hc
  exact decide_eq_true (h c hc)
theorem eq_str {S : So} {x : Str} (h : Ok7 x) : dEq (.str x) (.str x) S = some (.bl true, S) := by
  simp [dEq, dEqP, toPt, toP, SeqAt.shaped, PyData.canLay0, PyData.depth, PyData.eqv, h.ok]
theorem add_lst {l k : List D} {S : So} (h : l.length + k.length ≤ sizeLine) : dAdd (.lst l) (.lst k) S = some (.lst (l ++ k), S) := if_pos h
theorem add_tup {l k : List D} {S : So} (h : l.length + k.length ≤ sizeLine) : dAdd (.tup l) (.tup k) S = some (.tup (l ++ k), S) := if_pos h
theorem atI_of {α : Type} {l : List α} {r : Int} (h0 : 0 ≤ r) (h1 : r < l.length) : ∃ d, atI l r = some d ∧ d ∈ l := by
  have hr : r.toNat < l.length := by omega
  refine ⟨l[r.toNat], ?_, List.getElem_mem hr⟩
  unfold atI ixN
  rw [if_pos h0, if_pos h1]
  simp [List.getElem?_eq_getElem hr]
theorem ix_tup {l : List D} {i : Int} {d : D} {S : So} (h : atI l i = some d) : dIx (.tup l) (.int i) S = some (d, S) := by
  show (atI l i).map (fun d => (d, S)) = _
  rw [h]
  rfl
theorem ix_lst {l : List D} {i : Int} {d : D} {S : So} (h : atI l i = some d) : dIx (.lst l) (.int i) S = some (d, S) := by
  show (atI l i).map (fun d => (d, S)) = _
  rw [h]
  rfl
theorem size_le {n : Nat} (h : n ≤ 16777216) : n ≤ sizeLine := by rw [sizeLine_eq]; exact h
theorem comp_ok {hold : Option Nat} {S0 : So} {I : So → Prop} {P : D → Prop} {g : TgD} {f : E D} {enw : En} (hst : ∀ S, I S → still hold S0 S = true) : ∀ (l acc : List D) (S : So), (∀ d ∈ l, ∀ S, I S → ∃ en1 y S', g d enw S = some en1 ∧ f en1 S = .ok y S' ∧ P y ∧ I S') → I S → acc.length + l.length ≤ sizeLine →
    ∃ ys S', compM hold S0 g tT f enw l acc S = .ok (acc ++ ys) S' ∧ I S' ∧ ys.length = l.length ∧ ∀ y ∈ ys, P y
  | [], acc, S, _, hI, _ => ⟨[], S, by unfold compM; simp, hI, rfl, by simp⟩
  | d :: l, acc, S, h, hI, hz => by
    obtain ⟨en1, y, S', e1, e2, hP, hI'⟩ := h d (by simp) S hI
    simp only [List.length_cons] at hz
    obtain ⟨ys, S2, e3, hI2, hl, hP2⟩ := comp_ok hst l (acc ++ [y]) S' (fun d' hd => h d' (by simp [hd])) hI' (by simp; omega)
    refine ⟨y :: ys, S2, ?_, hI2, by simp [hl], by simpa using ⟨hP, hP2⟩⟩
    unfold compM
    simp only [e1, tT, e2]
    rw [if_pos ⟨by omega, hst S' hI'⟩, e3]
    simp
theorem comp_map {hold : Option Nat} {S0 S : So} {φ : D → D} {g : TgD} {f : E D} {enw : En} (hst : still hold S0 S = true) : ∀ (l acc : List D), (∀ d ∈ l, ∃ en1, g d enw S = some en1 ∧ f en1 S = .ok (φ d) S) → acc.length + l.length ≤ sizeLine →
    compM hold S0 g tT f enw l acc S = .ok (acc ++ l.map φ) S
  | [], acc, _, _ => by unfold compM; simp
  | d :: l, acc, h, hz => by
    obtain ⟨en1, e1, e2⟩ := h d (by simp)
    simp only [List.length_cons] at hz
    have e3 := comp_map hst l (acc ++ [φ d]) (fun d' hd => h d' (by simp [hd])) (by simp; omega)
    unfold compM
    simp only [e1, tT, e2]
    rw [if_pos ⟨by omega, hst⟩, e3]
    simp
theorem comp_mapα {α : Type} {hold : Option Nat} {S0 S : So} {ι φ : α → D} {g : TgD} {f : E D} {enw : En} (hst : still hold S0 S = true) : ∀ (l : List α) (acc : List D), (∀ a ∈ l, ∃ en1, g (ι a) enw S = some en1 ∧ f en1 S = .ok (φ a) S) → acc.length + l.length ≤ sizeLine →
    compM hold S0 g tT f enw (l.map ι) acc S = .ok (acc ++ l.map φ) S
  | [], acc, _, _ => by unfold compM; simp
  | a :: l, acc, h, hz => by
    obtain ⟨en1, e1, e2⟩ := h a (by simp)
    simp only [List.length_cons] at hz
    have e3 := comp_mapα hst l (acc ++ [φ a]) (fun d' hd => h d' (by simp [hd])) (by simp; omega)
    rw [List.map_cons]
    unfold compM
    simp only [e1, tT, e2]
    rw [if_pos ⟨by omega, hst⟩, e3]
    simp
theorem comp_fltα {α : Type} {hold : Option Nat} {S0 S : So} {ι φ : α → D} {p : α → Bool} {g : TgD} {t : E Bool} {f : E D} {enw : En} (hst : still hold S0 S = true) : ∀ (l : List α) (acc : List D), (∀ a ∈ l, ∃ en1, g (ι a) enw S = some en1 ∧ t en1 S = .ok (p a) S ∧ f en1 S = .ok (φ a) S) → acc.length + l.length ≤ sizeLine →
    compM hold S0 g t f enw (l.map ι) acc S = .ok (acc ++ (l.filter p).map φ) S
  | [], acc, _, _ => by unfold compM; simp
  | a :: l, acc, h, hz => by
    obtain ⟨en1, e1, e2, e4⟩ := h a (by simp)
    simp only [List.length_cons] at hz
    rw [List.map_cons]
    unfold compM
    simp only [e1, e2]
    cases c : p a with
    | true =>
      have e3 := comp_fltα (t := t) (p := p) hst l (acc ++ [φ a]) (fun d' hd => h d' (by simp [hd])) (by simp; omega)
      simp only [e4]
      rw [if_pos ⟨by omega, hst⟩, e3]
      simp [c]
    | false =>
      have e3 := comp_fltα (t := t) (p := p) hst l acc (fun d' hd => h d' (by simp [hd])) (by omega)
      simp only
      rw [if_pos hst, e3]
      simp [c]
theorem cmp_of {fi : E Src} {g : TgD} {t : E Bool} {f : E D} {vs : List Nat} {en : En} {S S1 S2 : So} {src : Src} {l : List D} (h : fi en S = .ok src S1) (k : compM src.hold S1 g t f (wipeE en vs) src.items [] S1 = .ok l S2) : mComp fi g t f vs en S = .ok (.lst l) S2 := by
  unfold mComp
  rw [h, R.bind_ok, k]
  rfl
theorem seq_src {f : E D} {en : En} {S S1 : So} {d : D} {s : Src} (h : f en S = .ok d S1) (e : srcOf d S1 = some s) : iSeq f en S = .ok s S1 := by
  unfold iSeq
  rw [h, R.bind_ok, e]
theorem rg1_ok {g : E (List D)} {en : En} {S S1 : So} {j : Int} (h : g en S = .ok [.int j] S1) (h0 : -1000000 ≤ j) (h1 : j < 1000000) : iRg1 g en S = .ok ⟨none, rngL 0 j.toNat⟩ S1 := by
  unfold iRg1
  rw [h, R.bind_ok]
  have q1 : -(2 ^ 62 : Int) ≤ j := by omega
  have q2 : j < (2 ^ 62 : Int) := by omega
  show (if -(2 ^ 62) ≤ j ∧ j < 2 ^ 62 then _ else _) = _
  rw [if_pos ⟨q1, q2⟩]
theorem rg_len {l : List D} {S : So} {en : En} {g : E (List D)} (hz : l.length < 1000000) (e : g en S = .ok [.int l.length] S) : iRg1 g en S = .ok ⟨none, rngL 0 l.length⟩ S := by
  have := rg1_ok e (by omega) (by omega)
  rwa [Int.toNat_natCast] at this
theorem for_of {fi : E Src} {g : TgD} {b : T} {en : En} {S S1 : So} {src : Src} {r : R Fl} (h : fi en S = .ok src S1) (k : Mi.forM src.hold S1 g b src.items en S1 = r) : sFor fi g b en S = r := by
  unfold sFor
  rw [h]
  exact k
theorem for_inv {S0 : So} {g : TgD} {body : T} {J : En → So → Prop} : ∀ (l : List D) (en : En) (S : So), (∀ d ∈ l, ∀ en S, J en S → ∃ en1 en2 S2, g d en S = some en1 ∧ body en1 S = .ok (.nx en2) S2 ∧ J en2 S2) → J en S → ∃ en' S', Mi.forM none S0 g body l en S = .ok (.nx en') S' ∧ J en' S'
  | [], en, S, _, hJ => ⟨en, S, by unfold Mi.forM; rfl, hJ⟩
  | d :: l, en, S, h, hJ => by
    obtain ⟨en1, en2, S2, e1, e2, hJ2⟩ := h d (by simp) en S hJ
    unfold Mi.forM
    simp only [e1, e2, R.bind_ok, still_none, if_true]
    exact for_inv l en2 S2 (fun d' hd => h d' (by simp [hd])) hJ2
theorem for_find {S S0 : So} {g : TgD} {body : T} {P : D → Prop} {J : En → Prop} : ∀ (l : List D) (en : En), (∀ d ∈ l, ∀ en, J en → ∃ en1, g d en S = some en1 ∧ ((∃ x, body en1 S = .ok (.rt x) S ∧ P x) ∨ ∃ en2, body en1 S = .ok (.nx en2) S ∧ J en2)) → J en →
    (∃ x, Mi.forM none S0 g body l en S = .ok (.rt x) S ∧ P x) ∨ ∃ en', Mi.forM none S0 g body l en S = .ok (.nx en') S ∧ J en'
  | [], en, _, hJ => .inr ⟨en, by unfold Mi.forM; rfl, hJ⟩
  | d :: l, en, h, hJ => by
    obtain ⟨en1, e1, h1⟩ := h d (by simp) en hJ
    unfold Mi.forM
    simp only [e1]
    rcases h1 with ⟨x, e2, hP⟩ | ⟨en2, e2, hJ2⟩
    · exact .inl ⟨x, by simp [e2], hP⟩
    · simp only [e2, R.bind_ok, still_none, if_true]
      exact for_find l en2 (fun d' hd => h d' (by simp [hd])) hJ2
def Bag (S : So) (b : Nat) : Prop := ∃ x y z : Int, S[b]? = some (some (.lst [.int x, .int y, .int z]))
def Ch (b : Nat) (S S' : So) : Prop := S.length ≤ S'.length ∧ ∀ n, n < S.length → n ≠ b → S'[n]? = S[n]?
theorem Ch.refl {b : Nat} {S : So} : Ch b S S := ⟨Nat.le_refl _, fun _ _ _ => rfl⟩
theorem Ch.trans {b : Nat} {S S1 S2 : So} (h : Ch b S S1) (k : Ch b S1 S2) : Ch b S S2 := ⟨Nat.le_trans h.1 k.1, fun n hn nb => (k.2 n (Nat.lt_of_lt_of_le hn h.1) nb).trans (h.2 n hn nb)⟩
theorem Ch.app {b : Nat} {S T : So} : Ch b S (S ++ T) := ⟨by simp, fun n hn _ => List.getElem?_append_left hn⟩
theorem Ch.set {b : Nat} {S : So} {x : Option Ob} : Ch b S (S.set b x) := ⟨by simp, fun n _ nb => List.getElem?_set_ne (Ne.symm nb)⟩
theorem Bag.app {S T : So} {b : Nat} (h : Bag S b) : Bag (S ++ T) b := by
  obtain ⟨x, y, z, e⟩ := h
  exact ⟨x, y, z, by rw [List.getElem?_append_left (List.getElem?_eq_some_iff.mp e).1]; exact e⟩
theorem Bag.lt {S : So} {b : Nat} (h : Bag S b) : b < S.length := let ⟨_, _, _, e⟩ := h; (List.getElem?_eq_some_iff.mp e).1
theorem bag_set {S : So} {b : Nat} {x y z : Int} (h : Bag S b) : (S.set b (some (.lst [.int x, .int y, .int z])))[b]? = some (some (.lst [.int x, .int y, .int z])) := by
  obtain ⟨_, _, _, e⟩ := h
  exact List.getElem?_set_self (List.getElem?_eq_some_iff.mp e).1
theorem throw_ok {S : So} {b : Nat} {t : Int} (h : Bag S b) (ht : 0 < t) (hl : t.natAbs.log2 < 9000) :
    ∃ r x y z, m_law_throw [.ref b, .int t] S = .ok (.int r) (S.set b (some (.lst [.int x, .int y, .int z]))) ∧ 0 ≤ r ∧ r < t := by
  have h' := h
  obtain ⟨x, y, z, e⟩ := h
  have hb := (List.getElem?_eq_some_iff.mp e).1
  have hs : ∀ X : Option Ob, (S.set b X)[b]? = some X := fun X => List.getElem?_set_self hb
  by_cases hx : 0 < x
  · refine ⟨x % t, x / t, y, z, ?_, Int.emod_nonneg _ (by omega), Int.emod_lt_of_pos _ ht⟩
    simp [m_law_throw, bodyM, bodyR, sSeq, sIf, sSet, sPut, sRet, tB', asB, m2, mV, mC, mB, aCons, aNil, dIx, dctOf, seqOf, e, dGt, dCmp, R.of, R.bind, hx, bInt, dMod, dDiv, ht, hl, putD, atI, ixN]
  · obtain ⟨one, h1⟩ : ∃ one, one = (y + 1000003 * (z + 1)) % 2305843009213693951 := ⟨_, rfl⟩
    obtain ⟨two, h2⟩ : ∃ two, two = (one * one + 12347 * (z + 1)) % 2305843009213693921 := ⟨_, rfl⟩
    have s1 : small64i one = true := by
      have a := Int.emod_nonneg (y + 1000003 * (z + 1)) (b := 2305843009213693951) (by decide)
      have b := Int.emod_lt_of_pos (y + 1000003 * (z + 1)) (b := 2305843009213693951) (by decide)
      rw [← h1] at a b
      simp only [small64i, Bool.and_eq_true, decide_eq_true_eq]
      omega
    have s2 : small64i two = true := by
      have a := Int.emod_nonneg (one * one + 12347 * (z + 1)) (b := 2305843009213693921) (by decide)
      have b := Int.emod_lt_of_pos (one * one + 12347 * (z + 1)) (b := 2305843009213693921) (by decide)
      rw [← h2] at a b
      simp only [small64i, Bool.and_eq_true, decide_eq_true_eq]
      omega
    have c1 : small64i 1000003 = true := by decide
    have c2 : small64i 12347 = true := by decide
    have c3 : Nat.log2 4096 < 9000 := by decide
    refine ⟨(two * one + 777767777) % 2305843009213693951 / 4096 % t, x, y, z + 1, ?_, Int.emod_nonneg _ (by omega), Int.emod_lt_of_pos _ ht⟩
    simp [m_law_throw, bodyM, bodyR, sSeq, sIf, sSet, sPut, sRet, sNil, tB', asB, m2, mV, mC, mB, aCons, aNil, dIx, dctOf, seqOf, e, dGt, dCmp, R.of, R.bind, hx, bInt, dMod, dDiv, dMul, dMulT, dAdd, ht, hl, putD, atI, ixN, hs, c1, c2, c3, ← h1, s1, ← h2, s2]
theorem throw_bag {S : So} {b : Nat} {t : Int} (h : Bag S b) (ht : 0 < t) (hl : t.natAbs.log2 < 9000) : ∃ r S', m_law_throw [.ref b, .int t] S = .ok (.int r) S' ∧ Bag S' b ∧ Ch b S S' ∧ 0 ≤ r ∧ r < t := by
  obtain ⟨r, x, y, z, e, h1, h2⟩ := throw_ok h ht hl
  exact ⟨r, _, e, ⟨x, y, z, bag_set h⟩, Ch.set, h1, h2⟩
theorem log_small {n : Nat} (h : n < 2 ^ 9000) : n.log2 < 9000 := by
  by_cases h0 : n = 0
  · subst h0; decide
  · exact (Nat.log2_lt h0).mpr h
theorem log_int {t : Int} (h0 : 0 ≤ t) (h : t < 10 ^ 61) : t.natAbs.log2 < 9000 := by
  refine log_small ?_
  have e : (10 : Int) ^ 61 < 2 ^ 300 := by decide
  have e2 : (2 : Nat) ^ 300 < 2 ^ 9000 := Nat.pow_lt_pow_right (by decide) (by decide)
  have e3 : ((2 : Nat) ^ 300 : Int) = (2 : Int) ^ 300 := by norm_cast
  omega
end K25

namespace K25
open PySem PySem.Spec PyProof.Rows L2 Mi
theorem mulT_smallL {i j : Int} {S : So} (h : small64i i = true) : dMulT (.int i) (.int j) S = some (.int (i * j), S) := mul_smallL h
theorem mulT_small {i j : Int} {S : So} (h : small64i j = true) : dMulT (.int i) (.int j) S = some (.int (i * j), S) := mul_small h
def inR (v : Int) : Bool := decide (-999999999999999999999999999999999999999999999999999999999999 ≤ v) && decide (v ≤ 999999999999999999999999999999999999999999999999999999999999)
theorem is_integer_ok (v : Int) (S : So) : m_is_integer [.int v] S = .ok (.bl (inR v)) S := by
  unfold inR
  by_cases h : -999999999999999999999999999999999999999999999999999999999999 ≤ v
  · simp [m_is_integer, bodyM, bodyR, sRet, mAnd, mNot, mIs, isD, tyD, isT, mV, mC, m1, dNeg, mChain, dLe, dCmp, R.of, R.bind, h]
  · simp [m_is_integer, bodyM, bodyR, sRet, mAnd, mNot, mIs, isD, tyD, isT, mV, mC, m1, dNeg, mChain, dLe, dCmp, R.of, R.bind, h]
def NoInt (d : D) (S : So) : Prop := isD .int d S = some false ∨ ∃ b, d = .bl b
theorem is_integer_no {d : D} {S : So} (h : NoInt d S) : m_is_integer [d] S = .ok (.bl false) S := by
  rcases h with h | ⟨b, rfl⟩
  · exact body_rt rfl (ret_ok (and_f (is_ok rfl h)))
  · simp [m_is_integer, bodyM, bodyR, sRet, mAnd, mNot, mIs, isD, tyD, isT, mV, R.bind]
theorem bls_map {α : Type} (p : α → Bool) : ∀ l : List α, blsOf (l.map fun a => D.bl (p a)) = some (l.map p)
  | [] => rfl
  | a :: l => by simp [blsOf, bls_map p l]
theorem all_of {α : Type} (p : α → Bool) (l : List α) (S : So) : bAll [.lst (l.map fun a => D.bl (p a))] S = some (.bl (l.all p), S) := by
  unfold bAll
  simp only [lstOf, bls_map, Option.map_some]
  rw [List.all_map]
  rfl
theorem cut1 (l : List D) : Mi.cutD l (some 1) none = l.drop 1 := by
  unfold Mi.cutD
  rw [HT.sIx_none, show (some (1 : Int)) = some ((1 : Nat) : Int) from rfl, HT.sIx_nat]
  cases l with
  | nil => rfl
  | cons a l =>
    have : min 1 (a :: l).length = 1 := by simp
    rw [this]
    simp
theorem toPs_strs : ∀ l : List Str, toPs (l.map D.str) = some (l.map PyData.str)
  | [] => by simp [toPs]
  | x :: l => by simp [toPs, toP, toPs_strs l]
theorem str_sh {x : Str} (h : Ok7 x) : SeqAt.shaped (.str x) = true := by
  unfold SeqAt.shaped
  simp [PyData.canLay0, PyData.depth, h.ok]
theorem app_at {S : So} {x : Option Ob} : (S ++ [x])[S.length]? = some x := by simp
theorem size4 : ∀ {n : Nat}, n ≤ 1000000 → n ≤ sizeLine := fun h => size_le (by omega)
abbrev X60 : Int := 1000000000000000000000000000000000000000000000000000000000000
theorem p60 (S : So) : dPow (.int 10) (.int 60) S = some (.int X60, S) := pow_ok (by decide) (by decide +kernel)
theorem inR_iff (v : Int) : inR v = true ↔ -X60 < v ∧ v < X60 := by
  unfold inR
  simp only [Bool.and_eq_true, decide_eq_true_eq]
  have hx : X60 = 1000000000000000000000000000000000000000000000000000000000000 := rfl
  omega

theorem comp_okN {hold : Option Nat} {S0 : So} {I : Nat → So → Prop} {P : D → Prop} {g : TgD} {f : E D} {enw : En} (hst : ∀ k S, I k S → still hold S0 S = true) : ∀ (l acc : List D) (S : So) (k : Nat), (∀ d ∈ l, ∀ k S, I (k + 1) S → ∃ en1 y S', g d enw S = some en1 ∧ f en1 S = .ok y S' ∧ P y ∧ I k S') → I (k + l.length) S → acc.length + l.length ≤ sizeLine →
    ∃ ys S', compM hold S0 g tT f enw l acc S = .ok (acc ++ ys) S' ∧ I k S' ∧ ys.length = l.length ∧ ∀ y ∈ ys, P y
  | [], acc, S, k, _, hI, _ => ⟨[], S, by unfold compM; simp, hI, rfl, by simp⟩
  | d :: l, acc, S, k, h, hI, hz => by
    obtain ⟨en1, y, S', e1, e2, hP, hI'⟩ := h d (by simp) (k + l.length) S hI
    simp only [List.length_cons] at hz
    obtain ⟨ys, S2, e3, hI2, hl, hP2⟩ := comp_okN hst l (acc ++ [y]) S' k (fun d' hd => h d' (by simp [hd])) hI' (by simp; omega)
    refine ⟨y :: ys, S2, ?_, hI2, by simp [hl], by simpa using ⟨hP, hP2⟩⟩
    unfold compM
    simp only [e1, tT, e2]
    rw [if_pos ⟨by omega, hst _ S' hI'⟩, e3]
    simp
theorem for_invN {S0 : So} {g : TgD} {body : T} {J : Nat → En → So → Prop} {n : Nat} : ∀ (l : List D) (en : En) (S : So) (i : Nat), i + l.length = n → (∀ d ∈ l, ∀ i en S, i < n → J i en S → ∃ en1 en2 S2, g d en S = some en1 ∧ body en1 S = .ok (.nx en2) S2 ∧ J (i + 1) en2 S2) → J i en S → ∃ en' S', Mi.forM none S0 g body l en S = .ok (.nx en') S' ∧ J n en' S'
  | [], en, S, i, hn, _, hJ => ⟨en, S, by unfold Mi.forM; rfl, by rw [← hn]; exact hJ⟩
  | d :: l, en, S, i, hn, h, hJ => by
    simp only [List.length_cons] at hn
    obtain ⟨en1, en2, S2, e1, e2, hJ2⟩ := h d (by simp) i en S (by omega) hJ
    obtain ⟨en', S', e3, hJ3⟩ := for_invN l en2 S2 (i + 1) (by omega) (fun d' hd => h d' (by simp [hd])) hJ2
    refine ⟨en', S', ?_, hJ3⟩
    unfold Mi.forM
    simp only [e1, e2, R.bind_ok, still_none, if_true]
    exact e3
theorem put_ok {fv fo fi : E D} {en : En} {S S1 S2 S3 S4 : So} {v o i : D} (h : fv en S = .ok v S1) (k : fo en S1 = .ok o S2) (k2 : fi en S2 = .ok i S3) (e : putD o i v S3 = some S4) : sPut fv fo fi en S = .ok (.nx en) S4 := by
  unfold sPut
  rw [h, R.bind_ok, k, R.bind_ok, k2, R.bind_ok, e]
theorem throw_n {S : So} {b : Nat} (t : Int) (h : Bag S b) (ht : 0 < t) (hl : t < 10 ^ 61) : ∃ r S', m_law_throw [.ref b, .int t] S = .ok (.int r) S' ∧ Bag S' b ∧ Ch b S S' ∧ 0 ≤ r ∧ r < t := throw_bag h ht (log_int (by omega) hl)
theorem bLen_lst {l : List D} {c : Nat} {S : So} (h : S[c]? = some (some (.lst l))) : bLen [.ref c] S = some (.int l.length, S) := by
  unfold bLen
  simp only [seqOf, h]
theorem pop_ok {S : So} {c : Nat} {l : List D} {i : Int} (h : S[c]? = some (some (.lst l))) (h0 : 0 ≤ i) (h1 : i < l.length) (hz : l.length ≤ 26) : ∃ y, y ∈ l ∧ mPopAt (.ref c) [.int i] S = some (y, S.set c (some (.lst (l.eraseIdx i.toNat)))) := by
  have hi : i.toNat < l.length := by omega
  refine ⟨l[i.toNat], List.getElem_mem hi, ?_⟩
  unfold mPopAt
  simp only [cellL, h]
  rw [if_pos (by omega)]
  unfold ixN
  rw [if_pos h0, if_pos h1]
  simp only [List.getElem?_eq_getElem hi]
theorem mM_ok {T : String} {g : OpM} {fo : E D} {fa : E (List D)} {en : En} {S S1 S2 S3 : So} {d r : D} {l : List D} (h : fo en S = .ok d S1) (ty : isTyp T d S1 = true) (k : fa en S1 = .ok l S2) (e : g d l S2 = some (r, S3)) : mM T g fo fa en S = .ok r S3 := by
  unfold mM
  rw [h, R.bind_ok, if_pos ty, k, R.bind_ok, e]
  rfl
theorem len_def (x : Str) : x.length = x.cps.toList.length := by rw [Array.length_toList]; rfl
theorem app_cps (a b : Str) : (a ++ b).cps.toList = a.cps.toList ++ b.cps.toList := by
  show (a.cps ++ b.cps).toList = _
  exact Array.toList_append
theorem app_len (a b : Str) : (a ++ b).length = a.length + b.length := by
  rw [len_def, len_def, len_def, app_cps, List.length_append]
theorem not_t {f : E D} {en : En} {S S1 : So} (h : f en S = .ok (.bl true) S1) : mNot f en S = .ok (.bl false) S1 := not_ok h
theorem not_f {f : E D} {en : En} {S S1 : So} (h : f en S = .ok (.bl false) S1) : mNot f en S = .ok (.bl true) S1 := not_ok h
theorem for_all {α : Type} {S S0 : So} {g : TgD} {body : T} {ι : α → D} {p : α → Bool} {J : En → Prop} : ∀ (l : List α) (en : En), J en →
    (∀ a ∈ l, ∀ en, J en → ∃ en1, g (ι a) en S = some en1 ∧ ((p a = true ∧ ∃ en2, body en1 S = .ok (.nx en2) S ∧ J en2) ∨ (p a = false ∧ body en1 S = .ok (.rt (.bl false)) S))) →
    (l.all p = true ∧ ∃ en', Mi.forM none S0 g body (l.map ι) en S = .ok (.nx en') S ∧ J en') ∨ (l.all p = false ∧ Mi.forM none S0 g body (l.map ι) en S = .ok (.rt (.bl false)) S)
  | [], en, hJ, _ => .inl ⟨rfl, en, by unfold Mi.forM; rfl, hJ⟩
  | a :: l, en, hJ, h => by
    obtain ⟨en1, e1, h1⟩ := h a (by simp) en hJ
    rw [List.map_cons]
    unfold Mi.forM
    simp only [e1]
    rcases h1 with ⟨q, en2, e2, hJ2⟩ | ⟨q, e2⟩
    · rcases for_all (ι := ι) (p := p) l en2 hJ2 (fun a ha => h a (by simp [ha])) with ⟨x, en', y, z⟩ | ⟨x, y⟩
      · refine .inl ⟨by simp [q, x], en', ?_, z⟩
        simp only [e2, R.bind_ok, still_none, if_true]
        exact y
      · refine .inr ⟨by simp [q, x], ?_⟩
        simp only [e2, R.bind_ok, still_none, if_true]
        exact y
    · exact .inr ⟨by simp [q], by simp [e2]⟩
theorem and_bl {f g : E D} {en : En} {S : So} {a b : Bool} (h : f en S = .ok (.bl a) S) (k : g en S = .ok (.bl b) S) : mAnd f g en S = .ok (.bl (a && b)) S := by
  cases a with
  | true => exact and_t h k
  | false => exact and_f h
theorem Ch.setN {b n : Nat} {S S' : So} {x : Option Ob} (h : Ch b S S') (hn : S.length ≤ n) : Ch b S (S'.set n x) := ⟨by rw [List.length_set]; exact h.1, fun i hi nb => by rw [List.getElem?_set_ne (by omega)]; exact h.2 i hi nb⟩
theorem Bag.setN {b n : Nat} {S : So} {x : Option Ob} (h : Bag S b) (hn : n ≠ b) : Bag (S.set n x) b := by
  obtain ⟨u, v, w, e⟩ := h
  exact ⟨u, v, w, by rw [List.getElem?_set_ne hn]; exact e⟩
theorem app_okQ {S : So} {c : Nat} {l : List D} {y : D} (h : S[c]? = some (some (.lst l))) (hz : l.length < 1000) : mApp (.ref c) [y] S = some (.non, S.set c (some (.lst (l ++ [y])))) := by
  unfold mApp
  simp only [cellL, h]
  rw [if_pos (Nat.lt_of_lt_of_le hz (size_le (by decide)))]
theorem lst_typQ {S : So} {c : Nat} {l : List D} (h : S[c]? = some (some (.lst l))) : isTyp "list" (.ref c) S = true := by
  unfold isTyp
  simp only [lstOf, h]
  rfl
theorem modd {i j : Int} {S : So} (h : 0 < j) : dMod (.int i) (.int j) S = some (.int (i % j), S) := if_pos h
theorem start_ok (ns : List Int) (i : Nat) (S : So) : ∃ u v : Int, m_law_start [.scr ns, .int i] S = .ok (.ref S.length) (S ++ [some (.lst [.int u, .int v, .int 0])]) := by
  have p1 : (Builtin.Int.intBits 10 : Int) * 60 ≤ 2 ^ 27 := by decide +kernel
  have p2 : (Builtin.Int.intBits X60 : Int) * 10 ≤ 2 ^ 27 := by decide +kernel
  have p3 : (Builtin.Int.intBits 10 : Int) * 18 ≤ 2 ^ 27 := by decide +kernel
  have q3 : (0 : Int) < X60 ^ 10 := by decide +kernel
  have hl : bLen [.scr ns] S = some (.int ns.length, S) := by
    show some (D.int ((ns.map D.int).length : Nat), S) = _
    rw [List.length_map]
  obtain ⟨c, hc⟩ : ∃ c : Int, mIf (tB' (m2 dLt (mV 1) (mB bLen (aCons (mV 0) aNil)))) (m2 dIx (mV 0) (mV 1)) (m2 dAdd (m2 dMulT (mC (.int 53)) (mV 1)) (mC (.int 7))) [some (.scr ns), some (.int i), none, none, none] S = .ok (.int c) S := by
    have lt : tB' (m2 dLt (mV 1) (mB bLen (aCons (mV 0) aNil))) [some (.scr ns), some (.int i), none, none, none] S = .ok (decide ((i : Int) < ns.length)) S := tst_ok (m2_ok rfl (b_ok (one_ok rfl) hl) rfl)
    by_cases c : (i : Int) < ns.length
    · rw [decide_eq_true c] at lt
      obtain ⟨d, e, hd⟩ := atI_of (l := ns.map D.int) (r := i) (by omega) (by rw [List.length_map]; exact c)
      obtain ⟨n, _, rfl⟩ := List.mem_map.mp hd
      refine ⟨n, ife_t lt (m2_ok rfl rfl ?_)⟩
      show (atI (ns.map D.int) i).map (fun d => (d, S)) = _
      rw [e]
      rfl
    · rw [decide_eq_false c] at lt
      exact ⟨53 * i + 7, ife_f lt (m2_ok (m2_ok rfl rfl (mulT_smallL (by decide))) rfl rfl)⟩
  have a2 : dPow (.int X60) (.int 10) S = some (.int (X60 ^ 10), S) := pow_ok (by decide) p2
  have a3 : ∀ u : Int, dMod (.int u) (.int (X60 ^ 10)) S = some (.int (u % X60 ^ 10), S) := fun u => modd q3
  have e1 : m2 dMod (mB bInt (aCons (mB bAbs (aCons (mV 2) aNil)) aNil)) (m2 dPow (m2 dPow (mC (.int 10)) (mC (.int 60))) (mC (.int 10))) [some (.scr ns), some (.int i), some (.int c), none, none] S = .ok (.int ((if c < 0 then -c else c) % X60 ^ 10)) S :=
    m2_ok (b_ok (one_ok (b_ok (one_ok rfl) rfl)) rfl) (m2_ok (m2_ok rfl rfl (p60 S)) rfl a2) (a3 _)
  obtain ⟨gr, hg⟩ : ∃ g, g = (if c < 0 then -c else c) % X60 ^ 10 := ⟨_, rfl⟩
  rw [← hg] at e1
  have e2 : m2 dAdd (m2 dMulT (m2 dMod (mB bInt (aCons (mV 3) aNil)) (mC (.int 2305843009213693921))) (mC (.int 3))) (mB bInt (aCons (m2 dLt (mV 2) (mC (.int 0))) aNil)) [some (.scr ns), some (.int i), some (.int c), some (.int gr), none] S = .ok (.int (gr % 2305843009213693921 * 3 + (if decide (c < 0) = true then 1 else 0))) S :=
    m2_ok (m2_ok (m2_ok (b_ok (one_ok rfl) rfl) rfl (modd (by decide))) rfl (mulT_small (by decide))) (b_ok (one_ok (m2_ok rfl rfl rfl)) rfl) rfl
  obtain ⟨mx, hmx⟩ : ∃ mx : Int, mx = gr % 2305843009213693921 * 3 + (if decide (c < 0) = true then 1 else 0) := ⟨_, rfl⟩
  rw [← hmx] at e2
  have a18 : dPow (.int 10) (.int 18) S = some (.int (10 ^ 18), S) := pow_ok (by decide) p3
  obtain ⟨u, v, e3⟩ : ∃ u v : Int, aCons (mB bMax (aCons (mC (.int 0)) (aCons (m2 dSub (mV 3) (m2 dPow (mC (.int 10)) (mC (.int 18)))) aNil))) (aCons (m2 dMod (mB bInt (aCons (m2 dAdd (m2 dAdd (m2 dMulT (mV 4) (mC (.int 40009))) (m2 dMulT (mC (.int 7919)) (mV 1))) (mC (.int 17))) aNil)) (mC (.int 2305843009213693951))) (aCons (mC (.int 0)) aNil)) [some (.scr ns), some (.int i), some (.int c), some (.int gr), some (.int mx)] S = .ok [.int u, .int v, .int 0] S :=
    ⟨_, _, cons_ok (b_ok (cons_ok rfl (one_ok (m2_ok rfl (m2_ok rfl rfl a18) rfl))) rfl) (cons_ok (m2_ok (b_ok (one_ok (m2_ok (m2_ok (m2_ok rfl rfl (mulT_small (by decide))) (m2_ok rfl rfl (mulT_smallL (by decide))) rfl) rfl rfl)) rfl) rfl (modd (by decide))) (one_ok rfl))⟩
  refine ⟨u, v, body_rt rfl (seq_nx (set_ok hc) (seq_nx (set_ok e1) (seq_nx (set_ok e2) (ret_ok ?_))))⟩
  show mLstN _ [some (.scr ns), some (.int i), some (.int c), some (.int gr), some (.int mx)] S = _
  unfold mLstN
  rw [e3, R.bind_ok, if_pos (size_le (Nat.le_of_ble_eq_true rfl))]
end K25

namespace K25
open PySem PySem.Spec PyProof.Rows L2 Mi Dbm
def rowI (n : Nat) (f : Nat → Int) : List D := (List.range n).map fun j => .int (f j)
def MT (n : Nat) (f : Nat → Nat → Int) : D := .tup ((List.range n).map fun i => .tup (rowI n (f i)))
def ML (n : Nat) (f : Nat → Nat → Int) : D := .lst ((List.range n).map fun i => .lst (rowI n (f i)))
structure Tb (n : Nat) (f : Nat → Nat → Int) (d : D) (S : So) : Prop where
  len : bLen [d] S = some (.int n, S)
  at_ : ∀ i, i < n → ∃ r, dIx d (.int i) S = some (r, S) ∧ ∀ j, j < n → dIx r (.int j) S = some (.int (f i j), S)
theorem atI_rng {α : Type} {n i : Nat} (φ : Nat → α) (h : i < n) : atI ((List.range n).map φ) (i : Int) = some (φ i) := by
  unfold atI ixN
  rw [if_pos (by omega), List.length_map, List.length_range, if_pos (by omega)]
  simp [h]
theorem row_tup {n j : Nat} {f : Nat → Int} {S : So} (h : j < n) : dIx (.tup (rowI n f)) (.int j) S = some (.int (f j), S) := ix_tup (atI_rng _ h)
theorem row_lst {n j : Nat} {f : Nat → Int} {S : So} (h : j < n) : dIx (.lst (rowI n f)) (.int j) S = some (.int (f j), S) := ix_lst (atI_rng _ h)
theorem tb_MT {n : Nat} {f : Nat → Nat → Int} {S : So} : Tb n f (MT n f) S := ⟨by
  show some (D.int (((List.range n).map fun i => D.tup (rowI n (f i))).length : Nat), S) = _
  rw [List.length_map, List.length_range], fun i hi => ⟨_, ix_tup (atI_rng _ hi), fun j hj => row_tup hj⟩⟩
theorem tb_ML {n : Nat} {f : Nat → Nat → Int} {S : So} : Tb n f (ML n f) S := ⟨by
  show some (D.int (((List.range n).map fun i => D.lst (rowI n (f i))).length : Nat), S) = _
  rw [List.length_map, List.length_range], fun i hi => ⟨_, ix_lst (atI_rng _ hi), fun j hj => row_lst hj⟩⟩
theorem Tb.get {n : Nat} {f : Nat → Nat → Int} {d : D} {S : So} (T : Tb n f d S) {fd fi fj : E D} {en : En} {i j : Nat} (hi : i < n) (hj : j < n) (h1 : fd en S = .ok d S) (h2 : fi en S = .ok (.int i) S) (h3 : fj en S = .ok (.int j) S) :
    m2 dIx (m2 dIx fd fi) fj en S = .ok (.int (f i j)) S := by
  obtain ⟨r, e1, e2⟩ := T.at_ i hi
  exact m2_ok (m2_ok h1 h2 e1) h3 (e2 j hj)
theorem rng0 (n : Nat) : rngL 0 n = (List.range n).map fun i : Nat => D.int (i : Int) := by
  unfold rngL
  refine List.map_congr_left fun i _ => ?_
  rw [Int.zero_add]
theorem rg_n {n : Nat} {g : E (List D)} {en : En} {S : So} (h : g en S = .ok [.int (n : Int)] S) (hn : n ≤ 1000) : iRg1 g en S = .ok ⟨none, (List.range n).map fun i : Nat => D.int (i : Int)⟩ S := by
  have := rg1_ok h (by omega) (by omega)
  rw [Int.toNat_natCast, rng0] at this
  exact this
theorem cmp_rng {n : Nat} {g : E (List D)} {p : Nat} {f : E D} {vs : List Nat} {φ : Nat → D} {en : En} {S : So} (h : g en S = .ok [.int (n : Int)] S) (hn : n ≤ 1000) (k : ∀ i, i < n → ∃ en1, gN p (.int (i : Int)) (wipeE en vs) S = some en1 ∧ f en1 S = .ok (φ i) S) :
    mComp (iRg1 g) (gN p) tT f vs en S = .ok (.lst ((List.range n).map φ)) S := by
  have e := comp_mapα (hold := none) (S0 := S) (S := S) (ι := fun i : Nat => D.int (i : Int)) (φ := φ) (g := gN p) (f := f) (enw := wipeE en vs) rfl (List.range n) [] (fun i hi => k i (List.mem_range.mp hi)) (by rw [List.length_range]; simpa using size4 (by omega))
  rw [List.nil_append] at e
  exact cmp_of (rg_n h hn) e
theorem for_rng {S0 : So} {g : TgD} {body : T} {J : Nat → En → So → Prop} {ι : Nat → D} {n : Nat} : ∀ (m k : Nat) (en : En) (S : So), k + m = n → (∀ k, k < n → ∀ en S, J k en S → ∃ en1 en2 S2, g (ι k) en S = some en1 ∧ body en1 S = .ok (.nx en2) S2 ∧ J (k + 1) en2 S2) → J k en S →
    ∃ en' S', Mi.forM none S0 g body ((List.range' k m).map ι) en S = .ok (.nx en') S' ∧ J n en' S'
  | 0, k, en, S, e, _, hJ => ⟨en, S, by simp [Mi.forM], by rw [show n = k by omega]; exact hJ⟩
  | m + 1, k, en, S, e, h, hJ => by
    obtain ⟨en1, en2, S2, e1, e2, hJ2⟩ := h k (by omega) en S hJ
    rw [List.range'_succ, List.map_cons]
    unfold Mi.forM
    simp only [e1, e2, R.bind_ok, still_none, if_true]
    exact for_rng m (k + 1) en2 S2 (by omega) h hJ2
theorem for_n {S0 : So} {g : TgD} {body : T} {J : Nat → En → So → Prop} {ι : Nat → D} {n : Nat} {en : En} {S : So} (h : ∀ k, k < n → ∀ en S, J k en S → ∃ en1 en2 S2, g (ι k) en S = some en1 ∧ body en1 S = .ok (.nx en2) S2 ∧ J (k + 1) en2 S2) (hJ : J 0 en S) :
    ∃ en' S', Mi.forM none S0 g body ((List.range n).map ι) en S = .ok (.nx en') S' ∧ J n en' S' := by
  rw [List.range_eq_range']
  exact for_rng n 0 en S (by omega) h hJ
def z0 (f : Nat → Nat → Int) (i j : Nat) : Int := if i = j then mn 0 (f i j) else f i j
theorem min_ok (i j : Int) (S : So) : bMin [.int i, .int j] S = some (.int (mn i j), S) := rfl
theorem grid45 {n : Nat} {F : E D} {φ : Nat → Nat → Int} {d : D} {t k o4 o5 o6 : Option D} {S : So} (hn : n ≤ 1000) (h : ∀ i j : Nat, i < n → j < n → F [some d, some (.int (n : Int)), t, k, some (.int (i : Int)), some (.int (j : Int)), o6] S = .ok (.int (φ i j)) S) :
    mComp (iRg1 (aCons (mV 1) aNil)) (gN 4) tT (mComp (iRg1 (aCons (mV 1) aNil)) (gN 5) tT F [5]) [4] [some d, some (.int (n : Int)), t, k, o4, o5, o6] S = .ok (ML n φ) S :=
  cmp_rng (φ := fun i => .lst (rowI n (φ i))) (one_ok rfl) hn fun i hi => ⟨_, rfl, cmp_rng (φ := fun j => .int (φ i j)) (one_ok rfl) hn fun j hj => ⟨_, rfl, h i j hi hj⟩⟩
def neg (n : Nat) (g : Nat → Nat → Int) : Bool := (List.range n).any fun i => decide (g i i < 0)
theorem any_of {α : Type} (p : α → Bool) (l : List α) (S : So) : bAny [.lst (l.map fun a => D.bl (p a))] S = some (.bl (l.any p), S) := by
  unfold bAny
  simp only [lstOf, bls_map, Option.map_some]
  rw [List.any_map]
  rfl
theorem neg_iff {n : Nat} {g : Nat → Nat → Int} : neg n g = false ↔ ∀ i, i < n → 0 ≤ g i i := by
  unfold neg
  rw [List.any_eq_false]
  constructor
  · intro h i hi
    have := h i (List.mem_range.mpr hi)
    simp at this
    omega
  · intro h i hi
    have := h i (List.mem_range.mp hi)
    simp
    omega
theorem tups_ok {n : Nat} {g : Nat → Nat → Int} {d : D} {p : Nat} {f : E D} {en : En} {S : So} {l : List D} (h : f en S = .ok d S) (hd : srcOf d S = some ⟨none, (List.range n).map fun i => .lst (rowI n (g i))⟩) (hn : n ≤ 1000)
    (k : ∀ r, ∃ en1, gN p r (wipeE en [p]) S = some en1 ∧ mV p en1 S = .ok r S) : mB bTup (aCons (mComp (iSeq f) (gN p) tT (mB bTup (aCons (mV p) aNil)) [p]) aNil) en S = .ok (MT n g) S := by
  have e := comp_mapα (hold := none) (S0 := S) (S := S) (ι := fun i : Nat => D.lst (rowI n (g i))) (φ := fun i : Nat => D.tup (rowI n (g i))) (g := gN p) (f := mB bTup (aCons (mV p) aNil)) (enw := wipeE en [p]) rfl (List.range n) [] (fun i _ => by
    obtain ⟨en1, e1, e2⟩ := k (.lst (rowI n (g i)))
    exact ⟨en1, e1, b_ok (one_ok e2) rfl⟩) (by rw [List.length_range]; simpa using size4 (by omega))
  rw [List.nil_append] at e
  exact b_ok (one_ok (cmp_of (seq_src h hd) e)) rfl
theorem tightened_ok {n : Nat} {f : Nat → Nat → Int} {d : D} {S : So} (T : Tb n f d S) (hn : n ≤ 1000) : m_tightened [d] S = .ok (if neg n (fw (z0 f) n) = true then .non else MT n (fw (z0 f) n)) S := by
  have i0 : mComp (iRg1 (aCons (mV 1) aNil)) (gN 4) tT (mComp (iRg1 (aCons (mV 1) aNil)) (gN 5) tT (mIf (tB' (m2 dNe (mV 4) (mV 5))) (m2 dIx (m2 dIx (mV 0) (mV 4)) (mV 5)) (mB bMin (aCons (mC (.int 0)) (aCons (m2 dIx (m2 dIx (mV 0) (mV 4)) (mV 5)) aNil)))) [5]) [4] [some d, some (.int (n : Int)), none, none, none, none, none] S = .ok (ML n (z0 f)) S := by
    refine grid45 hn fun i j hi hj => ?_
    have q := ne_int (S := S) (i : Int) (j : Int)
    unfold z0
    by_cases c : i = j
    · rw [if_pos c]
      rw [show ((i : Int) == (j : Int)) = true by rw [beq_iff_eq]; omega] at q
      exact ife_f (tst_ok (m2_ok rfl rfl q)) (b_ok (cons_ok rfl (one_ok (T.get hi hj rfl rfl rfl))) (min_ok _ _ _))
    · rw [if_neg c]
      rw [show ((i : Int) == (j : Int)) = false by rw [beq_eq_false_iff_ne]; omega] at q
      exact ife_t (tst_ok (m2_ok rfl rfl q)) (T.get hi hj rfl rfl rfl)
  obtain ⟨en', S', e1, o3, rfl, rfl⟩ := for_n (S0 := S) (g := gN 3) (ι := fun i : Nat => D.int (i : Int)) (n := n) (en := [some d, some (.int (n : Int)), some (ML n (z0 f)), none, none, none, none]) (S := S)
    (body := sSet 2 (mComp (iRg1 (aCons (mV 1) aNil)) (gN 4) tT (mComp (iRg1 (aCons (mV 1) aNil)) (gN 5) tT (mB bMin (aCons (m2 dIx (m2 dIx (mV 2) (mV 4)) (mV 5)) (aCons (m2 dAdd (m2 dIx (m2 dIx (mV 2) (mV 4)) (mV 3)) (m2 dIx (m2 dIx (mV 2) (mV 3)) (mV 5))) aNil))) [5]) [4]))
    (J := fun k en S' => ∃ o3, en = [some d, some (.int (n : Int)), some (ML n (fw (z0 f) k)), o3, none, none, none] ∧ S' = S)
    (fun k hk en S' hJ => by
      obtain ⟨o3, rfl, rfl⟩ := hJ
      refine ⟨_, _, S', rfl, set_ok (grid45 (φ := fw (z0 f) (k + 1)) hn fun i j hi hj => ?_), some (.int (k : Int)), rfl, rfl⟩
      have T2 := tb_ML (n := n) (f := fw (z0 f) k) (S := S')
      exact b_ok (cons_ok (T2.get hi hj rfl rfl rfl) (one_ok (m2_ok (T2.get hi hk rfl rfl rfl) (T2.get hk hj rfl rfl rfl) rfl))) (min_ok _ _ _)) ⟨none, rfl, rfl⟩
  have T3 := tb_ML (n := n) (f := fw (z0 f) n) (S := S')
  have an : tTru (mB bAny (aCons (mComp (iRg1 (aCons (mV 1) aNil)) (gN 4) tT (m2 dLt (m2 dIx (m2 dIx (mV 2) (mV 4)) (mV 4)) (mC (.int 0))) [4]) aNil)) [some d, some (.int (n : Int)), some (ML n (fw (z0 f) n)), o3, none, none, none] S' = .ok (neg n (fw (z0 f) n)) S' :=
    tru_bl (b_ok (one_ok (cmp_rng (φ := fun i => .bl (decide (fw (z0 f) n i i < 0))) (one_ok rfl) hn fun i hi => ⟨_, rfl, m2_ok (T3.get hi hi rfl rfl rfl) rfl rfl⟩)) (any_of _ _ _))
  have st : ∀ (rest : Mi.T) (r : R Fl), rest [some d, some (.int (n : Int)), some (ML n (fw (z0 f) n)), o3, none, none, none] S' = r → sSeq (sSet 1 (mB bLen (aCons (mV 0) aNil)))
    (sSeq (sSet 2 (mComp (iRg1 (aCons (mV 1) aNil)) (gN 4) tT (mComp (iRg1 (aCons (mV 1) aNil)) (gN 5) tT (mIf (tB' (m2 dNe (mV 4) (mV 5))) (m2 dIx (m2 dIx (mV 0) (mV 4)) (mV 5)) (mB bMin (aCons (mC (.int 0)) (aCons (m2 dIx (m2 dIx (mV 0) (mV 4)) (mV 5)) aNil)))) [5]) [4]))
    (sSeq (sFor (iRg1 (aCons (mV 1) aNil)) (gN 3) (sSet 2 (mComp (iRg1 (aCons (mV 1) aNil)) (gN 4) tT (mComp (iRg1 (aCons (mV 1) aNil)) (gN 5) tT (mB bMin (aCons (m2 dIx (m2 dIx (mV 2) (mV 4)) (mV 5)) (aCons (m2 dAdd (m2 dIx (m2 dIx (mV 2) (mV 4)) (mV 3)) (m2 dIx (m2 dIx (mV 2) (mV 3)) (mV 5))) aNil))) [5]) [4]))) rest)) [some d, none, none, none, none, none, none] S' = r := fun rest r hr =>
    seq_nx (set_ok (b_ok (one_ok rfl) T.len)) (seq_nx (set_ok i0) (seq_nx (for_of (rg_n (one_ok rfl) hn) e1) hr))
  cases c : neg n (fw (z0 f) n) with
  | true =>
    rw [c] at an
    exact body_rt rfl (st _ _ (seq_rt (if_t an (ret_ok rfl))))
  | false =>
    rw [c] at an
    exact body_rt rfl (st _ _ (seq_nx (if_f an rfl) (ret_ok (tups_ok (l := []) rfl rfl hn fun r => ⟨_, rfl, rfl⟩))))
end K25

namespace K25
open PySem PySem.Spec PyProof.Rows L2 Mi Dbm
def kn (d : D) : Prop := d = .non ∨ (∃ b, d = .bl b) ∨ (∃ i, d = .int i) ∨ (∃ x, d = .str x) ∨ (∃ l, d = .tup l) ∨ ∃ l, d = .lst l
def isI : D → Bool
  | .int v => inR v
  | _ => false
theorem int_kn {d : D} (h : kn d) (S : So) : m_is_integer [d] S = .ok (.bl (isI d)) S := by
  rcases h with rfl | ⟨b, rfl⟩ | ⟨i, rfl⟩ | ⟨x, rfl⟩ | ⟨l, rfl⟩ | ⟨l, rfl⟩
  · exact is_integer_no (.inl rfl)
  · exact is_integer_no (.inr ⟨b, rfl⟩)
  · exact is_integer_ok i S
  · exact is_integer_no (.inl rfl)
  · exact is_integer_no (.inl rfl)
  · exact is_integer_no (.inl rfl)
theorem tup_kn {d : D} (h : kn d) : (∃ l, d = .tup l) ∨ ∀ S, isD .tup d S = some false := by
  rcases h with rfl | ⟨b, rfl⟩ | ⟨i, rfl⟩ | ⟨x, rfl⟩ | ⟨l, rfl⟩ | ⟨l, rfl⟩
  · exact .inr fun _ => rfl
  · exact .inr fun _ => rfl
  · exact .inr fun _ => rfl
  · exact .inr fun _ => rfl
  · exact .inl ⟨l, rfl⟩
  · exact .inr fun _ => rfl
def isRow (n : Nat) : D → Bool
  | .tup l => decide (l.length = n) && l.all isI
  | _ => false
def isRows : D → Bool
  | .tup l => decide (1 ≤ l.length) && (decide (l.length ≤ 13) && l.all (isRow l.length))
  | _ => false
def kr (d : D) : Prop := kn d ∧ ∀ l, d = .tup l → l.length ≤ 1000 ∧ ∀ e ∈ l, kn e
def kR (d : D) : Prop := kn d ∧ ∀ l, d = .tup l → l.length ≤ 1000 ∧ ∀ e ∈ l, kr e
theorem no_rows {d : D} (h : ∀ S, isD .tup d S = some false) : isRows d = false := by
  have := h []
  cases d with
  | tup l => cases this
  | _ => rfl
theorem no_row {n : Nat} {d : D} (h : ∀ S, isD .tup d S = some false) : isRow n d = false := by
  have := h []
  cases d with
  | tup l => cases this
  | _ => rfl
theorem are_rows_ok {d : D} (h : kR d) (S : So) : m_are_rows [d] S = .ok (.bl (isRows d)) S := by
  rcases tup_kn h.1 with ⟨l, rfl⟩ | no
  · obtain ⟨hz, hl⟩ := h.2 l rfl
    have bl : bLen [.tup l] S = some (.int l.length, S) := rfl
    have l1 : dLe (.int 1) (.int l.length) S = some (.bl (decide (1 ≤ l.length)), S) := by
      show some (D.bl (decide ((1 : Int) ≤ (l.length : Int))), S) = _
      rw [show decide ((1 : Int) ≤ (l.length : Int)) = decide (1 ≤ l.length) by rw [Bool.eq_iff_iff, decide_eq_true_eq, decide_eq_true_eq]; omega]
    have l4 : dLe (.int l.length) (.int (12 + 1)) S = some (.bl (decide (l.length ≤ 13)), S) := by
      show some (D.bl (decide ((l.length : Int) ≤ 12 + 1)), S) = _
      rw [show decide ((l.length : Int) ≤ 12 + 1) = decide (l.length ≤ 13) by rw [Bool.eq_iff_iff, decide_eq_true_eq, decide_eq_true_eq]; omega]
    have ch : mChain dLe dLe (mC (.int 1)) (mB bLen (aCons (mV 0) aNil)) (m2 dAdd (mC (.int 12)) (mC (.int 1))) [some (.tup l), none, none] S = .ok (.bl (decide (1 ≤ l.length) && decide (l.length ≤ 13))) S := by
      unfold mChain
      rw [show mC (.int 1) [some (.tup l), none, none] S = .ok (.int 1) S from rfl, R.bind_ok, b_ok (o := bLen) (l := [.tup l]) rfl bl, R.bind_ok, l1]
      cases e : decide (1 ≤ l.length) with
      | false => rfl
      | true =>
        dsimp only
        rw [show m2 dAdd (mC (.int 12)) (mC (.int 1)) [some (.tup l), none, none] S = .ok (.int (12 + 1)) S from rfl, R.bind_ok, l4]
        rfl
    show _ = R.ok (D.bl (decide (1 ≤ l.length) && (decide (l.length ≤ 13) && l.all (isRow l.length)))) S
    rw [← Bool.and_assoc]
    cases c : (decide (1 ≤ l.length) && decide (l.length ≤ 13)) with
    | false =>
      rw [c] at ch
      exact body_rt rfl (seq_rt (if_t (tor_f (tnot_t (tru_bl (is_ok rfl rfl))) (tnot_f (tst_ok ch))) (ret_ok rfl)))
    | true =>
      rw [c] at ch
      rw [Bool.true_and]
      have fa := for_all (S := S) (S0 := S) (ι := id) (p := isRow l.length) (g := gN 1) (J := fun en => ∃ o, en = [some (.tup l), o, none])
        (body := sSeq (sIf (tOr' (tNot' (tTru (mIs .tup (mV 1)))) (tB' (m2 dNe (mB bLen (aCons (mV 1) aNil)) (mB bLen (aCons (mV 0) aNil))))) (sRet (mC (.bl false))) sNil)
    (sIf (tNot' (tTru (mB bAll (aCons (mComp (iSeq (mV 1)) (gN 2) tT (mCall m_is_integer (aCons (mV 2) aNil)) [2]) aNil)))) (sRet (mC (.bl false))) sNil)) l [some (.tup l), none, none] ⟨_, rfl⟩ (fun r hr en hJ => by
          obtain ⟨o, rfl⟩ := hJ
          refine ⟨_, rfl, ?_⟩
          have hk := hl r hr
          rcases tup_kn hk.1 with ⟨k, rfl⟩ | nr
          · obtain ⟨hz2, hk2⟩ := hk.2 k rfl
            have q := ne_int (S := S) (k.length : Int) (l.length : Int)
            have e1 := comp_map (hold := none) (S0 := S) (S := S) (φ := fun e => .bl (isI e)) (g := gN 2) (f := mCall m_is_integer (aCons (mV 2) aNil)) (enw := [some (.tup l), some (.tup k), none]) rfl k []
              (fun e he => ⟨_, rfl, call_ok (one_ok rfl) (int_kn (hk2 e he) S)⟩) (by simpa using size4 (by omega))
            rw [List.nil_append] at e1
            have al : tTru (mB bAll (aCons (mComp (iSeq (mV 1)) (gN 2) tT (mCall m_is_integer (aCons (mV 2) aNil)) [2]) aNil)) [some (.tup l), some (.tup k), none] S = .ok (k.all isI) S :=
              tru_bl (b_ok (one_ok (cmp_of (src := ⟨none, k⟩) (seq_src rfl rfl) e1)) (all_of isI k S))
            show ((decide (k.length = l.length) && k.all isI) = true ∧ _) ∨ ((decide (k.length = l.length) && k.all isI) = false ∧ _)
            by_cases c2 : k.length = l.length
            · rw [show ((k.length : Int) == (l.length : Int)) = true by rw [beq_iff_eq]; omega] at q
              rw [decide_eq_true c2, Bool.true_and]
              have st : sIf (tOr' (tNot' (tTru (mIs .tup (mV 1)))) (tB' (m2 dNe (mB bLen (aCons (mV 1) aNil)) (mB bLen (aCons (mV 0) aNil))))) (sRet (mC (.bl false))) sNil [some (.tup l), some (.tup k), none] S = .ok (.nx [some (.tup l), some (.tup k), none]) S :=
                if_f (tor_f (tnot_t (tru_bl (is_ok rfl rfl))) (tst_ok (m2_ok (b_ok (one_ok rfl) rfl) (b_ok (one_ok rfl) bl) q))) rfl
              cases c3 : k.all isI with
              | true =>
                rw [c3] at al
                exact .inl ⟨rfl, _, seq_nx st (if_f (tnot_t al) rfl), _, rfl⟩
              | false =>
                rw [c3] at al
                exact .inr ⟨rfl, seq_nx st (if_t (tnot_f al) (ret_ok rfl))⟩
            · rw [show ((k.length : Int) == (l.length : Int)) = false by rw [beq_eq_false_iff_ne]; omega] at q
              rw [decide_eq_false c2]
              exact .inr ⟨rfl, seq_rt (if_t (tor_f (tnot_t (tru_bl (is_ok rfl rfl))) (tst_ok (m2_ok (b_ok (one_ok rfl) rfl) (b_ok (one_ok rfl) bl) q))) (ret_ok rfl))⟩
          · exact .inr ⟨no_row nr, seq_rt (if_t (tor_t (tnot_f (tru_bl (is_ok rfl (nr S))))) (ret_ok rfl))⟩)
      rw [List.map_id] at fa
      have st : sIf (tOr' (tNot' (tTru (mIs .tup (mV 0)))) (tNot' (tB' (mChain dLe dLe (mC (.int 1)) (mB bLen (aCons (mV 0) aNil)) (m2 dAdd (mC (.int 12)) (mC (.int 1))))))) (sRet (mC (.bl false))) sNil [some (.tup l), none, none] S = .ok (.nx [some (.tup l), none, none]) S :=
        if_f (tor_f (tnot_t (tru_bl (is_ok rfl rfl))) (tnot_t (tst_ok ch))) rfl
      rcases fa with ⟨a, en', f, o, rfl⟩ | ⟨a, f⟩
      · rw [a]
        exact body_rt rfl (seq_nx st (seq_nx (for_of (src := ⟨none, l⟩) (seq_src rfl rfl) f) (ret_ok rfl)))
      · rw [a]
        exact body_rt rfl (seq_nx st (seq_rt (for_of (src := ⟨none, l⟩) (seq_src rfl rfl) f)))
  · rw [no_rows no]
    exact body_rt rfl (seq_rt (if_t (tor_t (tnot_f (tru_bl (is_ok rfl (no S))))) (ret_ok rfl)))
theorem rowI_kn {n : Nat} {f : Nat → Int} : ∀ e ∈ rowI n f, kn e := fun e he => by
  obtain ⟨j, _, rfl⟩ := List.mem_map.mp he
  exact .inr (.inr (.inl ⟨_, rfl⟩))
theorem rowI_len {n : Nat} {f : Nat → Int} : (rowI n f).length = n := by unfold rowI; rw [List.length_map, List.length_range]
theorem row_kr {n : Nat} {f : Nat → Int} (hn : n ≤ 1000) : kr (.tup (rowI n f)) := ⟨.inr (.inr (.inr (.inr (.inl ⟨_, rfl⟩)))), fun l e => by
  cases e
  exact ⟨by rw [rowI_len]; exact hn, rowI_kn⟩⟩
theorem MT_kR {n : Nat} {f : Nat → Nat → Int} (hn : n ≤ 1000) : kR (MT n f) := ⟨.inr (.inr (.inr (.inr (.inl ⟨_, rfl⟩)))), fun l e => by
  cases e
  refine ⟨by rw [List.length_map, List.length_range]; exact hn, fun r hr => ?_⟩
  obtain ⟨i, _, rfl⟩ := List.mem_map.mp hr
  exact row_kr hn⟩
theorem row_isRow {n : Nat} {f : Nat → Int} (h : ∀ j, j < n → inR (f j) = true) : isRow n (.tup (rowI n f)) = true := by
  show (decide ((rowI n f).length = n) && (rowI n f).all isI) = true
  rw [rowI_len, decide_eq_true rfl, Bool.true_and, List.all_eq_true]
  intro e he
  obtain ⟨j, hj, rfl⟩ := List.mem_map.mp he
  exact h j (List.mem_range.mp hj)
theorem MT_rows {n : Nat} {f : Nat → Nat → Int} (h1 : 1 ≤ n) (h2 : n ≤ 13) (h : ∀ i j, i < n → j < n → inR (f i j) = true) : isRows (MT n f) = true := by
  show (decide (1 ≤ ((List.range n).map fun i => D.tup (rowI n (f i))).length) && (decide (((List.range n).map fun i => D.tup (rowI n (f i))).length ≤ 13) && ((List.range n).map fun i => D.tup (rowI n (f i))).all (isRow ((List.range n).map fun i => D.tup (rowI n (f i))).length))) = true
  rw [List.length_map, List.length_range, decide_eq_true h1, decide_eq_true h2, Bool.true_and, Bool.true_and, List.all_eq_true]
  intro e he
  obtain ⟨i, hi, rfl⟩ := List.mem_map.mp he
  exact row_isRow fun j hj => h i j (List.mem_range.mp hi) hj
def BD (n : Nat) (g : Nat → Nat → Int) : D := .ins "Bounds" ["own_rows"] [MT n g]
abbrev bad1 (x : Str) : Ex := ⟨x, [], []⟩
abbrev bInv : Ex := ⟨"InvalidBounds", [], []⟩
theorem sfput_ok {f : Str} {fv fo : E D} {en : En} {S : So} {n : Nat} {c : Str} {ks : List Str} {l : List D} {v : D} (h : fv en S = .ok v S) (k : fo en S = .ok (.ref n) S) (e : S[n]? = some (some (.ins c ks l))) (hk : ks.contains f = false ∧ ks.length < 1000) :
    sFput f fv fo en S = .ok (.nx en) (S.set n (some (.ins c (ks ++ [f]) (l ++ [v])))) := by
  unfold sFput
  rw [h, R.bind_ok, k, R.bind_ok]
  dsimp only
  rw [e]
  exact if_pos hk
theorem init_bad {d : D} {S : So} {k : Nat} (h : kR d) (hr : isRows d = false) : m_Bounds_init [.ref k, d] S = .err bInv [] S := by
  have a := are_rows_ok h S
  rw [hr] at a
  exact body_err rfl (seq_err (if_t (tnot_f (tru_bl (call_ok (one_ok rfl) a))) rfl))
theorem init_ok {n : Nat} {f : Nat → Nat → Int} {d : D} {S : So} {k : Nat} (h : kR d) (hr : isRows d = true) (T : Tb n f d S) (hn : n ≤ 1000) (hk : S[k]? = some (some (.ins "Bounds" [] []))) :
    m_Bounds_init [.ref k, d] S = if neg n (fw (z0 f) n) = true then .err bInv [] S else .ok .non (S.set k (some (.ins "Bounds" ["own_rows"] [MT n (fw (z0 f) n)]))) := by
  have a := are_rows_ok h S
  rw [hr] at a
  have t := tightened_ok T hn
  have st : sIf (tNot' (tTru (mCall m_are_rows (aCons (mV 1) aNil)))) (sRs1 ("InvalidBounds" : Str)) sNil [some (.ref k), some d, none] S = .ok (.nx [some (.ref k), some d, none]) S := if_f (tnot_t (tru_bl (call_ok (one_ok rfl) a))) rfl
  split
  · rename_i c
    rw [if_pos c] at t
    exact body_err rfl (seq_nx st (seq_nx (set_ok (call_ok (one_ok rfl) t)) (seq_err (if_t (tst_ok (m2_ok rfl rfl rfl)) rfl))))
  · rename_i c
    rw [if_neg c] at t
    exact body_nx rfl (seq_nx st (seq_nx (set_ok (call_ok (one_ok rfl) t)) (seq_nx (if_f (tst_ok (m2_ok rfl rfl rfl)) rfl) (sfput_ok rfl rfl hk (by decide)))))
theorem made_bad {d : D} {S : So} {en : En} (h : kR d) (hr : isRows d = false) : madeM S.length en (m_Bounds_init [.ref S.length, d] (S ++ [some (.ins "Bounds" [] [])])) = .err bInv en (S ++ [some (.ins "Bounds" [] [])]) := by
  rw [init_bad h hr]
  rfl
theorem made_ok {n : Nat} {f : Nat → Nat → Int} {d : D} {S : So} {en : En} (h : kR d) (hr : isRows d = true) (T : ∀ S, Tb n f d S) (hn : n ≤ 1000) :
    madeM S.length en (m_Bounds_init [.ref S.length, d] (S ++ [some (.ins "Bounds" [] [])])) = if neg n (fw (z0 f) n) = true then .err bInv en (S ++ [some (.ins "Bounds" [] [])]) else .ok (BD n (fw (z0 f) n)) (S ++ [none]) := by
  rw [init_ok h hr (T _) hn app_at]
  split
  · rfl
  · have e : (S ++ [some (Ob.ins "Bounds" [] [])]).set S.length (some (.ins "Bounds" ["own_rows"] [MT n (fw (z0 f) n)])) = S ++ [some (.ins "Bounds" ["own_rows"] [MT n (fw (z0 f) n)])] := by
      rw [List.set_append_right _ _ (Nat.le_refl _)]
      simp
    rw [e]
    show R.ok (frz (.ref S.length) _).1 (frz (.ref S.length) _).2 = _
    have f1 : frz (.ref S.length) (S ++ [some (Ob.ins "Bounds" ["own_rows"] [MT n (fw (z0 f) n)])]) = (BD n (fw (z0 f) n), S ++ [none]) := by
      unfold frz
      simp only [app_at]
      rw [List.set_append_right _ _ (Nat.le_refl _)]
      simp [BD]
    rw [f1]
theorem mk_ok {n : Nat} {f : Nat → Nat → Int} {d : D} {S S1 : So} {en : En} {fe : E D} (e : fe en S = .ok d S1) (h : kR d) (hr : isRows d = true) (T : ∀ S, Tb n f d S) (hn : n ≤ 1000) (hg : neg n (fw (z0 f) n) = false) :
    mMake "Bounds" m_Bounds_init G1 1 0 (aCons fe aNil) aNil en S = .ok (BD n (fw (z0 f) n)) (S1 ++ [none]) := by
  unfold mMake
  rw [one_ok e, R.bind_ok, nil_ok, R.bind_ok, if_pos ⟨rfl, rfl⟩]
  have := made_ok (S := S1) (en := en) h hr T hn
  rw [if_neg (by rw [hg]; decide)] at this
  exact this
theorem mk_err {n : Nat} {f : Nat → Nat → Int} {d : D} {S S1 : So} {en : En} {fe : E D} (e : fe en S = .ok d S1) (h : kR d) (hr : isRows d = false ∨ ((∀ S, Tb n f d S) ∧ n ≤ 1000 ∧ neg n (fw (z0 f) n) = true ∧ isRows d = true)) :
    mMake "Bounds" m_Bounds_init G1 1 0 (aCons fe aNil) aNil en S = .err bInv en (S1 ++ [some (.ins "Bounds" [] [])]) := by
  unfold mMake
  rw [one_ok e, R.bind_ok, nil_ok, R.bind_ok, if_pos ⟨rfl, rfl⟩]
  rcases hr with hr | ⟨T, hn, hg, hr⟩
  · exact made_bad h hr
  · have := made_ok (S := S1) (en := en) h hr T hn
    rw [if_pos hg] at this
    exact this
theorem try_ok {b : Mi.T} {cs : List Mi.Ch} {en : En} {S S' : So} {fl : Fl} (h : b en S = .ok fl S') : sTry b cs en S = .ok fl S' := by
  unfold sTry
  rw [h]
theorem try_err {b : Mi.T} {cs : List Mi.Ch} {en en' : En} {S S' : So} {x : Ex} (h : b en S = .err x en' S') : sTry b cs en S = sTryGo cs x en' S' := by
  unfold sTry
  rw [h]
end K25

namespace K25
open PySem PySem.Spec PyProof.Rows L2 Mi Dbm
theorem zipR (n : Nat) (A B : Nat → D) : (((List.range n).map A).zip ((List.range n).map B)).map (fun p => D.tup [p.1, p.2]) = (List.range n).map fun i => D.tup [A i, B i] := by
  rw [List.zip_map', List.map_map]
  rfl
theorem zipT_ok {n : Nat} {A B : Nat → D} {f g : E D} {en : En} {S : So} (h1 : f en S = .ok (.tup ((List.range n).map A)) S) (h2 : g en S = .ok (.tup ((List.range n).map B)) S) : iZipT (aCons f (aCons g aNil)) en S = .ok ⟨none, (List.range n).map fun i => D.tup [A i, B i]⟩ S := by
  unfold iZipT
  rw [cons_ok h1 (one_ok h2), R.bind_ok]
  show R.ok (⟨none, (((List.range n).map A).zip ((List.range n).map B)).map fun p => .tup [p.1, p.2]⟩ : Src) S = _
  rw [zipR]
theorem cmp_src {n : Nat} {fi : E Src} {g : TgD} {f : E D} {vs : List Nat} {ι φ : Nat → D} {en : En} {S : So} (h : fi en S = .ok ⟨none, (List.range n).map ι⟩ S) (hn : n ≤ 1000) (k : ∀ i, i < n → ∃ en1, g (ι i) (wipeE en vs) S = some en1 ∧ f en1 S = .ok (φ i) S) :
    mComp fi g tT f vs en S = .ok (.lst ((List.range n).map φ)) S := by
  have e := comp_mapα (hold := none) (S0 := S) (S := S) (ι := ι) (φ := φ) (g := g) (f := f) (enw := wipeE en vs) rfl (List.range n) [] (fun i hi => k i (List.mem_range.mp hi)) (by rw [List.length_range]; simpa using size4 (by omega))
  rw [List.nil_append] at e
  exact cmp_of h e
theorem met_ok {n : Nat} {g h : Nat → Nat → Int} {S : So} (hn : n ≤ 1000) : m_met_in [MT n g, MT n h] S = .ok (if neg n (fw (z0 fun i j => mn (g i j) (h i j)) n) = true then .non else MT n (fw (z0 fun i j => mn (g i j) (h i j)) n)) S := by
  have t := tightened_ok (n := n) (tb_ML (n := n) (f := fun i j => mn (g i j) (h i j)) (S := S)) hn
  refine body_rt rfl (ret_ok (call_ok (one_ok ?_) t))
  exact cmp_src (φ := fun i => .lst (rowI n fun j => mn (g i j) (h i j))) (zipT_ok (A := fun i => .tup (rowI n (g i))) (B := fun i => .tup (rowI n (h i))) rfl rfl) hn fun i hi =>
    ⟨_, rfl, cmp_src (φ := fun j => .int (mn (g i j) (h i j))) (zipT_ok (A := fun j => .int (g i j)) (B := fun j => .int (h i j)) rfl rfl) hn fun j hj => ⟨_, rfl, b_ok (cons_ok rfl (one_ok rfl)) (min_ok _ _ _)⟩⟩
theorem isO_ok {n : Str} {f : E D} {en : En} {S S1 : So} {d : D} (h : f en S = .ok d S1) (e : isOwn d S1 = some n) : mIsO n f en S = .ok (.bl true) S1 := by
  unfold mIsO
  rw [h, R.bind_ok]
  simp [e]
theorem and_ok {n : Nat} {g h : Nat → Nat → Int} {S : So} (hn : n ≤ 1000) (m : Nat → Nat → Int) (hm : m = fun i j => mn (g i j) (h i j)) (hr : neg n (fw (z0 m) n) = false → isRows (MT n (fw (z0 m) n)) = true ∧ neg n (fw (z0 (fw (z0 m) n)) n) = false) :
    ∃ S', m_Bounds_and [BD n g, BD n h] S = .ok (if neg n (fw (z0 m) n) = true then .non else BD n (fw (z0 (fw (z0 m) n)) n)) S' ∧ (S' = S ∨ S' = S ++ [none]) := by
  subst hm
  have t := met_ok (g := g) (h := h) (S := S) hn
  have q := ne_int (S := S) (n : Int) (n : Int)
  rw [beq_self_eq_true] at q
  have st : sIf (tOr' (tNot' (tTru (mIsO "Bounds" (mV 1)))) (tB' (m2 dNe (mB bLen (aCons (mFld ("own_rows" : Str) (mV 1)) aNil)) (mB bLen (aCons (mFld ("own_rows" : Str) (mV 0)) aNil))))) (sRs1 ("InvalidOperation" : Str)) sNil [some (BD n g), some (BD n h), none] S = .ok (.nx [some (BD n g), some (BD n h), none]) S :=
    if_f (tor_f (tnot_t (tru_bl (isO_ok rfl rfl))) (tst_ok (m2_ok (b_ok (one_ok (fld_ok rfl rfl)) tb_MT.len) (b_ok (one_ok (fld_ok rfl rfl)) tb_MT.len) q))) rfl
  cases c : neg n (fw (z0 fun i j => mn (g i j) (h i j)) n) with
  | true =>
    rw [c] at t
    exact ⟨S, body_rt rfl (seq_nx st (seq_nx (set_ok (call_ok (cons_ok (fld_ok rfl rfl) (one_ok (fld_ok rfl rfl))) t)) (ret_ok (ife_t (tst_ok (m2_ok rfl rfl rfl)) rfl)))), .inl rfl⟩
  | false =>
    rw [c] at t
    obtain ⟨h1, h2⟩ := hr c
    exact ⟨S ++ [none], body_rt rfl (seq_nx st (seq_nx (set_ok (call_ok (cons_ok (fld_ok rfl rfl) (one_ok (fld_ok rfl rfl))) t)) (ret_ok (ife_f (tst_ok (m2_ok rfl rfl rfl)) (mk_ok rfl (MT_kR hn) h1 (fun S => tb_MT) hn h2))))), .inr rfl⟩
theorem rep0 (n : Nat) (d : D) : (List.replicate n [d]).flatten = (List.range n).map fun _ => d := by
  induction n with
  | zero => rfl
  | succ n ih => rw [List.replicate_succ, List.flatten_cons, ih, List.range_succ_eq_map, List.map_cons, List.map_map]; rfl
theorem mulT_one {d : D} {S : So} {k : Nat} (h1 : 1 ≤ k) (h2 : k ≤ 1000) : dMulT (.tup [d]) (.int (k : Int)) S = some (.tup ((List.range k).map fun _ => d), S) := by
  by_cases c : k = 1
  · subst c
    rfl
  · have e : dMulT (.tup [d]) (.int (k : Int)) S = dMul (.tup [d]) (.int (k : Int)) S := by
      unfold dMulT
      split
      · rename_i e2
        have := D.int.inj e2
        omega
      · rename_i e2
        have := D.int.inj e2
        omega
      · rfl
    rw [e]
    show (if [d] ≠ [] ∧ 2 ≤ (k : Int) ∧ (k : Int) ≤ 1000 ∧ [d].length ≤ 1000 then some (D.tup (List.replicate (k : Int).toNat [d]).flatten, S) else none) = _
    rw [if_pos ⟨by simp, by omega, by omega, by simp⟩, Int.toNat_natCast, rep0]
def zer (_ _ : Nat) : Int := 0
theorem MT_zer (n : Nat) : MT n zer = .tup ((List.range n).map fun _ => .tup ((List.range n).map fun _ => .int 0)) := rfl
theorem zeros_ok {f : E D} {en : En} {S : So} {m : Nat} (h : f en S = .ok (.int (m : Int)) S) (hm : m ≤ 900) : m2 dMulT (mTup (aCons (m2 dMulT (mTup (aCons (mC (.int 0)) aNil)) (m2 dAdd f (mC (.int 1)))) aNil)) (m2 dAdd f (mC (.int 1))) en S = .ok (MT (m + 1) zer) S := by
  have z1 : (1 : Nat) ≤ sizeLine := size4 (by decide)
  have a : m2 dAdd f (mC (.int 1)) en S = .ok (.int ((m + 1 : Nat) : Int)) S := by
    refine m2_ok h rfl ?_
    show some (D.int ((m : Int) + 1), S) = _
    rw [show (m : Int) + 1 = ((m + 1 : Nat) : Int) by omega]
  exact m2_ok (tup_ok (one_ok (m2_ok (tup_ok (one_ok rfl) z1) a (mulT_one (by omega) (by omega)))) z1) a (mulT_one (by omega) (by omega))
theorem z0_zer : z0 zer = zer := by
  funext i j
  unfold z0 zer mn
  split <;> rfl
theorem fw_zer : ∀ k, fw zer k = zer
  | 0 => rfl
  | k + 1 => by
    funext i j
    show mn (fw zer k i j) (fw zer k i k + fw zer k k j) = 0
    rw [fw_zer k]
    rfl
theorem neg_zer (n : Nat) : neg n zer = false := neg_iff.mpr fun _ _ => Int.le_refl 0
theorem zer_rows {m : Nat} (hm : m ≤ 12) : isRows (MT (m + 1) zer) = true := MT_rows (by omega) (by omega) fun _ _ _ _ => by
  show inR 0 = true
  decide +kernel
theorem zero_ok {m : Nat} {S : So} (hm : m ≤ 12) : m_Bounds_zero [.cls "Bounds", .int (m : Int)] S = .ok (BD (m + 1) zer) (S ++ [none]) := by
  have i := is_integer_ok (m : Int) S
  have hx : (13 : Int) < X60 := by decide
  rw [show inR (m : Int) = true by rw [inR_iff]; constructor <;> omega] at i
  have ch : mChain dLe dLe (mC (.int 0)) (mV 1) (mC (.int 12)) [some (.cls "Bounds"), some (.int (m : Int))] S = .ok (.bl true) S := by
    unfold mChain
    rw [show mC (.int 0) [some (.cls "Bounds"), some (.int (m : Int))] S = .ok (.int 0) S from rfl, R.bind_ok, show mV 1 [some (.cls "Bounds"), some (.int (m : Int))] S = .ok (.int (m : Int)) S from rfl, R.bind_ok]
    have l1 : dLe (.int 0) (.int (m : Int)) S = some (.bl true, S) := by
      show some (D.bl (decide ((0 : Int) ≤ (m : Int))), S) = _
      rw [decide_eq_true (by omega)]
    have l2 : dLe (.int (m : Int)) (.int 12) S = some (.bl true, S) := by
      show some (D.bl (decide ((m : Int) ≤ 12)), S) = _
      rw [decide_eq_true (by omega)]
    rw [l1]
    dsimp only
    rw [show mC (.int 12) [some (.cls "Bounds"), some (.int (m : Int))] S = .ok (.int 12) S from rfl, R.bind_ok, l2]
    rfl
  have mk := mk_ok (n := m + 1) (f := zer) (fe := m2 dMulT (mTup (aCons (m2 dMulT (mTup (aCons (mC (.int 0)) aNil)) (m2 dAdd (mV 1) (mC (.int 1)))) aNil)) (m2 dAdd (mV 1) (mC (.int 1)))) (en := [some (.cls "Bounds"), some (.int (m : Int))]) (S := S) (zeros_ok rfl (by omega)) (MT_kR (by omega)) (zer_rows hm) (fun S => tb_MT) (by omega) (by rw [z0_zer, fw_zer]; exact neg_zer _)
  rw [z0_zer, fw_zer] at mk
  refine body_rt rfl (seq_nx (if_f (tor_f (tnot_t (tru_bl (call_ok (one_ok rfl) i))) (tnot_t (tst_ok ch))) rfl) (ret_ok ?_))
  show mMakeV _ _ _ _ _ _ [some (.cls "Bounds"), some (.int (m : Int))] S = _
  unfold mMakeV
  rw [show mV 0 [some (.cls "Bounds"), some (.int (m : Int))] S = .ok (.cls "Bounds") S from rfl, R.bind_ok]
  dsimp only
  rw [if_pos rfl]
  exact mk
def z12 : D → Bool
  | .int v => inR v && (decide (0 ≤ v) && decide (v ≤ 12))
  | _ => false
theorem zero_no {d : D} {S : So} (h : kn d) (hz : z12 d = false) : m_Bounds_zero [.cls "Bounds", d] S = .err ⟨"InvalidNumber", ["value"], [d]⟩ [] S := by
  have i := int_kn h S
  cases c : isI d with
  | false =>
    rw [c] at i
    exact body_err rfl (seq_err (if_t (tor_t (tnot_f (tru_bl (call_ok (one_ok rfl) i)))) rfl))
  | true =>
    rw [c] at i
    obtain ⟨v, rfl⟩ : ∃ v, d = .int v := by
      cases d <;> first | exact ⟨_, rfl⟩ | (cases c)
    have cv : inR v = true := c
    have hz : (inR v && (decide (0 ≤ v) && decide (v ≤ 12))) = false := hz
    rw [cv, Bool.true_and] at hz
    have ch : mChain dLe dLe (mC (.int 0)) (mV 1) (mC (.int 12)) [some (.cls "Bounds"), some (.int v)] S = .ok (.bl (decide (0 ≤ v) && decide (v ≤ 12))) S := by
      unfold mChain
      rw [show mC (.int 0) [some (.cls "Bounds"), some (.int v)] S = .ok (.int 0) S from rfl, R.bind_ok, show mV 1 [some (.cls "Bounds"), some (.int v)] S = .ok (.int v) S from rfl, R.bind_ok]
      have l1 : dLe (.int 0) (.int v) S = some (.bl (decide (0 ≤ v)), S) := rfl
      have l2 : dLe (.int v) (.int 12) S = some (.bl (decide (v ≤ 12)), S) := rfl
      rw [l1]
      cases e : decide (0 ≤ v) with
      | false => rfl
      | true =>
        dsimp only
        rw [show mC (.int 12) [some (.cls "Bounds"), some (.int v)] S = .ok (.int 12) S from rfl, R.bind_ok, l2]
        rfl
    rw [hz] at ch
    exact body_err rfl (seq_err (if_t (tor_f (tnot_t (tru_bl (call_ok (one_ok rfl) i))) (tnot_f (tst_ok ch))) rfl))
theorem same_int (k : Nat) (v : Int) (S : So) : m_law_same (k + 1) [.int v, .int v] S = .ok (.bl true) S := by
  have q := eq_int (S := S) v v
  rw [beq_self_eq_true] at q
  exact body_rt rfl (seq_nx (if_f (tor_f (tru_bl (is_ok rfl rfl)) (tru_bl (is_ok rfl rfl))) rfl) (ret_ok (and_t (is_ok rfl rfl) (and_t (not_f (is_ok rfl rfl)) (m2_ok rfl rfl q)))))
theorem same_tup {k : Nat} {l : List D} {S : So} (hz : l.length < 1000000) (h : ∀ d ∈ l, m_law_same k [d, d] S = .ok (.bl true) S) : m_law_same (k + 1) [.tup l, .tup l] S = .ok (.bl true) S := by
  have hl : (rngL 0 l.length).length = l.length := by simp [rngL]
  have e4 := comp_map (hold := none) (S0 := S) (S := S) (φ := fun _ => .bl true) (g := gN 2) (f := mCall (m_law_same k) (aCons (m2 dIx (mV 0) (mV 2)) (aCons (m2 dIx (mV 1) (mV 2)) aNil))) (enw := [some (.tup l), some (.tup l), none]) rfl (rngL 0 l.length) []
    (fun d hd => by
      obtain ⟨i, hi, rfl⟩ := List.mem_map.mp hd
      have hi' : i < l.length := List.mem_range.mp hi
      refine ⟨_, rfl, ?_⟩
      obtain ⟨d, ed, hd⟩ := atI_of (l := l) (r := (0 : Int) + (i : Int)) (by omega) (by omega)
      exact call_ok (cons_ok (m2_ok rfl rfl (ix_tup ed)) (one_ok (m2_ok rfl rfl (ix_tup ed)))) (h d hd)) (by rw [hl]; simpa using size4 (by omega))
  rw [List.nil_append] at e4
  have e5 : mComp (iRg1 (aCons (mB bLen (aCons (mV 0) aNil)) aNil)) (gN 2) tT (mCall (m_law_same k) (aCons (m2 dIx (mV 0) (mV 2)) (aCons (m2 dIx (mV 1) (mV 2)) aNil))) [2] [some (.tup l), some (.tup l), none] S = .ok (.lst ((rngL 0 l.length).map fun _ => .bl true)) S :=
    cmp_of (rg_len (l := l) hz (one_ok (b_ok (one_ok rfl) rfl))) e4
  have ha : bAll [.lst ((rngL 0 l.length).map fun _ => .bl true)] S = some (.bl true, S) := by
    rw [all_of (fun _ => true)]
    simp
  have q := ne_int (S := S) (l.length : Int) (l.length : Int)
  rw [beq_self_eq_true] at q
  exact body_rt rfl (seq_rt (if_t (tor_t (tru_bl (is_ok rfl rfl))) (seq_nx (if_f (tor_f (tnot_t (tru_bl (is_ok rfl rfl))) (tor_f (tnot_t (tru_bl (is_ok rfl rfl))) (tst_ok (m2_ok (b_ok (one_ok rfl) rfl) (b_ok (one_ok rfl) rfl) q)))) rfl) (ret_ok (b_ok (one_ok e5) ha)))))
theorem same_row {n : Nat} {f : Nat → Int} {S : So} (hn : n ≤ 1000) (k : Nat) : m_law_same (k + 2) [.tup (rowI n f), .tup (rowI n f)] S = .ok (.bl true) S :=
  same_tup (by rw [rowI_len]; omega) fun d hd => by
    obtain ⟨j, _, rfl⟩ := List.mem_map.mp hd
    exact same_int k _ S
theorem same_MT {n : Nat} {f : Nat → Nat → Int} {S : So} (hn : n ≤ 1000) : m_law_same 4 [MT n f, MT n f] S = .ok (.bl true) S :=
  same_tup (by rw [List.length_map, List.length_range]; omega) fun d hd => by
    obtain ⟨i, _, rfl⟩ := List.mem_map.mp hd
    exact same_row hn 1
theorem MT_congr {n : Nat} {f g : Nat → Nat → Int} (h : ∀ i j, i < n → j < n → f i j = g i j) : MT n f = MT n g := by
  unfold MT
  congr 1
  refine List.map_congr_left fun i hi => ?_
  congr 1
  unfold rowI
  refine List.map_congr_left fun j hj => ?_
  rw [h i j (List.mem_range.mp hi) (List.mem_range.mp hj)]
end K25

namespace K25
open PySem PySem.Spec PyProof.Rows L2 Mi Dbm
def fu (l : List Int) (k : Nat) : Int := (0 :: l).getD k 0
def Sat (n : Nat) (f : Nat → Nat → Int) (l : List Int) : Prop := ∀ i j, i < n → j < n → fu l i - fu l j ≤ f i j
def heldB (n : Nat) (f : Nat → Nat → Int) (l : List Int) : Bool := (List.range n).all fun i => (List.range n).all fun j => decide (fu l i - fu l j ≤ f i j)
theorem held_iff {n : Nat} {f : Nat → Nat → Int} {l : List Int} : heldB n f l = true ↔ Sat n f l := by
  unfold heldB Sat
  rw [List.all_eq_true]
  constructor
  · intro h i j hi hj
    have := h i (List.mem_range.mpr hi)
    rw [List.all_eq_true] at this
    exact of_decide_eq_true (this j (List.mem_range.mpr hj))
  · intro h i hi
    rw [List.all_eq_true]
    intro j hj
    exact decide_eq_true (h i j (List.mem_range.mp hi) (List.mem_range.mp hj))
def grid : Nat → List (List Int)
  | 0 => [[]]
  | m + 1 => (grid m).flatMap fun p => (List.range 6).map fun x : Nat => p ++ [(x : Int) - 2]
def Gr (m : Nat) (l : List Int) : Prop := l.length = m ∧ ∀ x ∈ l, -2 ≤ x ∧ x ≤ 3
theorem mem_grid : ∀ {m : Nat} {l : List Int}, l ∈ grid m ↔ Gr m l
  | 0, l => by
    unfold grid Gr
    constructor
    · intro h
      rw [List.mem_singleton.mp h]
      exact ⟨rfl, fun x hx => by cases hx⟩
    · intro h
      rw [List.eq_nil_of_length_eq_zero h.1]
      exact List.mem_singleton.mpr rfl
  | m + 1, l => by
    unfold grid
    rw [List.mem_flatMap]
    constructor
    · rintro ⟨p, hp, hl⟩
      obtain ⟨x, hx, rfl⟩ := List.mem_map.mp hl
      have := mem_grid.mp hp
      have h6 := List.mem_range.mp hx
      refine ⟨by rw [List.length_append, this.1]; rfl, fun y hy => ?_⟩
      rcases List.mem_append.mp hy with hy | hy
      · exact this.2 y hy
      · rw [List.mem_singleton.mp hy]
        omega
    · rintro ⟨h1, h2⟩
      have hne : l ≠ [] := by intro e; rw [e] at h1; cases h1
      have hx := h2 _ (List.getLast_mem hne)
      refine ⟨l.dropLast, mem_grid.mpr ⟨by rw [List.length_dropLast]; omega, fun y hy => h2 y (List.dropLast_subset _ hy)⟩, List.mem_map.mpr ⟨(l.getLast hne + 2).toNat, List.mem_range.mpr (by omega), ?_⟩⟩
      have : (((l.getLast hne + 2).toNat : Nat) : Int) - 2 = l.getLast hne := by omega
      rw [this, List.dropLast_concat_getLast]
theorem fu_zero (l : List Int) : fu l 0 = 0 := rfl
theorem fu_succ (l : List Int) (k : Nat) : fu l (k + 1) = l.getD k 0 := rfl
theorem fu_mem {l : List Int} {k : Nat} (h : k < l.length) : fu l (k + 1) ∈ l := by
  rw [fu_succ, List.getD_eq_getElem?_getD, List.getElem?_eq_getElem h]
  exact List.getElem_mem h
structure Box (m : Nat) (f : Nat → Nat → Int) : Prop where
  hi : ∀ k, k < m + 1 → f k 0 ≤ 3
  lo : ∀ k, k < m + 1 → f 0 k ≤ 2
theorem Box.gr {m : Nat} {f : Nat → Nat → Int} (B : Box m f) {l : List Int} (hl : l.length = m) (h : Sat (m + 1) f l) : Gr m l := ⟨hl, fun x hx => by
  obtain ⟨k, hk, rfl⟩ := List.mem_iff_getElem.mp hx
  have e : fu l (k + 1) = l[k] := by rw [fu_succ, List.getD_eq_getElem?_getD, List.getElem?_eq_getElem hk]; rfl
  have h1 := h (k + 1) 0 (by omega) (by omega)
  have h2 := h 0 (k + 1) (by omega) (by omega)
  have b1 := B.hi (k + 1) (by omega)
  have b2 := B.lo (k + 1) (by omega)
  rw [fu_zero, e] at h1 h2
  omega⟩
def pts (m : Nat) (f : Nat → Nat → Int) : List (List Int) := (grid m).filter (heldB (m + 1) f)
theorem mem_pts {m : Nat} {f : Nat → Nat → Int} {l : List Int} : l ∈ pts m f ↔ Gr m l ∧ Sat (m + 1) f l := by
  unfold pts
  rw [List.mem_filter, mem_grid, held_iff]
theorem sat_z0 {n : Nat} {f : Nat → Nat → Int} {l : List Int} : Sat n f l ↔ Sat n (z0 f) l := by
  constructor
  · intro h i j hi hj
    have := h i j hi hj
    unfold z0
    split
    · rename_i c
      subst c
      exact mn_ge (by omega) this
    · exact this
  · intro h i j hi hj
    have := h i j hi hj
    unfold z0 at this
    split at this
    · exact Int.le_trans this (mn_r _ _)
    · exact this
theorem sat_wt {n : Nat} {a : Nat → Nat → Int} {l : List Int} (h : Sat n a l) : ∀ (p : List Nat) (i j : Nat), i < n → j < n → Lt n p → fu l i - fu l j ≤ wt a i p j
  | [], i, j, hi, hj, _ => h i j hi hj
  | k :: p, i, j, hi, hj, hp => by
    have hk := hp k (by simp)
    have e1 := h i k hi hk
    have e2 := sat_wt h p k j hk hj (fun x hx => hp x (by simp [hx]))
    show fu l i - fu l j ≤ a i k + wt a k p j
    omega
theorem sat_fw {n : Nat} {a : Nat → Nat → Int} {l : List Int} : Sat n a l ↔ Sat n (fw a n) l := by
  constructor
  · intro h i j hi hj
    obtain ⟨p, hp, e⟩ := fw_walk (a := a) (n := n) n (Nat.le_refl _) i j
    rw [e]
    exact sat_wt h p i j hi hj hp
  · intro h i j hi hj
    exact Int.le_trans (h i j hi hj) (fw_mono (k := 0) (Nat.zero_le _))
theorem sat_nn {n : Nat} {a : Nat → Nat → Int} {l : List Int} (h : Sat n a l) : Nn a n := fun p v hp hv => by
  have := sat_wt h p v v hv hv hp
  omega
theorem z0_dg (f : Nat → Nat → Int) (i : Nat) : z0 f i i ≤ 0 := by
  unfold z0
  rw [if_pos rfl]
  exact mn_l _ _
def far (m : Nat) (g : Nat → Nat → Int) (j : Nat) : List Int := (List.range m).map fun k => g (k + 1) j - g 0 j
theorem fu_far {m : Nat} {g : Nat → Nat → Int} {j k : Nat} (h : k < m + 1) : fu (far m g j) k = g k j - g 0 j := by
  cases k with
  | zero => rw [fu_zero]; omega
  | succ k =>
    rw [fu_succ]
    unfold far
    rw [List.getD_eq_getElem?_getD, List.getElem?_map, List.getElem?_range (by omega)]
    rfl
theorem far_sat {m : Nat} {a : Nat → Nat → Int} (A : Nn a (m + 1)) {j : Nat} (hj : j < m + 1) : Sat (m + 1) a (far m (fw a (m + 1)) j) := fun i k hi hk => by
  rw [fu_far hi, fu_far hk]
  have t := fw_tri (fw_diag A) (m + 1) (Nat.le_refl _) k hk i j
  have u : fw a (m + 1) i k ≤ a i k := fw_mono (k := 0) (Nat.zero_le _)
  omega
theorem far_att {m : Nat} {a : Nat → Nat → Int} (A : Nn a (m + 1)) (hd : ∀ i, i < m + 1 → a i i ≤ 0) {i j : Nat} (hi : i < m + 1) (hj : j < m + 1) : fu (far m (fw a (m + 1)) j) i - fu (far m (fw a (m + 1)) j) j = fw a (m + 1) i j := by
  rw [fu_far hi, fu_far hj]
  have d := fw_diag A j hj
  have u : fw a (m + 1) j j ≤ a j j := fw_mono (k := 0) (Nat.zero_le _)
  have := hd j hj
  omega
theorem far_len {m : Nat} {g : Nat → Nat → Int} {j : Nat} : (far m g j).length = m := by unfold far; rw [List.length_map, List.length_range]
theorem cl_box {m : Nat} {f : Nat → Nat → Int} (B : Box m f) : Box m (z0 f) := ⟨fun k hk => by
  have := B.hi k hk
  unfold z0
  split
  · exact Int.le_trans (mn_l _ _) (by omega)
  · exact this, fun k hk => by
  have := B.lo k hk
  unfold z0
  split
  · exact Int.le_trans (mn_l _ _) (by omega)
  · exact this⟩
theorem no_pts {m : Nat} {f : Nat → Nat → Int} (h : ¬ Nn (z0 f) (m + 1)) : pts m f = [] := by
  cases e : pts m f with
  | nil => rfl
  | cons l r =>
    have : l ∈ pts m f := by rw [e]; simp
    exact (h (sat_nn (sat_z0.mp (mem_pts.mp this).2))).elim
theorem far_pts {m : Nat} {f : Nat → Nat → Int} (B : Box m f) (A : Nn (z0 f) (m + 1)) {j : Nat} (hj : j < m + 1) : far m (fw (z0 f) (m + 1)) j ∈ pts m f := by
  have s := sat_z0.mpr (far_sat A hj)
  exact mem_pts.mpr ⟨B.gr far_len s, s⟩
def gmax (P : List (List Int)) (i j : Nat) : Int := match P.map fun l => fu l i - fu l j with
  | [] => 0
  | x :: r => maxI x r
theorem gmax_eq {P : List (List Int)} {i j : Nat} {v : Int} (hu : ∀ l ∈ P, fu l i - fu l j ≤ v) (ha : ∃ l ∈ P, fu l i - fu l j = v) : gmax P i j = v := by
  obtain ⟨l, hl, e⟩ := ha
  unfold gmax
  split
  · rename_i h
    rw [List.map_eq_nil_iff] at h
    rw [h] at hl
    cases hl
  · rename_i x r h
    have m1 : v ∈ x :: r := by rw [← h, ← e]; exact List.mem_map.mpr ⟨l, hl, rfl⟩
    have m2 := maxI_mem r x
    rw [← h] at m2
    obtain ⟨l2, h2, e2⟩ := List.mem_map.mp m2
    have := maxI_le r x v m1
    have := hu l2 h2
    omega
theorem gmax_pts {m : Nat} {f : Nat → Nat → Int} (B : Box m f) (A : Nn (z0 f) (m + 1)) {i j : Nat} (hi : i < m + 1) (hj : j < m + 1) : gmax (pts m f) i j = fw (z0 f) (m + 1) i j :=
  gmax_eq (fun l hl => sat_fw.mp (sat_z0.mp (mem_pts.mp hl).2) i j hi hj) ⟨_, far_pts B A hj, far_att A (fun i _ => z0_dg f i) hi hj⟩
end K25

namespace K25
open PySem PySem.Spec PyProof.Rows L2 Mi Dbm
def pD (l : List Int) : D := .tup (l.map D.int)
theorem full_eq (l : List Int) : D.int 0 :: l.map D.int = rowI (l.length + 1) (fu l) := by
  unfold rowI
  rw [List.range_succ_eq_map, List.map_cons, List.map_map]
  refine congrArg _ (List.ext_getElem (by simp) fun k h1 h2 => ?_)
  simp only [List.length_map] at h1
  simp [fu_succ, h1]
theorem full_ok {f : E D} {en : En} {S : So} {l : List Int} {m : Nat} (h : f en S = .ok (pD l) S) (hl : l.length = m) (hz : m ≤ 100) : m2 dAdd (mTup (aCons (mC (.int 0)) aNil)) f en S = .ok (.tup (rowI (m + 1) (fu l))) S := by
  have z1 : (1 : Nat) ≤ sizeLine := size4 (by decide)
  have e : dAdd (.tup [.int 0]) (pD l) S = some (.tup (rowI (m + 1) (fu l)), S) := by
    rw [← hl, ← full_eq]
    exact add_tup (size4 (by simp; omega))
  exact m2_ok (tup_ok (one_ok rfl) z1) h e
theorem len_row {n : Nat} {f : Nat → Int} (S : So) : bLen [.tup (rowI n f)] S = some (.int (n : Int), S) := by
  show some (D.int (((rowI n f).length : Nat) : Int), S) = _
  unfold rowI
  rw [List.length_map, List.length_range]
theorem holds_ok {m : Nat} {f : Nat → Nat → Int} {l : List Int} {S : So} (hl : l.length = m) (hm : m ≤ 100) (hi : ∀ x ∈ l, inR x = true) : m_holds_in [MT (m + 1) f, pD l] S = .ok (.bl (heldB (m + 1) f l)) S := by
  have fa := for_all (S := S) (S0 := S) (ι := fun i : Nat => D.tup [.int (fu l i), .tup (rowI (m + 1) (f i))]) (p := fun i => (List.range (m + 1)).all fun j => decide (fu l i - fu l j ≤ f i j)) (g := gT 2 (gsCons (gN 3) (gsCons (gN 4) gsNil)))
    (J := fun en => ∃ o3 o4 o5 o6, en = [some (MT (m + 1) f), some (pD l), some (.tup (rowI (m + 1) (fu l))), o3, o4, o5, o6, none])
    (body := sFor (iZipT (aCons (mV 2) (aCons (mV 4) aNil))) (gT 2 (gsCons (gN 5) (gsCons (gN 6) gsNil))) (sIf (tB' (m2 dGt (m2 dSub (mV 3) (mV 5)) (mV 6))) (sRet (mC (.bl false))) sNil))
    (List.range (m + 1)) [some (MT (m + 1) f), some (pD l), some (.tup (rowI (m + 1) (fu l))), none, none, none, none, none] ⟨_, _, _, _, rfl⟩ (fun i hi en hJ => by
      obtain ⟨o3, o4, o5, o6, rfl⟩ := hJ
      refine ⟨_, rfl, ?_⟩
      have fb := for_all (S := S) (S0 := S) (ι := fun j : Nat => D.tup [.int (fu l j), .int (f i j)]) (p := fun j => decide (fu l i - fu l j ≤ f i j)) (g := gT 2 (gsCons (gN 5) (gsCons (gN 6) gsNil)))
        (J := fun en => ∃ o5 o6, en = [some (MT (m + 1) f), some (pD l), some (.tup (rowI (m + 1) (fu l))), some (.int (fu l i)), some (.tup (rowI (m + 1) (f i))), o5, o6, none])
        (body := sIf (tB' (m2 dGt (m2 dSub (mV 3) (mV 5)) (mV 6))) (sRet (mC (.bl false))) sNil)
        (List.range (m + 1)) [some (MT (m + 1) f), some (pD l), some (.tup (rowI (m + 1) (fu l))), some (.int (fu l i)), some (.tup (rowI (m + 1) (f i))), o5, o6, none] ⟨_, _, rfl⟩ (fun j hj en hJ => by
          obtain ⟨o5, o6, rfl⟩ := hJ
          refine ⟨_, rfl, ?_⟩
          have gt : dGt (.int (fu l i - fu l j)) (.int (f i j)) S = some (.bl (!decide (fu l i - fu l j ≤ f i j)), S) := by
            show some (D.bl (decide (fu l i - fu l j > f i j)), S) = _
            by_cases c : fu l i - fu l j ≤ f i j
            · rw [decide_eq_true c, decide_eq_false (by omega)]; rfl
            · rw [decide_eq_false c, decide_eq_true (by omega)]; rfl
          have t : tB' (m2 dGt (m2 dSub (mV 3) (mV 5)) (mV 6)) [some (MT (m + 1) f), some (pD l), some (.tup (rowI (m + 1) (fu l))), some (.int (fu l i)), some (.tup (rowI (m + 1) (f i))), some (.int (fu l j)), some (.int (f i j)), none] S = .ok (!decide (fu l i - fu l j ≤ f i j)) S := tst_ok (m2_ok (m2_ok rfl rfl rfl) rfl gt)
          cases c : decide (fu l i - fu l j ≤ f i j) with
          | true =>
            rw [c] at t
            exact .inl ⟨rfl, _, if_f t rfl, _, _, rfl⟩
          | false =>
            rw [c] at t
            exact .inr ⟨rfl, if_t t (ret_ok rfl)⟩)
      have z := zipT_ok (A := fun j => .int (fu l j)) (B := fun j => .int (f i j)) (n := m + 1) (f := mV 2) (g := mV 4) (en := [some (MT (m + 1) f), some (pD l), some (.tup (rowI (m + 1) (fu l))), some (.int (fu l i)), some (.tup (rowI (m + 1) (f i))), o5, o6, none]) (S := S) rfl rfl
      rcases fb with ⟨a, en', f', o5', o6', rfl⟩ | ⟨a, f'⟩
      · exact .inl ⟨a, _, for_of z f', _, _, _, _, rfl⟩
      · exact .inr ⟨a, for_of z f'⟩)
  have z := zipT_ok (A := fun i => .int (fu l i)) (B := fun i => .tup (rowI (m + 1) (f i))) (n := m + 1) (f := mV 2) (g := mV 0) (en := [some (MT (m + 1) f), some (pD l), some (.tup (rowI (m + 1) (fu l))), none, none, none, none, none]) (S := S) rfl rfl
  have bl : bLen [pD l] S = some (.int (m : Int), S) := by
    show some (D.int (((l.map D.int).length : Nat) : Int), S) = _
    rw [List.length_map, hl]
  have q := ne_int (S := S) (m : Int) (m : Int)
  rw [beq_self_eq_true] at q
  have sb : dSub (.int ((m + 1 : Nat) : Int)) (.int 1) S = some (.int (m : Int), S) := by
    show some (D.int (((m + 1 : Nat) : Int) - 1), S) = _
    rw [show ((m + 1 : Nat) : Int) - 1 = (m : Int) by omega]
  have s1 : sIf (tOr' (tNot' (tTru (mIs .tup (mV 1)))) (tB' (m2 dNe (mB bLen (aCons (mV 1) aNil)) (m2 dSub (mB bLen (aCons (mV 0) aNil)) (mC (.int 1)))))) (sRet (mC (.bl false))) sNil [some (MT (m + 1) f), some (pD l), none, none, none, none, none, none] S = .ok (.nx [some (MT (m + 1) f), some (pD l), none, none, none, none, none, none]) S :=
    if_f (tor_f (tnot_t (tru_bl (is_ok rfl rfl))) (tst_ok (m2_ok (b_ok (one_ok rfl) bl) (m2_ok (b_ok (one_ok rfl) tb_MT.len) rfl sb) q))) rfl
  have e1 := comp_mapα (hold := none) (S0 := S) (S := S) (ι := D.int) (φ := fun x => D.bl (inR x)) (g := gN 7) (f := mCall m_is_integer (aCons (mV 7) aNil)) (enw := [some (MT (m + 1) f), some (pD l), none, none, none, none, none, none]) rfl l []
    (fun x _ => ⟨_, rfl, call_ok (one_ok rfl) (is_integer_ok x S)⟩) (by simpa using size4 (by omega))
  rw [List.nil_append] at e1
  have al : l.all inR = true := List.all_eq_true.mpr hi
  have s2 : sIf (tNot' (tTru (mB bAll (aCons (mComp (iSeq (mV 1)) (gN 7) tT (mCall m_is_integer (aCons (mV 7) aNil)) [7]) aNil)))) (sRet (mC (.bl false))) sNil [some (MT (m + 1) f), some (pD l), none, none, none, none, none, none] S = .ok (.nx [some (MT (m + 1) f), some (pD l), none, none, none, none, none, none]) S :=
    if_f (tnot_t (tru_bl (b_ok (one_ok (cmp_of (src := ⟨none, l.map D.int⟩) (seq_src rfl rfl) e1)) (by rw [all_of inR, al])))) rfl
  unfold heldB
  rcases fa with ⟨a, en', f', o3, o4, o5, o6, rfl⟩ | ⟨a, f'⟩
  · rw [a]
    exact body_rt rfl (seq_nx s1 (seq_nx s2 (seq_nx (set_ok (full_ok rfl hl hm)) (seq_nx (for_of z f') (ret_ok rfl)))))
  · rw [a]
    exact body_rt rfl (seq_nx s1 (seq_nx s2 (seq_nx (set_ok (full_ok rfl hl hm)) (seq_rt (for_of z f')))))
def noP (m : Nat) (d : D) : Prop := kn d ∧ ∀ l, d = .tup l → l.length ≤ 1000 ∧ (∀ e ∈ l, kn e) ∧ (l.length ≠ m ∨ ∃ e ∈ l, isI e = false)
theorem holds_no {m : Nat} {f : Nat → Nat → Int} {d : D} {S : So} (h : noP m d) (hm : m ≤ 100) : m_holds_in [MT (m + 1) f, d] S = .ok (.bl false) S := by
  rcases tup_kn h.1 with ⟨l, rfl⟩ | no
  · obtain ⟨hz, hk, hl⟩ := h.2 l rfl
    have bl : bLen [.tup l] S = some (.int (l.length : Int), S) := rfl
    have q := ne_int (S := S) (l.length : Int) (m : Int)
    have sb : dSub (.int ((m + 1 : Nat) : Int)) (.int 1) S = some (.int (m : Int), S) := by
      show some (D.int (((m + 1 : Nat) : Int) - 1), S) = _
      rw [show ((m + 1 : Nat) : Int) - 1 = (m : Int) by omega]
    by_cases c : l.length = m
    · rw [show ((l.length : Int) == (m : Int)) = true by rw [beq_iff_eq]; omega] at q
      have he : ∃ e ∈ l, isI e = false := by
        rcases hl with hl | hl
        · exact (hl c).elim
        · exact hl
      have al : l.all isI = false := by
        rw [List.all_eq_false]
        obtain ⟨e, h1, h2⟩ := he
        exact ⟨e, h1, by rw [h2]; decide⟩
      have e1 := comp_map (hold := none) (S0 := S) (S := S) (φ := fun e => .bl (isI e)) (g := gN 7) (f := mCall m_is_integer (aCons (mV 7) aNil)) (enw := [some (MT (m + 1) f), some (.tup l), none, none, none, none, none, none]) rfl l []
        (fun e he => ⟨_, rfl, call_ok (one_ok rfl) (int_kn (hk e he) S)⟩) (by simpa using size4 (by omega))
      rw [List.nil_append] at e1
      exact body_rt rfl (seq_nx (if_f (tor_f (tnot_t (tru_bl (is_ok rfl rfl))) (tst_ok (m2_ok (b_ok (one_ok rfl) bl) (m2_ok (b_ok (one_ok rfl) tb_MT.len) rfl sb) q))) rfl) (seq_rt (if_t (tnot_f (tru_bl (b_ok (one_ok (cmp_of (src := ⟨none, l⟩) (seq_src rfl rfl) e1)) (by rw [all_of isI, al])))) (ret_ok rfl))))
    · rw [show ((l.length : Int) == (m : Int)) = false by rw [beq_eq_false_iff_ne]; omega] at q
      exact body_rt rfl (seq_rt (if_t (tor_f (tnot_t (tru_bl (is_ok rfl rfl))) (tst_ok (m2_ok (b_ok (one_ok rfl) bl) (m2_ok (b_ok (one_ok rfl) tb_MT.len) rfl sb) q))) (ret_ok rfl)))
  · exact body_rt rfl (seq_rt (if_t (tor_t (tnot_f (tru_bl (is_ok rfl (no S))))) (ret_ok rfl)))
theorem inO_ok {m : Nat} {f : Nat → Nat → Int} {d : D} {r : Bool} {S : So} (h : m_holds_in [MT (m + 1) f, d] S = .ok (.bl r) S) : dInO "Bounds" m_Bounds_contains d (BD (m + 1) f) S = some (.bl r, S) := by
  have e : m_Bounds_contains [BD (m + 1) f, d] S = .ok (.bl r) S := body_rt rfl (ret_ok (call_ok (cons_ok (fld_ok rfl rfl) (one_ok rfl)) h))
  unfold dInO
  rw [if_pos (show isOwn (BD (m + 1) f) S = some ("Bounds" : Str) from rfl), e]
  rfl
end K25

namespace K25
open PySem PySem.Spec PyProof.Rows L2 Mi Dbm
def pR (l : List Int) : PyData := .tuple (l.map PyData.int)
structure PtsD (P : List (List Int)) (d : D) (S : So) : Prop where
  src : ∃ h, srcOf d S = some ⟨h, P.map pD⟩
  pt : toPt d S = some (.list (P.map pR))
  dct : dctOf d S = none
  ns : ∀ z, d ≠ .str z
theorem toPs_ints : ∀ l : List Int, toPs (l.map D.int) = some (l.map PyData.int)
  | [] => rfl
  | x :: l => by simp only [List.map_cons, toPs, toP, toPs_ints l]
theorem toP_pD (l : List Int) : toP (pD l) = some (pR l) := by
  unfold pD
  simp only [toP, toPs_ints]
  rfl
theorem toPs_pts : ∀ P : List (List Int), toPs (P.map pD) = some (P.map pR)
  | [] => rfl
  | x :: P => by simp only [List.map_cons, toPs, toP_pD, toPs_pts P]
theorem pts_lst (P : List (List Int)) (S : So) : PtsD P (.lst (P.map pD)) S := ⟨⟨_, rfl⟩, by
  show toP (.lst (P.map pD)) = _
  simp only [toP, toPs_pts], rfl, fun z => by simp⟩
theorem pts_ref {P : List (List Int)} {c : Nat} {S : So} (h : S[c]? = some (some (.lst (P.map pD)))) : PtsD P (.ref c) S := ⟨⟨some c, by unfold srcOf; simp only [h]⟩, by
  unfold toPt
  simp only [h, toPs_pts], by unfold dctOf; simp only [h], fun z => by simp⟩
theorem canI : ∀ l : List Int, PyData.canLayAll0 (l.map PyData.int) = true
  | [] => rfl
  | x :: l => by simp only [List.map_cons, PyData.canLayAll0, PyData.canLay0, canI l, Bool.and_self]
theorem canR : ∀ l : List (List Int), PyData.canLayAll0 (l.map pR) = true
  | [] => rfl
  | x :: l => by simp only [List.map_cons, PyData.canLayAll0, pR, PyData.canLay0, canI x, canR l, Bool.and_self]
theorem depI : ∀ l : List Int, PyData.depthAll (l.map PyData.int) ≤ 1
  | [] => Nat.zero_le _
  | x :: l => by
    have := depI l
    simp only [List.map_cons, PyData.depthAll, PyData.depth]
    omega
theorem depR : ∀ l : List (List Int), PyData.depthAll (l.map pR) ≤ 2
  | [] => Nat.zero_le _
  | x :: l => by
    have := depR l
    have := depI x
    simp only [List.map_cons, PyData.depthAll, pR, PyData.depth]
    omega
theorem shP (l : List Int) : SeqAt.shaped (pR l) = true := by
  have := depI l
  unfold SeqAt.shaped pR
  rw [show PyData.canLay0 (.tuple (l.map PyData.int)) = true by simp only [PyData.canLay0]; exact canI l]
  rw [Bool.true_and, decide_eq_true_eq]
  simp only [PyData.depth]
  omega
theorem shPs (l : List (List Int)) : SeqAt.shaped (.list (l.map pR)) = true := by
  have := depR l
  unfold SeqAt.shaped
  rw [show PyData.canLay0 (.list (l.map pR)) = true by simp only [PyData.canLay0]; exact canR l]
  rw [Bool.true_and, decide_eq_true_eq]
  simp only [PyData.depth]
  omega
theorem eqvI : ∀ l k : List Int, PyData.eqvAll (l.map PyData.int) (k.map PyData.int) = decide (l = k)
  | [], [] => by simp [PyData.eqvAll]
  | [], _ :: _ => by simp [PyData.eqvAll]
  | _ :: _, [] => by simp [PyData.eqvAll]
  | x :: l, y :: k => by
    simp only [List.map_cons, PyData.eqvAll, PyData.eqv, eqvI l k, List.cons.injEq]
    rw [Bool.eq_iff_iff]
    simp
theorem eqvP (l k : List Int) : PyData.eqv (pR l) (pR k) = decide (l = k) := by simp only [pR, PyData.eqv]; exact eqvI l k
theorem in_pts {P : List (List Int)} {d : D} {l : List Int} {S : So} (h : PtsD P d S) : dIn (pD l) d S = some (.bl (decide (l ∈ P)), S) := by
  have e : dInB (pD l) d S = some (decide (l ∈ P)) := by
    unfold dInB
    have hp : toPt (pD l) S = some (pR l) := toP_pD l
    split
    · rename_i z
      exact (h.ns z rfl).elim
    · rw [h.dct]
      dsimp only
      rw [h.pt, hp]
      dsimp only
      rw [shP, shPs]
      have : ((P.map pR).any fun q => PyData.eqv q (pR l)) = decide (l ∈ P) := by
        rw [List.any_map, Bool.eq_iff_iff, List.any_eq_true, decide_eq_true_eq]
        constructor
        · rintro ⟨q, hq, e⟩
          simp only [Function.comp, eqvP, decide_eq_true_eq] at e
          rw [← e]
          exact hq
        · intro hl
          exact ⟨l, hl, by simp only [Function.comp, eqvP, decide_true]⟩
      rw [this]
      rfl
  unfold dIn
  rw [e]
  rfl
theorem eq_nilP {P : List (List Int)} {d : D} {S : So} (h : PtsD P d S) : dEq d (.lst []) S = some (.bl (decide (P = [])), S) := by
  have e : dEqP d (.lst []) S = some (decide (P = [])) := by
    unfold dEqP
    rw [h.pt, show toPt (.lst []) S = some (.list []) from rfl]
    dsimp only
    rw [shPs, show SeqAt.shaped (.list []) = true from by decide +kernel]
    cases P with
    | nil => rfl
    | cons l P => rfl
  unfold dEq
  rw [e]
theorem intsIn_map {α : Type} (φ : α → Int) (l : List α) (S : So) : intsIn (.lst (l.map fun a => D.int (φ a))) S = some (l.map φ) := by
  unfold intsIn
  simp only [lstOf]
  induction l with
  | nil => rfl
  | cons a l ih => simp only [List.map_cons, intsOf, ih, Option.map_some]
theorem gmax_ok {P : List (List Int)} {i j : Nat} {S : So} (h : P ≠ []) : bMaxL [.lst (P.map fun l => .int (fu l i - fu l j))] S = some (.int (gmax P i j), S) := by
  unfold bMaxL
  dsimp only
  rw [intsIn_map (fun l => fu l i - fu l j)]
  unfold gmax
  cases e : P.map fun l => fu l i - fu l j with
  | nil => exact (h (List.map_eq_nil_iff.mp e)).elim
  | cons x r => rfl
theorem greatest_ok {P : List (List Int)} {d : D} {S : So} {m : Nat} (hd : PtsD P d S) (h : P ≠ []) (hl : ∀ l ∈ P, l.length = m) (hm : m ≤ 100) (hz : P.length ≤ 100000) : ∃ S', m_law_greatest [d] S = .ok (MT (m + 1) (gmax P)) S' ∧ S.length ≤ S'.length ∧ ∀ k, k < S.length → S'[k]? = S[k]? := by
  obtain ⟨hh, sr⟩ := hd.src
  have e := comp_mapα (hold := hh) (S0 := S) (S := S) (ι := pD) (φ := fun l => D.tup (rowI (m + 1) (fu l))) (g := gN 4) (f := m2 dAdd (mTup (aCons (mC (.int 0)) aNil)) (mV 4)) (enw := [some d, none, none, none, none, none, none]) (still_same fun _ _ => rfl) P []
    (fun l hP => ⟨_, rfl, full_ok rfl (hl l hP) hm⟩) (by simpa using size4 (by omega))
  rw [List.nil_append] at e
  have fulls : mComp (iSeq (mV 0)) (gN 4) tT (m2 dAdd (mTup (aCons (mC (.int 0)) aNil)) (mV 4)) [4] [some d, none, none, none, none, none, none] S = .ok (.lst (P.map fun l => D.tup (rowI (m + 1) (fu l)))) S := cmp_of (seq_src rfl sr) e
  obtain ⟨p0, P', hP⟩ : ∃ p0 P', P = p0 :: P' := by
    cases P with
    | nil => exact (h rfl).elim
    | cons p P' => exact ⟨p, P', rfl⟩
  have first : ∀ S : So, dIx (.lst (P.map fun l => D.tup (rowI (m + 1) (fu l)))) (.int 0) S = some (.tup (rowI (m + 1) (fu p0)), S) := fun S => by
    rw [hP]
    exact ix_lst (by simp [atI, ixN])
  have fl : ∀ (o : Option D) (en : En) (S : So), mV 1 en S = .ok (.lst (P.map fun l => D.tup (rowI (m + 1) (fu l)))) S → mB bLen (aCons (m2 dIx (mV 1) (mC (.int 0))) aNil) en S = .ok (.int ((m + 1 : Nat) : Int)) S := fun _ en S h1 =>
    b_ok (one_ok (m2_ok h1 rfl (first S))) (len_row S)
  obtain ⟨en', S', e1, o3, rfl, rfl⟩ := for_n (S0 := S ++ [some (.lst [])]) (g := gN 3) (ι := fun i : Nat => D.int (i : Int)) (n := m + 1) (en := [some d, some (.lst (P.map fun l => D.tup (rowI (m + 1) (fu l)))), some (.ref S.length), none, none, none, none]) (S := S ++ [some (.lst [])])
    (body := sEx (mM "list" mApp (mV 2) (aCons (mB bTup (aCons (mComp (iRg1 (aCons (mB bLen (aCons (m2 dIx (mV 1) (mC (.int 0))) aNil)) aNil)) (gN 5) tT (mB bMaxL (aCons (mComp (iSeq (mV 1)) (gN 6) tT (m2 dSub (m2 dIx (mV 6) (mV 3)) (m2 dIx (mV 6) (mV 5))) [6]) aNil)) [5]) aNil)) aNil)))
    (J := fun k en S' => ∃ o3, en = [some d, some (.lst (P.map fun l => D.tup (rowI (m + 1) (fu l)))), some (.ref S.length), o3, none, none, none] ∧ S' = S ++ [some (.lst ((List.range k).map fun i => D.tup (rowI (m + 1) (gmax P i))))])
    (fun k hk en S' hJ => by
      obtain ⟨o3, rfl, rfl⟩ := hJ
      obtain ⟨S1, hS1⟩ : ∃ S1, S1 = S ++ [some (Ob.lst ((List.range k).map fun i => D.tup (rowI (m + 1) (gmax P i))))] := ⟨_, rfl⟩
      rw [← hS1]
      have at1 : S1[S.length]? = some (some (.lst ((List.range k).map fun i => D.tup (rowI (m + 1) (gmax P i))))) := by rw [hS1]; exact app_at
      have inner : ∀ j, j < m + 1 → mB bMaxL (aCons (mComp (iSeq (mV 1)) (gN 6) tT (m2 dSub (m2 dIx (mV 6) (mV 3)) (m2 dIx (mV 6) (mV 5))) [6]) aNil) [some d, some (.lst (P.map fun l => D.tup (rowI (m + 1) (fu l)))), some (.ref S.length), some (.int (k : Int)), none, some (.int (j : Int)), none] S1 = .ok (.int (gmax P k j)) S1 := fun j hj => by
        have e2 := comp_mapα (hold := none) (S0 := S1) (S := S1) (ι := fun l => D.tup (rowI (m + 1) (fu l))) (φ := fun l => D.int (fu l k - fu l j)) (g := gN 6) (f := m2 dSub (m2 dIx (mV 6) (mV 3)) (m2 dIx (mV 6) (mV 5))) (enw := [some d, some (.lst (P.map fun l => D.tup (rowI (m + 1) (fu l)))), some (.ref S.length), some (.int (k : Int)), none, some (.int (j : Int)), none]) rfl P []
          (fun l _ => ⟨_, rfl, m2_ok (m2_ok rfl rfl (row_tup hk)) (m2_ok rfl rfl (row_tup hj)) rfl⟩) (by simpa using size4 (by omega))
        rw [List.nil_append] at e2
        exact b_ok (one_ok (cmp_of (src := ⟨none, P.map fun l => D.tup (rowI (m + 1) (fu l))⟩) (seq_src rfl rfl) e2)) (gmax_ok h)
      have row : mComp (iRg1 (aCons (mB bLen (aCons (m2 dIx (mV 1) (mC (.int 0))) aNil)) aNil)) (gN 5) tT (mB bMaxL (aCons (mComp (iSeq (mV 1)) (gN 6) tT (m2 dSub (m2 dIx (mV 6) (mV 3)) (m2 dIx (mV 6) (mV 5))) [6]) aNil)) [5] [some d, some (.lst (P.map fun l => D.tup (rowI (m + 1) (fu l)))), some (.ref S.length), some (.int (k : Int)), none, none, none] S1 = .ok (.lst (rowI (m + 1) (gmax P k))) S1 :=
        cmp_rng (φ := fun j => .int (gmax P k j)) (one_ok (fl none _ S1 rfl)) (by omega) fun j hj => ⟨_, rfl, inner j hj⟩
      refine ⟨_, _, _, rfl, ex_ok (mM_ok rfl (lst_typQ at1) (one_ok (b_ok (one_ok row) rfl)) (app_okQ at1 (by rw [List.length_map, List.length_range]; omega))), some (.int (k : Int)), rfl, ?_⟩
      rw [hS1, List.set_append_right _ _ (Nat.le_refl _), List.range_succ, List.map_append]
      simp)
    ⟨none, rfl, rfl⟩
  refine ⟨S ++ [some (.lst ((List.range (m + 1)).map fun i => D.tup (rowI (m + 1) (gmax P i))))], body_rt rfl (seq_nx (set_ok fulls) (seq_nx (set_ok rfl) (seq_nx (for_of (rg_n (one_ok (fl none _ _ rfl)) (by omega)) e1) (ret_ok (b_ok (one_ok rfl) ?_))))), by simp, fun k hk => List.getElem?_append_left hk⟩
  unfold bTup
  simp only [lstOf, app_at]
  rfl
def IsOf (m : Nat) (x : D) (P : List (List Int)) : Prop := (P = [] ∧ x = .non) ∨ (P ≠ [] ∧ ∃ g, x = BD (m + 1) g ∧ ∀ i j, i < m + 1 → j < m + 1 → g i j = gmax P i j)
theorem isof_ok {P : List (List Int)} {d x : D} {S : So} {m : Nat} (hd : PtsD P d S) (h : IsOf m x P) (hl : ∀ l ∈ P, l.length = m) (hm : m ≤ 100) (hz : P.length ≤ 100000) : ∃ S', m_law_is_of [x, d] S = .ok (.bl true) S' ∧ S.length ≤ S'.length ∧ ∀ k, k < S.length → S'[k]? = S[k]? := by
  have q := eq_nilP hd
  have z0 : (0 : Nat) ≤ sizeLine := Nat.zero_le _
  rcases h with ⟨rfl, rfl⟩ | ⟨hP, g, rfl, hg⟩
  · rw [decide_eq_true rfl] at q
    exact ⟨S, body_rt rfl (seq_rt (if_t (tst_ok (m2_ok rfl (lst_ok rfl z0) q)) (ret_ok (m2_ok rfl rfl rfl)))), Nat.le_refl _, fun _ _ => rfl⟩
  · rw [decide_eq_false hP] at q
    obtain ⟨S', e, l1, q1⟩ := greatest_ok hd hP hl hm hz
    refine ⟨S', body_rt rfl (seq_nx (if_f (tst_ok (m2_ok rfl (lst_ok rfl z0) q)) rfl) (ret_ok (and_t (isO_ok rfl rfl) (call_ok (cons_ok (fld_ok rfl rfl) (one_ok (call_ok (one_ok rfl) e))) ?_)))), l1, q1⟩
    rw [← MT_congr (n := m + 1) (f := g) (g := gmax P) hg]
    exact same_MT (by omega)
def leB (n : Nat) (g h : Nat → Nat → Int) : Bool := (List.range n).all fun i => (List.range n).all fun j => decide (g i j ≤ h i j)
theorem le_iff {n : Nat} {g h : Nat → Nat → Int} : leB n g h = true ↔ ∀ i j, i < n → j < n → g i j ≤ h i j := by
  unfold leB
  rw [List.all_eq_true]
  constructor
  · intro k i j hi hj
    have := k i (List.mem_range.mpr hi)
    rw [List.all_eq_true] at this
    exact of_decide_eq_true (this j (List.mem_range.mpr hj))
  · intro k i hi
    rw [List.all_eq_true]
    intro j hj
    exact decide_eq_true (k i j (List.mem_range.mp hi) (List.mem_range.mp hj))
theorem not_any (n : Nat) (g h : Nat → Int) : ((List.range n).any fun j => decide (g j > h j)) = !((List.range n).all fun j => decide (g j ≤ h j)) := by
  rw [List.not_all_eq_any_not]
  congr 1
  funext j
  by_cases c : g j ≤ h j
  · rw [decide_eq_true c, decide_eq_false (by omega)]; rfl
  · rw [decide_eq_false c, decide_eq_true (by omega)]; rfl
end K25

namespace K25
open PySem PySem.Spec PyProof.Rows L2 Mi Dbm
theorem lst_ix {d : D} {S : So} {n k : Nat} {f : Nat → Int} (e : lstOf d S = some (rowI n f)) (hk : k < n) : dIx d (.int (k : Int)) S = some (.int (f k), S) := by
  cases d with
  | lst l =>
    simp only [lstOf, Option.some.injEq] at e
    subst e
    exact row_lst hk
  | ref q =>
    simp only [lstOf] at e
    split at e
    · rename_i l e0
      simp only [Option.some.injEq] at e
      subst e
      unfold dIx
      simp only [dctOf, seqOf, e0, rowI, atI_rng _ hk]
      rfl
    · cases e
  | _ => simp [lstOf] at e
theorem map_set {α : Type} (φ : Nat → α) (y : α) : ∀ (n k : Nat), ((List.range n).map φ).set k y = (List.range n).map fun i => if i = k then y else φ i := fun n k => by
  refine List.ext_getElem? fun i => ?_
  rw [List.getElem?_set, List.getElem?_map, List.getElem?_map]
  by_cases c : k = i
  · subst c
    rw [if_pos rfl]
    by_cases h : k < n
    · rw [if_pos (by rw [List.length_map, List.length_range]; exact h), List.getElem?_range h]
      simp
    · rw [if_neg (by rw [List.length_map, List.length_range]; exact h), List.getElem?_eq_none (by rw [List.length_range]; omega)]
      rfl
  · rw [if_neg c]
    by_cases h : i < n
    · rw [List.getElem?_range h]
      simp [Ne.symm c]
    · rw [List.getElem?_eq_none (by rw [List.length_range]; omega)]
      rfl
theorem rowI_set {n k : Nat} {f : Nat → Int} {v : Int} : (rowI n f).set k (.int v) = rowI n fun j => if j = k then v else f j := by
  unfold rowI
  rw [map_set]
  refine List.map_congr_left fun j _ => ?_
  dsimp only
  split <;> rfl
theorem cells_ok {n : Nat} {f : Nat → Nat → Int} {enw : En} {S0 S : So} {p : Nat} (hp : ∀ r S, ∃ en1, gN p r enw S = some en1 ∧ mV p en1 S = .ok r S) : ∀ (m k : Nat), k + m ≤ 1000 →
    compM none S0 (gN p) tT (mB bLstN (aCons (mV p) aNil)) enw ((List.range' k m).map fun i => .tup (rowI n (f i))) ((List.range k).map fun i => .ref (S.length + i)) (S ++ (List.range k).map fun i => some (.lst (rowI n (f i)))) =
      .ok ((List.range (k + m)).map fun i => .ref (S.length + i)) (S ++ (List.range (k + m)).map fun i => some (.lst (rowI n (f i))))
  | 0, k, _ => by simp [compM]
  | m + 1, k, h => by
    rw [List.range'_succ, List.map_cons]
    obtain ⟨S1, hS1⟩ : ∃ S1, S1 = S ++ (List.range k).map fun i => some (Ob.lst (rowI n (f i))) := ⟨_, rfl⟩
    rw [← hS1]
    obtain ⟨en1, e1, e2⟩ := hp (.tup (rowI n (f k))) S1
    have e3 : mB bLstN (aCons (mV p) aNil) en1 S1 = .ok (.ref S1.length) (S1 ++ [some (.lst (rowI n (f k)))]) := b_ok (one_ok e2) rfl
    have e4 : S1.length = S.length + k := by rw [hS1]; simp
    have e5 : S1 ++ [some (Ob.lst (rowI n (f k)))] = S ++ (List.range (k + 1)).map fun i => some (Ob.lst (rowI n (f i))) := by
      rw [hS1, List.range_succ, List.map_append, List.append_assoc]
      rfl
    have e6 : ((List.range k).map fun i => D.ref (S.length + i)) ++ [D.ref (S.length + k)] = (List.range (k + 1)).map fun i => D.ref (S.length + i) := by
      rw [List.range_succ, List.map_append]
      rfl
    rw [e4, e5] at e3
    unfold compM
    simp only [e1, tT, e3]
    rw [if_pos ⟨by rw [List.length_map, List.length_range]; exact Nat.lt_of_lt_of_le (show k < 1001 by omega) (size4 (by decide)), rfl⟩, e6]
    have ih := cells_ok (n := n) (f := f) (S0 := S0) (S := S) hp m (k + 1) (by omega)
    rw [show k + (m + 1) = k + 1 + m by omega]
    exact ih
theorem putD_lst {q k : Nat} {l : List D} {v : D} {S : So} (h : S[q]? = some (some (.lst l))) (hk : k < l.length) : putD (.ref q) (.int (k : Int)) v S = some (S.set q (some (.lst (l.set k v)))) := by
  unfold putD
  simp only [h]
  unfold ixN
  rw [if_pos (by omega), if_pos (by omega)]
  simp
theorem neg_nn {n : Nat} {a : Nat → Nat → Int} : neg n (fw a n) = false ↔ Nn a n := neg_iff.trans ⟨fw_nn, fw_diag⟩
theorem z0_le (f : Nat → Nat → Int) (i j : Nat) : z0 f i j ≤ f i j := by
  unfold z0
  split
  · exact mn_r _ _
  · exact Int.le_refl _
theorem z0_or (f : Nat → Nat → Int) (i j : Nat) : z0 f i j = f i j ∨ (i = j ∧ z0 f i j = 0) := by
  unfold z0
  split
  · rename_i c
    rcases mn_or 0 (f i j) with h | h
    · exact .inr ⟨c, h⟩
    · exact .inl h
  · exact .inl rfl
theorem idem {n : Nat} {a : Nat → Nat → Int} (hd : ∀ i, i < n → a i i ≤ 0) : Over n (z0 (fw a n)) a := ⟨fun i j _ _ => Int.le_trans (z0_le _ _ _) (fw_mono (k := 0) (Nat.zero_le _)), fun i j hi hj => by
  rcases z0_or (fw a n) i j with e | ⟨rfl, e⟩
  · obtain ⟨l, hl, e2⟩ := fw_walk (a := a) (n := n) n (Nat.le_refl _) i j
    exact ⟨l, hl, by rw [e, e2]; exact Int.le_refl _⟩
  · exact ⟨[], (fun x hx => by cases hx), by rw [e]; exact hd i hi⟩⟩
theorem Ch.keep {S S' : So} {b : Nat} (hl : S.length ≤ S'.length) (h : ∀ k, k < S.length → S'[k]? = S[k]?) : Ch b S S' := ⟨hl, fun k hk _ => h k hk⟩
theorem Bag.keep {S S' : So} {b : Nat} (hb : Bag S b) (h : ∀ k, k < S.length → S'[k]? = S[k]?) : Bag S' b := by
  have := hb.lt
  obtain ⟨x, y, z, e⟩ := hb
  exact ⟨x, y, z, by rw [h b this]; exact e⟩
def cutF (g : Nat → Nat → Int) (i j : Nat) (v : Int) (a b : Nat) : Int := if a = i then (if b = j then mn (g a b) v else g a b) else g a b
theorem cut_in_ok {n : Nat} {g : Nat → Nat → Int} {i j : Nat} {v : Int} {S : So} (hn : n ≤ 900) (hi : i < n) (hj : j < n) : ∃ S', m_cut_in [MT n g, .int (i : Int), .int (j : Int), .int v] S = .ok (if neg n (fw (z0 (cutF g i j v)) n) = true then .non else MT n (fw (z0 (cutF g i j v)) n)) S' ∧ S.length ≤ S'.length ∧ ∀ k, k < S.length → S'[k]? = S[k]? := by
  obtain ⟨cel, hcel⟩ : ∃ cel : (Nat → Nat → Int) → So, cel = fun g => S ++ (List.range n).map fun i => some (Ob.lst (rowI n (g i))) := ⟨_, rfl⟩
  have cel_at : ∀ g k, k < n → (cel g)[S.length + k]? = some (some (.lst (rowI n (g k)))) := fun g k hk => by
    rw [hcel]
    dsimp only
    rw [List.getElem?_append_right (by omega), show S.length + k - S.length = k by omega, List.getElem?_map, List.getElem?_range hk]
    rfl
  have e0 : mComp (iSeq (mV 0)) (gN 5) tT (mB bLstN (aCons (mV 5) aNil)) [5] [some (MT n g), some (.int (i : Int)), some (.int (j : Int)), some (.int v), none, none] S = .ok (.lst ((List.range n).map fun i => .ref (S.length + i))) (cel g) := by
    have c := cells_ok (n := n) (f := g) (S0 := S) (S := S) (p := 5) (enw := [some (MT n g), some (.int (i : Int)), some (.int (j : Int)), some (.int v), none, none]) (fun r S => ⟨_, rfl, rfl⟩) n 0 (by omega)
    rw [Nat.zero_add, ← List.range_eq_range', List.range_zero, List.map_nil, List.map_nil, List.append_nil] at c
    rw [hcel]
    exact cmp_of (src := ⟨none, (List.range n).map fun i => .tup (rowI n (g i))⟩) (seq_src rfl rfl) c
  have at1 := cel_at g i hi
  have i1 : dIx (.lst ((List.range n).map fun i => D.ref (S.length + i))) (.int (i : Int)) (cel g) = some (.ref (S.length + i), cel g) := ix_lst (atI_rng _ hi)
  have l1 : lstOf (.ref (S.length + i)) (cel g) = some (rowI n (g i)) := by
    simp only [lstOf, at1]
  have i2 := lst_ix l1 hj
  have st : (cel g).set (S.length + i) (some (.lst ((rowI n (g i)).set j (.int (mn (g i j) v))))) = cel (cutF g i j v) := by
    rw [hcel]
    dsimp only
    rw [List.set_append_right _ _ (by omega), show S.length + i - S.length = i by omega, map_set, rowI_set]
    congr 1
    refine List.map_congr_left fun a _ => ?_
    by_cases c : a = i
    · subst c
      rw [if_pos rfl]
      congr 2
      refine congrArg (rowI n) ?_
      funext b
      unfold cutF
      rw [if_pos rfl]
      by_cases c2 : b = j
      · rw [if_pos c2, if_pos c2, c2]
      · rw [if_neg c2, if_neg c2]
    · rw [if_neg c]
      congr 2
      refine congrArg (rowI n) ?_
      funext b
      unfold cutF
      rw [if_neg c]
  have T : Tb n (cutF g i j v) (.lst ((List.range n).map fun i => .ref (S.length + i))) (cel (cutF g i j v)) := ⟨by
    show some (D.int (((List.range n).map fun i => D.ref (S.length + i)).length : Nat), cel (cutF g i j v)) = _
    rw [List.length_map, List.length_range], fun a ha => ⟨_, ix_lst (atI_rng _ ha), fun b hb => lst_ix (by simp only [lstOf, cel_at _ a ha]) hb⟩⟩
  have t := tightened_ok T (by omega)
  refine ⟨cel (cutF g i j v), body_rt rfl (seq_nx (set_ok e0) (seq_nx (put_ok (b_ok (cons_ok (m2_ok (m2_ok rfl rfl i1) rfl i2) (one_ok rfl)) (min_ok _ _ _)) (m2_ok rfl rfl i1) rfl ((putD_lst at1 (by rw [rowI_len]; exact hj)).trans (by rw [st]))) (ret_ok (call_ok (one_ok rfl) t)))), by rw [hcel]; simp, fun k hk => by rw [hcel]; exact List.getElem?_append_left hk⟩
def placeB (m : Nat) : D → Bool
  | .int v => inR v && (decide (0 ≤ v) && decide (v < ((m + 1 : Nat) : Int)))
  | _ => false
noncomputable abbrev plBody : T := sIf (tOr' (tNot' (tTru (mCall m_is_integer (aCons (mV 4) aNil)))) (tNot' (tB' (mChain dLe dLt (mC (.int 0)) (mV 4) (mB bLen (aCons (mFld ("own_rows" : Str) (mV 0)) aNil)))))) (sRsF ("UnknownIndex" : Str) ("index" : Str) (aCons (mV 4) aNil)) sNil
theorem place_ok {m : Nat} {g : Nat → Nat → Int} {d a1 a2 a3 : D} {S : So} (h : kn d) : plBody [some (BD (m + 1) g), some a1, some a2, some a3, some d, none] S = if placeB m d = true then .ok (.nx [some (BD (m + 1) g), some a1, some a2, some a3, some d, none]) S else .err ⟨"UnknownIndex", ["index"], [d]⟩ [some (BD (m + 1) g), some a1, some a2, some a3, some d, none] S := by
  have i := int_kn h S
  by_cases c : isI d = true
  · obtain ⟨v, rfl⟩ : ∃ v, d = .int v := by
      cases d <;> first | exact ⟨_, rfl⟩ | (cases c)
    have cv : inR v = true := c
    have ln : mB bLen (aCons (mFld ("own_rows" : Str) (mV 0)) aNil) [some (BD (m + 1) g), some a1, some a2, some a3, some (.int v), none] S = .ok (.int ((m + 1 : Nat) : Int)) S := b_ok (one_ok (fld_ok rfl rfl)) tb_MT.len
    have ch : mChain dLe dLt (mC (.int 0)) (mV 4) (mB bLen (aCons (mFld ("own_rows" : Str) (mV 0)) aNil)) [some (BD (m + 1) g), some a1, some a2, some a3, some (.int v), none] S = .ok (.bl (decide (0 ≤ v) && decide (v < ((m + 1 : Nat) : Int)))) S := by
      unfold mChain
      rw [show mC (.int 0) [some (BD (m + 1) g), some a1, some a2, some a3, some (.int v), none] S = .ok (.int 0) S from rfl, R.bind_ok, show mV 4 [some (BD (m + 1) g), some a1, some a2, some a3, some (.int v), none] S = .ok (.int v) S from rfl, R.bind_ok]
      have l1 : dLe (.int 0) (.int v) S = some (.bl (decide (0 ≤ v)), S) := rfl
      have l2 : dLt (.int v) (.int ((m + 1 : Nat) : Int)) S = some (.bl (decide (v < ((m + 1 : Nat) : Int))), S) := rfl
      rw [l1]
      cases e : decide (0 ≤ v) with
      | false => rfl
      | true =>
        dsimp only
        rw [ln, R.bind_ok, l2]
        rfl
    have pb : placeB m (.int v) = (decide (0 ≤ v) && decide (v < ((m + 1 : Nat) : Int))) := by
      show (inR v && _) = _
      rw [cv, Bool.true_and]
    rw [pb]
    have ci : isI (.int v) = true := c
    rw [ci] at i
    cases q : (decide (0 ≤ v) && decide (v < ((m + 1 : Nat) : Int))) with
    | true =>
      rw [q] at ch
      exact if_f (tor_f (tnot_t (tru_bl (call_ok (one_ok rfl) i))) (tnot_t (tst_ok ch))) rfl
    | false =>
      rw [q] at ch
      exact if_t (tor_f (tnot_t (tru_bl (call_ok (one_ok rfl) i))) (tnot_f (tst_ok ch))) rfl
  · have c' : isI d = false := by
      cases q : isI d with
      | true => exact (c q).elim
      | false => rfl
    have pb : placeB m d = false := by
      cases d <;> first | rfl | (rename_i v; show (inR v && _) = false; rw [show inR v = false from c']; rfl)
    rw [pb]
    rw [c'] at i
    exact if_t (tor_t (tnot_f (tru_bl (call_ok (one_ok rfl) i)))) rfl
theorem forM_cons {S0 S S2 : So} {g : TgD} {body : T} {d : D} {l : List D} {en en1 en2 : En} {r : R Fl} (e1 : g d en S = some en1) (e2 : body en1 S = .ok (.nx en2) S2) (e3 : Mi.forM none S0 g body l en2 S2 = r) : Mi.forM none S0 g body (d :: l) en S = r := by
  unfold Mi.forM
  simp only [e1, e2, R.bind_ok, still_none, if_true]
  exact e3
theorem forM_err {S0 S S2 : So} {g : TgD} {body : T} {d : D} {l : List D} {en en1 en2 : En} {x : Ex} (e1 : g d en S = some en1) (e2 : body en1 S = .err x en2 S2) : Mi.forM none S0 g body (d :: l) en S = .err x en2 S2 := by
  unfold Mi.forM
  simp only [e1, e2]
  rfl
theorem places_ok {m : Nat} {g : Nat → Nat → Int} {a1 a2 a3 : D} {S : So} (h1 : kn a1) (h2 : kn a2) : sFor (iSeq (mTup (aCons (mV 1) (aCons (mV 2) aNil)))) (gN 4) plBody [some (BD (m + 1) g), some a1, some a2, some a3, none, none] S =
    if placeB m a1 = true then (if placeB m a2 = true then .ok (.nx [some (BD (m + 1) g), some a1, some a2, some a3, some a2, none]) S else .err ⟨"UnknownIndex", ["index"], [a2]⟩ [some (BD (m + 1) g), some a1, some a2, some a3, some a2, none] S) else .err ⟨"UnknownIndex", ["index"], [a1]⟩ [some (BD (m + 1) g), some a1, some a2, some a3, some a1, none] S := by
  have sr : iSeq (mTup (aCons (mV 1) (aCons (mV 2) aNil))) [some (BD (m + 1) g), some a1, some a2, some a3, none, none] S = .ok ⟨none, [a1, a2]⟩ S := seq_src (tup_ok rfl (size4 (show 2 ≤ 1000000 by decide))) rfl
  have p1 := place_ok (m := m) (g := g) (a1 := a1) (a2 := a2) (a3 := a3) (S := S) h1
  have p2 := place_ok (m := m) (g := g) (a1 := a1) (a2 := a2) (a3 := a3) (S := S) h2
  refine for_of sr ?_
  cases c1 : placeB m a1 with
  | false =>
    rw [c1] at p1
    exact forM_err rfl p1
  | true =>
    rw [c1] at p1
    rw [if_pos rfl] at p1 ⊢
    refine forM_cons rfl p1 ?_
    cases c2 : placeB m a2 with
    | false =>
      rw [c2] at p2
      exact forM_err rfl p2
    | true =>
      rw [c2] at p2
      exact forM_cons rfl p2 (by unfold Mi.forM; rfl)
theorem place_nat {m i : Nat} (h : i < m + 1) (hm : m ≤ 100) : placeB m (.int (i : Int)) = true := by
  show (inR (i : Int) && (decide (0 ≤ (i : Int)) && decide ((i : Int) < ((m + 1 : Nat) : Int)))) = true
  have hx : (1000 : Int) < X60 := by decide
  rw [show inR (i : Int) = true by rw [inR_iff]; constructor <;> omega, decide_eq_true (p := 0 ≤ (i : Int)) (by omega), decide_eq_true (p := (i : Int) < ((m + 1 : Nat) : Int)) (by omega)]
  rfl
theorem kn_int (i : Int) : kn (.int i) := .inr (.inr (.inl ⟨_, rfl⟩))
theorem cut_ok {m : Nat} {g : Nat → Nat → Int} {i j : Nat} {v : Int} {S : So} (hm : m ≤ 12) (hi : i < m + 1) (hj : j < m + 1) (hv : inR v = true) (hb : ∀ a b, a < m + 1 → b < m + 1 → Nn (z0 (cutF g i j v)) (m + 1) → inR (fw (z0 (cutF g i j v)) (m + 1) a b) = true) : ∃ S', m_Bounds_cut [BD (m + 1) g, .int (i : Int), .int (j : Int), .int v] S = .ok (if neg (m + 1) (fw (z0 (cutF g i j v)) (m + 1)) = true then .non else BD (m + 1) (fw (z0 (fw (z0 (cutF g i j v)) (m + 1))) (m + 1))) S' ∧ S.length ≤ S'.length ∧ ∀ k, k < S.length → S'[k]? = S[k]? := by
  have pl := places_ok (m := m) (g := g) (a1 := .int (i : Int)) (a2 := .int (j : Int)) (a3 := .int v) (S := S) (kn_int _) (kn_int _)
  rw [if_pos (place_nat hi (by omega)), if_pos (place_nat hj (by omega))] at pl
  obtain ⟨S1, e1, l1, q1⟩ := cut_in_ok (g := g) (v := v) (S := S) (n := m + 1) (by omega) hi hj
  have ii := is_integer_ok v S
  rw [hv] at ii
  cases c : neg (m + 1) (fw (z0 (cutF g i j v)) (m + 1)) with
  | true =>
    rw [c, if_pos rfl] at e1
    rw [if_pos rfl]
    exact ⟨S1, body_rt rfl (seq_nx pl (seq_nx (if_f (tnot_t (tru_bl (call_ok (one_ok rfl) ii))) rfl) (seq_nx (set_ok (call_ok (cons_ok (fld_ok rfl rfl) (cons_ok rfl (cons_ok rfl (one_ok rfl)))) e1)) (ret_ok (ife_t (tst_ok (m2_ok rfl rfl rfl)) rfl))))), l1, q1⟩
  | false =>
    rw [c, if_neg (by decide)] at e1
    rw [if_neg (by decide)]
    have A := neg_nn.mp c
    have O := idem (a := z0 (cutF g i j v)) (n := m + 1) fun a _ => z0_dg _ a
    refine ⟨S1 ++ [none], body_rt rfl (seq_nx pl (seq_nx (if_f (tnot_t (tru_bl (call_ok (one_ok rfl) ii))) rfl) (seq_nx (set_ok (call_ok (cons_ok (fld_ok rfl rfl) (cons_ok rfl (cons_ok rfl (one_ok rfl)))) e1)) (ret_ok (ife_f (tst_ok (m2_ok rfl rfl rfl)) (mk_ok rfl (MT_kR (by omega)) (MT_rows (by omega) (by omega) fun a b ha hb' => hb a b ha hb' A) (fun S => tb_MT) (by omega) (neg_nn.mpr (O.nn.mp A)))))))), by simp; omega, fun k hk => by rw [List.getElem?_append_left (by omega)]; exact q1 k hk⟩
def oddCut (m : Nat) (a1 a2 a3 : D) : Option (Str × D) := if placeB m a1 = false then some ("index", a1) else if placeB m a2 = false then some ("index", a2) else if isI a3 = false then some ("number", a3) else none
end K25

namespace K25
open PySem PySem.Spec PyProof.Rows L2 Mi Dbm
theorem comp_rel {hold : Option Nat} {S0 : So} {I : So → Prop} {ι : Nat → D} {P : Nat → D → Prop} {g : TgD} {f : E D} {enw : En} (hst : ∀ S, I S → still hold S0 S = true) : ∀ (n k : Nat) (acc : List D) (S : So), (∀ i, k ≤ i → i < k + n → ∀ S, I S → ∃ en1 y S', g (ι i) enw S = some en1 ∧ f en1 S = .ok y S' ∧ P i y ∧ I S') → I S → acc.length + n ≤ sizeLine →
    ∃ φ : Nat → D, ∃ S', compM hold S0 g tT f enw ((List.range' k n).map ι) acc S = .ok (acc ++ (List.range' k n).map φ) S' ∧ I S' ∧ ∀ i, k ≤ i → i < k + n → P i (φ i)
  | 0, k, acc, S, _, hI, _ => ⟨fun _ => .non, S, by simp [compM], hI, fun i h1 h2 => by omega⟩
  | n + 1, k, acc, S, h, hI, hz => by
    obtain ⟨en1, y, S1, e1, e2, hP, hI1⟩ := h k (Nat.le_refl _) (by omega) S hI
    obtain ⟨φ, S', e3, hI', hP'⟩ := comp_rel hst n (k + 1) (acc ++ [y]) S1 (fun i h1 h2 => h i (by omega) (by omega)) hI1 (by simp; omega)
    refine ⟨fun i => if i = k then y else φ i, S', ?_, hI', fun i h1 h2 => ?_⟩
    · rw [List.range'_succ, List.map_cons, List.map_cons]
      unfold compM
      simp only [e1, tT, e2]
      rw [if_pos ⟨by omega, hst S1 hI1⟩, e3]
      have : (List.range' (k + 1) n).map φ = (List.range' (k + 1) n).map fun i => if i = k then y else φ i := List.map_congr_left fun i hi => by
        have := (List.mem_range'_1.mp hi).1
        rw [if_neg (by omega)]
      rw [← this]
      simp
    · dsimp only
      by_cases c : i = k
      · rw [if_pos c, c]; exact hP
      · rw [if_neg c]; exact hP' i (by omega) (by omega)
theorem comp_rel0 {hold : Option Nat} {S0 S : So} {I : So → Prop} {ι : Nat → D} {P : Nat → D → Prop} {g : TgD} {f : E D} {enw : En} {n : Nat} (hst : ∀ S, I S → still hold S0 S = true) (h : ∀ i, i < n → ∀ S, I S → ∃ en1 y S', g (ι i) enw S = some en1 ∧ f en1 S = .ok y S' ∧ P i y ∧ I S') (hI : I S) (hn : n ≤ 1000) :
    ∃ φ : Nat → D, ∃ S', compM hold S0 g tT f enw ((List.range n).map ι) [] S = .ok ((List.range n).map φ) S' ∧ I S' ∧ ∀ i, i < n → P i (φ i) := by
  obtain ⟨φ, S', e, hI', hP⟩ := comp_rel (ι := ι) (P := P) (g := g) (f := f) (enw := enw) hst n 0 [] S (fun i _ h2 => h i (by omega)) hI (by simpa using size4 (by omega))
  rw [← List.range_eq_range', List.nil_append] at e
  exact ⟨φ, S', e, hI', fun i hi => hP i (Nat.zero_le _) (by omega)⟩
def iv : D → Int
  | .int v => v
  | _ => 0
theorem ints_fun {n : Nat} {φ : Nat → D} {P : Nat → Int → Prop} (h : ∀ i, i < n → ∃ v, φ i = .int v ∧ P i v) : ∃ v : Nat → Int, (List.range n).map φ = rowI n v ∧ ∀ i, i < n → P i (v i) := by
  refine ⟨fun i => iv (φ i), List.map_congr_left fun i hi => ?_, fun i hi => ?_⟩
  · obtain ⟨v, e, _⟩ := h i (List.mem_range.mp hi)
    show φ i = .int (iv (φ i))
    rw [e]
    rfl
  · obtain ⟨v, e, p⟩ := h i hi
    show P i (iv (φ i))
    rw [e]
    exact p
theorem rows_fun {n : Nat} {φ : Nat → D} {P : Nat → Nat → Int → Prop} (h : ∀ i, i < n → ∃ v : Nat → Int, φ i = .tup (rowI n v) ∧ ∀ j, j < n → P i j (v j)) : ∃ f : Nat → Nat → Int, ((List.range n).map φ) = (List.range n).map (fun i => D.tup (rowI n (f i))) ∧ ∀ i j, i < n → j < n → P i j (f i j) := by
  classical
  refine ⟨fun i => if hi : ∃ v : Nat → Int, φ i = .tup (rowI n v) ∧ ∀ j, j < n → P i j (v j) then Classical.choose hi else fun _ => 0, List.map_congr_left fun i hi => ?_, fun i j hi hj => ?_⟩
  · have c := h i (List.mem_range.mp hi)
    simp only [dif_pos c]
    exact (Classical.choose_spec c).1
  · have c := h i hi
    simp only [dif_pos c]
    exact (Classical.choose_spec c).2 j hj
structure Good (m : Nat) (f : Nat → Nat → Int) : Prop where
  box : Box m f
  pt : ∃ l, l.length = m ∧ Sat (m + 1) f l
  lo : ∀ i j, i < m + 1 → j < m + 1 → -1 ≤ f i j
  hi : ∀ i j, i < m + 1 → j < m + 1 → f i j ≤ 3
end K25

namespace K25
open PySem PySem.Spec PyProof.Rows L2 Mi Dbm
theorem BD_congr {n : Nat} {f g : Nat → Nat → Int} (h : ∀ i j, i < n → j < n → f i j = g i j) : BD n f = BD n g := by
  unfold BD
  rw [MT_congr h]
theorem Good.nn {m : Nat} {f : Nat → Nat → Int} (G : Good m f) : Nn (z0 f) (m + 1) := by
  obtain ⟨l, _, s⟩ := G.pt
  exact sat_nn (sat_z0.mp s)
theorem Good.z {m : Nat} {f : Nat → Nat → Int} (G : Good m f) {i j : Nat} (hi : i < m + 1) (hj : j < m + 1) : -1 ≤ z0 f i j ∧ z0 f i j ≤ 3 := by
  have a := G.lo i j hi hj
  have b := G.hi i j hi hj
  rcases z0_or f i j with e | ⟨_, e⟩ <;> rw [e] <;> omega
theorem Good.f {m : Nat} {f : Nat → Nat → Int} (G : Good m f) {i j : Nat} (hi : i < m + 1) (hj : j < m + 1) : -3 ≤ fw (z0 f) (m + 1) i j ∧ fw (z0 f) (m + 1) i j ≤ 3 := by
  have l := fw_low G.nn hi hj
  have u : fw (z0 f) (m + 1) i j ≤ z0 f i j := fw_mono (k := 0) (Nat.zero_le _)
  have b1 := G.z hi hj
  have b2 := G.z hj hi
  omega
theorem Good.cl {m : Nat} {f : Nat → Nat → Int} (G : Good m f) : Box m (fw (z0 f) (m + 1)) := by
  have B := cl_box G.box
  exact ⟨fun k hk => Int.le_trans (fw_mono (k := 0) (Nat.zero_le _)) (B.hi k hk), fun k hk => Int.le_trans (fw_mono (k := 0) (Nat.zero_le _)) (B.lo k hk)⟩
theorem isof_pts {m : Nat} {c : Nat → Nat → Int} (B : Box m c) : IsOf m (if neg (m + 1) (fw (z0 c) (m + 1)) = true then .non else BD (m + 1) (fw (z0 (fw (z0 c) (m + 1))) (m + 1))) (pts m c) := by
  cases q : neg (m + 1) (fw (z0 c) (m + 1)) with
  | true =>
    rw [if_pos rfl]
    refine .inl ⟨no_pts fun A => ?_, rfl⟩
    rw [neg_nn.mpr A] at q
    cases q
  | false =>
    rw [if_neg (by decide)]
    have A := neg_nn.mp q
    have O := idem (a := z0 c) (n := m + 1) fun a _ => z0_dg _ a
    refine .inr ⟨fun e => ?_, _, rfl, fun i j hi hj => ?_⟩
    · have := far_pts B A (j := 0) (by omega)
      rw [e] at this
      cases this
    · rw [O.fw A hi hj, gmax_pts B A hi hj]
theorem isof_self {m : Nat} {f : Nat → Nat → Int} (G : Good m f) : IsOf m (BD (m + 1) (fw (z0 f) (m + 1))) (pts m f) :=
  .inr ⟨(fun e => by
    have := far_pts G.box G.nn (j := 0) (by omega)
    rw [e] at this
    cases this), _, rfl, fun i j hi hj => (gmax_pts G.box G.nn hi hj).symm⟩
theorem pts_len {m : Nat} {f : Nat → Nat → Int} {l : List Int} (h : l ∈ pts m f) : l.length = m := (mem_pts.mp h).1.1
theorem bool_iff {a b : Bool} (h : a = true ↔ b = true) : a = b := by rw [Bool.eq_iff_iff]; exact h
theorem held_cl {m : Nat} {f : Nat → Nat → Int} (B : Box m f) {l : List Int} (hl : l.length = m) : heldB (m + 1) (fw (z0 f) (m + 1)) l = decide (l ∈ pts m f) := by
  refine bool_iff ?_
  rw [held_iff, decide_eq_true_eq, mem_pts]
  constructor
  · intro s
    have s' := sat_z0.mpr (sat_fw.mpr s)
    exact ⟨B.gr hl s', s'⟩
  · intro s
    exact sat_fw.mp (sat_z0.mp s.2)
theorem sat_cl {m : Nat} {f : Nat → Nat → Int} {l : List Int} : Sat (m + 1) (fw (z0 f) (m + 1)) l ↔ Sat (m + 1) f l := ⟨fun s => sat_z0.mpr (sat_fw.mpr s), fun s => sat_fw.mp (sat_z0.mp s)⟩
theorem sat_cut {n : Nat} {g : Nat → Nat → Int} {i j : Nat} {v : Int} {l : List Int} (hi : i < n) (hj : j < n) : Sat n (cutF g i j v) l ↔ Sat n g l ∧ fu l i - fu l j ≤ v := by
  constructor
  · intro s
    refine ⟨fun a b ha hb => ?_, ?_⟩
    · have := s a b ha hb
      unfold cutF at this
      split at this
      · split at this
        · exact Int.le_trans this (mn_l _ _)
        · exact this
      · exact this
    · have := s i j hi hj
      unfold cutF at this
      rw [if_pos rfl, if_pos rfl] at this
      exact Int.le_trans this (mn_r _ _)
  · rintro ⟨s, e⟩ a b ha hb
    have := s a b ha hb
    unfold cutF
    split
    · split
      · rename_i c1 c2
        subst c1 c2
        exact mn_ge this e
      · exact this
    · exact this
theorem cut_le (g : Nat → Nat → Int) (i j : Nat) (v : Int) (a b : Nat) : cutF g i j v a b ≤ g a b := by
  unfold cutF
  split
  · split
    · exact mn_l _ _
    · exact Int.le_refl _
  · exact Int.le_refl _
theorem cut_ge {g : Nat → Nat → Int} {i j : Nat} {v z : Int} {a b : Nat} (h : z ≤ g a b) (k : z ≤ v) : z ≤ cutF g i j v a b := by
  unfold cutF
  split
  · split
    · exact mn_ge h k
    · exact h
  · exact h
theorem flt_flt {α : Type} (l : List α) (p q : α → Bool) : (l.filter p).filter q = l.filter fun a => p a && q a := by
  rw [List.filter_filter]
  congr 1
  funext a
  exact Bool.and_comm _ _
theorem flt_congr {α : Type} {l : List α} {p q : α → Bool} (h : ∀ a ∈ l, p a = q a) : l.filter p = l.filter q := by
  induction l with
  | nil => rfl
  | cons a l ih =>
    rw [List.filter_cons, List.filter_cons, h a (by simp), ih fun b hb => h b (by simp [hb])]
theorem left_pts {m : Nat} {f : Nat → Nat → Int} {i j : Nat} {v : Int} (hi : i < m + 1) (hj : j < m + 1) : (pts m f).filter (fun l => decide (fu l i - fu l j ≤ v)) = pts m (cutF (fw (z0 f) (m + 1)) i j v) := by
  unfold pts
  rw [flt_flt]
  refine flt_congr fun l _ => bool_iff ?_
  rw [Bool.and_eq_true, held_iff, held_iff, decide_eq_true_eq, sat_cut hi hj, sat_cl]
theorem shared_pts {m : Nat} {f h : Nat → Nat → Int} : (pts m f).filter (fun l => decide (l ∈ pts m h)) = pts m fun i j => mn (fw (z0 f) (m + 1) i j) (fw (z0 h) (m + 1) i j) := by
  unfold pts
  rw [flt_flt]
  refine flt_congr fun l hl => bool_iff ?_
  have g := mem_grid.mp hl
  have e : (l ∈ List.filter (heldB (m + 1) h) (grid m)) ↔ Sat (m + 1) h l := by
    rw [List.mem_filter, held_iff]
    exact ⟨fun x => x.2, fun x => ⟨hl, x⟩⟩
  rw [Bool.and_eq_true, held_iff, held_iff, decide_eq_true_eq, e]
  constructor
  · rintro ⟨a, b⟩ i j hi hj
    exact mn_ge (sat_cl.mpr a i j hi hj) (sat_cl.mpr b i j hi hj)
  · intro s
    exact ⟨sat_cl.mp fun i j hi hj => Int.le_trans (s i j hi hj) (mn_l _ _), sat_cl.mp fun i j hi hj => Int.le_trans (s i j hi hj) (mn_r _ _)⟩
theorem mn_comm (i j : Int) : mn i j = mn j i := by
  unfold mn
  split <;> split <;> omega
theorem in3 {v : Int} (h : -10 ≤ v) (k : v ≤ 10) : inR v = true := by
  have hX : X60 = 1000000000000000000000000000000000000000000000000000000000000 := rfl
  rw [inR_iff]
  constructor <;> omega
theorem cut_in {m : Nat} {f : Nat → Nat → Int} (G : Good m f) {i j : Nat} {v : Int} (hv : -3 ≤ v) {a b : Nat} (ha : a < m + 1) (hb : b < m + 1) (A : Nn (z0 (cutF (fw (z0 f) (m + 1)) i j v)) (m + 1)) : inR (fw (z0 (cutF (fw (z0 f) (m + 1)) i j v)) (m + 1) a b) = true := by
  have zz : ∀ a b, a < m + 1 → b < m + 1 → -3 ≤ z0 (cutF (fw (z0 f) (m + 1)) i j v) a b ∧ z0 (cutF (fw (z0 f) (m + 1)) i j v) a b ≤ 3 := fun a b ha hb => by
    have g := G.f ha hb
    have l := cut_ge (i := i) (j := j) (v := v) g.1 hv
    have u := cut_le (fw (z0 f) (m + 1)) i j v a b
    rcases z0_or (cutF (fw (z0 f) (m + 1)) i j v) a b with e | ⟨_, e⟩ <;> rw [e] <;> omega
  have l := fw_low A ha hb
  have u : fw (z0 (cutF (fw (z0 f) (m + 1)) i j v)) (m + 1) a b ≤ z0 (cutF (fw (z0 f) (m + 1)) i j v) a b := fw_mono (k := 0) (Nat.zero_le _)
  have b1 := zz a b ha hb
  have b2 := zz b a hb ha
  exact in3 (by omega) (by omega)
theorem and_in {m : Nat} {f h : Nat → Nat → Int} (G : Good m f) (K : Good m h) {a b : Nat} (ha : a < m + 1) (hb : b < m + 1) (A : Nn (z0 fun i j => mn (fw (z0 f) (m + 1) i j) (fw (z0 h) (m + 1) i j)) (m + 1)) : inR (fw (z0 fun i j => mn (fw (z0 f) (m + 1) i j) (fw (z0 h) (m + 1) i j)) (m + 1) a b) = true := by
  obtain ⟨c, hc⟩ : ∃ c : Nat → Nat → Int, c = fun i j => mn (fw (z0 f) (m + 1) i j) (fw (z0 h) (m + 1) i j) := ⟨_, rfl⟩
  rw [← hc] at A ⊢
  have zz : ∀ a b, a < m + 1 → b < m + 1 → -3 ≤ z0 c a b ∧ z0 c a b ≤ 3 := fun a b ha hb => by
    have g := G.f ha hb
    have k := K.f ha hb
    have l : -3 ≤ c a b := by rw [hc]; exact mn_ge g.1 k.1
    have u : c a b ≤ 3 := by rw [hc]; exact Int.le_trans (mn_l _ _) g.2
    rcases z0_or c a b with e | ⟨_, e⟩ <;> rw [e] <;> omega
  have l := fw_low A ha hb
  have u : fw (z0 c) (m + 1) a b ≤ z0 c a b := fw_mono (k := 0) (Nat.zero_le _)
  have b1 := zz a b ha hb
  have b2 := zz b a hb ha
  exact in3 (by omega) (by omega)
theorem cut_box {m : Nat} {f : Nat → Nat → Int} (G : Good m f) {i j : Nat} {v : Int} : Box m (cutF (fw (z0 f) (m + 1)) i j v) := ⟨fun k hk => Int.le_trans (cut_le _ _ _ _ _ _) (G.cl.hi k hk), fun k hk => Int.le_trans (cut_le _ _ _ _ _ _) (G.cl.lo k hk)⟩
theorem and_box {m : Nat} {f : Nat → Nat → Int} (h : Nat → Nat → Int) (G : Good m f) : Box m fun i j => mn (fw (z0 f) (m + 1) i j) (fw (z0 h) (m + 1) i j) := ⟨fun k hk => Int.le_trans (mn_l _ _) (G.cl.hi k hk), fun k hk => Int.le_trans (mn_l _ _) (G.cl.lo k hk)⟩
theorem met_of {m : Nat} {f h : Nat → Nat → Int} {S : So} (hm : m ≤ 12) (G : Good m f) (K : Good m h) : ∃ x S', m_Bounds_and [BD (m + 1) (fw (z0 f) (m + 1)), BD (m + 1) (fw (z0 h) (m + 1))] S = .ok x S' ∧ IsOf m x (pts m fun i j => mn (fw (z0 f) (m + 1) i j) (fw (z0 h) (m + 1) i j)) ∧ S.length ≤ S'.length ∧ ∀ k, k < S.length → S'[k]? = S[k]? := by
  obtain ⟨S', e, q⟩ := and_ok (n := m + 1) (g := fw (z0 f) (m + 1)) (h := fw (z0 h) (m + 1)) (S := S) (by omega) _ rfl (fun c => by
    have A := neg_nn.mp c
    have O := idem (a := z0 fun i j => mn (fw (z0 f) (m + 1) i j) (fw (z0 h) (m + 1) i j)) (n := m + 1) fun a _ => z0_dg _ a
    exact ⟨MT_rows (by omega) (by omega) fun i j hi hj => and_in G K hi hj A, neg_nn.mpr (O.nn.mp A)⟩)
  refine ⟨_, S', e, isof_pts (and_box h G), ?_⟩
  rcases q with rfl | rfl
  · exact ⟨Nat.le_refl _, fun _ _ => rfl⟩
  · exact ⟨by simp, fun k hk => List.getElem?_append_left hk⟩
end K25

namespace K25
open PySem PySem.Spec PyProof.Rows L2 Mi Dbm
theorem gmax_spec {P : List (List Int)} (h : P ≠ []) (i j : Nat) : (∀ l ∈ P, fu l i - fu l j ≤ gmax P i j) ∧ ∃ l ∈ P, fu l i - fu l j = gmax P i j := by
  unfold gmax
  cases e : P.map fun l => fu l i - fu l j with
  | nil => exact (h (List.map_eq_nil_iff.mp e)).elim
  | cons x r =>
    refine ⟨fun l hl => maxI_le r x _ (by rw [← e]; exact List.mem_map.mpr ⟨l, hl, rfl⟩), ?_⟩
    have m := maxI_mem r x
    rw [← e] at m
    obtain ⟨l, hl, q⟩ := List.mem_map.mp m
    exact ⟨l, hl, q⟩
theorem gmax_diag {P : List (List Int)} (h : P ≠ []) (i : Nat) : gmax P i i = 0 := by
  obtain ⟨l, _, e⟩ := (gmax_spec h i i).2
  omega
theorem closed_gmax {n : Nat} {P : List (List Int)} {L : Nat → Nat → Int} (hP : P ≠ []) (h : ∀ i j, i < n → j < n → L i j = gmax P i j) : Nn (z0 L) n ∧ ∀ i j, i < n → j < n → fw (z0 L) n i j = L i j := by
  have zL : ∀ i j, i < n → j < n → z0 L i j = L i j := fun i j hi hj => by
    rcases z0_or L i j with e | ⟨rfl, e⟩
    · exact e
    · rw [e, h i i hi hj, gmax_diag hP]
  have sat : ∀ l ∈ P, Sat n (z0 L) l := fun l hl i j hi hj => by
    rw [zL i j hi hj, h i j hi hj]
    exact (gmax_spec hP i j).1 l hl
  obtain ⟨l0, P', rfl⟩ : ∃ l0 P', P = l0 :: P' := by
    cases P with
    | nil => exact (hP rfl).elim
    | cons a b => exact ⟨a, b, rfl⟩
  refine ⟨sat_nn (sat l0 (by simp)), fun i j hi hj => Int.le_antisymm ?_ ?_⟩
  · rw [← zL i j hi hj]
    exact fw_mono (k := 0) (Nat.zero_le _)
  · obtain ⟨l, hl, e⟩ := (gmax_spec hP i j).2
    rw [h i j hi hj, ← e]
    exact sat_fw.mp (sat l hl) i j hi hj
theorem isof_made {m : Nat} {P : List (List Int)} {L : Nat → Nat → Int} (hP : P ≠ []) (h : ∀ i j, i < m + 1 → j < m + 1 → L i j = gmax P i j) : IsOf m (BD (m + 1) (fw (z0 L) (m + 1))) P :=
  .inr ⟨hP, _, rfl, fun i j hi hj => ((closed_gmax hP h).2 i j hi hj).trans (h i j hi hj)⟩
theorem isof_sat {m : Nat} {P : List (List Int)} {c : Nat → Nat → Int} (h : ∀ l, l ∈ P ↔ (l.length = m ∧ Sat (m + 1) c l)) : IsOf m (if neg (m + 1) (fw (z0 c) (m + 1)) = true then .non else BD (m + 1) (fw (z0 (fw (z0 c) (m + 1))) (m + 1))) P := by
  cases q : neg (m + 1) (fw (z0 c) (m + 1)) with
  | true =>
    rw [if_pos rfl]
    refine .inl ⟨?_, rfl⟩
    cases e : P with
    | nil => rfl
    | cons l r =>
      have A := sat_nn (sat_z0.mp ((h l).mp (by rw [e]; simp)).2)
      rw [neg_nn.mpr A] at q
      cases q
  | false =>
    rw [if_neg (by decide)]
    have A := neg_nn.mp q
    have O := idem (a := z0 c) (n := m + 1) fun a _ => z0_dg _ a
    have fp : ∀ j, j < m + 1 → far m (fw (z0 c) (m + 1)) j ∈ P := fun j hj => (h _).mpr ⟨far_len, sat_z0.mpr (far_sat A hj)⟩
    refine .inr ⟨fun e => ?_, _, rfl, fun i j hi hj => ?_⟩
    · have := fp 0 (by omega)
      rw [e] at this
      cases this
    · rw [O.fw A hi hj]
      exact (gmax_eq (fun l hl => sat_fw.mp (sat_z0.mp ((h l).mp hl).2) i j hi hj) ⟨_, fp j hj, far_att A (fun i _ => z0_dg c i) hi hj⟩).symm
def dl (t : Int) (i : Nat) : Int := if i = 0 then 0 else t
def lat (g : Nat → Nat → Int) (t : Int) (i j : Nat) : Int := g i j + dl t i - dl t j
theorem fu_map {l : List Int} {F : Int → Int} {k : Nat} (hk : k < l.length) : fu (l.map F) (k + 1) = F (fu l (k + 1)) := by
  rw [fu_succ, fu_succ, List.getD_eq_getElem?_getD, List.getD_eq_getElem?_getD, List.getElem?_map, List.getElem?_eq_getElem hk]
  rfl
theorem fu_add {l : List Int} {t : Int} {k : Nat} (hk : k < l.length + 1) : fu (l.map fun x => x + t) k = fu l k + dl t k := by
  cases k with
  | zero => rw [fu_zero, fu_zero]; rfl
  | succ k =>
    rw [fu_map (by omega)]
    unfold dl
    rw [if_neg (by omega)]
theorem gmax_lat {m : Nat} {P : List (List Int)} {g : Nat → Nat → Int} {t : Int} (hP : P ≠ []) (hl : ∀ l ∈ P, l.length = m) (h : ∀ i j, i < m + 1 → j < m + 1 → g i j = gmax P i j) {i j : Nat} (hi : i < m + 1) (hj : j < m + 1) :
    lat g t i j = gmax (P.map fun l => l.map fun x => x + t) i j := by
  symm
  obtain ⟨up, l, hm, e⟩ := gmax_spec hP i j
  refine gmax_eq (fun q hq => ?_) ⟨_, List.mem_map.mpr ⟨l, hm, rfl⟩, ?_⟩
  · obtain ⟨l, hm, rfl⟩ := List.mem_map.mp hq
    rw [fu_add (by rw [hl l hm]; exact hi), fu_add (by rw [hl l hm]; exact hj)]
    have := up l hm
    unfold lat
    rw [h i j hi hj]
    omega
  · rw [fu_add (by rw [hl l hm]; exact hi), fu_add (by rw [hl l hm]; exact hj)]
    unfold lat
    rw [h i j hi hj]
    omega
def od (pl : List Nat) (k : Nat) : Nat := (0 :: pl).getD k 0
def mv (g : Nat → Nat → Int) (pl : List Nat) (i j : Nat) : Int := g (od pl i) (od pl j)
def mvl (pl : List Nat) (l : List Int) : List Int := pl.map fun k => fu l k
theorem fu_mvl {pl : List Nat} {l : List Int} {k : Nat} (hk : k < pl.length + 1) : fu (mvl pl l) k = fu l (od pl k) := by
  cases k with
  | zero => rfl
  | succ k =>
    unfold mvl
    rw [fu_succ, List.getD_eq_getElem?_getD, List.getElem?_map, List.getElem?_eq_getElem (by omega)]
    unfold od
    rw [List.getD_cons_succ, List.getD_eq_getElem?_getD, List.getElem?_eq_getElem (by omega)]
    rfl
theorem gmax_mv {pl : List Nat} {P : List (List Int)} {i j : Nat} (hi : i < pl.length + 1) (hj : j < pl.length + 1) : gmax (P.map (mvl pl)) i j = gmax P (od pl i) (od pl j) := by
  unfold gmax
  rw [List.map_map]
  have : (P.map ((fun l => fu l i - fu l j) ∘ mvl pl)) = P.map fun l => fu l (od pl i) - fu l (od pl j) := List.map_congr_left fun l _ => by
    show fu (mvl pl l) i - fu (mvl pl l) j = _
    rw [fu_mvl hi, fu_mvl hj]
  rw [this]
theorem od_lt {pl : List Nat} {m k : Nat} (h : ∀ p ∈ pl, p < m + 1) : od pl k < m + 1 := by
  cases k with
  | zero => exact Nat.succ_pos m
  | succ k =>
    unfold od
    rw [List.getD_cons_succ, List.getD_eq_getElem?_getD]
    by_cases c : k < pl.length
    · rw [List.getElem?_eq_getElem c]
      exact h _ (List.getElem_mem c)
    · rw [List.getElem?_eq_none (by omega)]
      exact Nat.succ_pos m
def ris (g : Nat → Nat → Int) (tp : List Int) (i j : Nat) : Int := if j = 0 ∧ 0 < i then tp.getD (i - 1) 0 else g i j
theorem ris_up (g : Nat → Nat → Int) (tp : List Int) (k : Nat) : ris g tp (k + 1) 0 = tp.getD k 0 := by
  unfold ris
  rw [if_pos ⟨rfl, by omega⟩]
  rfl
theorem ris_no {g : Nat → Nat → Int} {tp : List Int} {i j : Nat} (h : j ≠ 0 ∨ i = 0) : ris g tp i j = g i j := by
  unfold ris
  rw [if_neg (by omega)]
theorem sat_ris {m : Nat} {g : Nat → Nat → Int} {tp x : List Int} (hx : x.length = m) (tri : ∀ i j, i < m + 1 → j < m + 1 → g i j ≤ g i 0 + g 0 j) (g0 : 0 ≤ g 0 0) (lo : ∀ k, k < m + 1 → -2 ≤ g k 0) (ht : ∀ k, k < m → tp.getD k 0 ≤ 5) :
    Sat (m + 1) (ris g tp) x ↔ ∃ (l : List Int) (d : Nat), l.length = m ∧ Sat (m + 1) g l ∧ d < 9 ∧ x = l.map (fun r => r + (d : Int)) ∧ ∀ k, k < m → fu x (k + 1) ≤ tp.getD k 0 := by
  constructor
  · intro s
    have up : ∀ k, k < m → fu x (k + 1) ≤ tp.getD k 0 := fun k hk => by
      have := s (k + 1) 0 (by omega) (by omega)
      rw [ris_up, fu_zero] at this
      omega
    obtain ⟨D, hD⟩ : ∃ D, D = maxI 0 ((List.range m).map fun k => fu x (k + 1) - g (k + 1) 0) := ⟨_, rfl⟩
    have D0 : 0 ≤ D := by rw [hD]; exact maxI_le _ _ _ (by simp)
    have Dk : ∀ k, k < m → fu x (k + 1) - g (k + 1) 0 ≤ D := fun k hk => by
      rw [hD]
      exact maxI_le _ _ _ (List.mem_cons_of_mem _ (List.mem_map.mpr ⟨k, List.mem_range.mpr hk, rfl⟩))
    have Dor : D = 0 ∨ ∃ k, k < m ∧ D = fu x (k + 1) - g (k + 1) 0 := by
      have := maxI_mem ((List.range m).map fun k => fu x (k + 1) - g (k + 1) 0) 0
      rw [← hD] at this
      rcases List.mem_cons.mp this with e | e
      · exact .inl e
      · obtain ⟨k, hk, e⟩ := List.mem_map.mp e
        exact .inr ⟨k, List.mem_range.mp hk, e.symm⟩
    have D9 : D < 9 := by
      rcases Dor with e | ⟨k, hk, e⟩
      · omega
      · have a := up k hk
        have b := ht k hk
        have c := lo (k + 1) (by omega)
        omega
    have fl : ∀ k, k < m → fu (x.map fun r => r - D) (k + 1) = fu x (k + 1) - D := fun k hk => fu_map (by omega)
    refine ⟨x.map fun r => r - D, D.toNat, by rw [List.length_map, hx], fun i j hi hj => ?_, by omega, ?_, up⟩
    · cases i with
      | zero =>
        cases j with
        | zero => rw [fu_zero]; omega
        | succ j =>
          rw [fu_zero, fl j (by omega)]
          have a := s 0 (j + 1) (by omega) (by omega)
          rw [ris_no (.inl (by omega)), fu_zero] at a
          rcases Dor with e | ⟨k, hk, e⟩
          · omega
          · have b := s (k + 1) (j + 1) (by omega) (by omega)
            rw [ris_no (.inl (by omega))] at b
            have c := tri (k + 1) (j + 1) (by omega) (by omega)
            omega
      | succ i =>
        cases j with
        | zero =>
          rw [fu_zero, fl i (by omega)]
          have := Dk i (by omega)
          omega
        | succ j =>
          rw [fl i (by omega), fl j (by omega)]
          have b := s (i + 1) (j + 1) (by omega) (by omega)
          rw [ris_no (.inl (by omega))] at b
          omega
    · rw [List.map_map]
      conv => lhs; rw [← List.map_id x]
      refine List.map_congr_left fun r _ => ?_
      show r = r - D + ((D.toNat : Nat) : Int)
      omega
  · rintro ⟨l, d, hl, s, hd, rfl, up⟩ i j hi hj
    have fa : ∀ k, k < m + 1 → fu (l.map fun r => r + (d : Int)) k = fu l k + dl d k := fun k hk => fu_add (by omega)
    have b := s i j hi hj
    by_cases c : j = 0 ∧ 0 < i
    · obtain ⟨rfl, hi0⟩ := c
      obtain ⟨k, rfl⟩ : ∃ k, i = k + 1 := ⟨i - 1, by omega⟩
      rw [ris_up, fu_zero]
      have := up k (by omega)
      omega
    · rw [ris_no (by omega), fa i hi, fa j hj]
      unfold dl
      by_cases c1 : i = 0
      · rw [if_pos c1]
        split <;> omega
      · rw [if_neg c1, if_neg (by omega)]
        omega
end K25

namespace K25
open PySem PySem.Spec PyProof.Rows L2 Mi Dbm
theorem sl_tup {f : E D} {fl fh : E (Option Int)} {en : En} {S S1 S2 S3 : So} {l : List D} {lo hi : Option Int} (h : f en S = .ok (.tup l) S1) (hl : fl en S1 = .ok lo S2) (hh : fh en S2 = .ok hi S3) : mSl dSl f fl fh en S = .ok (.tup (Mi.cutD l lo hi)) S3 := by
  unfold mSl
  rw [h, R.bind_ok, hl, R.bind_ok, hh, R.bind_ok]
  rfl
theorem rowI_succ (m : Nat) (f : Nat → Int) : rowI (m + 1) f = .int (f 0) :: rowI m fun j => f (j + 1) := by
  unfold rowI
  rw [List.range_succ_eq_map, List.map_cons, List.map_map]
  rfl
theorem tail_map {α : Type} (m : Nat) (φ : Nat → D) : Mi.cutD ((List.range (m + 1)).map φ) (some 1) none = (List.range m).map fun i => φ (i + 1) := by
  rw [cut1, List.range_succ_eq_map, List.map_cons, List.drop_one, List.tail_cons, List.map_map]
  rfl
def lt' (g : Nat → Nat → Int) (t : Int) (i j : Nat) : Int := if i = 0 then (if j = 0 then 0 else g 0 j - t) else (if j = 0 then g i 0 + t else g i j)
theorem lt_lat {g : Nat → Nat → Int} {t : Int} (h : g 0 0 = 0) (i j : Nat) : lt' g t i j = lat g t i j := by
  unfold lt' lat dl
  by_cases c : i = 0
  · subst c
    rw [if_pos rfl, if_pos rfl]
    by_cases d : j = 0
    · subst d
      rw [if_pos rfl, if_pos rfl]
      omega
    · rw [if_neg d, if_neg d]
      omega
  · rw [if_neg c, if_neg c]
    by_cases d : j = 0
    · subst d
      rw [if_pos rfl, if_pos rfl]
      omega
    · rw [if_neg d, if_neg d]
      omega
theorem enumD_map {φ : Nat → D} : ∀ (n k : Nat), enumD k ((List.range' k n).map φ) = (List.range' k n).map fun i : Nat => D.tup [.int (i : Int), φ i]
  | 0, k => by simp [enumD]
  | n + 1, k => by
    rw [List.range'_succ, List.map_cons, List.map_cons]
    unfold enumD
    rw [enumD_map n (k + 1)]
theorem en_row {n : Nat} {φ : Nat → D} {f : E D} {en : En} {S : So} (h : f en S = .ok (.tup ((List.range n).map φ)) S) : iEnT (aCons f aNil) en S = .ok ⟨none, (List.range n).map fun i : Nat => D.tup [.int (i : Int), φ i]⟩ S := by
  unfold iEnT
  rw [one_ok h, R.bind_ok]
  dsimp only
  rw [List.range_eq_range', enumD_map]
theorem add_lst1 {l : List D} {x : D} {S : So} (hz : l.length ≤ 1000) : dAdd (.lst l) (.lst [x]) S = some (.lst (l ++ [x]), S) := add_lst (size4 (by simp; omega))
theorem later_ok {m : Nat} {g : Nat → Nat → Int} {t : Int} {S : So} (hm : m ≤ 100) : m_later_in [MT (m + 1) g, .int t] S = .ok (MT (m + 1) (lt' g t)) S := by
  have z1 : (1 : Nat) ≤ sizeLine := size4 (by decide)
  have r0 : ∀ (en : En), mV 0 en S = .ok (MT (m + 1) g) S → m2 dIx (mV 0) (mC (.int 0)) en S = .ok (.tup (rowI (m + 1) (g 0))) S := fun en h => m2_ok h rfl (ix_tup (atI_rng (i := 0) _ (by omega)))
  have first : mB bTup (aCons (mComp (iEnT (aCons (m2 dIx (mV 0) (mC (.int 0))) aNil)) (gT 2 (gsCons (gN 4) (gsCons (gN 5) gsNil))) tT (mIf (tB' (m2 dGt (mV 4) (mC (.int 0)))) (m2 dSub (mV 5) (mV 1)) (mC (.int 0))) [4, 5]) aNil) [some (MT (m + 1) g), some (.int t), none, none, none, none] S = .ok (.tup (rowI (m + 1) (lt' g t 0))) S :=
    b_ok (one_ok (cmp_src (ι := fun j : Nat => D.tup [.int (j : Int), .int (g 0 j)]) (φ := fun j => .int (lt' g t 0 j)) (en_row (r0 _ rfl)) (by omega) fun j hj => ⟨_, rfl, by
      have q : dGt (.int (j : Int)) (.int 0) S = some (.bl (decide ((j : Int) > 0)), S) := rfl
      unfold lt'
      rw [if_pos rfl]
      by_cases c : j = 0
      · rw [decide_eq_false (by omega)] at q
        rw [if_pos c]
        exact ife_f (tst_ok (m2_ok rfl rfl q)) rfl
      · rw [decide_eq_true (by omega)] at q
        rw [if_neg c]
        exact ife_t (tst_ok (m2_ok rfl rfl q)) (m2_ok rfl rfl rfl)⟩)) rfl
  obtain ⟨en', S', e1, o3, rfl, rfl⟩ := for_n (S0 := S) (g := gN 3) (ι := fun i : Nat => D.tup (rowI (m + 1) (g (i + 1)))) (n := m) (en := [some (MT (m + 1) g), some (.int t), some (.lst [.tup (rowI (m + 1) (lt' g t 0))]), none, none, none]) (S := S)
    (body := sSet 2 (m2 dAdd (mV 2) (mLst (aCons (m2 dAdd (mTup (aCons (m2 dAdd (m2 dIx (mV 3) (mC (.int 0))) (mV 1)) aNil)) (mSl dSl (mV 3) (pSo (mC (.int 1))) pNo)) aNil))))
    (J := fun k en S' => ∃ o3, en = [some (MT (m + 1) g), some (.int t), some (.lst ((List.range (k + 1)).map fun i => D.tup (rowI (m + 1) (lt' g t i)))), o3, none, none] ∧ S' = S)
    (fun k hk en S' hJ => by
      obtain ⟨o3, rfl, rfl⟩ := hJ
      have row : m2 dAdd (mTup (aCons (m2 dAdd (m2 dIx (mV 3) (mC (.int 0))) (mV 1)) aNil)) (mSl dSl (mV 3) (pSo (mC (.int 1))) pNo) [some (MT (m + 1) g), some (.int t), some (.lst ((List.range (k + 1)).map fun i => D.tup (rowI (m + 1) (lt' g t i)))), some (.tup (rowI (m + 1) (g (k + 1)))), none, none] S' = .ok (.tup (rowI (m + 1) (lt' g t (k + 1)))) S' := by
        rw [rowI_succ m (lt' g t (k + 1))]
        have e : ∀ j, lt' g t (k + 1) (j + 1) = g (k + 1) (j + 1) := fun j => by unfold lt'; rw [if_neg (by omega), if_neg (by omega)]
        have e0 : lt' g t (k + 1) 0 = g (k + 1) 0 + t := by unfold lt'; rw [if_neg (by omega), if_pos rfl]
        rw [e0, show (fun j => lt' g t (k + 1) (j + 1)) = fun j => g (k + 1) (j + 1) from funext e]
        have sl : mSl dSl (mV 3) (pSo (mC (.int 1))) pNo [some (MT (m + 1) g), some (.int t), some (.lst ((List.range (k + 1)).map fun i => D.tup (rowI (m + 1) (lt' g t i)))), some (.tup (rowI (m + 1) (g (k + 1)))), none, none] S' = .ok (.tup (rowI m fun j => g (k + 1) (j + 1))) S' := by
          have := sl_tup (f := mV 3) (fl := pSo (mC (.int 1))) (fh := pNo) (en := [some (MT (m + 1) g), some (.int t), some (.lst ((List.range (k + 1)).map fun i => D.tup (rowI (m + 1) (lt' g t i)))), some (.tup (rowI (m + 1) (g (k + 1)))), none, none]) (S := S') rfl rfl rfl
          rw [this]
          congr 2
          exact tail_map (α := Nat) m _
        exact m2_ok (tup_ok (one_ok (m2_ok (m2_ok rfl rfl (row_tup (j := 0) (by omega))) rfl rfl)) z1) sl (add_tup (size4 (by rw [rowI_len]; simp; omega)))
      refine ⟨_, _, S', rfl, set_ok (m2_ok rfl (lst_ok (one_ok row) z1) (add_lst1 (by rw [List.length_map, List.length_range]; omega))), some (.tup (rowI (m + 1) (g (k + 1)))), ?_, rfl⟩
      rw [List.range_succ (n := k + 1), List.map_append]
      rfl)
    ⟨none, rfl, rfl⟩
  have src : iSeq (mSl dSl (mV 0) (pSo (mC (.int 1))) pNo) [some (MT (m + 1) g), some (.int t), some (.lst [.tup (rowI (m + 1) (lt' g t 0))]), none, none, none] S' = .ok ⟨none, (List.range m).map fun i => D.tup (rowI (m + 1) (g (i + 1)))⟩ S' := by
    refine seq_src (sl_tup (f := mV 0) (fl := pSo (mC (.int 1))) (fh := pNo) rfl rfl rfl) ?_
    show some (⟨none, _⟩ : Src) = _
    congr 2
    exact tail_map (α := Nat) m _
  exact body_rt rfl (seq_nx (set_ok (lst_ok (one_ok first) z1)) (seq_nx (for_of src e1) (ret_ok (b_ok (one_ok rfl) rfl))))
def timeB (d : D) : Bool := match d with
  | .int v => inR v && decide (0 ≤ v)
  | _ => false
theorem time_ok {d : D} {S : So} (h : kn d) : m_is_time [d] S = .ok (.bl (timeB d)) S := by
  have i := int_kn h S
  by_cases c : isI d = true
  · obtain ⟨v, rfl⟩ : ∃ v, d = .int v := by
      cases d <;> first | exact ⟨_, rfl⟩ | (cases c)
    have cv : inR v = true := c
    rw [show isI (.int v) = true from c] at i
    have q : dGe (.int v) (.int 0) S = some (.bl (decide (0 ≤ v)), S) := by
      show some (D.bl (decide (v ≥ 0)), S) = _
      rfl
    rw [show timeB (.int v) = decide (0 ≤ v) by show (inR v && _) = _; rw [cv, Bool.true_and]]
    exact body_rt rfl (ret_ok (and_t (call_ok (one_ok rfl) i) (m2_ok rfl rfl q)))
  · have c' : isI d = false := by
      cases q : isI d with
      | true => exact (c q).elim
      | false => rfl
    have tb : timeB d = false := by
      cases d <;> first | rfl | (rename_i v; show (inR v && _) = false; rw [show inR v = false from c']; rfl)
    rw [tb]
    rw [c'] at i
    exact body_rt rfl (ret_ok (and_f (call_ok (one_ok rfl) i)))
theorem shift_ok {m : Nat} {g : Nat → Nat → Int} {t : Int} {S : So} (hm : m ≤ 12) (h0 : 0 ≤ t) (ht : inR t = true) (hr : ∀ i j, i < m + 1 → j < m + 1 → inR (lt' g t i j) = true) (hn : neg (m + 1) (fw (z0 (lt' g t)) (m + 1)) = false) :
    m_Bounds_rshift [BD (m + 1) g, .int t] S = .ok (BD (m + 1) (fw (z0 (lt' g t)) (m + 1))) (S ++ [none]) := by
  have ti := time_ok (S := S) (.inr (.inr (.inl ⟨t, rfl⟩)))
  rw [show timeB (.int t) = true by show (inR t && decide (0 ≤ t)) = true; rw [ht, decide_eq_true h0]; rfl] at ti
  have ro := MT_rows (by omega) (by omega) hr
  have ar := are_rows_ok (MT_kR (n := m + 1) (f := lt' g t) (by omega)) S
  rw [ro] at ar
  exact body_rt rfl (seq_nx (if_f (tnot_t (tru_bl (call_ok (one_ok rfl) ti))) rfl) (seq_nx (set_ok (call_ok (cons_ok (fld_ok rfl rfl) (one_ok rfl)) (later_ok (by omega)))) (seq_nx (if_f (tnot_t (tru_bl (call_ok (one_ok rfl) ar))) rfl) (ret_ok (mk_ok rfl (MT_kR (by omega)) ro (fun S => tb_MT) (by omega) hn)))))
theorem shift_no {m : Nat} {g : Nat → Nat → Int} {d : D} {S : So} (hm : m ≤ 12) (h : kn d) (hd : timeB d = false ∨ ∃ t, d = .int t ∧ isRows (MT (m + 1) (lt' g t)) = false) : m_Bounds_rshift [BD (m + 1) g, d] S = .err ⟨"InvalidNumber", ["value"], [d]⟩ [] S := by
  have ti := time_ok (S := S) h
  cases c : timeB d with
  | false =>
    rw [c] at ti
    exact body_err rfl (seq_err (if_t (tnot_f (tru_bl (call_ok (one_ok rfl) ti))) rfl))
  | true =>
    rw [c] at ti
    rcases hd with hd | ⟨t, rfl, hr⟩
    · rw [c] at hd; cases hd
    · have ar := are_rows_ok (MT_kR (n := m + 1) (f := lt' g t) (by omega)) S
      rw [hr] at ar
      exact body_err rfl (seq_nx (if_f (tnot_t (tru_bl (call_ok (one_ok rfl) ti))) rfl) (seq_nx (set_ok (call_ok (cons_ok (fld_ok rfl rfl) (one_ok rfl)) (later_ok (by omega)))) (seq_err (if_t (tnot_f (tru_bl (call_ok (one_ok rfl) ar))) rfl))))
end K25

namespace K25
open PySem PySem.Spec PyProof.Rows L2 Mi Dbm
theorem tops_row (tp : List Int) : tp.map D.int = (List.range tp.length).map fun k => D.int (tp.getD k 0) := by
  refine List.ext_getElem (by simp) fun k h1 h2 => ?_
  simp only [List.length_map] at h1
  simp [h1]
def risK (g : Nat → Nat → Int) (tp : List Int) (k i j : Nat) : Int := if j = 0 ∧ 0 < i ∧ i ≤ k then tp.getD (i - 1) 0 else g i j
theorem risen_in_ok {m : Nat} {g : Nat → Nat → Int} {tp : List Int} {S : So} (hm : m ≤ 100) (hl : tp.length = m) : ∃ S', m_risen_in [MT (m + 1) g, pD tp] S = .ok (if neg (m + 1) (fw (z0 (ris g tp)) (m + 1)) = true then .non else MT (m + 1) (fw (z0 (ris g tp)) (m + 1))) S' ∧ S.length ≤ S'.length ∧ ∀ k, k < S.length → S'[k]? = S[k]? := by
  obtain ⟨n, hn⟩ : ∃ n, n = m + 1 := ⟨_, rfl⟩
  rw [← hn]
  obtain ⟨cel, hcel⟩ : ∃ cel : (Nat → Nat → Int) → So, cel = fun g => S ++ (List.range n).map fun i => some (Ob.lst (rowI n (g i))) := ⟨_, rfl⟩
  have cel_at : ∀ g k, k < n → (cel g)[S.length + k]? = some (some (.lst (rowI n (g k)))) := fun g k hk => by
    rw [hcel]
    dsimp only
    rw [List.getElem?_append_right (by omega), show S.length + k - S.length = k by omega, List.getElem?_map, List.getElem?_range hk]
    rfl
  have cel_set : ∀ g k l, k < n → (cel g).set (S.length + k) (some (.lst l)) = S ++ (List.range n).map fun i => some (Ob.lst (if i = k then l else rowI n (g i))) := fun g k l hk => by
    rw [hcel]
    dsimp only
    rw [List.set_append_right _ _ (by omega), show S.length + k - S.length = k by omega, map_set]
    congr 1
    refine List.map_congr_left fun i _ => ?_
    split <;> rfl
  have e0 : mComp (iSeq (mV 0)) (gN 5) tT (mB bLstN (aCons (mV 5) aNil)) [5] [some (MT n g), some (pD tp), none, none, none, none] S = .ok (.lst ((List.range n).map fun i => .ref (S.length + i))) (cel g) := by
    have c := cells_ok (n := n) (f := g) (S0 := S) (S := S) (p := 5) (enw := [some (MT n g), some (pD tp), none, none, none, none]) (fun r S => ⟨_, rfl, rfl⟩) n 0 (by omega)
    rw [Nat.zero_add, ← List.range_eq_range', List.range_zero, List.map_nil, List.map_nil, List.append_nil] at c
    rw [hcel]
    exact cmp_of (src := ⟨none, (List.range n).map fun i => .tup (rowI n (g i))⟩) (seq_src rfl rfl) c
  obtain ⟨en', S', e1, o3, o4, rfl, rfl⟩ := for_n (S0 := cel g) (g := gT 2 (gsCons (gN 3) (gsCons (gN 4) gsNil))) (ι := fun k : Nat => D.tup [.int (k : Int), .int (tp.getD k 0)]) (n := m) (en := [some (MT n g), some (pD tp), some (.lst ((List.range n).map fun i => .ref (S.length + i))), none, none, none]) (S := cel g)
    (body := sPut (mV 4) (m2 dIx (mV 2) (m2 dAdd (mV 3) (mC (.int 1)))) (mC (.int 0)))
    (J := fun k en S' => ∃ o3 o4, en = [some (MT n g), some (pD tp), some (.lst ((List.range n).map fun i => .ref (S.length + i))), o3, o4, none] ∧ S' = cel (risK g tp k))
    (fun k hk en S' hJ => by
      obtain ⟨o3, o4, rfl, rfl⟩ := hJ
      have at1 := cel_at (risK g tp k) (k + 1) (by omega)
      have i1 : dIx (.lst ((List.range n).map fun i => D.ref (S.length + i))) (.int ((k + 1 : Nat) : Int)) (cel (risK g tp k)) = some (.ref (S.length + (k + 1)), cel (risK g tp k)) := ix_lst (atI_rng _ (by omega))
      have a1 : dAdd (.int (k : Int)) (.int 1) (cel (risK g tp k)) = some (.int ((k + 1 : Nat) : Int), cel (risK g tp k)) := by
        show some (D.int ((k : Int) + 1), cel (risK g tp k)) = _
        rw [show (k : Int) + 1 = ((k + 1 : Nat) : Int) by omega]
      have pd := putD_lst (k := 0) (v := .int (tp.getD k 0)) at1 (by rw [rowI_len]; omega)
      refine ⟨_, _, _, rfl, put_ok rfl (m2_ok rfl (m2_ok rfl rfl a1) i1) rfl pd, some (.int (k : Int)), some (.int (tp.getD k 0)), rfl, ?_⟩
      rw [cel_set _ _ _ (by omega), rowI_set, hcel]
      dsimp only
      congr 1
      refine List.map_congr_left fun i _ => ?_
      by_cases c : i = k + 1
      · subst c
        rw [if_pos rfl]
        congr 2
        refine congrArg (rowI n) ?_
        funext j
        unfold risK
        by_cases d : j = 0
        · subst d
          rw [if_pos rfl, if_pos ⟨rfl, by omega, by omega⟩]
          rfl
        · rw [if_neg d, if_neg (by omega), if_neg (by omega)]
      · rw [if_neg c]
        congr 2
        refine congrArg (rowI n) ?_
        funext j
        unfold risK
        by_cases d : j = 0 ∧ 0 < i ∧ i ≤ k
        · rw [if_pos d, if_pos (by omega)]
        · rw [if_neg d, if_neg (by omega)])
    ⟨none, none, rfl, by
      congr 1
      funext i j
      unfold risK
      rw [if_neg (by omega)]⟩
  have er : cel (risK g tp m) = cel (ris g tp) := by
    rw [hcel]
    dsimp only
    congr 1
    refine List.map_congr_left fun i hi => ?_
    have hi' := List.mem_range.mp hi
    congr 2
    refine congrArg (rowI n) ?_
    funext j
    unfold risK ris
    by_cases d : j = 0 ∧ 0 < i
    · rw [if_pos (by omega), if_pos d]
    · rw [if_neg (by omega), if_neg d]
  rw [er] at e1
  have T : Tb n (ris g tp) (.lst ((List.range n).map fun i => .ref (S.length + i))) (cel (ris g tp)) := ⟨by
    show some (D.int (((List.range n).map fun i => D.ref (S.length + i)).length : Nat), cel (ris g tp)) = _
    rw [List.length_map, List.length_range], fun a ha => ⟨_, ix_lst (atI_rng _ ha), fun b hb => lst_ix (by simp only [lstOf, cel_at _ a ha]) hb⟩⟩
  have t := tightened_ok T (by omega)
  have src : iEnT (aCons (mV 1) aNil) [some (MT n g), some (pD tp), some (.lst ((List.range n).map fun i => .ref (S.length + i))), none, none, none] (cel g) = .ok ⟨none, (List.range m).map fun k : Nat => D.tup [.int (k : Int), .int (tp.getD k 0)]⟩ (cel g) := by
    refine en_row (φ := fun k => .int (tp.getD k 0)) ?_
    rw [← hl, ← tops_row]
    rfl
  refine ⟨cel (ris g tp), body_rt rfl (seq_nx (set_ok e0) (seq_nx (for_of src e1) (ret_ok (call_ok (one_ok rfl) t)))), by rw [hcel]; simp, fun k hk => by rw [hcel]; exact List.getElem?_append_left hk⟩
def noT (m : Nat) (d : D) : Prop := kn d ∧ ∀ l, d = .tup l → l.length ≤ 1000 ∧ (∀ e ∈ l, kn e) ∧ (l.length ≠ m ∨ ∃ e ∈ l, isI e = false)
theorem kn_map {l : List Int} : ∀ e ∈ l.map D.int, kn e := fun e he => by
  obtain ⟨x, _, rfl⟩ := List.mem_map.mp he
  exact kn_int _
theorem noP_of {m : Nat} {d : D} (h : kn d) (n : ∀ l, d ≠ .tup l) : noT m d := ⟨h, fun l e => (n l e).elim⟩
theorem noP_sh {m : Nat} {sh : List D} {x : D} (hz : sh.length ≤ 100) (hk : ∀ e ∈ sh, kn e) (kx : kn x) (hx : isI x = false) : noT m (.tup (sh ++ [x])) := ⟨.inr (.inr (.inr (.inr (.inl ⟨_, rfl⟩)))), fun l e => by
  cases e
  refine ⟨by simp; omega, fun e he => ?_, .inr ⟨x, by simp, hx⟩⟩
  rcases List.mem_append.mp he with he | he
  · exact hk e he
  · rw [List.mem_singleton.mp he]; exact kx⟩

theorem sub1 (m : Nat) (S : So) : dSub (.int ((m + 1 : Nat) : Int)) (.int 1) S = some (.int (m : Int), S) := by
  show some (D.int (((m + 1 : Nat) : Int) - 1), S) = _
  rw [show ((m + 1 : Nat) : Int) - 1 = (m : Int) by omega]
theorem risen_ok {m : Nat} {g : Nat → Nat → Int} {tp : List Int} {S : So} (hm : m ≤ 12) (hl : tp.length = m) (hi : ∀ x ∈ tp, inR x = true) (hb : ∀ a b, a < m + 1 → b < m + 1 → Nn (z0 (ris g tp)) (m + 1) → inR (fw (z0 (ris g tp)) (m + 1) a b) = true) :
    ∃ S', m_Bounds_risen [BD (m + 1) g, pD tp] S = .ok (if neg (m + 1) (fw (z0 (ris g tp)) (m + 1)) = true then .non else BD (m + 1) (fw (z0 (fw (z0 (ris g tp)) (m + 1))) (m + 1))) S' ∧ S.length ≤ S'.length ∧ ∀ k, k < S.length → S'[k]? = S[k]? := by
  obtain ⟨S1, e1, l1, q1⟩ := risen_in_ok (g := g) (tp := tp) (S := S) (m := m) (by omega) hl
  have bl : bLen [pD tp] S = some (.int (m : Int), S) := by
    show some (D.int (((tp.map D.int).length : Nat) : Int), S) = _
    rw [List.length_map, hl]
  have q := ne_int (S := S) (m : Int) (m : Int)
  rw [beq_self_eq_true] at q
  have s1 : sIf (tOr' (tNot' (tTru (mIs .tup (mV 1)))) (tB' (m2 dNe (mB bLen (aCons (mV 1) aNil)) (m2 dSub (mB bLen (aCons (mFld ("own_rows" : Str) (mV 0)) aNil)) (mC (.int 1)))))) (sRs1 ("InvalidBounds" : Str)) sNil [some (BD (m + 1) g), some (pD tp), none, none] S = .ok (.nx [some (BD (m + 1) g), some (pD tp), none, none]) S :=
    if_f (tor_f (tnot_t (tru_bl (is_ok rfl rfl))) (tst_ok (m2_ok (b_ok (one_ok rfl) bl) (m2_ok (b_ok (one_ok (fld_ok rfl rfl)) tb_MT.len) rfl (sub1 m S)) q))) rfl
  have e2 := comp_mapα (hold := none) (S0 := S) (S := S) (ι := D.int) (φ := fun x => D.bl (inR x)) (g := gN 3) (f := mCall m_is_integer (aCons (mV 3) aNil)) (enw := [some (BD (m + 1) g), some (pD tp), none, none]) rfl tp []
    (fun x _ => ⟨_, rfl, call_ok (one_ok rfl) (is_integer_ok x S)⟩) (by simpa using size4 (by omega))
  rw [List.nil_append] at e2
  have al : tp.all inR = true := List.all_eq_true.mpr hi
  have s2 : sIf (tNot' (tTru (mB bAll (aCons (mComp (iSeq (mV 1)) (gN 3) tT (mCall m_is_integer (aCons (mV 3) aNil)) [3]) aNil)))) (sRs1 ("InvalidBounds" : Str)) sNil [some (BD (m + 1) g), some (pD tp), none, none] S = .ok (.nx [some (BD (m + 1) g), some (pD tp), none, none]) S :=
    if_f (tnot_t (tru_bl (b_ok (one_ok (cmp_of (src := ⟨none, tp.map D.int⟩) (seq_src rfl rfl) e2)) (by rw [all_of inR, al])))) rfl
  cases c : neg (m + 1) (fw (z0 (ris g tp)) (m + 1)) with
  | true =>
    rw [c, if_pos rfl] at e1
    rw [if_pos rfl]
    exact ⟨S1, body_rt rfl (seq_nx s1 (seq_nx s2 (seq_nx (set_ok (call_ok (cons_ok (fld_ok rfl rfl) (one_ok rfl)) e1)) (ret_ok (ife_t (tst_ok (m2_ok rfl rfl rfl)) rfl))))), l1, q1⟩
  | false =>
    rw [c, if_neg (by decide)] at e1
    rw [if_neg (by decide)]
    have A := neg_nn.mp c
    have O := idem (a := z0 (ris g tp)) (n := m + 1) fun a _ => z0_dg _ a
    exact ⟨S1 ++ [none], body_rt rfl (seq_nx s1 (seq_nx s2 (seq_nx (set_ok (call_ok (cons_ok (fld_ok rfl rfl) (one_ok rfl)) e1)) (ret_ok (ife_f (tst_ok (m2_ok rfl rfl rfl)) (mk_ok rfl (MT_kR (by omega)) (MT_rows (by omega) (by omega) fun a b ha hb' => hb a b ha hb' A) (fun S => tb_MT) (by omega) (neg_nn.mpr (O.nn.mp A)))))))), by simp; omega, fun k hk => by rw [List.getElem?_append_left (by omega)]; exact q1 k hk⟩
theorem risen_no {m : Nat} {g : Nat → Nat → Int} {d : D} {S : So} (h : noT m d) : m_Bounds_risen [BD (m + 1) g, d] S = .err bInv [] S := by
  rcases tup_kn h.1 with ⟨l, rfl⟩ | no
  · obtain ⟨hz, hk, hl⟩ := h.2 l rfl
    have bl : bLen [.tup l] S = some (.int (l.length : Int), S) := rfl
    have q := ne_int (S := S) (l.length : Int) (m : Int)
    by_cases c : l.length = m
    · rw [show ((l.length : Int) == (m : Int)) = true by rw [beq_iff_eq]; omega] at q
      have he : ∃ e ∈ l, isI e = false := by
        rcases hl with hl | hl
        · exact (hl c).elim
        · exact hl
      have al : l.all isI = false := by
        rw [List.all_eq_false]
        obtain ⟨e, h1, h2⟩ := he
        exact ⟨e, h1, by rw [h2]; decide⟩
      have e1 := comp_map (hold := none) (S0 := S) (S := S) (φ := fun e => .bl (isI e)) (g := gN 3) (f := mCall m_is_integer (aCons (mV 3) aNil)) (enw := [some (BD (m + 1) g), some (.tup l), none, none]) rfl l []
        (fun e he => ⟨_, rfl, call_ok (one_ok rfl) (int_kn (hk e he) S)⟩) (by simpa using size4 (by omega))
      rw [List.nil_append] at e1
      exact body_err rfl (seq_nx (if_f (tor_f (tnot_t (tru_bl (is_ok rfl rfl))) (tst_ok (m2_ok (b_ok (one_ok rfl) bl) (m2_ok (b_ok (one_ok (fld_ok rfl rfl)) tb_MT.len) rfl (sub1 m S)) q))) rfl) (seq_err (if_t (tnot_f (tru_bl (b_ok (one_ok (cmp_of (src := ⟨none, l⟩) (seq_src rfl rfl) e1)) (by rw [all_of isI, al])))) rfl)))
    · rw [show ((l.length : Int) == (m : Int)) = false by rw [beq_eq_false_iff_ne]; omega] at q
      exact body_err rfl (seq_err (if_t (tor_f (tnot_t (tru_bl (is_ok rfl rfl))) (tst_ok (m2_ok (b_ok (one_ok rfl) bl) (m2_ok (b_ok (one_ok (fld_ok rfl rfl)) tb_MT.len) rfl (sub1 m S)) q))) rfl))
  · exact body_err rfl (seq_err (if_t (tor_t (tnot_f (tru_bl (is_ok rfl (no S))))) rfl))
end K25

namespace K25
open PySem PySem.Spec PyProof.Rows L2 Mi Dbm
def plD (pl : List Nat) : D := .tup (pl.map fun p : Nat => .int (p : Int))
def okP (m : Nat) : D → Bool
  | .int v => inR v && (decide (0 ≤ v) && decide (v ≤ (m : Int)))
  | _ => false
theorem okP_ok {m : Nat} {d : D} {a0 o2 : D} {b2 : Option D} {S : So} (h : kn d) : mAnd (mCall m_is_integer (aCons (mV 3) aNil)) (mChain dLe dLe (mC (.int 0)) (mV 3) (mV 1)) [some a0, some (.int (m : Int)), b2, some d] S = .ok (.bl (okP m d)) S := by
  have i := int_kn h S
  by_cases c : isI d = true
  · obtain ⟨v, rfl⟩ : ∃ v, d = .int v := by
      cases d <;> first | exact ⟨_, rfl⟩ | (cases c)
    have cv : inR v = true := c
    rw [show isI (.int v) = true from c] at i
    have ch : mChain dLe dLe (mC (.int 0)) (mV 3) (mV 1) [some a0, some (.int (m : Int)), b2, some (.int v)] S = .ok (.bl (decide (0 ≤ v) && decide (v ≤ (m : Int)))) S := by
      unfold mChain
      rw [show mC (.int 0) [some a0, some (.int (m : Int)), b2, some (.int v)] S = .ok (.int 0) S from rfl, R.bind_ok, show mV 3 [some a0, some (.int (m : Int)), b2, some (.int v)] S = .ok (.int v) S from rfl, R.bind_ok]
      have l1 : dLe (.int 0) (.int v) S = some (.bl (decide (0 ≤ v)), S) := rfl
      have l2 : dLe (.int v) (.int (m : Int)) S = some (.bl (decide (v ≤ (m : Int))), S) := rfl
      rw [l1]
      cases e : decide (0 ≤ v) with
      | false => rfl
      | true =>
        dsimp only
        rw [show mV 1 [some a0, some (.int (m : Int)), b2, some (.int v)] S = .ok (.int (m : Int)) S from rfl, R.bind_ok, l2]
        rfl
    rw [show okP m (.int v) = (decide (0 ≤ v) && decide (v ≤ (m : Int))) by show (inR v && _) = _; rw [cv, Bool.true_and]]
    exact and_t (call_ok (one_ok rfl) i) ch
  · have c' : isI d = false := by
      cases q : isI d with
      | true => exact (c q).elim
      | false => rfl
    have tb : okP m d = false := by
      cases d <;> first | rfl | (rename_i v; show (inR v && _) = false; rw [show inR v = false from c']; rfl)
    rw [tb]
    rw [c'] at i
    exact and_f (call_ok (one_ok rfl) i)
theorem all_okP {m : Nat} {l : List D} {S : So} (hz : l.length ≤ 1000) (hk : ∀ e ∈ l, kn e) : tTru (mB bAll (aCons (mComp (iSeq (mV 0)) (gN 3) tT (mAnd (mCall m_is_integer (aCons (mV 3) aNil)) (mChain dLe dLe (mC (.int 0)) (mV 3) (mV 1))) [3]) aNil)) [some (.tup l), some (.int (m : Int)), none, none] S = .ok (l.all (okP m)) S := by
  have e1 := comp_map (hold := none) (S0 := S) (S := S) (φ := fun e => .bl (okP m e)) (g := gN 3) (f := mAnd (mCall m_is_integer (aCons (mV 3) aNil)) (mChain dLe dLe (mC (.int 0)) (mV 3) (mV 1))) (enw := [some (.tup l), some (.int (m : Int)), none, none]) rfl l []
    (fun e he => ⟨_, rfl, okP_ok (o2 := .non) (hk e he)⟩) (by simpa using size4 (by omega))
  rw [List.nil_append] at e1
  exact tru_bl (b_ok (one_ok (cmp_of (src := ⟨none, l⟩) (seq_src rfl rfl) e1)) (all_of (okP m) l S))
theorem intsOf_map : ∀ ns : List Int, intsOf (ns.map D.int) = some ns
  | [] => rfl
  | x :: ns => by simp only [List.map_cons, intsOf, intsOf_map ns, Option.map_some]
theorem lenSet_ok {ns : List Int} {f : E D} {en : En} {S : So} (h : f en S = .ok (.lst (ns.map D.int)) S) (hz : ns.length ≤ 4000 ∧ (distI ns).length ≤ 4000) : mLenSet f en S = .ok (.int ((distI ns).length : Nat)) S := by
  unfold mLenSet
  rw [h, R.bind_ok]
  simp only [lstOf, intsOf_map]
  exact if_pos hz
def nz (pl : List Nat) : List Int := (pl.filter fun p => decide (0 < p)).map fun p : Nat => (p : Int)
theorem places_all {m : Nat} {pl : List Nat} {S : So} (h12 : pl.length ≤ 12) (hd : (distI (nz pl)).length ≤ 4000) (hp : ∀ p ∈ pl, p ≤ m) (hm : m ≤ 100) : m_are_places_in [plD pl, .int (m : Int)] S = .ok (.bl (((distI (nz pl)).length : Int) == ((nz pl).length : Int))) S := by
  have kn_ : ∀ e ∈ pl.map fun p : Nat => D.int (p : Int), kn e := fun e he => by
    obtain ⟨p, _, rfl⟩ := List.mem_map.mp he
    exact kn_int _
  have al := all_okP (m := m) (l := pl.map fun p : Nat => D.int (p : Int)) (S := S) (by rw [List.length_map]; omega) kn_
  have allt : (pl.map fun p : Nat => D.int (p : Int)).all (okP m) = true := by
    rw [List.all_eq_true]
    intro e he
    obtain ⟨p, hpp, rfl⟩ := List.mem_map.mp he
    have := hp p hpp
    show (inR (p : Int) && (decide (0 ≤ (p : Int)) && decide ((p : Int) ≤ (m : Int)))) = true
    have hx : (1000 : Int) < X60 := by decide
    rw [show inR (p : Int) = true by rw [inR_iff]; constructor <;> omega, decide_eq_true (p := 0 ≤ (p : Int)) (by omega), decide_eq_true (p := (p : Int) ≤ (m : Int)) (by omega)]
    rfl
  rw [allt] at al
  have gt : dGt (.int (pl.length : Int)) (.int 12) S = some (.bl false, S) := by
    show some (D.bl (decide ((pl.length : Int) > 12)), S) = _
    rw [decide_eq_false (by omega)]
  have bl : bLen [plD pl] S = some (.int (pl.length : Int), S) := by
    show some (D.int (((pl.map fun p : Nat => D.int (p : Int)).length : Nat) : Int), S) = _
    rw [List.length_map]
  have e := comp_fltα (hold := none) (S0 := S) (S := S) (ι := fun p : Nat => D.int (p : Int)) (φ := fun p : Nat => D.int (p : Int)) (p := fun p => decide (0 < p)) (g := gN 3) (t := tB' (m2 dGt (mV 3) (mC (.int 0)))) (f := mV 3) (enw := [some (plD pl), some (.int (m : Int)), none, none]) rfl pl []
    (fun p _ => ⟨_, rfl, tst_ok (m2_ok rfl rfl (by
      show some (D.bl (decide ((p : Int) > 0)), S) = some (D.bl (decide (0 < p)), S)
      congr 3
      rw [Bool.eq_iff_iff, decide_eq_true_eq, decide_eq_true_eq]
      omega)), rfl⟩) (by simpa using size4 (by omega))
  rw [List.nil_append] at e
  have cl : mComp (iSeq (mV 0)) (gN 3) (tB' (m2 dGt (mV 3) (mC (.int 0)))) (mV 3) [3] [some (plD pl), some (.int (m : Int)), none, none] S = .ok (.lst ((nz pl).map D.int)) S := by
    have := cmp_of (vs := [3]) (fi := iSeq (mV 0)) (en := [some (plD pl), some (.int (m : Int)), none, none]) (src := ⟨none, pl.map fun p : Nat => D.int (p : Int)⟩) (seq_src rfl rfl) e
    rw [this]
    unfold nz
    rw [List.map_map]
    rfl
  have ln : (nz pl).length ≤ 4000 := by
    unfold nz
    rw [List.length_map]
    exact Nat.le_trans (List.length_filter_le _ _) (by omega)
  have b2 : bLen [.lst ((nz pl).map D.int)] S = some (.int ((nz pl).length : Int), S) := by
    show some (D.int ((((nz pl).map D.int).length : Nat) : Int), S) = _
    rw [List.length_map]
  exact body_rt rfl (seq_nx (if_f (tor_f (tnot_t (tru_bl (is_ok rfl rfl))) (tst_ok (m2_ok (b_ok (one_ok rfl) bl) rfl gt))) rfl) (seq_nx (if_f (tnot_t al) rfl) (seq_nx (set_ok cl) (ret_ok (m2_ok (lenSet_ok rfl ⟨ln, hd⟩) (b_ok (one_ok rfl) b2) (eq_int _ _))))))
theorem dist_nd {ns : List Int} (h : ns.Nodup) : distI ns = ns := by
  unfold distI
  rw [RZ.firstMet_nodup h _ (Nat.le_refl _), List.take_length]
theorem in_places_ok {m : Nat} {pl : List Nat} {S : So} (h12 : pl.length ≤ 12) (hp : ∀ p ∈ pl, p ≤ m) (hm : m ≤ 100) (nd : (pl.filter fun p => decide (0 < p)).Nodup) : m_are_places_in [plD pl, .int (m : Int)] S = .ok (.bl true) S := by
  have nd2 : (nz pl).Nodup := by
    unfold nz
    rw [List.Nodup, List.pairwise_map]
    exact nd.imp fun h e => h (by omega)
  have e := dist_nd nd2
  have ln : (nz pl).length ≤ 4000 := by
    unfold nz
    rw [List.length_map]
    exact Nat.le_trans (List.length_filter_le _ _) (by omega)
  have := places_all (S := S) h12 (by rw [e]; exact ln) hp hm
  rw [e, beq_self_eq_true] at this
  exact this
def noPl (m : Nat) (d : D) : Prop := kn d ∧ ∀ l, d = .tup l → l.length ≤ 1000 ∧ (∀ e ∈ l, kn e) ∧ (12 < l.length ∨ ∃ e ∈ l, okP m e = false)
theorem places_no {m : Nat} {d : D} {S : So} (h : noPl m d) : m_are_places_in [d, .int (m : Int)] S = .ok (.bl false) S := by
  rcases tup_kn h.1 with ⟨l, rfl⟩ | no
  · obtain ⟨hz, hk, hl⟩ := h.2 l rfl
    have bl : bLen [.tup l] S = some (.int (l.length : Int), S) := rfl
    have gt : dGt (.int (l.length : Int)) (.int 12) S = some (.bl (decide ((l.length : Int) > 12)), S) := rfl
    by_cases c : 12 < l.length
    · rw [decide_eq_true (by omega)] at gt
      exact body_rt rfl (seq_rt (if_t (tor_f (tnot_t (tru_bl (is_ok rfl rfl))) (tst_ok (m2_ok (b_ok (one_ok rfl) bl) rfl gt))) (ret_ok rfl)))
    · rw [decide_eq_false (by omega)] at gt
      have he : ∃ e ∈ l, okP m e = false := by
        rcases hl with hl | hl
        · exact (c hl).elim
        · exact hl
      have al := all_okP (m := m) (S := S) hz hk
      rw [show l.all (okP m) = false by
        rw [List.all_eq_false]
        obtain ⟨e, h1, h2⟩ := he
        exact ⟨e, h1, by rw [h2]; decide⟩] at al
      exact body_rt rfl (seq_nx (if_f (tor_f (tnot_t (tru_bl (is_ok rfl rfl))) (tst_ok (m2_ok (b_ok (one_ok rfl) bl) rfl gt))) rfl) (seq_rt (if_t (tnot_f al) (ret_ok rfl))))
  · exact body_rt rfl (seq_rt (if_t (tor_t (tnot_f (tru_bl (is_ok rfl (no S))))) (ret_ok rfl)))
theorem ord_row (pl : List Nat) : D.int 0 :: pl.map (fun p : Nat => D.int (p : Int)) = (List.range (pl.length + 1)).map fun k => D.int ((od pl k : Nat) : Int) := by
  rw [List.range_succ_eq_map, List.map_cons, List.map_map]
  refine congrArg _ (List.ext_getElem (by simp) fun k h1 h2 => ?_)
  simp only [List.length_map] at h1
  simp [od, h1]
theorem moved_in_ok {m : Nat} {g : Nat → Nat → Int} {pl : List Nat} {S : So} (h12 : pl.length ≤ 12) (hp : ∀ p ∈ pl, p < m + 1) : m_moved_in [MT (m + 1) g, plD pl] S = .ok (MT (pl.length + 1) (mv g pl)) S := by
  have z1 : (1 : Nat) ≤ sizeLine := size4 (by decide)
  have e : dAdd (.tup [.int 0]) (plD pl) S = some (.tup ((List.range (pl.length + 1)).map fun k => D.int ((od pl k : Nat) : Int)), S) := by
    rw [← ord_row]
    exact add_tup (size4 (by simp; omega))
  obtain ⟨O, hO⟩ : ∃ O, O = (List.range (pl.length + 1)).map fun k => D.int ((od pl k : Nat) : Int) := ⟨_, rfl⟩
  rw [← hO] at e
  have row : ∀ i, i < pl.length + 1 → mB bTup (aCons (mComp (iSeq (mV 2)) (gN 4) tT (m2 dIx (m2 dIx (mV 0) (mV 3)) (mV 4)) [4]) aNil) [some (MT (m + 1) g), some (plD pl), some (.tup O), some (.int ((od pl i : Nat) : Int)), none] S = .ok (.tup (rowI (pl.length + 1) (mv g pl i))) S := fun i hi =>
    b_ok (one_ok (cmp_src (ι := fun j => D.int ((od pl j : Nat) : Int)) (φ := fun j => .int (mv g pl i j)) (seq_src rfl (by rw [hO]; rfl)) (by omega) fun j hj => ⟨_, rfl, Tb.get (f := g) (i := od pl i) (j := od pl j) tb_MT (od_lt hp) (od_lt hp) rfl rfl rfl⟩)) rfl
  have all : mComp (iSeq (mV 2)) (gN 3) tT (mB bTup (aCons (mComp (iSeq (mV 2)) (gN 4) tT (m2 dIx (m2 dIx (mV 0) (mV 3)) (mV 4)) [4]) aNil)) [3] [some (MT (m + 1) g), some (plD pl), some (.tup O), none, none] S = .ok (.lst ((List.range (pl.length + 1)).map fun i => .tup (rowI (pl.length + 1) (mv g pl i)))) S :=
    cmp_src (ι := fun i => D.int ((od pl i : Nat) : Int)) (φ := fun i => .tup (rowI (pl.length + 1) (mv g pl i))) (seq_src rfl (by rw [hO]; rfl)) (by omega) fun i hi => ⟨_, rfl, row i hi⟩
  exact body_rt rfl (seq_nx (set_ok (m2_ok (tup_ok (one_ok rfl) z1) rfl e)) (ret_ok (b_ok (one_ok all) rfl)))
theorem moved_ok {m : Nat} {g : Nat → Nat → Int} {pl : List Nat} {S : So} (hm : m ≤ 12) (h12 : pl.length ≤ 12) (hp : ∀ p ∈ pl, p < m + 1) (nd : (pl.filter fun p => decide (0 < p)).Nodup) (hr : ∀ i j, i < pl.length + 1 → j < pl.length + 1 → inR (mv g pl i j) = true) (hn : neg (pl.length + 1) (fw (z0 (mv g pl)) (pl.length + 1)) = false) :
    m_Bounds_moved [BD (m + 1) g, plD pl] S = .ok (BD (pl.length + 1) (fw (z0 (mv g pl)) (pl.length + 1))) (S ++ [none]) := by
  have pa := in_places_ok (m := m) (S := S) h12 (fun p h => by have := hp p h; omega) (by omega) nd
  exact body_rt rfl (seq_nx (if_f (tnot_t (tru_bl (call_ok (cons_ok rfl (one_ok (m2_ok (b_ok (one_ok (fld_ok rfl rfl)) tb_MT.len) rfl (sub1 m S)))) pa))) rfl) (ret_ok (mk_ok (call_ok (cons_ok (fld_ok rfl rfl) (one_ok rfl)) (moved_in_ok h12 hp)) (MT_kR (by omega)) (MT_rows (by omega) (by omega) hr) (fun S => tb_MT) (by omega) hn)))
theorem moved_no {m : Nat} {g : Nat → Nat → Int} {d : D} {S : So} (h : m_are_places_in [d, .int (m : Int)] S = .ok (.bl false) S) : m_Bounds_moved [BD (m + 1) g, d] S = .err bInv [] S :=
  body_err rfl (seq_err (if_t (tnot_f (tru_bl (call_ok (cons_ok rfl (one_ok (m2_ok (b_ok (one_ok (fld_ok rfl rfl)) tb_MT.len) rfl (sub1 m S)))) h))) rfl))
end K25

namespace K25
open PySem PySem.Spec PyProof.Rows L2 Mi Dbm
/-! ### a partial solution of a closed table extends -/
theorem top_of : ∀ (l : List Int), l ≠ [] → ∃ v ∈ l, ∀ a ∈ l, a ≤ v
  | [], h => (h rfl).elim
  | [a], _ => ⟨a, by simp, fun b hb => by rw [List.mem_singleton.mp hb]; exact Int.le_refl _⟩
  | a :: c :: r, _ => by
    obtain ⟨v, hv, h⟩ := top_of (c :: r) (by simp)
    by_cases q : a ≤ v
    · exact ⟨v, List.mem_cons_of_mem _ hv, fun b hb => by
        rcases List.mem_cons.mp hb with rfl | hb
        · exact q
        · exact h b hb⟩
    · exact ⟨a, by simp, fun b hb => by
        rcases List.mem_cons.mp hb with rfl | hb
        · exact Int.le_refl _
        · have := h b hb; omega⟩
theorem extend {n : Nat} {g : Nat → Nat → Int} (tri : ∀ i j k, i < n → j < n → k < n → g i j ≤ g i k + g k j) (dg : ∀ i, i < n → 0 ≤ g i i) {s : Nat → Bool} (s0 : s 0 = true) (n0 : 0 < n) {x : Nat → Int} (h : ∀ i j, i < n → j < n → s i = true → s j = true → x i - x j ≤ g i j) :
    ∀ k, k ≤ n → ∃ y : Nat → Int, (∀ i, s i = true → y i = x i) ∧ ∀ i j, i < n → j < n → (s i = true ∨ i < k) → (s j = true ∨ j < k) → y i - y j ≤ g i j
  | 0, _ => ⟨x, fun _ _ => rfl, fun i j hi hj a b => h i j hi hj (a.resolve_right (by omega)) (b.resolve_right (by omega))⟩
  | k + 1, hk => by
    obtain ⟨y, ey, hy⟩ := extend tri dg s0 n0 h k (by omega)
    by_cases c : s k = true
    · exact ⟨y, ey, fun i j hi hj a b => hy i j hi hj (by
        rcases a with a | a
        · exact .inl a
        · by_cases e : i = k
          · subst e; exact .inl c
          · exact .inr (by omega)) (by
        rcases b with b | b
        · exact .inl b
        · by_cases e : j = k
          · subst e; exact .inl c
          · exact .inr (by omega))⟩
    · obtain ⟨v, hv, top⟩ := top_of (((List.range n).filter fun i => s i || decide (i < k)).map fun i => y i - g i k) (by
        intro e
        have : (0 : Nat) ∈ (List.range n).filter fun i => s i || decide (i < k) := List.mem_filter.mpr ⟨List.mem_range.mpr n0, by rw [s0]; rfl⟩
        rw [List.map_eq_nil_iff.mp e] at this
        cases this)
      obtain ⟨p, hp, rfl⟩ := List.mem_map.mp hv
      obtain ⟨pn, ps⟩ := List.mem_filter.mp hp
      have pn := List.mem_range.mp pn
      have ps : s p = true ∨ p < k := by simpa using ps
      refine ⟨fun i => if i = k then y p - g p k else y i, fun i si => ?_, fun i j hi hj a b => ?_⟩
      · show (if i = k then _ else _) = _
        rw [if_neg (fun e : i = k => c (by rw [← e]; exact si))]
        exact ey i si
      · show (if i = k then _ else _) - (if j = k then _ else _) ≤ _
        by_cases ci : i = k <;> by_cases cj : j = k
        · rw [if_pos ci, if_pos cj, ci, cj]
          have := dg k (by omega)
          omega
        · rw [if_pos ci, if_neg cj, ci]
          have b : s j = true ∨ j < k := b.elim .inl fun z => .inr (by omega)
          have t := tri p j k pn hj (by omega)
          have u := hy p j pn hj ps b
          omega
        · rw [if_neg ci, if_pos cj, cj]
          have a : s i = true ∨ i < k := a.elim .inl fun z => .inr (by omega)
          have := top _ (List.mem_map.mpr ⟨i, List.mem_filter.mpr ⟨List.mem_range.mpr hi, by simpa using a⟩, rfl⟩)
          omega
        · rw [if_neg ci, if_neg cj]
          exact hy i j hi hj (a.elim .inl fun z => .inr (by omega)) (b.elim .inl fun z => .inr (by omega))
end K25

namespace K25
open PySem PySem.Spec PyProof.Rows L2 Mi Dbm
theorem fu_rng {m k : Nat} {y : Nat → Int} (h0 : y 0 = 0) (hk : k < m + 1) : fu ((List.range m).map fun i => y (i + 1)) k = y k := by
  cases k with
  | zero => exact h0.symm
  | succ k =>
    rw [fu_succ, List.getD_eq_getElem?_getD, List.getElem?_map, List.getElem?_range (by omega)]
    rfl
theorem sat_mv {m : Nat} {g : Nat → Nat → Int} {pl : List Nat} {l : List Int} (hl : l.length = pl.length) (hp : ∀ p ∈ pl, p < m + 1) (tri : ∀ i j k, i < m + 1 → j < m + 1 → k < m + 1 → g i j ≤ g i k + g k j) (dg : ∀ i, i < m + 1 → g i i = 0) :
    Sat (pl.length + 1) (mv g pl) l ↔ ∃ q : List Int, q.length = m ∧ Sat (m + 1) g q ∧ l = mvl pl q := by
  constructor
  · intro s
    have eqv : ∀ i j, i < pl.length + 1 → j < pl.length + 1 → od pl i = od pl j → fu l i = fu l j := fun i j hi hj e => by
      have a := s i j hi hj
      have b := s j i hj hi
      unfold mv at a b
      rw [e, dg _ (od_lt hp)] at a
      rw [e, dg _ (od_lt hp)] at b
      omega
    have ex : ∀ k, ∃ v : Int, ∀ i, i < pl.length + 1 → od pl i = k → fu l i = v := fun k => by
      by_cases c : ∃ i, i < pl.length + 1 ∧ od pl i = k
      · obtain ⟨i, hi, e⟩ := c
        exact ⟨fu l i, fun j hj e2 => eqv j i hj hi (by rw [e, e2])⟩
      · exact ⟨0, fun i hi e => (c ⟨i, hi, e⟩).elim⟩
    obtain ⟨x, hx⟩ : ∃ x : Nat → Int, ∀ k i, i < pl.length + 1 → od pl i = k → fu l i = x k := ⟨fun k => Classical.choose (ex k), fun k => Classical.choose_spec (ex k)⟩
    have x0 : x 0 = 0 := (hx 0 0 (by omega) rfl).symm
    obtain ⟨y, ey, hy⟩ := extend (n := m + 1) (g := g) tri (fun i hi => by rw [dg i hi]; exact Int.le_refl _) (s := fun k => decide (∃ i, i < pl.length + 1 ∧ od pl i = k)) (x := x) (by
      rw [decide_eq_true_iff]
      exact ⟨0, by omega, rfl⟩) (by omega) (fun i j hi hj a b => by
      obtain ⟨i', hi', e1⟩ := of_decide_eq_true a
      obtain ⟨j', hj', e2⟩ := of_decide_eq_true b
      have := s i' j' hi' hj'
      unfold mv at this
      rw [e1, e2, hx i i' hi' e1, hx j j' hj' e2] at this
      exact this) (m + 1) (Nat.le_refl _)
    have ye : ∀ i, i < pl.length + 1 → y (od pl i) = fu l i := fun i hi => by
      rw [ey _ (by rw [decide_eq_true_iff]; exact ⟨i, hi, rfl⟩), hx _ i hi rfl]
    have y0 : y 0 = 0 := ye 0 (by omega)
    refine ⟨(List.range m).map fun i => y (i + 1), by simp, fun i j hi hj => ?_, ?_⟩
    · rw [fu_rng y0 hi, fu_rng y0 hj]
      exact hy i j hi hj (.inr hi) (.inr hj)
    · refine List.ext_getElem (by rw [hl]; exact (List.length_map ..).symm) fun i h1 h2 => ?_
      have a := ye (i + 1) (by omega)
      have ol : od pl (i + 1) = pl[i]'(by omega) := by
        unfold od
        rw [List.getD_cons_succ, List.getD_eq_getElem?_getD, List.getElem?_eq_getElem (by omega)]
        rfl
      rw [fu_succ, List.getD_eq_getElem?_getD, List.getElem?_eq_getElem h1] at a
      have e : (pl.map fun k => fu ((List.range m).map fun i => y (i + 1)) k)[i]'(by rw [List.length_map]; omega) = fu ((List.range m).map fun i => y (i + 1)) (pl[i]'(by omega)) := List.getElem_map ..
      refine Eq.trans ?_ e.symm
      rw [fu_rng y0 (hp _ (List.getElem_mem _)), ← ol]
      exact a.symm
  · rintro ⟨q, hq, s, rfl⟩ i j hi hj
    rw [fu_mvl hi, fu_mvl hj]
    exact s _ _ (od_lt hp) (od_lt hp)
end K25

namespace K25
open PySem PySem.Spec PyProof.Rows L2 Mi Dbm
theorem asg_ok {g : TgD} {f : E D} {en en1 : En} {S S1 : So} {d : D} (h : f en S = .ok d S1) (e : g d en S1 = some en1) : sAsg g f en S = .ok (.nx en1) S1 := by
  unfold sAsg
  rw [h, R.bind_ok, e]
theorem mul1 (n : Nat) (v : Nat → Int) : D.tup (rowI n v) = pD ((List.range n).map v) := by
  unfold pD rowI
  rw [List.map_map]
  rfl
theorem tup_ref {c : Nat} {l : List D} {S : So} (h : S[c]? = some (some (.lst l))) : bTup [.ref c] S = some (.tup l, S) := by
  unfold bTup
  simp only [lstOf, h]
  rfl
theorem for_pts {S0 : So} {g : TgD} {body : T} {J : List (List Int) → En → So → Prop} : ∀ (ps pre : List (List Int)) (en : En) (S : So), (∀ l ∈ ps, ∀ pre en S, J pre en S → ∃ en1 en2 S2, g (pD l) en S = some en1 ∧ body en1 S = .ok (.nx en2) S2 ∧ J (pre ++ [l]) en2 S2) → J pre en S → ∃ en' S', Mi.forM none S0 g body (ps.map pD) en S = .ok (.nx en') S' ∧ J (pre ++ ps) en' S'
  | [], pre, en, S, _, hJ => ⟨en, S, by unfold Mi.forM; rfl, by simpa using hJ⟩
  | l :: ps, pre, en, S, h, hJ => by
    obtain ⟨en1, en2, S2, e1, e2, hJ2⟩ := h l (by simp) pre en S hJ
    obtain ⟨en', S', e3, hJ3⟩ := for_pts ps (pre ++ [l]) en2 S2 (fun q hq => h q (by simp [hq])) hJ2
    refine ⟨en', S', ?_, by simpa using hJ3⟩
    rw [List.map_cons]
    exact forM_cons e1 e2 e3
theorem toPs_nats : ∀ l : List Nat, toPs (l.map fun p : Nat => D.int (p : Int)) = some (l.map fun p : Nat => PyData.int (p : Int))
  | [] => rfl
  | x :: l => by simp only [List.map_cons, toPs, toP, toPs_nats l]
theorem can_nats : ∀ l : List Nat, PyData.canLayAll0 (l.map fun p : Nat => PyData.int (p : Int)) = true
  | [] => rfl
  | x :: l => by simp only [List.map_cons, PyData.canLayAll0, PyData.canLay0, can_nats l, Bool.and_self]
theorem dep_nats : ∀ l : List Nat, PyData.depthAll (l.map fun p : Nat => PyData.int (p : Int)) ≤ 1
  | [] => Nat.zero_le _
  | x :: l => by
    have := dep_nats l
    simp only [List.map_cons, PyData.depthAll, PyData.depth]
    omega
theorem in_nats (p : Nat) (l : List Nat) (S : So) : dIn (.int (p : Int)) (.lst (l.map fun p : Nat => D.int (p : Int))) S = some (.bl (decide (p ∈ l)), S) := by
  have sh : SeqAt.shaped (.list (l.map fun p : Nat => PyData.int (p : Int))) = true := by
    have := dep_nats l
    unfold SeqAt.shaped
    rw [show PyData.canLay0 (.list (l.map fun p : Nat => PyData.int (p : Int))) = true by simp only [PyData.canLay0]; exact can_nats l, Bool.true_and, decide_eq_true_eq]
    simp only [PyData.depth]
    omega
  have tp : toPt (.lst (l.map fun p : Nat => D.int (p : Int))) S = some (.list (l.map fun p : Nat => PyData.int (p : Int))) := by
    show toP (.lst _) = _
    simp only [toP, toPs_nats]
  have an : ((l.map fun p : Nat => PyData.int (p : Int)).any fun q => PyData.eqv q (.int (p : Int))) = decide (p ∈ l) := by
    rw [List.any_map, Bool.eq_iff_iff, List.any_eq_true, decide_eq_true_eq]
    constructor
    · rintro ⟨q, hq, e⟩
      simp only [Function.comp, PyData.eqv, beq_iff_eq] at e
      have : q = p := by omega
      rw [← this]
      exact hq
    · intro h
      exact ⟨p, h, by simp [Function.comp, PyData.eqv]⟩
  have e : dInB (.int (p : Int)) (.lst (l.map fun p : Nat => D.int (p : Int))) S = some (decide (p ∈ l)) := by
    unfold dInB
    dsimp only
    rw [show dctOf (.lst (l.map fun p : Nat => D.int (p : Int))) S = none from rfl]
    dsimp only
    rw [tp, show toPt (.int (p : Int)) S = some (.int (p : Int)) from rfl]
    dsimp only
    rw [sh, an]
    rfl
  unfold dIn
  rw [e]
  rfl
def fitB (m : Nat) (tp x : List Int) : Bool := (List.range m).all fun k => decide (x.getD k 0 ≤ tp.getD k 0)
theorem fit_iff {m : Nat} {tp x : List Int} : fitB m tp x = true ↔ ∀ k, k < m → fu x (k + 1) ≤ tp.getD k 0 := by
  unfold fitB
  rw [List.all_eq_true]
  exact ⟨fun h k hk => of_decide_eq_true (h k (List.mem_range.mpr hk)), fun h k hk => decide_eq_true (h k (List.mem_range.mp hk))⟩
abbrev up (l : List Int) (d : Nat) : List Int := l.map fun r => r + (d : Int)
structure Keys (m : Nat) (tp : List Int) (pre : List (List Int)) (l : List Int) (k : Nat) (ks : List (List Int)) : Prop where
  mem : ∀ x, x ∈ ks ↔ (∃ q ∈ pre, ∃ d, d < 9 ∧ x = up q d ∧ fitB m tp x = true) ∨ ∃ d, d < k ∧ x = up l d ∧ fitB m tp x = true
  nd : ks.Nodup
  len : ks.length ≤ 9 * pre.length + k
theorem Keys.next {m : Nat} {tp l : List Int} {pre ks : List (List Int)} {k : Nat} (h : Keys m tp pre l k ks) : Keys m tp pre l (k + 1) (if fitB m tp (up l k) = true then addT ks (up l k) else ks) := by
  by_cases c : fitB m tp (up l k) = true
  · rw [if_pos c]
    have ma : ∀ x, x ∈ addT ks (up l k) ↔ x ∈ ks ∨ x = up l k := fun x => by
      unfold addT
      split
      · rename_i z
        exact ⟨.inl, fun y => y.elim id fun e => by rw [e]; exact z⟩
      · simp
    refine ⟨fun x => ?_, ?_, ?_⟩
    · rw [ma, h.mem]
      constructor
      · rintro ((y | ⟨d, hd, e⟩) | e)
        · exact .inl y
        · exact .inr ⟨d, by omega, e⟩
        · exact .inr ⟨k, by omega, e, by rw [e]; exact c⟩
      · rintro (y | ⟨d, hd, e⟩)
        · exact .inl (.inl y)
        · by_cases z : d = k
          · rw [z] at e
            exact .inr e.1
          · exact .inl (.inr ⟨d, by omega, e⟩)
    · unfold addT
      split
      · exact h.nd
      · rename_i z
        rw [List.nodup_append]
        exact ⟨h.nd, by simp, fun a ha b hb e => by rw [List.mem_singleton.mp hb] at e; exact z (by rw [← e]; exact ha)⟩
    · have := h.len
      unfold addT
      split
      · omega
      · rw [List.length_append]
        simp
        omega
  · rw [if_neg c]
    refine ⟨fun x => ?_, h.nd, by have := h.len; omega⟩
    rw [h.mem]
    constructor
    · rintro (y | ⟨d, hd, e⟩)
      · exact .inl y
      · exact .inr ⟨d, by omega, e⟩
    · rintro (y | ⟨d, hd, e⟩)
      · exact .inl y
      · by_cases z : d = k
        · rw [z] at e
          exact (c (by rw [← e.1]; exact e.2)).elim
        · exact .inr ⟨d, by omega, e⟩
theorem Keys.done {m : Nat} {tp l : List Int} {pre ks : List (List Int)} (h : Keys m tp pre l 9 ks) (l' : List Int) : Keys m tp (pre ++ [l]) l' 0 ks := ⟨fun x => by
  rw [h.mem]
  constructor
  · rintro (⟨q, hq, y⟩ | y)
    · exact .inl ⟨q, by simp [hq], y⟩
    · exact .inl ⟨l, by simp, y⟩
  · rintro (⟨q, hq, y⟩ | ⟨d, hd, _⟩)
    · rcases List.mem_append.mp hq with hq | hq
      · exact .inl ⟨q, hq, y⟩
      · rw [List.mem_singleton.mp hq] at y
        exact .inr y
    · omega, h.nd, by have := h.len; rw [List.length_append]; simp; omega⟩
theorem Keys.l' {m : Nat} {tp l l' : List Int} {pre ks : List (List Int)} (h : Keys m tp pre l 0 ks) : Keys m tp pre l' 0 ks := ⟨fun x => by
  rw [h.mem]
  constructor
  · rintro (y | ⟨d, hd, _⟩)
    · exact .inl y
    · omega
  · rintro (y | ⟨d, hd, _⟩)
    · exact .inl y
    · omega, h.nd, h.len⟩
structure Pls (m : Nat) (cl pl : List Nat) (k : Nat) : Prop where
  len : pl.length = k
  le : ∀ p ∈ pl, p < m + 1
  nd : (pl.filter fun p => decide (0 < p)).Nodup
  cls : ∀ p ∈ cl, 0 < p ∧ p < m + 1
  off : ∀ p ∈ pl, 0 < p → p ∉ cl
theorem Pls.next {m : Nat} {cl pl : List Nat} {k p : Nat} (h : Pls m cl pl k) (hp : p < m + 1) : Pls m (cl.filter fun q => !((q : Int) == (p : Int))) (pl ++ [if p ∈ cl then p else 0]) (k + 1) := by
  have fm : ∀ q, q ∈ (cl.filter fun q : Nat => !((q : Int) == (p : Int))) ↔ q ∈ cl ∧ q ≠ p := fun q => by
    rw [List.mem_filter, Bool.not_eq_true', beq_eq_false_iff_ne]
    exact ⟨fun z => ⟨z.1, fun e => z.2 (by rw [e])⟩, fun z => ⟨z.1, fun e => z.2 (by omega)⟩⟩
  refine ⟨by rw [List.length_append, h.len]; rfl, fun q hq => ?_, ?_, fun q hq => h.cls q ((fm q).mp hq).1, fun q hq q0 z => ?_⟩
  · rcases List.mem_append.mp hq with hq | hq
    · exact h.le q hq
    · rw [List.mem_singleton.mp hq]
      split
      · exact hp
      · omega
  · rw [List.filter_append, List.nodup_append]
    refine ⟨h.nd, ?_, fun a ha b hb e => ?_⟩
    · by_cases c : 0 < (if p ∈ cl then p else 0)
      · rw [List.filter_cons_of_pos (by simpa using c)]
        simp
      · rw [List.filter_cons_of_neg (by simpa using c)]
        simp
    · have hb1 := List.mem_filter.mp hb
      have ha1 := List.mem_filter.mp ha
      have eb := List.mem_singleton.mp hb1.1
      have b0 : 0 < b := of_decide_eq_true hb1.2
      by_cases c : p ∈ cl
      · rw [if_pos c] at eb
        exact h.off a ha1.1 (by omega) (by rw [e, eb]; exact c)
      · rw [if_neg c] at eb
        omega
  · have zz := (fm q).mp z
    rcases List.mem_append.mp hq with hq | hq
    · exact h.off q hq q0 zz.1
    · have e := List.mem_singleton.mp hq
      by_cases c : p ∈ cl
      · rw [if_pos c] at e
        exact zz.2 e
      · rw [if_neg c] at e
        omega
end K25

namespace K25
open PySem PySem.Spec PyProof.Rows L2 Mi Dbm
theorem for_ptsN {S0 : So} {g : TgD} {body : T} {N : Nat} {J : List (List Int) → En → So → Prop} : ∀ (ps pre : List (List Int)) (en : En) (S : So), pre.length + ps.length ≤ N → (∀ l ∈ ps, ∀ pre en S, pre.length < N → J pre en S → ∃ en1 en2 S2, g (pD l) en S = some en1 ∧ body en1 S = .ok (.nx en2) S2 ∧ J (pre ++ [l]) en2 S2) → J pre en S → ∃ en' S', Mi.forM none S0 g body (ps.map pD) en S = .ok (.nx en') S' ∧ J (pre ++ ps) en' S'
  | [], pre, en, S, _, _, hJ => ⟨en, S, by unfold Mi.forM; rfl, by simpa using hJ⟩
  | l :: ps, pre, en, S, hN, h, hJ => by
    simp only [List.length_cons] at hN
    obtain ⟨en1, en2, S2, e1, e2, hJ2⟩ := h l (by simp) pre en S (by omega) hJ
    obtain ⟨en', S', e3, hJ3⟩ := for_ptsN ps (pre ++ [l]) en2 S2 (by rw [List.length_append]; simp; omega) (fun q hq => h q (by simp [hq])) hJ2
    refine ⟨en', S', ?_, by simpa using hJ3⟩
    rw [List.map_cons]
    exact forM_cons e1 e2 e3
theorem th_ok {f : E D} {en : En} {S : So} {n : Nat} {l : List Int} (h : f en S = .ok (.ref n) S) (e : S[n]? = some (some (.tt l))) : mTh f en S = .ok (.tup (l.map D.int)) S := by
  unfold mTh
  rw [h, R.bind_ok]
  simp only [e]
theorem putT_ok {fv fo fi : E D} {en : En} {S : So} {n j : Nat} {ks : List (List Int)} {k : List Int} (h1 : fv en S = .ok (.bl true) S) (h2 : fo en S = .ok (.ref n) S) (h3 : fi en S = .ok (.ref j) S) (e1 : S[n]? = some (some (.tdt ks))) (e2 : S[j]? = some (some (.tt k))) (hz : ks.length < 10000) :
    sPutT fv fo fi en S = .ok (.nx en) (S.set n (some (.tdt (addT ks k)))) := by
  unfold sPutT
  rw [h1, R.bind_ok, h2, R.bind_ok, h3, R.bind_ok]
  unfold putTD
  simp only [e1, e2]
  rw [if_pos (Nat.lt_of_lt_of_le (show ks.length < 10001 by omega) (size4 (by decide)))]
theorem sortT_ok {S : So} {n : Nat} {ks : List (List Int)} (e : S[n]? = some (some (.tdt ks))) (h : (∀ k ∈ ks, k ≠ []) ∨ ks.length ≤ 1) : bSortT [.ref n] S = some (.lst ((srtT ks).map pD), S) := by
  unfold bSortT
  simp only [e]
  rw [if_pos h]
  rfl
theorem tupT_ok {S : So} (l : List Int) : bTupT [.lst (l.map D.int)] S = some (.ref S.length, S ++ [some (.tt l)]) := by
  unfold bTupT
  simp only [lstOf, intsOf_map]
theorem up_len {l : List Int} {d : Nat} : (up l d).length = l.length := List.length_map ..
theorem nodup_nil {ks : List (List Int)} (h : ks.Nodup) (a : ∀ x ∈ ks, x = []) : ks.length ≤ 1 := by
  match ks, h, a with
  | [], _, _ => exact Nat.zero_le _
  | [_], _, _ => exact Nat.le_refl _
  | x :: y :: r, h, a =>
    have hx := a x (by simp)
    have hy := a y (by simp)
    rw [hx, hy] at h
    simp at h
theorem rgc_ok {n : Nat} {g : E (List D)} {en : En} {S S1 : So} (h : g en S = .ok [.int (n : Int)] S1) (hn : n ≤ 1000) : iRg1 g en S = .ok ⟨none, (List.range n).map fun i : Nat => D.int (i : Int)⟩ S1 := by
  have := rg1_ok h (by omega) (by omega)
  rw [Int.toNat_natCast, rng0] at this
  exact this
end K25

namespace K25
open PySem PySem.Spec PyProof.Rows L2 Mi Dbm
/-! ### a table and its points -/
structure Hl (m : Nat) (g : Nat → Nat → Int) (P : List (List Int)) : Prop where
  ne : P ≠ []
  gm : ∀ i j, i < m + 1 → j < m + 1 → g i j = gmax P i j
  mem : ∀ l, l ∈ P ↔ (l.length = m ∧ Sat (m + 1) g l)
  bd : ∀ l ∈ P, ∀ k, k < m → 0 ≤ fu l (k + 1) ∧ fu l (k + 1) ≤ 4
theorem fb_of {m : Nat} {l : List Int} (h : ∀ k, k < m → 0 ≤ fu l (k + 1) ∧ fu l (k + 1) ≤ 4) {k : Nat} (hk : k < m + 1) : 0 ≤ fu l k ∧ fu l k ≤ 4 := by
  cases k with
  | zero => rw [fu_zero]; exact ⟨by decide, by decide⟩
  | succ k => exact h k (by omega)
section
variable {m : Nat} {g c : Nat → Nat → Int} {P Q : List (List Int)}
theorem Hl.fb (H : Hl m g P) {l : List Int} (hl : l ∈ P) {k : Nat} (hk : k < m + 1) : 0 ≤ fu l k ∧ fu l k ≤ 4 := fb_of (H.bd l hl) hk
theorem Hl.len (H : Hl m g P) {l : List Int} (hl : l ∈ P) : l.length = m := ((H.mem l).mp hl).1
theorem Hl.gb (H : Hl m g P) {i j : Nat} (hi : i < m + 1) (hj : j < m + 1) : -4 ≤ g i j ∧ g i j ≤ 4 := by
  obtain ⟨l, hl, e⟩ := (gmax_spec H.ne i j).2
  rw [H.gm i j hi hj, ← e]
  have a := H.fb hl hi
  have b := H.fb hl hj
  omega
theorem Hl.tri (H : Hl m g P) {i j k : Nat} (hi : i < m + 1) (hj : j < m + 1) (hk : k < m + 1) : g i j ≤ g i k + g k j := by
  obtain ⟨l, hl, e⟩ := (gmax_spec H.ne i j).2
  rw [H.gm i j hi hj, H.gm i k hi hk, H.gm k j hk hj, ← e]
  have a := (gmax_spec H.ne i k).1 l hl
  have b := (gmax_spec H.ne k j).1 l hl
  omega
theorem Hl.dg (H : Hl m g P) {i : Nat} (hi : i < m + 1) : g i i = 0 := by rw [H.gm i i hi hi, gmax_diag H.ne]
theorem Hl.isof (H : Hl m g P) : IsOf m (BD (m + 1) g) P := .inr ⟨H.ne, g, rfl, H.gm⟩
theorem hl_of {x : D} (h : ∀ l, l ∈ P ↔ (l.length = m ∧ Sat (m + 1) c l)) (bd : ∀ l ∈ P, ∀ k, k < m → 0 ≤ fu l (k + 1) ∧ fu l (k + 1) ≤ 4) (o : IsOf m x P) : (P = [] ∧ x = .non) ∨ ∃ g, x = BD (m + 1) g ∧ Hl m g P := by
  rcases o with o | ⟨ne, g, rfl, gm⟩
  · exact .inl o
  · refine .inr ⟨g, rfl, ne, gm, fun l => ⟨fun hl => ⟨((h l).mp hl).1, fun i j hi hj => by rw [gm i j hi hj]; exact (gmax_spec ne i j).1 l hl⟩, fun ⟨ll, s⟩ => (h l).mpr ⟨ll, fun i j hi hj => ?_⟩⟩, bd⟩
    obtain ⟨q, hq, e⟩ := (gmax_spec ne i j).2
    have a := s i j hi hj
    rw [gm i j hi hj, ← e] at a
    exact Int.le_trans a (((h q).mp hq).2 i j hi hj)
theorem fw_in (h : ∀ l, l ∈ P ↔ (l.length = m ∧ Sat (m + 1) c l)) (bd : ∀ l ∈ P, ∀ k, k < m → 0 ≤ fu l (k + 1) ∧ fu l (k + 1) ≤ 4) (A : Nn (z0 c) (m + 1)) {a b : Nat} (ha : a < m + 1) (hb : b < m + 1) : inR (fw (z0 c) (m + 1) a b) = true := by
  have q := (h (far m (fw (z0 c) (m + 1)) b)).mpr ⟨far_len, sat_z0.mpr (far_sat A hb)⟩
  rw [← far_att A (fun i _ => z0_dg c i) ha hb]
  have x := fb_of (bd _ q) ha
  have y := fb_of (bd _ q) hb
  exact in3 (by omega) (by omega)
theorem cut_hl (H : Hl m g P) (hm : m ≤ 12) {i j : Nat} {v : Int} (hi : i < m + 1) (hj : j < m + 1) (hv : inR v = true) (hQ : ∀ l, l ∈ Q ↔ l ∈ P ∧ fu l i - fu l j ≤ v) (S : So) :
    ∃ x S', m_Bounds_cut [BD (m + 1) g, .int (i : Int), .int (j : Int), .int v] S = .ok x S' ∧ ((Q = [] ∧ x = .non) ∨ ∃ g', x = BD (m + 1) g' ∧ Hl m g' Q) ∧ S.length ≤ S'.length ∧ ∀ k, k < S.length → S'[k]? = S[k]? := by
  have h : ∀ l, l ∈ Q ↔ (l.length = m ∧ Sat (m + 1) (cutF g i j v) l) := fun l => by rw [hQ, H.mem, sat_cut hi hj, and_assoc]
  have bd : ∀ l ∈ Q, ∀ k, k < m → 0 ≤ fu l (k + 1) ∧ fu l (k + 1) ≤ 4 := fun l hl => H.bd l ((hQ l).mp hl).1
  obtain ⟨S', e, l1, q1⟩ := cut_ok (S := S) hm hi hj hv fun a b ha hb A => fw_in h bd A ha hb
  exact ⟨_, S', e, hl_of h bd (isof_sat h), l1, q1⟩
theorem ris_mem (H : Hl m g P) {tp : List Int} (gt : ∀ k, k < m → tp.getD k 0 ≤ 3) (hQ : ∀ x, x ∈ Q ↔ ∃ q ∈ P, ∃ d, d < 9 ∧ x = up q d ∧ fitB m tp x = true) : (∀ l, l ∈ Q ↔ (l.length = m ∧ Sat (m + 1) (ris g tp) l)) ∧ ∀ l ∈ Q, ∀ k, k < m → 0 ≤ fu l (k + 1) ∧ fu l (k + 1) ≤ 4 := by
  have lo : ∀ k, k < m + 1 → -2 ≤ g k 0 := fun k hk => by
    obtain ⟨l, hl, e⟩ := (gmax_spec H.ne k 0).2
    have := H.fb hl hk
    rw [fu_zero] at e
    rw [H.gm k 0 hk (by omega)]
    omega
  refine ⟨fun x => ?_, fun l hl k hk => ?_⟩
  · rw [hQ]
    constructor
    · rintro ⟨q, hq, d, hd, e, ft⟩
      have lx : x.length = m := by rw [e, up_len]; exact H.len hq
      exact ⟨lx, (sat_ris (g := g) lx (fun i j hi hj => H.tri (k := 0) hi hj (by omega)) (by rw [H.dg (by omega)]; exact Int.le_refl 0) lo fun k hk => Int.le_trans (gt k hk) (by decide)).mpr ⟨q, d, H.len hq, ((H.mem q).mp hq).2, hd, e, fit_iff.mp ft⟩⟩
    · rintro ⟨lx, s⟩
      obtain ⟨q, d, lq, sq, hd, e, ft⟩ := (sat_ris (g := g) lx (fun i j hi hj => H.tri (k := 0) hi hj (by omega)) (by rw [H.dg (by omega)]; exact Int.le_refl 0) lo fun k hk => Int.le_trans (gt k hk) (by decide)).mp s
      exact ⟨q, (H.mem q).mpr ⟨lq, sq⟩, d, hd, e, fit_iff.mpr ft⟩
  · obtain ⟨q, hq, d, hd, e, ft⟩ := (hQ l).mp hl
    have a := fit_iff.mp ft k hk
    have b := gt k hk
    have c := H.bd q hq k hk
    have e2 : fu l (k + 1) = fu q (k + 1) + dl d (k + 1) := by
      rw [e]
      exact fu_add (by rw [H.len hq]; omega)
    have e3 : dl (d : Int) (k + 1) = d := rfl
    omega
theorem ris_hl (H : Hl m g P) (hm : m ≤ 12) {tp : List Int} (ltp : tp.length = m) (ht : ∀ x ∈ tp, 0 ≤ x ∧ x ≤ 3) (hQ : ∀ x, x ∈ Q ↔ ∃ q ∈ P, ∃ d, d < 9 ∧ x = up q d ∧ fitB m tp x = true) (S : So) :
    ∃ x S', m_Bounds_risen [BD (m + 1) g, pD tp] S = .ok x S' ∧ (∀ Q, (∀ x, x ∈ Q ↔ ∃ q ∈ P, ∃ d, d < 9 ∧ x = up q d ∧ fitB m tp x = true) → (Q = [] ∧ x = .non) ∨ ∃ g', x = BD (m + 1) g' ∧ Hl m g' Q) ∧ S.length ≤ S'.length ∧ ∀ k, k < S.length → S'[k]? = S[k]? := by
  have gt : ∀ k, k < m → tp.getD k 0 ≤ 3 := fun k hk => by
    rw [List.getD_eq_getElem?_getD, List.getElem?_eq_getElem (by omega)]
    exact (ht _ (List.getElem_mem (by omega))).2
  obtain ⟨h, bd⟩ := ris_mem H gt hQ
  obtain ⟨S', e, l1, q1⟩ := risen_ok (g := g) (tp := tp) (S := S) hm ltp (fun x hx => in3 (by have := ht x hx; omega) (by have := ht x hx; omega)) fun a b ha hb A => fw_in h bd A ha hb
  exact ⟨_, S', e, fun Q hQ => by
    obtain ⟨h, bd⟩ := ris_mem H gt hQ
    exact hl_of h bd (isof_sat h), l1, q1⟩
theorem and_hl (H : Hl m g P) (hm : m ≤ 12) (S : So) : ∃ x S', m_Bounds_and [BD (m + 1) g, BD (m + 1) g] S = .ok x S' ∧ IsOf m x P ∧ S.length ≤ S'.length ∧ ∀ k, k < S.length → S'[k]? = S[k]? := by
  have mm : g = fun i j => mn (g i j) (g i j) := by
    funext i j
    unfold mn
    split <;> rfl
  obtain ⟨S', e, q⟩ := and_ok (n := m + 1) (g := g) (h := g) (S := S) (by omega) g mm fun q => by
    have A := neg_nn.mp q
    have O := idem (a := z0 g) (n := m + 1) fun a _ => z0_dg _ a
    exact ⟨MT_rows (by omega) (by omega) fun a b ha hb => fw_in H.mem H.bd A ha hb, neg_nn.mpr (O.nn.mp A)⟩
  refine ⟨_, S', e, isof_sat H.mem, ?_, ?_⟩
  · rcases q with rfl | rfl
    · exact Nat.le_refl _
    · simp
  · rcases q with rfl | rfl
    · exact fun _ _ => rfl
    · exact fun k hk => List.getElem?_append_left hk
theorem shift_hl (H : Hl m g P) (hm : m ≤ 12) (b3 : ∀ l ∈ P, ∀ k, k < m → fu l (k + 1) ≤ 3) (S : So) : ∃ g', m_Bounds_rshift [BD (m + 1) g, .int 1] S = .ok (BD (m + 1) g') (S ++ [none]) ∧ Hl m g' (P.map fun l => l.map fun x => x + 1) := by
  have gL : ∀ i j, i < m + 1 → j < m + 1 → lt' g 1 i j = gmax (P.map fun l => l.map fun x => x + 1) i j := fun i j hi hj => by
    rw [lt_lat (H.dg (by omega))]
    exact gmax_lat H.ne (fun l hl => H.len hl) H.gm hi hj
  have hP2 : (P.map fun l => l.map fun x => x + 1) ≠ [] := fun e => H.ne (List.map_eq_nil_iff.mp e)
  have sh := shift_ok (g := g) (t := 1) (S := S) hm (by decide) (by decide +kernel) (fun i j hi hj => by
    have := H.gb hi hj
    rw [lt_lat (H.dg (by omega))]
    refine in3 ?_ ?_ <;> (unfold lat dl; split <;> split <;> omega)) (neg_nn.mpr (closed_gmax hP2 gL).1)
  have cg := (closed_gmax hP2 gL).2
  refine ⟨_, sh, hP2, fun i j hi hj => (cg i j hi hj).trans (gL i j hi hj), fun l => ⟨fun hl => ?_, fun ⟨ll, s⟩ => ?_⟩, fun l hl k hk => ?_⟩
  · refine ⟨?_, fun i j hi hj => ?_⟩
    · obtain ⟨q, hq, rfl⟩ := List.mem_map.mp hl
      rw [List.length_map]
      exact H.len hq
    · rw [cg i j hi hj, gL i j hi hj]
      exact (gmax_spec hP2 i j).1 l hl
  · refine List.mem_map.mpr ⟨l.map fun x => x + (-1), (H.mem _).mpr ⟨by rw [List.length_map]; exact ll, fun i j hi hj => ?_⟩, ?_⟩
    · have a := s i j hi hj
      rw [cg i j hi hj, lt_lat (H.dg (by omega))] at a
      rw [fu_add (by omega), fu_add (by omega)]
      unfold lat dl at a
      unfold dl
      split <;> split <;> simp_all <;> omega
    · rw [List.map_map]
      conv => rhs; rw [← List.map_id l]
      refine List.map_congr_left fun r _ => ?_
      show r + (-1) + 1 = r
      omega
  · obtain ⟨q, hq, rfl⟩ := List.mem_map.mp hl
    have e : fu (q.map fun x => x + 1) (k + 1) = fu q (k + 1) + dl 1 (k + 1) := fu_add (by rw [H.len hq]; omega)
    have e3 : dl (1 : Int) (k + 1) = 1 := rfl
    have a := H.bd q hq k hk
    have b := b3 q hq k hk
    omega
theorem moved_hl (H : Hl m g P) (hm : m ≤ 12) {pl : List Nat} (h12 : pl.length ≤ 12) (hp : ∀ p ∈ pl, p < m + 1) (nd : (pl.filter fun p => decide (0 < p)).Nodup) (hQ : ∀ x, x ∈ Q ↔ ∃ q ∈ P, x = mvl pl q) (S : So) :
    ∃ g', m_Bounds_moved [BD (m + 1) g, plD pl] S = .ok (BD (pl.length + 1) g') (S ++ [none]) ∧ Hl pl.length g' Q := by
  have ne : Q ≠ [] := fun e => by
    obtain ⟨l0, P', rfl⟩ : ∃ l0 P', P = l0 :: P' := by
      cases P with
      | nil => exact (H.ne rfl).elim
      | cons a b => exact ⟨a, b, rfl⟩
    have := (hQ (mvl pl l0)).mpr ⟨l0, by simp, rfl⟩
    rw [e] at this
    cases this
  have gM : ∀ i j, i < pl.length + 1 → j < pl.length + 1 → mv g pl i j = gmax Q i j := fun i j hi hj => by
    show g (od pl i) (od pl j) = _
    rw [H.gm _ _ (od_lt hp) (od_lt hp)]
    symm
    obtain ⟨up, l, hl, e⟩ := gmax_spec H.ne (od pl i) (od pl j)
    refine gmax_eq (fun x hx => ?_) ⟨mvl pl l, (hQ _).mpr ⟨l, hl, rfl⟩, ?_⟩
    · obtain ⟨q, hq, rfl⟩ := (hQ x).mp hx
      rw [fu_mvl hi, fu_mvl hj]
      exact up q hq
    · rw [fu_mvl hi, fu_mvl hj]
      exact e
  have cg := (closed_gmax ne gM).2
  have mo := moved_ok (m := m) (g := g) (pl := pl) (S := S) hm h12 hp nd (fun i j _ _ => by
    have := H.gb (od_lt (k := i) hp) (od_lt (k := j) hp)
    unfold mv
    exact in3 (by omega) (by omega)) (neg_nn.mpr (closed_gmax ne gM).1)
  have ll : ∀ x ∈ Q, x.length = pl.length := fun x hx => by
    obtain ⟨q, hq, rfl⟩ := (hQ x).mp hx
    exact List.length_map ..
  refine ⟨_, mo, ne, fun i j hi hj => (cg i j hi hj).trans (gM i j hi hj), fun l => ⟨fun hl => ⟨ll l hl, fun i j hi hj => by
    rw [cg i j hi hj, gM i j hi hj]
    exact (gmax_spec ne i j).1 l hl⟩, fun ⟨lx, s⟩ => ?_⟩, fun l hl k hk => ?_⟩
  · obtain ⟨q, lq, sq, e⟩ := (sat_mv (g := g) lx hp (fun i j k hi hj hk => H.tri hi hj hk) (fun i hi => H.dg hi)).mp fun i j hi hj => by
      have := s i j hi hj
      rw [cg i j hi hj] at this
      exact this
    exact (hQ l).mpr ⟨q, (H.mem q).mpr ⟨lq, sq⟩, e⟩
  · obtain ⟨q, hq, rfl⟩ := (hQ l).mp hl
    rw [fu_mvl (by omega)]
    exact H.fb hq (od_lt hp)
end
theorem hl_zero : Hl 0 zer [[]] := ⟨by simp, fun i j hi hj => by
    rw [show i = 0 by omega, show j = 0 by omega]
    rfl, fun l => by
    constructor
    · intro h
      rw [List.mem_singleton.mp h]
      exact ⟨rfl, fun i j hi hj => by
        rw [show i = 0 by omega, show j = 0 by omega]
        decide⟩
    · rintro ⟨h, _⟩
      rw [List.eq_nil_of_length_eq_zero h]
      simp, fun l hl k hk => by omega⟩
end K25

namespace K25
open PySem PySem.Spec PyProof.Rows L2 Mi Dbm
/-! ### _law_risen and _law_moved -/
theorem law_risen_ok {m : Nat} {P : List (List Int)} {tp : List Int} (hl : ∀ l ∈ P, l.length = m) (ltp : tp.length = m) (hm : m ≤ 100) (hz : P.length ≤ 1000) (S : So) :
    ∃ ks S', m_law_risen [.lst (P.map pD), pD tp] S = .ok (.lst ((srtT ks).map pD)) S' ∧ S.length ≤ S'.length ∧ (∀ k, k < S.length → S'[k]? = S[k]?) ∧ Keys m tp P [] 0 ks := by
  obtain ⟨en1, S10, ef1, o3, o4, o5, ks, rfl, at10, q10, l10, K10⟩ := for_ptsN (N := 1000) (S0 := S ++ [some (.tdt [])]) (g := gN 3) (body := (sFor (iRg1 (aCons (mC (.int 9)) aNil)) (gN 4) (sSeq (sSet 5 (mB bTupT (aCons (mComp (iSeq (mV 3)) (gN 6) tT (m2 dAdd (mV 6) (mV 4)) [6]) aNil)))
    (sIf (tTru (mB bAll (aCons (mComp (iZipT (aCons (mTh (mV 5)) (aCons (mV 1) aNil))) (gT 2 (gsCons (gN 6) (gsCons (gN 7) gsNil))) tT (m2 dLe (mV 6) (mV 7)) [6, 7]) aNil))) (sPutT (mC (.bl true)) (mV 2) (mV 5)) sNil))))
    (J := fun pre en S' => ∃ o3 o4 o5 ks, en = [some (.lst (P.map pD)), some (pD tp), some (.ref S.length), o3, o4, o5, none, none] ∧ S'[S.length]? = some (some (.tdt ks)) ∧ (∀ k, k < S.length → S'[k]? = S[k]?) ∧ S.length < S'.length ∧ Keys m tp pre [] 0 ks)
    P [] [some (.lst (P.map pD)), some (pD tp), some (.ref S.length), none, none, none, none, none] (S ++ [some (.tdt [])]) (by simpa using hz)
    (fun l hP pre en S' hN hJ => by
      obtain ⟨o3, o4, o5, ks, rfl, a1, a2, a3, K⟩ := hJ
      have ll := hl l hP
      obtain ⟨en2, S2', ef, o4', o5', ks', rfl, b1, b2, b3, K'⟩ := for_n (S0 := S') (g := gN 4) (ι := fun i : Nat => D.int (i : Int)) (n := 9) (S := S') (en := [some (.lst (P.map pD)), some (pD tp), some (.ref S.length), some (pD l), o4, o5, none, none]) (body := (sSeq (sSet 5 (mB bTupT (aCons (mComp (iSeq (mV 3)) (gN 6) tT (m2 dAdd (mV 6) (mV 4)) [6]) aNil)))
    (sIf (tTru (mB bAll (aCons (mComp (iZipT (aCons (mTh (mV 5)) (aCons (mV 1) aNil))) (gT 2 (gsCons (gN 6) (gsCons (gN 7) gsNil))) tT (m2 dLe (mV 6) (mV 7)) [6, 7]) aNil))) (sPutT (mC (.bl true)) (mV 2) (mV 5)) sNil)))
        (J := fun k en S2 => ∃ o4 o5 ks, en = [some (.lst (P.map pD)), some (pD tp), some (.ref S.length), some (pD l), o4, o5, none, none] ∧ S2[S.length]? = some (some (.tdt ks)) ∧ (∀ k, k < S.length → S2[k]? = S[k]?) ∧ S.length < S2.length ∧ Keys m tp pre l k ks)
        (fun k hk en S2 hJ => by
          obtain ⟨o4, o5, ks, rfl, a1, a2, a3, K⟩ := hJ
          have lu : (up l k).length = m := by rw [up_len]; exact ll
          have e' := comp_mapα (hold := none) (S0 := S2) (S := S2) (ι := D.int) (φ := fun x => D.int (x + (k : Int))) (g := gN 6) (f := m2 dAdd (mV 6) (mV 4)) (enw := [some (.lst (P.map pD)), some (pD tp), some (.ref S.length), some (pD l), some (.int (k : Int)), o5, none, none]) rfl l []
            (fun x _ => ⟨_, rfl, m2_ok rfl rfl rfl⟩) (by simpa using size4 (by omega))
          rw [List.nil_append] at e'
          have hi : mB bTupT (aCons (mComp (iSeq (mV 3)) (gN 6) tT (m2 dAdd (mV 6) (mV 4)) [6]) aNil) [some (.lst (P.map pD)), some (pD tp), some (.ref S.length), some (pD l), some (.int (k : Int)), o5, none, none] S2 = .ok (.ref S2.length) (S2 ++ [some (.tt (up l k))]) := by
            refine b_ok (one_ok (cmp_of (src := ⟨none, l.map D.int⟩) (seq_src rfl rfl) e')) ?_
            have := tupT_ok (S := S2) (up l k)
            rw [List.map_map] at this
            exact this
          have at2 : (S2 ++ [some (Ob.tt (up l k))])[S2.length]? = some (some (.tt (up l k))) := app_at
          have at1 : (S2 ++ [some (Ob.tt (up l k))])[S.length]? = some (some (.tdt ks)) := by rw [List.getElem?_append_left a3]; exact a1
          have old : ∀ j, j < S.length → (S2 ++ [some (Ob.tt (up l k))])[j]? = S[j]? := fun j hj => by rw [List.getElem?_append_left (by omega)]; exact a2 j hj
          have th := th_ok (f := mV 5) (en := [some (.lst (P.map pD)), some (pD tp), some (.ref S.length), some (pD l), some (.int (k : Int)), some (.ref S2.length), none, none]) (S := S2 ++ [some (Ob.tt (up l k))]) rfl at2
          rw [tops_row, lu] at th
          have t7 : mV 1 [some (.lst (P.map pD)), some (pD tp), some (.ref S.length), some (pD l), some (.int (k : Int)), some (.ref S2.length), none, none] (S2 ++ [some (Ob.tt (up l k))]) = .ok (.tup ((List.range m).map fun j => D.int (tp.getD j 0))) (S2 ++ [some (Ob.tt (up l k))]) := by
            rw [← ltp, ← tops_row]
            rfl
          have test : tTru (mB bAll (aCons (mComp (iZipT (aCons (mTh (mV 5)) (aCons (mV 1) aNil))) (gT 2 (gsCons (gN 6) (gsCons (gN 7) gsNil))) tT (m2 dLe (mV 6) (mV 7)) [6, 7]) aNil)) [some (.lst (P.map pD)), some (pD tp), some (.ref S.length), some (pD l), some (.int (k : Int)), some (.ref S2.length), none, none] (S2 ++ [some (Ob.tt (up l k))]) = .ok (fitB m tp (up l k)) (S2 ++ [some (Ob.tt (up l k))]) :=
            tru_bl (b_ok (one_ok (cmp_src (φ := fun j => .bl (decide ((up l k).getD j 0 ≤ tp.getD j 0))) (zipT_ok (A := fun j => .int ((up l k).getD j 0)) (B := fun j => .int (tp.getD j 0)) th t7) (by omega) fun j _ => ⟨_, rfl, m2_ok rfl rfl rfl⟩)) (all_of _ _ _))
          have Kn := K.next
          have kl := K.len
          cases c : fitB m tp (up l k) with
          | true =>
            rw [c] at test
            rw [if_pos c] at Kn
            refine ⟨_, _, (S2 ++ [some (Ob.tt (up l k))]).set S.length (some (.tdt (addT ks (up l k)))), rfl, seq_nx (set_ok hi) (if_t test (putT_ok rfl rfl rfl at1 at2 (by omega))), some (.int (k : Int)), some (.ref S2.length), addT ks (up l k), rfl, List.getElem?_set_self (by simp; omega), fun j hj => ?_, by simp; omega, Kn⟩
            rw [List.getElem?_set_ne (by omega)]
            exact old j hj
          | false =>
            rw [c] at test
            rw [if_neg (by rw [c]; decide)] at Kn
            exact ⟨_, _, S2 ++ [some (Ob.tt (up l k))], rfl, seq_nx (set_ok hi) (if_f test rfl), some (.int (k : Int)), some (.ref S2.length), ks, rfl, at1, old, by simp; omega, Kn⟩)
        ⟨o4, o5, ks, rfl, a1, a2, a3, K.l'⟩
      exact ⟨_, _, S2', rfl, for_of (rg_n (n := 9) (one_ok rfl) (by decide)) ef, some (pD l), o4', o5', ks', rfl, b1, b2, b3, K'.done []⟩)
    ⟨none, none, none, [], rfl, app_at, fun k hk => List.getElem?_append_left hk, by simp, ⟨fun x => by simp, List.nodup_nil, Nat.zero_le _⟩⟩
  rw [List.nil_append] at K10
  have lks : ∀ x ∈ ks, x.length = m := fun x hx => by
    rcases (K10.mem x).mp hx with ⟨q, hq, d, _, e, _⟩ | ⟨d, hd, _⟩
    · rw [e, up_len]
      exact hl q hq
    · omega
  have so := sortT_ok at10 (by
    by_cases c : m = 0
    · exact .inr (nodup_nil K10.nd fun x hx => List.eq_nil_of_length_eq_zero (by rw [lks x hx, c]))
    · exact .inl fun x hx e => c (by rw [← lks x hx, e]; rfl))
  exact ⟨ks, S10, body_rt rfl (seq_nx (set_ok rfl) (seq_nx (for_of (src := ⟨none, P.map pD⟩) (seq_src rfl rfl) ef1) (ret_ok (b_ok (one_ok rfl) so)))), by omega, q10, K10⟩
structure MvK (pl : List Nat) (pre ks : List (List Int)) : Prop where
  mem : ∀ x, x ∈ ks ↔ ∃ q ∈ pre, x = mvl pl q
  nd : ks.Nodup
  len : ks.length ≤ pre.length
theorem MvK.next {pl : List Nat} {pre ks : List (List Int)} (h : MvK pl pre ks) (l : List Int) : MvK pl (pre ++ [l]) (addT ks (mvl pl l)) := by
  refine ⟨fun x => ?_, ?_, ?_⟩
  · have ma : x ∈ addT ks (mvl pl l) ↔ x ∈ ks ∨ x = mvl pl l := by
      unfold addT
      split
      · rename_i z
        exact ⟨.inl, fun y => y.elim id fun e => by rw [e]; exact z⟩
      · simp
    rw [ma, h.mem]
    constructor
    · rintro (⟨q, hq, e⟩ | e)
      · exact ⟨q, by simp [hq], e⟩
      · exact ⟨l, by simp, e⟩
    · rintro ⟨q, hq, e⟩
      rcases List.mem_append.mp hq with hq | hq
      · exact .inl ⟨q, hq, e⟩
      · rw [List.mem_singleton.mp hq] at e
        exact .inr e
  · unfold addT
    split
    · exact h.nd
    · rename_i z
      rw [List.nodup_append]
      exact ⟨h.nd, by simp, fun a ha b hb e => by rw [List.mem_singleton.mp hb] at e; exact z (by rw [← e]; exact ha)⟩
  · have := h.len
    unfold addT
    split
    · rw [List.length_append]
      omega
    · rw [List.length_append, List.length_append]
      simp
      omega
theorem law_moved_ok {m : Nat} {P : List (List Int)} {pl : List Nat} (hl : ∀ l ∈ P, l.length = m) (hp : ∀ p ∈ pl, p < m + 1) (hm : m ≤ 100) (h12 : pl.length ≤ 12) (hz : P.length ≤ 1000) (S : So) :
    ∃ ks S', m_law_moved [.lst (P.map pD), plD pl] S = .ok (.lst ((srtT ks).map pD)) S' ∧ S.length ≤ S'.length ∧ (∀ k, k < S.length → S'[k]? = S[k]?) ∧ MvK pl P ks := by
  obtain ⟨en1, S10, ef1, o3, o4, ks, rfl, at10, q10, l10, K10⟩ := for_ptsN (N := 1000) (S0 := S ++ [some (.tdt [])]) (g := gN 3) (body := (sSeq (sSet 4 (m2 dAdd (mTup (aCons (mC (.int 0)) aNil)) (mV 3)))
    (sPutT (mC (.bl true)) (mV 2) (mB bTupT (aCons (mComp (iSeq (mV 1)) (gN 5) tT (m2 dIx (mV 4) (mV 5)) [5]) aNil)))))
    (J := fun pre en S' => ∃ o3 o4 ks, en = [some (.lst (P.map pD)), some (plD pl), some (.ref S.length), o3, o4, none] ∧ S'[S.length]? = some (some (.tdt ks)) ∧ (∀ k, k < S.length → S'[k]? = S[k]?) ∧ S.length < S'.length ∧ MvK pl pre ks)
    P [] [some (.lst (P.map pD)), some (plD pl), some (.ref S.length), none, none, none] (S ++ [some (.tdt [])]) (by simpa using hz)
    (fun l hP pre en S' hN hJ => by
      obtain ⟨o3, o4, ks, rfl, a1, a2, a3, K⟩ := hJ
      have ll := hl l hP
      have e' := comp_mapα (hold := none) (S0 := S') (S := S') (ι := fun p : Nat => D.int (p : Int)) (φ := fun p : Nat => D.int (fu l p)) (g := gN 5) (f := m2 dIx (mV 4) (mV 5)) (enw := [some (.lst (P.map pD)), some (plD pl), some (.ref S.length), some (pD l), some (.tup (rowI (m + 1) (fu l))), none]) rfl pl []
        (fun p hq => ⟨_, rfl, m2_ok rfl rfl (row_tup (hp p hq))⟩) (by simpa using size4 (by omega))
      rw [List.nil_append] at e'
      have hi : mB bTupT (aCons (mComp (iSeq (mV 1)) (gN 5) tT (m2 dIx (mV 4) (mV 5)) [5]) aNil) [some (.lst (P.map pD)), some (plD pl), some (.ref S.length), some (pD l), some (.tup (rowI (m + 1) (fu l))), none] S' = .ok (.ref S'.length) (S' ++ [some (.tt (mvl pl l))]) := by
        refine b_ok (one_ok (cmp_of (src := ⟨none, pl.map fun p : Nat => D.int (p : Int)⟩) (seq_src rfl rfl) e')) ?_
        have := tupT_ok (S := S') (mvl pl l)
        unfold mvl at this
        rw [List.map_map] at this
        exact this
      have at2 : (S' ++ [some (Ob.tt (mvl pl l))])[S'.length]? = some (some (.tt (mvl pl l))) := app_at
      have at1 : (S' ++ [some (Ob.tt (mvl pl l))])[S.length]? = some (some (.tdt ks)) := by rw [List.getElem?_append_left a3]; exact a1
      have kl := K.len
      have pt : sPutT (mC (.bl true)) (mV 2) (mB bTupT (aCons (mComp (iSeq (mV 1)) (gN 5) tT (m2 dIx (mV 4) (mV 5)) [5]) aNil)) [some (.lst (P.map pD)), some (plD pl), some (.ref S.length), some (pD l), some (.tup (rowI (m + 1) (fu l))), none] S' = .ok (.nx [some (.lst (P.map pD)), some (plD pl), some (.ref S.length), some (pD l), some (.tup (rowI (m + 1) (fu l))), none]) ((S' ++ [some (Ob.tt (mvl pl l))]).set S.length (some (.tdt (addT ks (mvl pl l))))) := by
        unfold sPutT
        rw [show mC (.bl true) [some (.lst (P.map pD)), some (plD pl), some (.ref S.length), some (pD l), some (.tup (rowI (m + 1) (fu l))), none] S' = .ok (.bl true) S' from rfl, R.bind_ok, show mV 2 [some (.lst (P.map pD)), some (plD pl), some (.ref S.length), some (pD l), some (.tup (rowI (m + 1) (fu l))), none] S' = .ok (.ref S.length) S' from rfl, R.bind_ok, hi, R.bind_ok]
        unfold putTD
        simp only [at1, at2]
        rw [if_pos (Nat.lt_of_lt_of_le (show ks.length < 10001 by omega) (size4 (by decide)))]
      refine ⟨_, _, (S' ++ [some (Ob.tt (mvl pl l))]).set S.length (some (.tdt (addT ks (mvl pl l)))), rfl, seq_nx (set_ok (full_ok rfl ll hm)) pt, some (pD l), some (.tup (rowI (m + 1) (fu l))), addT ks (mvl pl l), rfl, List.getElem?_set_self (by simp; omega), fun j hj => ?_, by simp; omega, K.next l⟩
      rw [List.getElem?_set_ne (by omega), List.getElem?_append_left (by omega)]
      exact a2 j hj)
    ⟨none, none, [], rfl, app_at, fun k hk => List.getElem?_append_left hk, by simp, ⟨fun x => by simp, List.nodup_nil, Nat.zero_le _⟩⟩
  rw [List.nil_append] at K10
  have lks : ∀ x ∈ ks, x.length = pl.length := fun x hx => by
    obtain ⟨q, _, rfl⟩ := (K10.mem x).mp hx
    exact List.length_map ..
  have so := sortT_ok at10 (by
    by_cases c : pl.length = 0
    · exact .inr (nodup_nil K10.nd fun x hx => List.eq_nil_of_length_eq_zero (by rw [lks x hx, c]))
    · exact .inl fun x hx e => c (by rw [← lks x hx, e]; rfl))
  exact ⟨ks, S10, body_rt rfl (seq_nx (set_ok rfl) (seq_nx (for_of (src := ⟨none, P.map pD⟩) (seq_src rfl rfl) ef1) (ret_ok (b_ok (one_ok rfl) so)))), by omega, q10, K10⟩
end K25

namespace K25
open PySem PySem.Spec PyProof.Rows L2 Mi Dbm
/-! ### _law_due_now and _law_cut_to -/
theorem add1 (m : Nat) (S : So) : dAdd (.int (m : Int)) (.int 1) S = some (.int ((m + 1 : Nat) : Int), S) := by
  show some (D.int ((m : Int) + 1), S) = _
  rw [show (m : Int) + 1 = ((m + 1 : Nat) : Int) by omega]
theorem inB_natsT (p : Nat) (l : List Nat) (S : So) : dInB (.int (p : Int)) (plD l) S = some (decide (p ∈ l)) := by
  have sh : SeqAt.shaped (.tuple (l.map fun p : Nat => PyData.int (p : Int))) = true := by
    have := dep_nats l
    unfold SeqAt.shaped
    rw [show PyData.canLay0 (.tuple (l.map fun p : Nat => PyData.int (p : Int))) = true by simp only [PyData.canLay0]; exact can_nats l, Bool.true_and, decide_eq_true_eq]
    simp only [PyData.depth]
    omega
  have tp : toPt (plD l) S = some (.tuple (l.map fun p : Nat => PyData.int (p : Int))) := by
    show toP (.tup _) = _
    simp only [toP, toPs_nats]
  have an : ((l.map fun p : Nat => PyData.int (p : Int)).any fun q => PyData.eqv q (.int (p : Int))) = decide (p ∈ l) := by
    rw [List.any_map, Bool.eq_iff_iff, List.any_eq_true, decide_eq_true_eq]
    constructor
    · rintro ⟨q, hq, e⟩
      simp only [Function.comp, PyData.eqv, beq_iff_eq] at e
      have : q = p := by omega
      rw [← this]
      exact hq
    · intro h
      exact ⟨p, h, by simp [Function.comp, PyData.eqv]⟩
  unfold dInB
  rw [show plD l = D.tup (l.map fun p : Nat => D.int (p : Int)) from rfl] at tp ⊢
  dsimp only
  rw [show dctOf (.tup (l.map fun p : Nat => D.int (p : Int))) S = none from rfl]
  dsimp only
  rw [tp, show toPt (.int (p : Int)) S = some (.int (p : Int)) from rfl]
  dsimp only
  rw [sh, an]
  rfl
theorem in_natsT (p : Nat) (l : List Nat) (S : So) : dIn (.int (p : Int)) (plD l) S = some (.bl (decide (p ∈ l)), S) := by
  unfold dIn
  rw [inB_natsT]
  rfl
theorem nin_natsT (p : Nat) (l : List Nat) (S : So) : dNotIn (.int (p : Int)) (plD l) S = some (.bl (!decide (p ∈ l)), S) := by
  unfold dNotIn
  rw [inB_natsT]
  rfl
/-- whether just the clocks gl have reached their tops, of the first k -/
def dueB (k : Nat) (tp : List Int) (gl : List Nat) (l : List Int) : Bool := (List.range k).all fun i => (l.getD i 0 == tp.getD i 0) == decide (i + 1 ∈ gl)
theorem dueB_succ {k : Nat} {tp : List Int} {gl : List Nat} {l : List Int} : dueB (k + 1) tp gl l = (dueB k tp gl l && ((l.getD k 0 == tp.getD k 0) == decide (k + 1 ∈ gl))) := by
  unfold dueB
  rw [List.range_succ, List.all_append]
  simp
theorem law_due_ok {m : Nat} {P : List (List Int)} {tp : List Int} {gl : List Nat} (hl : ∀ l ∈ P, l.length = m) (ltp : tp.length = m) (hm : m ≤ 100) (hz : P.length < 1000) (S : So) :
    ∃ S', m_law_due_now [.lst (P.map pD), pD tp, plD gl] S = .ok (.lst ((P.filter (dueB m tp gl)).map pD)) S' ∧ S.length ≤ S'.length ∧ (∀ k, k < S.length → S'[k]? = S[k]?) := by
  obtain ⟨en1, S1, ef, o4, rfl, rfl, _⟩ := for_ptsN (N := P.length) (S0 := S ++ [some (.lst [])]) (g := gN 4) (body := (sIf (tTru (mB bAll (aCons (mComp (iEnT (aCons (mV 4) aNil)) (gT 2 (gsCons (gN 5) (gsCons (gN 6) gsNil))) tT (m2 dEq (m2 dEq (mV 6) (m2 dIx (mV 1) (mV 5))) (m2 dIn (m2 dAdd (mV 5) (mC (.int 1))) (mV 2))) [5, 6]) aNil))) (sEx (mM "list" mApp (mV 3) (aCons (mV 4) aNil))) sNil))
    (J := fun pre en S' => ∃ o4, en = [some (.lst (P.map pD)), some (pD tp), some (plD gl), some (.ref S.length), o4, none, none] ∧ S' = S ++ [some (.lst ((pre.filter (dueB m tp gl)).map pD))] ∧ (pre.filter (dueB m tp gl)).length ≤ pre.length)
    P [] [some (.lst (P.map pD)), some (pD tp), some (plD gl), some (.ref S.length), none, none, none] (S ++ [some (.lst [])]) (by simp)
    (fun l hP pre en S' hN hJ => by
      obtain ⟨o4, rfl, rfl, lp⟩ := hJ
      have ll := hl l hP
      obtain ⟨S1, hS1⟩ : ∃ S1, S1 = S ++ [some (Ob.lst ((pre.filter (dueB m tp gl)).map pD))] := ⟨_, rfl⟩
      rw [← hS1]
      have at1 : S1[S.length]? = some (some (.lst ((pre.filter (dueB m tp gl)).map pD))) := by rw [hS1]; exact app_at
      have t4 : mV 4 [some (.lst (P.map pD)), some (pD tp), some (plD gl), some (.ref S.length), some (pD l), none, none] S1 = .ok (.tup ((List.range m).map fun j => D.int (l.getD j 0))) S1 := by
        rw [← ll, ← tops_row]
        rfl
      have t1 : ∀ o5 o6 : Option D, mV 1 [some (.lst (P.map pD)), some (pD tp), some (plD gl), some (.ref S.length), some (pD l), o5, o6] S1 = .ok (.tup (rowI m fun j => tp.getD j 0)) S1 := fun _ _ => by
        show R.ok (D.tup (tp.map D.int)) S1 = _
        rw [tops_row, ltp]
        rfl
      have test : tTru (mB bAll (aCons (mComp (iEnT (aCons (mV 4) aNil)) (gT 2 (gsCons (gN 5) (gsCons (gN 6) gsNil))) tT (m2 dEq (m2 dEq (mV 6) (m2 dIx (mV 1) (mV 5))) (m2 dIn (m2 dAdd (mV 5) (mC (.int 1))) (mV 2))) [5, 6]) aNil)) [some (.lst (P.map pD)), some (pD tp), some (plD gl), some (.ref S.length), some (pD l), none, none] S1 = .ok (dueB m tp gl l) S1 :=
        tru_bl (b_ok (one_ok (cmp_src (φ := fun i => .bl ((l.getD i 0 == tp.getD i 0) == decide (i + 1 ∈ gl))) (en_row t4) (by omega) fun j hj => ⟨_, rfl, m2_ok (m2_ok rfl (m2_ok (t1 _ _) rfl (row_tup hj)) (eq_int _ _)) (m2_ok (m2_ok rfl rfl (add1 j _)) rfl (in_natsT _ _ _)) (eq_bl _ _)⟩)) (all_of _ _ _))
      cases c : dueB m tp gl l with
      | true =>
        rw [c] at test
        refine ⟨_, _, _, rfl, if_t test (ex_ok (mM_ok rfl (lst_typQ at1) (one_ok rfl) (app_okQ at1 (by rw [List.length_map]; omega)))), some (pD l), rfl, ?_, ?_⟩
        · rw [hS1, List.set_append_right _ _ (Nat.le_refl _), List.filter_append, List.filter_cons_of_pos c, List.map_append]
          simp
        · rw [List.filter_append, List.length_append, List.length_append, List.filter_cons_of_pos c]
          simp
          exact lp
      | false =>
        rw [c] at test
        refine ⟨_, _, S1, rfl, if_f test rfl, some (pD l), rfl, ?_, ?_⟩
        · rw [hS1, List.filter_append, List.filter_cons_of_neg (by rw [c]; decide)]
          simp
        · rw [List.filter_append, List.length_append, List.length_append, List.filter_cons_of_neg (by rw [c]; decide)]
          simp
          omega)
    ⟨none, rfl, rfl, Nat.le_refl _⟩
  rw [List.nil_append] at ef
  have fz : frz (.ref S.length) (S ++ [some (Ob.lst ((P.filter (dueB m tp gl)).map pD))]) = (.lst ((P.filter (dueB m tp gl)).map pD), (S ++ [some (Ob.lst ((P.filter (dueB m tp gl)).map pD))]).set S.length none) := by
    unfold frz
    simp only [app_at]
  refine ⟨(S ++ [some (Ob.lst ((P.filter (dueB m tp gl)).map pD))]).set S.length none, body_rt rfl (seq_nx (set_ok rfl) (seq_nx (for_of (src := ⟨none, P.map pD⟩) (seq_src rfl rfl) ef) (ret_ok ?_))), by simp, fun k hk => by rw [List.getElem?_set_ne (by omega), List.getElem?_append_left hk]⟩
  show R.ok (frz (.ref S.length) (S ++ [some (Ob.lst ((P.filter (dueB m tp gl)).map pD))])).1 (frz (.ref S.length) (S ++ [some (Ob.lst ((P.filter (dueB m tp gl)).map pD))])).2 = _
  rw [fz]
theorem nn_bd {n : Nat} {g : Nat → Nat → Int} (S : So) : dNotN (BD n g) .non S = some (.bl true, S) := rfl
theorem law_cut_ok {m : Nat} {g : Nat → Nat → Int} {P : List (List Int)} {tp : List Int} {gl : List Nat} (H : Hl m g P) (ltp : tp.length = m) (hm : m ≤ 12) (ht : ∀ x ∈ tp, 0 ≤ x ∧ x ≤ 3) (le : ∀ l ∈ P, ∀ k, k < m → fu l (k + 1) ≤ tp.getD k 0) (S : So) :
    ∃ x S', m_law_cut_to [BD (m + 1) g, pD tp, plD gl] S = .ok x S' ∧ S.length ≤ S'.length ∧ (∀ k, k < S.length → S'[k]? = S[k]?) ∧ ((P.filter (dueB m tp gl) = [] ∧ x = .non) ∨ ∃ g', x = BD (m + 1) g' ∧ Hl m g' (P.filter (dueB m tp gl))) := by
  have gt : ∀ k, 0 ≤ tp.getD k 0 ∧ tp.getD k 0 ≤ 3 := fun k => by
    rw [List.getD_eq_getElem?_getD]
    by_cases c : k < tp.length
    · rw [List.getElem?_eq_getElem c]
      exact ht _ (List.getElem_mem c)
    · rw [List.getElem?_eq_none (by omega)]
      exact ⟨by decide, by decide⟩
  have t1 : ∀ (en : En), mV 1 (some (BD (m + 1) g) :: some (pD tp) :: en) S = .ok (.tup ((List.range m).map fun j => D.int (tp.getD j 0))) S := fun _ => by
    show R.ok (D.tup (tp.map D.int)) S = _
    rw [tops_row, ltp]
  obtain ⟨en', S', ef, x, o3, o4, rfl, l1, q1, hx⟩ := for_n (S0 := S) (g := gT 2 (gsCons (gN 3) (gsCons (gN 4) gsNil))) (ι := fun i : Nat => D.tup [.int (i : Int), .int (tp.getD i 0)]) (n := m) (S := S) (en := [some (BD (m + 1) g), some (pD tp), some (plD gl), none, none])
    (body := (sIf (tAnd' (tB' (m2 dNotN (mV 0) (mC .non))) (tB' (m2 dIn (m2 dAdd (mV 3) (mC (.int 1))) (mV 2)))) (sSet 0 (mMeth "Bounds" "cut" m_Bounds_cut (mV 0) (aCons (mC (.int 0)) (aCons (m2 dAdd (mV 3) (mC (.int 1))) (aCons (m1 dNeg (mV 4)) aNil))))) (sIf (tB' (m2 dNotN (mV 0) (mC .non))) (sSet 0 (mMeth "Bounds" "cut" m_Bounds_cut (mV 0) (aCons (m2 dAdd (mV 3) (mC (.int 1))) (aCons (mC (.int 0)) (aCons (m2 dSub (mV 4) (mC (.int 1))) aNil))))) sNil)))
    (J := fun k en S' => ∃ x o3 o4, en = [some x, some (pD tp), some (plD gl), o3, o4] ∧ S.length ≤ S'.length ∧ (∀ k, k < S.length → S'[k]? = S[k]?) ∧ ((P.filter (dueB k tp gl) = [] ∧ x = .non) ∨ ∃ g', x = BD (m + 1) g' ∧ Hl m g' (P.filter (dueB k tp gl))))
    (fun k hk en S' hJ => by
      obtain ⟨x, o3, o4, rfl, l1, q1, hx⟩ := hJ
      have gk := gt k
      have mem : ∀ l, l ∈ P.filter (dueB (k + 1) tp gl) ↔ l ∈ P.filter (dueB k tp gl) ∧ ((l.getD k 0 == tp.getD k 0) == decide (k + 1 ∈ gl)) = true := fun l => by
        rw [List.mem_filter, List.mem_filter, dueB_succ, Bool.and_eq_true, and_assoc]
      rcases hx with ⟨e, rfl⟩ | ⟨g', rfl, H'⟩
      · refine ⟨_, _, S', rfl, if_f (tand_f (tst_ok (m2_ok rfl rfl rfl))) (if_f (tst_ok (m2_ok rfl rfl rfl)) rfl), .non, some (.int (k : Int)), some (.int (tp.getD k 0)), rfl, l1, q1, .inl ⟨?_, rfl⟩⟩
        cases z : P.filter (dueB (k + 1) tp gl) with
        | nil => rfl
        | cons l r =>
          have := ((mem l).mp (by rw [z]; simp)).1
          rw [e] at this
          cases this
      · have inn := in_natsT (k + 1) gl S'
        by_cases c : k + 1 ∈ gl
        · rw [decide_eq_true c] at inn
          obtain ⟨x, S2, e, hx, l2, q2⟩ := cut_hl (Q := P.filter (dueB (k + 1) tp gl)) (i := 0) (j := k + 1) (v := -(tp.getD k 0)) H' hm (by omega) (by omega) (in3 (by omega) (by omega)) (fun l => by
            rw [mem, decide_eq_true c]
            refine and_congr_right fun hl => ?_
            have := le l (List.mem_filter.mp hl).1 k hk
            rw [fu_succ] at this ⊢
            rw [fu_zero, beq_true, beq_iff_eq]
            omega) S'
          exact ⟨_, _, S2, rfl, if_t (tand_t (tst_ok (m2_ok rfl rfl (nn_bd _))) (tst_ok (m2_ok (m2_ok rfl rfl (add1 k _)) rfl inn))) (set_ok (meth_ok rfl rfl rfl (cons_ok rfl (cons_ok (m2_ok rfl rfl (add1 k _)) (one_ok (m1_ok rfl rfl)))) e)), x, some (.int (k : Int)), some (.int (tp.getD k 0)), rfl, by omega, fun j hj => by rw [q2 j (by omega)]; exact q1 j hj, hx⟩
        · rw [decide_eq_false c] at inn
          obtain ⟨x, S2, e, hx, l2, q2⟩ := cut_hl (Q := P.filter (dueB (k + 1) tp gl)) (i := k + 1) (j := 0) (v := tp.getD k 0 - 1) H' hm (by omega) (by omega) (in3 (by omega) (by omega)) (fun l => by
            rw [mem, decide_eq_false c]
            refine and_congr_right fun hl => ?_
            have := le l (List.mem_filter.mp hl).1 k hk
            rw [fu_succ] at this ⊢
            rw [fu_zero, beq_false, Bool.not_eq_true', beq_eq_false_iff_ne]
            omega) S'
          exact ⟨_, _, S2, rfl, if_f (tand_t (tst_ok (m2_ok rfl rfl (nn_bd _))) (tst_ok (m2_ok (m2_ok rfl rfl (add1 k _)) rfl inn))) (if_t (tst_ok (m2_ok rfl rfl (nn_bd _))) (set_ok (meth_ok rfl rfl rfl (cons_ok (m2_ok rfl rfl (add1 k _)) (cons_ok rfl (one_ok (m2_ok rfl rfl rfl)))) e))), x, some (.int (k : Int)), some (.int (tp.getD k 0)), rfl, by omega, fun j hj => by rw [q2 j (by omega)]; exact q1 j hj, hx⟩)
    ⟨_, none, none, rfl, Nat.le_refl _, fun _ _ => rfl, .inr ⟨g, rfl, by
      have : P.filter (dueB 0 tp gl) = P := List.filter_eq_self.mpr fun _ _ => rfl
      rw [this]
      exact H⟩⟩
  exact ⟨x, S', body_rt rfl (seq_nx (for_of (en_row (t1 _)) ef) (ret_ok rfl)), l1, q1, hx⟩
end K25

namespace K25
open PySem PySem.Spec PyProof.Rows L2 Mi Dbm
/-! ### _law_places -/
abbrev nD (p : Nat) : D := .int (p : Int)
theorem comp_eff {α : Type} {hold : Option Nat} {S0 : So} {I : So → Prop} {p : α → Prop} {ι : α → D} {g : TgD} {t : E Bool} {f : E D} {enw : En} (hst : ∀ S, I S → still hold S0 S = true) : ∀ (l : List α) (acc : List D) (S : So),
    (∀ a ∈ l, ∀ S, I S → ∃ en1 S1, g (ι a) enw S = some en1 ∧ I S1 ∧ (t en1 S = .ok false S1 ∨ (t en1 S = .ok true S1 ∧ f en1 S1 = .ok (ι a) S1 ∧ p a))) → I S → acc.length + l.length ≤ sizeLine →
    ∃ (al : List α) (S' : So), compM hold S0 g t f enw (l.map ι) acc S = .ok (acc ++ al.map ι) S' ∧ I S' ∧ al.Sublist l ∧ ∀ a ∈ al, p a
  | [], acc, S, _, hI, _ => ⟨[], S, by simp [compM], hI, List.Sublist.refl _, fun _ h => by cases h⟩
  | a :: l, acc, S, h, hI, hz => by
    obtain ⟨en1, S1, e1, I1, e2⟩ := h a (by simp) S hI
    rcases e2 with e2 | ⟨e2, e3, pa⟩
    · obtain ⟨al, S', e, I', sl, pp⟩ := comp_eff hst l acc S1 (fun q hq => h q (by simp [hq])) I1 (by simp at hz; omega)
      refine ⟨al, S', ?_, I', sl.cons _, pp⟩
      rw [List.map_cons]
      unfold compM
      simp only [e1, e2]
      rw [if_pos (hst S1 I1), e]
    · obtain ⟨al, S', e, I', sl, pp⟩ := comp_eff hst l (acc ++ [ι a]) S1 (fun q hq => h q (by simp [hq])) I1 (by simp at hz ⊢; omega)
      refine ⟨a :: al, S', ?_, I', sl.cons₂ _, fun q hq => ?_⟩
      · rw [List.map_cons]
        unfold compM
        simp only [e1, e2, e3]
        rw [if_pos ⟨by simp at hz; omega, hst S1 I1⟩, e]
        simp
      · rcases List.mem_cons.mp hq with rfl | hq
        · exact pa
        · exact pp q hq
structure Pk (m : Nat) (gl pl : List Nat) : Prop where
  le : ∀ p ∈ pl, p < m + 1
  nd : (pl.filter fun p => decide (0 < p)).Nodup
  off : ∀ p ∈ pl, 0 < p → p ∉ gl
theorem Pk.rev {m : Nat} {gl pl : List Nat} (h : Pk m gl pl) : Pk m gl pl.reverse := ⟨fun p hp => h.le p (List.mem_reverse.mp hp), by
    rw [List.filter_reverse]
    exact List.pairwise_reverse.mpr (List.Pairwise.imp (fun z e => z e.symm) h.nd), fun p hp => h.off p (List.mem_reverse.mp hp)⟩
theorem Pk.ins {m : Nat} {gl pl : List Nat} (h : Pk m gl pl) (a : Nat) : Pk m gl (pl.take a ++ [0] ++ pl.drop a) := by
  have mm : ∀ p, p ∈ pl.take a ++ [0] ++ pl.drop a → p ∈ pl ∨ p = 0 := fun p hp => by
    rcases List.mem_append.mp hp with hp | hp
    · rcases List.mem_append.mp hp with hp | hp
      · exact .inl (List.mem_of_mem_take hp)
      · exact .inr (List.mem_singleton.mp hp)
    · exact .inl (List.mem_of_mem_drop hp)
  refine ⟨fun p hp => (mm p hp).elim (h.le p) fun e => by omega, ?_, fun p hp p0 => (mm p hp).elim (fun q => h.off p q p0) fun e => by omega⟩
  have e : (pl.take a ++ [0] ++ pl.drop a).filter (fun p => decide (0 < p)) = pl.filter fun p => decide (0 < p) := by
    conv => rhs; rw [← List.take_append_drop a pl]
    rw [List.filter_append, List.filter_append, List.filter_append]
    simp
  rw [e]
  exact h.nd
theorem Pk.sub {m : Nat} {gl pl ql : List Nat} (h : Pk m gl pl) (s : ql.Sublist pl) : Pk m gl ql := ⟨fun p hp => h.le p (s.subset hp), (s.filter _).nodup h.nd, fun p hp => h.off p (s.subset hp)⟩
theorem sl_lst {f : E D} {fl fh : E (Option Int)} {en : En} {S S1 S2 S3 : So} {l : List D} {lo hi : Option Int} (h : f en S = .ok (.lst l) S1) (hl : fl en S1 = .ok lo S2) (hh : fh en S2 = .ok hi S3) : mSl dSl f fl fh en S = .ok (.lst (Mi.cutD l lo hi)) S3 := by
  unfold mSl
  rw [h, R.bind_ok, hl, R.bind_ok, hh, R.bind_ok]
  rfl
theorem cut_to (l : List D) (a : Nat) : Mi.cutD l none (some (a : Int)) = l.take a := by
  unfold Mi.cutD
  rw [HT.sIx_none, HT.sIx_nat, List.drop_zero, Nat.sub_zero]
  by_cases c : a ≤ l.length
  · rw [Nat.min_eq_left c]
  · rw [Nat.min_eq_right (by omega), List.take_of_length_le (Nat.le_refl _), List.take_of_length_le (by omega)]
theorem cut_from (l : List D) (a : Nat) : Mi.cutD l (some (a : Int)) none = l.drop a := by
  unfold Mi.cutD
  rw [HT.sIx_none, HT.sIx_nat]
  by_cases c : a ≤ l.length
  · rw [Nat.min_eq_left c, List.take_of_length_le (by rw [List.length_drop]; exact Nat.le_refl _)]
  · rw [Nat.min_eq_right (by omega), List.drop_of_length_le (Nat.le_refl _), List.drop_of_length_le (by omega)]
    simp
theorem so_ok {f : E D} {en : En} {S S1 : So} {i : Int} (h : f en S = .ok (.int i) S1) : pSo f en S = .ok (some i) S1 := by
  unfold pSo
  rw [h, R.bind_ok]
theorem rg2_up {g : E (List D)} {en : En} {S S1 : So} {m : Nat} (h : g en S = .ok [.int 1, .int ((m + 1 : Nat) : Int)] S1) (hm : m ≤ 1000) : iRg2 g en S = .ok ⟨none, ((List.range m).map fun k => k + 1).map nD⟩ S1 := by
  unfold iRg2
  rw [h, R.bind_ok]
  dsimp only
  rw [if_pos ⟨by decide, by decide, by omega, by omega⟩]
  congr 2
  unfold rngL
  rw [show (((m + 1 : Nat) : Int) - 1).toNat = m by omega, List.map_map]
  refine List.map_congr_left fun k _ => ?_
  show D.int (1 + (k : Int)) = D.int ((k + 1 : Nat) : Int)
  rw [show 1 + (k : Int) = ((k + 1 : Nat) : Int) by omega]
theorem revL_ok {f : E D} {en : En} {S S1 : So} {l : List D} (h : f en S = .ok (.lst l) S1) : mRevL f en S = .ok (.lst l.reverse) S1 := by
  unfold mRevL
  rw [h, R.bind_ok]
  rfl
theorem law_places_ok {S : So} {b m : Nat} {gl : List Nat} (hb : Bag S b) (hm : m ≤ 100) : ∃ pl S', m_law_places [.ref b, nD m, plD gl] S = .ok (plD pl) S' ∧ Bag S' b ∧ Ch b S S' ∧ Pk m gl pl ∧ pl.length ≤ 3 := by
  have z1 : (1 : Nat) ≤ sizeLine := size4 (by decide)
  obtain ⟨al, S1, e1, ⟨k1, c1⟩, sl, pp⟩ := comp_eff (hold := none) (S0 := S) (I := fun S' => Bag S' b ∧ Ch b S S') (p := fun a => a ∉ gl) (ι := nD) (g := gN 6) (t := (tAnd' (tB' (m2 dNotIn (mV 6) (mV 2))) (tB' (m2 dGt (mCall m_law_throw (aCons (mV 0) (aCons (mC (.int 5)) aNil))) (mC (.int 0)))))) (f := mV 6) (enw := [some (.ref b), some (nD m), some (plD gl), none, none, none, none]) (fun _ _ => rfl) ((List.range m).map fun k => k + 1) [] S
    (fun a _ S' hS => by
      have ni := nin_natsT a gl S'
      by_cases c : a ∈ gl
      · rw [decide_eq_true c] at ni
        exact ⟨_, S', rfl, hS, .inl (tand_f (tst_ok (m2_ok rfl rfl ni)))⟩
      · rw [decide_eq_false c] at ni
        obtain ⟨r, S2, e, k, cc, r0, r2⟩ := throw_n 5 hS.1 (by decide) (by decide)
        refine ⟨_, S2, rfl, ⟨k, hS.2.trans cc⟩, ?_⟩
        have ts : tB' (m2 dGt (mCall m_law_throw (aCons (mV 0) (aCons (mC (.int 5)) aNil))) (mC (.int 0))) [some (.ref b), some (nD m), some (plD gl), none, none, none, some (nD a)] S' = .ok (decide (r > 0)) S2 := tst_ok (m2_ok (call_ok (cons_ok rfl (one_ok rfl)) e) rfl rfl)
        cases d : decide (r > 0) with
        | true =>
          rw [d] at ts
          exact .inr ⟨tand_t (tst_ok (m2_ok rfl rfl ni)) ts, rfl, c⟩
        | false =>
          rw [d] at ts
          exact .inl (tand_t (tst_ok (m2_ok rfl rfl ni)) ts)) ⟨hb, Ch.refl⟩ (by simpa using size4 (by omega))
  rw [List.nil_append] at e1
  have alen : al.length ≤ m := by
    have := sl.length_le
    rw [List.length_map, List.length_range] at this
    exact this
  have P0 : Pk m gl al := ⟨fun p hp => by
    obtain ⟨k, hk, rfl⟩ := List.mem_map.mp (sl.subset hp)
    have := List.mem_range.mp hk
    omega, ((List.filter_sublist).trans sl).nodup (List.Pairwise.map _ (fun a b h e => h (by omega)) List.nodup_range), fun p hp _ => pp p hp⟩
  obtain ⟨r, S2, e2, k2, c2, r0, r3⟩ := throw_n 3 k1 (by decide) (by decide)
  obtain ⟨bl, lb, Pb, st2⟩ : ∃ bl : List Nat, bl.length ≤ m ∧ Pk m gl bl ∧ sIf (tB' (m2 dEq (mCall m_law_throw (aCons (mV 0) (aCons (mC (.int 3)) aNil))) (mC (.int 0)))) (sSet 3 (mRevL (mV 3))) sNil [some (.ref b), some (nD m), some (plD gl), some (.lst (al.map nD)), none, none, none] S1 = .ok (.nx [some (.ref b), some (nD m), some (plD gl), some (.lst (bl.map nD)), none, none, none]) S2 := by
    have ts : tB' (m2 dEq (mCall m_law_throw (aCons (mV 0) (aCons (mC (.int 3)) aNil))) (mC (.int 0))) [some (.ref b), some (nD m), some (plD gl), some (.lst (al.map nD)), none, none, none] S1 = .ok (r == 0) S2 := tst_ok (m2_ok (call_ok (cons_ok rfl (one_ok rfl)) e2) rfl (eq_int _ _))
    cases d : (r == 0) with
    | true =>
      rw [d] at ts
      refine ⟨al.reverse, by rw [List.length_reverse]; exact alen, P0.rev, if_t ts ?_⟩
      have := set_ok (i := 3) (revL_ok (f := mV 3) (en := [some (.ref b), some (nD m), some (plD gl), some (.lst (al.map nD)), none, none, none]) (S := S2) rfl)
      rw [← List.map_reverse] at this
      exact this
    | false =>
      rw [d] at ts
      exact ⟨al, alen, P0, if_f ts rfl⟩
  obtain ⟨N, S3, e3, k3, c3, N0, N3⟩ := throw_n 3 k2 (by decide) (by decide)
  obtain ⟨N, rfl⟩ : ∃ k : Nat, N = (k : Int) := ⟨N.toNat, by omega⟩
  obtain ⟨en', S4, ef, cl, o4, o5, rfl, lc, Pc, k4, c4⟩ := for_n (S0 := S3) (g := gN 4) (ι := fun i : Nat => D.int (i : Int)) (n := N) (S := S3) (en := [some (.ref b), some (nD m), some (plD gl), some (.lst (bl.map nD)), none, none, none])
    (body := (sSeq (sSet 5 (mCall m_law_throw (aCons (mV 0) (aCons (m2 dAdd (mB bLen (aCons (mV 3) aNil)) (mC (.int 1))) aNil))))
    (sSet 3 (m2 dAdd (m2 dAdd (mSl dSl (mV 3) pNo (pSo (mV 5))) (mLst (aCons (mC (.int 0)) aNil))) (mSl dSl (mV 3) (pSo (mV 5)) pNo)))))
    (J := fun k en S' => ∃ (pl : List Nat) (o4 o5 : Option D), en = [some (.ref b), some (nD m), some (plD gl), some (.lst (pl.map nD)), o4, o5, none] ∧ pl.length ≤ m + k ∧ Pk m gl pl ∧ Bag S' b ∧ Ch b S S')
    (fun k hk en S' hJ => by
      obtain ⟨pl, o4, o5, rfl, lp, Pp, kk, cc⟩ := hJ
      have bl' : bLen [.lst (pl.map nD)] S' = some (.int (pl.length : Int), S') := by
        show some (D.int (((pl.map nD).length : Nat) : Int), S') = _
        rw [List.length_map]
      obtain ⟨a, S2, e, k2, c2, a0, a1⟩ := throw_n ((pl.length + 1 : Nat) : Int) kk (by omega) (Int.lt_of_le_of_lt (b := 1000) (by omega) (by decide))
      obtain ⟨a, rfl⟩ : ∃ k : Nat, a = (k : Int) := ⟨a.toNat, by omega⟩
      have sm : m2 dAdd (m2 dAdd (mSl dSl (mV 3) pNo (pSo (mV 5))) (mLst (aCons (mC (.int 0)) aNil))) (mSl dSl (mV 3) (pSo (mV 5)) pNo) [some (.ref b), some (nD m), some (plD gl), some (.lst (pl.map nD)), some (.int (k : Int)), some (nD a), none] S2 = .ok (.lst ((pl.take a ++ [0] ++ pl.drop a).map nD)) S2 := by
        have s1 := sl_lst (f := mV 3) (fl := pNo) (fh := pSo (mV 5)) (en := [some (.ref b), some (nD m), some (plD gl), some (.lst (pl.map nD)), some (.int (k : Int)), some (nD a), none]) (S := S2) rfl rfl (so_ok rfl)
        have s2 := sl_lst (f := mV 3) (fl := pSo (mV 5)) (fh := pNo) (en := [some (.ref b), some (nD m), some (plD gl), some (.lst (pl.map nD)), some (.int (k : Int)), some (nD a), none]) (S := S2) rfl (so_ok rfl) rfl
        rw [cut_to, ← List.map_take] at s1
        rw [cut_from, ← List.map_drop] at s2
        have lt : (pl.take a).length ≤ pl.length := List.length_take_le' ..
        have ld : (pl.drop a).length ≤ pl.length := by rw [List.length_drop]; omega
        have s0 : mLst (aCons (mC (.int 0)) aNil) [some (.ref b), some (nD m), some (plD gl), some (.lst (pl.map nD)), some (.int (k : Int)), some (nD a), none] S2 = .ok (.lst [.int 0]) S2 := lst_ok (one_ok rfl) z1
        have := m2_ok (m2_ok s1 s0 (add_lst (l := (pl.take a).map nD) (k := [.int 0]) (size4 (by simp; omega)))) s2 (add_lst (size4 (by simp; omega)))
        rw [List.map_append, List.map_append]
        exact this
      refine ⟨_, _, S2, rfl, seq_nx (set_ok (call_ok (cons_ok rfl (one_ok (m2_ok (b_ok (one_ok rfl) bl') rfl (add1 _ _)))) e)) (set_ok sm), pl.take a ++ [0] ++ pl.drop a, some (.int (k : Int)), some (nD a), rfl, ?_, Pp.ins a, k2, cc.trans c2⟩
      rw [List.length_append, List.length_append, List.length_take, List.length_drop]
      simp
      omega)
    ⟨bl, none, none, rfl, by omega, Pb, k3, (c1.trans c2).trans c3⟩
  refine ⟨cl.take 3, S4, ?_, k4, c4, Pc.sub (List.take_sublist _ _), by rw [List.length_take]; omega⟩
  have s := sl_lst (f := mV 3) (fl := pNo) (fh := pSo (mC (.int ((3 : Nat) : Int)))) (en := [some (.ref b), some (nD m), some (plD gl), some (.lst (cl.map nD)), o4, o5, none]) (S := S4) rfl rfl (so_ok rfl)
  rw [cut_to, ← List.map_take] at s
  refine body_rt rfl (seq_nx (set_ok (cmp_of (rg2_up (m := m) (cons_ok rfl (one_ok (m2_ok rfl rfl (add1 m _)))) (by omega)) e1)) (seq_nx st2 (seq_nx (for_of (rgc_ok (n := N) (one_ok (call_ok (cons_ok rfl (one_ok rfl)) e3)) (by omega)) ef) (ret_ok (b_ok (one_ok s) rfl)))))
end K25

namespace K25
open PySem PySem.Spec PyProof.Rows L2 Mi Dbm
/-! ### the parts of a round -/
theorem sub_len {α : Type} [DecidableEq α] : ∀ (l k : List α), l.Nodup → (∀ x ∈ l, x ∈ k) → l.length ≤ k.length
  | [], _, _, _ => Nat.zero_le _
  | a :: l, k, hn, h => by
    have ha := h a (by simp)
    have hn' := List.nodup_cons.mp hn
    have := sub_len l (k.erase a) hn'.2 fun x hx => (List.mem_erase_of_ne (fun e => hn'.1 (by rw [← e]; exact hx))).mpr (h x (by simp [hx]))
    rw [List.length_erase_of_mem ha] at this
    have := List.length_pos_of_mem ha
    rw [List.length_cons]
    omega
def box : Nat → List (List Int)
  | 0 => [[]]
  | m + 1 => (box m).flatMap fun l => [0, 1, 2, 3, 4].map fun x => x :: l
theorem box_mem : ∀ (m : Nat) (l : List Int), l.length = m → (∀ x ∈ l, 0 ≤ x ∧ x ≤ 4) → l ∈ box m
  | 0, l, h, _ => by rw [List.eq_nil_of_length_eq_zero h]; simp [box]
  | m + 1, [], h, _ => by simp at h
  | m + 1, x :: l, h, hb => by
    have := box_mem m l (by simpa using h) fun y hy => hb y (by simp [hy])
    have hx := hb x (by simp)
    unfold box
    refine List.mem_flatMap.mpr ⟨l, this, List.mem_map.mpr ⟨x, ?_, rfl⟩⟩
    have : x = 0 ∨ x = 1 ∨ x = 2 ∨ x = 3 ∨ x = 4 := by omega
    rcases this with rfl | rfl | rfl | rfl | rfl <;> simp
theorem box_len (m : Nat) (h : m ≤ 3) : (box m).length ≤ 125 := by
  have : m = 0 ∨ m = 1 ∨ m = 2 ∨ m = 3 := by omega
  rcases this with rfl | rfl | rfl | rfl <;> decide +kernel
theorem Hl.size {m : Nat} {g : Nat → Nat → Int} {P : List (List Int)} (H : Hl m g P) (hm : m ≤ 3) (nd : P.Nodup) : P.length ≤ 125 :=
  Nat.le_trans (sub_len P (box m) nd fun l hl => box_mem m l (H.len hl) fun x hx => by
    obtain ⟨k, hk, rfl⟩ := List.getElem_of_mem hx
    have lk : k < m := by rw [← H.len hl]; exact hk
    have := H.bd l hl k lk
    rw [fu_succ, List.getD_eq_getElem?_getD, List.getElem?_eq_getElem hk] at this
    exact this) (box_len m hm)
/-- a round's state -/
structure Rnd (m : Nat) (g : Nat → Nat → Int) (P : List (List Int)) (tp : List Int) : Prop where
  m3 : m ≤ 3
  hl : Hl m g P
  ltp : tp.length = m
  tps : ∀ x ∈ tp, 0 ≤ x ∧ x ≤ 3
  le : ∀ l ∈ P, ∀ k, k < m → fu l (k + 1) ≤ tp.getD k 0
  nd : P.Nodup
theorem Rnd.gt {m : Nat} {g : Nat → Nat → Int} {P : List (List Int)} {tp : List Int} (R : Rnd m g P tp) (k : Nat) : 0 ≤ tp.getD k 0 ∧ tp.getD k 0 ≤ 3 := by
  rw [List.getD_eq_getElem?_getD]
  by_cases c : k < tp.length
  · rw [List.getElem?_eq_getElem c]
    exact R.tps _ (List.getElem_mem c)
  · rw [List.getElem?_eq_none (by omega)]
    exact ⟨by decide, by decide⟩
/-- what the deed gives -/
structure Dd (m : Nat) (tp : List Int) (gl : List Nat) (Q : List (List Int)) (g : Nat → Nat → Int) : Prop where
  hl : Hl m g Q
  le : ∀ l ∈ Q, ∀ k, k < m → k + 1 ∉ gl → fu l (k + 1) ≤ tp.getD k 0
  sz : Q.length ≤ 125
theorem bLen_pD {l : List Int} (S : So) : bLen [pD l] S = some (.int (l.length : Int), S) := by
  show some (D.int (((l.map D.int).length : Nat) : Int), S) = _
  rw [List.length_map]
theorem par3_ok {i j k : Nat} {f : E (List D)} {en : En} {S S1 : So} {a b c : D} (h : f en S = .ok [a, b, c] S1) : sPar3 i j k f en S = .ok (.nx (((en.set i (some a)).set j (some b)).set k (some c))) S1 := by
  unfold sPar3
  rw [h, R.bind_ok]
noncomputable def wayT : T := sIf (tB' (m2 dEq (mV 11) (mLst aNil))) (sPar3 10 11 12 (aCons (mTup aNil) (aCons (mV 3) (aCons (mV 2) aNil)))) (sSeq (sSet 11 (mComp (iSeq (mV 11)) (gN 18) tT (mB bTup (aCons (mComp (iSeq (mV 18)) (gN 19) tT (m2 dAdd (mV 19) (mC (.int 1))) [19]) aNil)) [18]))
    (sSet 12 (mOwn "Bounds" m_Bounds_rshift (mV 12) (mC (.int 1)))))
noncomputable def wayS : T := sIf (tB' (m2 dEq (mV 9) (mC (.int 0)))) (sSeq (sSet 10 (mB bTup (aCons (mComp (iRg2 (aCons (mC (.int 1)) (aCons (m2 dAdd (mB bLen (aCons (mV 4) aNil)) (mC (.int 1))) aNil))) (gN 17) (tB' (m2 dEq (mCall m_law_throw (aCons (mV 6) (aCons (mC (.int 2)) aNil))) (mC (.int 0)))) (mV 17) [17]) aNil)))
    (sSeq (sSet 11 (mCall m_law_due_now (aCons (mV 3) (aCons (mV 4) (aCons (mV 10) aNil)))))
    (sSeq (sSet 12 (mCall m_law_cut_to (aCons (mV 2) (aCons (mV 4) (aCons (mV 10) aNil)))))
    (sSeq (sIf (tNot' (tTru (mCall m_law_is_of (aCons (mV 12) (aCons (mV 11) aNil))))) (sRet (mC (.bl false))) sNil)
    (sIf (tB' (m2 dEq (mV 11) (mLst aNil))) (sPar3 10 11 12 (aCons (mTup aNil) (aCons (mV 3) (aCons (mV 2) aNil)))) (sSeq (sSet 11 (mComp (iSeq (mV 11)) (gN 18) tT (mB bTup (aCons (mComp (iSeq (mV 18)) (gN 19) tT (m2 dAdd (mV 19) (mC (.int 1))) [19]) aNil)) [18]))
    (sSet 12 (mOwn "Bounds" m_Bounds_rshift (mV 12) (mC (.int 1)))))))))) sNil
theorem way_ok {m : Nat} {g : Nat → Nat → Int} {P : List (List Int)} {tp : List Int} (Rn : Rnd m g P tp) {S : So} {b : Nat} (hb : Bag S b) (w : Int) {o0 o1 o5 o7 o8 : Option D} :
    ∃ gl Q g' S', wayS
      [o0, o1, some (BD (m + 1) g), some (.lst (P.map pD)), some (pD tp), o5, some (.ref b), o7, o8, some (.int w), some (plD []), some (.lst (P.map pD)), some (BD (m + 1) g), none, none, none, none, none, none, none] S
      = .ok (.nx [o0, o1, some (BD (m + 1) g), some (.lst (P.map pD)), some (pD tp), o5, some (.ref b), o7, o8, some (.int w), some (plD gl), some (.lst (Q.map pD)), some (BD (m + 1) g'), none, none, none, none, none, none, none]) S' ∧ Bag S' b ∧ Ch b S S' ∧ Dd m tp gl Q g' := by
  have z0 : (0 : Nat) ≤ sizeLine := Nat.zero_le _
  have m3 := Rn.m3
  have lP := Rn.hl.size m3 Rn.nd
  have D0 : Dd m tp [] P g := ⟨Rn.hl, fun l hl k hk _ => Rn.le l hl k hk, lP⟩
  have ts : tB' (m2 dEq (mV 9) (mC (.int 0))) [o0, o1, some (BD (m + 1) g), some (.lst (P.map pD)), some (pD tp), o5, some (.ref b), o7, o8, some (.int w), some (plD []), some (.lst (P.map pD)), some (BD (m + 1) g), none, none, none, none, none, none, none] S = .ok (w == 0) S := tst_ok (m2_ok rfl rfl (eq_int _ _))
  cases c : (w == 0) with
  | false =>
    rw [c] at ts
    exact ⟨[], P, g, S, if_f ts rfl, hb, Ch.refl, D0⟩
  | true =>
    rw [c] at ts
    obtain ⟨gl, S1, e1, ⟨k1, c1⟩, _, _⟩ := comp_eff (hold := none) (S0 := S) (I := fun S' => Bag S' b ∧ Ch b S S') (p := fun _ => True) (ι := nD) (g := gN 17) (t := (tB' (m2 dEq (mCall m_law_throw (aCons (mV 6) (aCons (mC (.int 2)) aNil))) (mC (.int 0))))) (f := mV 17) (enw := [o0, o1, some (BD (m + 1) g), some (.lst (P.map pD)), some (pD tp), o5, some (.ref b), o7, o8, some (.int w), some (plD []), some (.lst (P.map pD)), some (BD (m + 1) g), none, none, none, none, none, none, none]) (fun _ _ => rfl) ((List.range m).map fun k => k + 1) [] S
      (fun a _ S' hS => by
        obtain ⟨r, S2, e, k, cc, r0, r2⟩ := throw_n 2 hS.1 (by decide) (by decide)
        refine ⟨_, S2, rfl, ⟨k, hS.2.trans cc⟩, ?_⟩
        have ts : tB' (m2 dEq (mCall m_law_throw (aCons (mV 6) (aCons (mC (.int 2)) aNil))) (mC (.int 0))) [o0, o1, some (BD (m + 1) g), some (.lst (P.map pD)), some (pD tp), o5, some (.ref b), o7, o8, some (.int w), some (plD []), some (.lst (P.map pD)), some (BD (m + 1) g), none, none, none, none, some (nD a), none, none] S' = .ok (r == 0) S2 := tst_ok (m2_ok (call_ok (cons_ok rfl (one_ok rfl)) e) rfl (eq_int _ _))
        cases d : (r == 0) with
        | true =>
          rw [d] at ts
          exact .inr ⟨ts, rfl, trivial⟩
        | false =>
          rw [d] at ts
          exact .inl ts) ⟨hb, Ch.refl⟩ (by simpa using size4 (by omega))
    rw [List.nil_append] at e1
    have s10 : mB bTup (aCons (mComp (iRg2 (aCons (mC (.int 1)) (aCons (m2 dAdd (mB bLen (aCons (mV 4) aNil)) (mC (.int 1))) aNil))) (gN 17) (tB' (m2 dEq (mCall m_law_throw (aCons (mV 6) (aCons (mC (.int 2)) aNil))) (mC (.int 0)))) (mV 17) [17]) aNil) [o0, o1, some (BD (m + 1) g), some (.lst (P.map pD)), some (pD tp), o5, some (.ref b), o7, o8, some (.int w), some (plD []), some (.lst (P.map pD)), some (BD (m + 1) g), none, none, none, none, none, none, none] S = .ok (plD gl) S1 :=
      b_ok (one_ok (cmp_of (rg2_up (m := m) (cons_ok rfl (one_ok (m2_ok (b_ok (one_ok rfl) (bLen_pD S)) rfl (by rw [Rn.ltp]; exact add1 m _)))) (by omega)) e1)) rfl
    obtain ⟨S2, e2, l2, q2⟩ := law_due_ok (m := m) (P := P) (tp := tp) (gl := gl) (fun l hl => Rn.hl.len hl) Rn.ltp (by omega) (by omega) S1
    obtain ⟨x, S3, e3, l3, q3, hx⟩ := law_cut_ok (gl := gl) Rn.hl Rn.ltp (by omega) Rn.tps Rn.le S2
    have io : IsOf m x (P.filter (dueB m tp gl)) := by
      rcases hx with h | ⟨g', rfl, H⟩
      · exact .inl h
      · exact H.isof
    have lf : (P.filter (dueB m tp gl)).length ≤ P.length := List.length_filter_le ..
    obtain ⟨S4, e4, l4, q4⟩ := isof_ok (pts_lst (P.filter (dueB m tp gl)) S3) io (fun l hl => Rn.hl.len (List.mem_filter.mp hl).1) (by omega) (by omega)
    have k4 : Bag S4 b := ((k1.keep q2).keep q3).keep q4
    have c4 : Ch b S S4 := ((c1.trans (Ch.keep l2 q2)).trans (Ch.keep l3 q3)).trans (Ch.keep l4 q4)
    have qn := eq_nilP (pts_lst (P.filter (dueB m tp gl)) S4)
    have front : ∀ {r : R Fl}, wayT [o0, o1, some (BD (m + 1) g), some (.lst (P.map pD)), some (pD tp), o5, some (.ref b), o7, o8, some (.int w), some (plD gl), some (.lst ((P.filter (dueB m tp gl)).map pD)), some x, none, none, none, none, none, none, none] S4 = r → wayS [o0, o1, some (BD (m + 1) g), some (.lst (P.map pD)), some (pD tp), o5, some (.ref b), o7, o8, some (.int w), some (plD []), some (.lst (P.map pD)), some (BD (m + 1) g), none, none, none, none, none, none, none] S = r := fun h => if_t ts (seq_nx (set_ok s10) (seq_nx (set_ok (call_ok (cons_ok rfl (cons_ok rfl (one_ok rfl))) e2)) (seq_nx (set_ok (call_ok (cons_ok rfl (cons_ok rfl (one_ok rfl))) e3)) (seq_nx (if_f (tnot_t (tru_bl (call_ok (cons_ok rfl (one_ok rfl)) e4))) rfl) h))))
    rcases hx with ⟨en, rfl⟩ | ⟨g', rfl, H⟩
    · rw [decide_eq_true en] at qn
      exact ⟨[], P, g, S4, front (if_t (tst_ok (m2_ok rfl (lst_ok rfl z0) qn)) (par3_ok (cons_ok (tup_ok rfl z0) (cons_ok rfl (one_ok rfl))))), k4, c4, D0⟩
    · rw [decide_eq_false H.ne] at qn
      have later : mComp (iSeq (mV 11)) (gN 18) tT (mB bTup (aCons (mComp (iSeq (mV 18)) (gN 19) tT (m2 dAdd (mV 19) (mC (.int 1))) [19]) aNil)) [18] [o0, o1, some (BD (m + 1) g), some (.lst (P.map pD)), some (pD tp), o5, some (.ref b), o7, o8, some (.int w), some (plD gl), some (.lst ((P.filter (dueB m tp gl)).map pD)), some (BD (m + 1) g'), none, none, none, none, none, none, none] S4 = .ok (.lst (((P.filter (dueB m tp gl)).map fun l => l.map fun x => x + 1).map pD)) S4 := by
        have e := comp_mapα (hold := none) (S0 := S4) (S := S4) (ι := pD) (φ := fun l => pD (l.map fun x => x + 1)) (g := gN 18) (f := mB bTup (aCons (mComp (iSeq (mV 18)) (gN 19) tT (m2 dAdd (mV 19) (mC (.int 1))) [19]) aNil)) (enw := [o0, o1, some (BD (m + 1) g), some (.lst (P.map pD)), some (pD tp), o5, some (.ref b), o7, o8, some (.int w), some (plD gl), some (.lst ((P.filter (dueB m tp gl)).map pD)), some (BD (m + 1) g'), none, none, none, none, none, none, none]) rfl (P.filter (dueB m tp gl)) []
          (fun l hl => ⟨_, rfl, by
            have ll := H.len hl
            have e' := comp_mapα (hold := none) (S0 := S4) (S := S4) (ι := D.int) (φ := fun x => D.int (x + 1)) (g := gN 19) (f := m2 dAdd (mV 19) (mC (.int 1))) (enw := [o0, o1, some (BD (m + 1) g), some (.lst (P.map pD)), some (pD tp), o5, some (.ref b), o7, o8, some (.int w), some (plD gl), some (.lst ((P.filter (dueB m tp gl)).map pD)), some (BD (m + 1) g'), none, none, none, none, none, some (pD l), none]) rfl l []
              (fun x _ => ⟨_, rfl, m2_ok rfl rfl rfl⟩) (by simpa using size4 (by omega))
            rw [List.nil_append] at e'
            have := b_ok (o := bTup) (one_ok (cmp_of (fi := iSeq (mV 18)) (vs := [19]) (en := [o0, o1, some (BD (m + 1) g), some (.lst (P.map pD)), some (pD tp), o5, some (.ref b), o7, o8, some (.int w), some (plD gl), some (.lst ((P.filter (dueB m tp gl)).map pD)), some (BD (m + 1) g'), none, none, none, none, none, some (pD l), none]) (src := ⟨none, l.map D.int⟩) (seq_src rfl rfl) e')) (d := pD (l.map fun x => x + 1)) (S2 := S4) (by
              unfold pD
              rw [List.map_map]
              rfl)
            exact this⟩) (by simpa using size4 (by omega))
        rw [List.nil_append] at e
        rw [List.map_map]
        exact cmp_of (src := ⟨none, (P.filter (dueB m tp gl)).map pD⟩) (seq_src rfl rfl) e
      obtain ⟨g2, e5, H2⟩ := shift_hl H (by omega) (fun l hl k hk => Int.le_trans (Rn.le l (List.mem_filter.mp hl).1 k hk) (Rn.gt k).2) S4
      refine ⟨gl, _, g2, S4 ++ [none], front (if_f (tst_ok (m2_ok rfl (lst_ok rfl z0) qn)) (seq_nx (set_ok later) (set_ok (own_ok rfl rfl ⟨rfl, .inl rfl⟩ e5)))), k4.app, c4.trans Ch.app, H2, fun l hl k hk ng => ?_, by rw [List.length_map]; omega⟩
      obtain ⟨q, hq, rfl⟩ := List.mem_map.mp hl
      obtain ⟨hq1, hq2⟩ := List.mem_filter.mp hq
      have a := Rn.le q hq1 k hk
      have b := List.all_eq_true.mp hq2 k (List.mem_range.mpr hk)
      rw [decide_eq_false ng, beq_false, Bool.not_eq_true', beq_eq_false_iff_ne] at b
      have e : fu (q.map fun x => x + 1) (k + 1) = fu q (k + 1) + dl 1 (k + 1) := fu_add (by rw [Rn.hl.len hq1]; omega)
      have e3 : dl (1 : Int) (k + 1) = 1 := rfl
      have e4 := fu_succ q k
      rw [e, e3]
      omega
end K25

namespace K25
open PySem PySem.Spec PyProof.Rows L2 Mi Dbm
/-! ### new tops, the least point -/
theorem nats_row (pl : List Nat) : pl.map nD = (List.range pl.length).map fun k => nD (pl.getD k 0) := by
  refine List.ext_getElem (by simp) fun k h1 h2 => ?_
  simp only [List.length_map] at h1
  simp [h1]
theorem getD_rng {n k : Nat} {v : Nat → Int} (h : k < n) : ((List.range n).map v).getD k 0 = v k := by
  rw [List.getD_eq_getElem?_getD, List.getElem?_map, List.getElem?_range h]
  rfl
/-- the tops of the clocks at the places -/
structure Tp (pl : List Nat) (tp tq : List Int) : Prop where
  len : tq.length = pl.length
  b : ∀ x ∈ tq, 0 ≤ x ∧ x ≤ 3
  old : ∀ k, k < pl.length → 0 < pl.getD k 0 → tq.getD k 0 = tp.getD (pl.getD k 0 - 1) 0
theorem tops_ok {m b : Nat} {tp : List Int} {pl : List Nat} {S : So} (hb : Bag S b) (ltp : tp.length = m) (ht : ∀ x ∈ tp, 0 ≤ x ∧ x ≤ 3) (hp : ∀ p ∈ pl, p < m + 1) (h12 : pl.length ≤ 12) {o0 o1 o2 o3 o5 o8 o9 o10 o11 o12 : Option D} :
    ∃ tq S', mB bTup (aCons (mComp (iSeq (mV 7)) (gN 13) tT (mIf (tB' (m2 dGt (mV 13) (mC (.int 0)))) (m2 dIx (mV 4) (m2 dSub (mV 13) (mC (.int 1)))) (mCall m_law_throw (aCons (mV 6) (aCons (mC (.int 4)) aNil)))) [13]) aNil)
      [o0, o1, o2, o3, some (pD tp), o5, some (.ref b), some (plD pl), o8, o9, o10, o11, o12, none, none, none, none, none, none, none] S = .ok (pD tq) S' ∧ Bag S' b ∧ Ch b S S' ∧ Tp pl tp tq := by
  obtain ⟨φ, S', e, ⟨k', c'⟩, hφ⟩ := comp_rel0 (hold := none) (S0 := S) (S := S) (I := fun S' => Bag S' b ∧ Ch b S S') (ι := fun i : Nat => nD (pl.getD i 0)) (P := fun i y => ∃ v, y = .int v ∧ ((0 ≤ v ∧ v ≤ 3) ∧ (0 < pl.getD i 0 → v = tp.getD (pl.getD i 0 - 1) 0))) (g := gN 13) (f := mIf (tB' (m2 dGt (mV 13) (mC (.int 0)))) (m2 dIx (mV 4) (m2 dSub (mV 13) (mC (.int 1)))) (mCall m_law_throw (aCons (mV 6) (aCons (mC (.int 4)) aNil)))) (enw := [o0, o1, o2, o3, some (pD tp), o5, some (.ref b), some (plD pl), o8, o9, o10, o11, o12, none, none, none, none, none, none, none]) (n := pl.length) (fun _ _ => rfl)
    (fun i hi S' hS => by
      obtain ⟨p, hp0⟩ : ∃ p, p = pl.getD i 0 := ⟨_, rfl⟩
      have pm : p < m + 1 := by
        rw [hp0, List.getD_eq_getElem?_getD, List.getElem?_eq_getElem hi]
        exact hp _ (List.getElem_mem hi)
      rw [← hp0]
      have ts : tB' (m2 dGt (mV 13) (mC (.int 0))) [o0, o1, o2, o3, some (pD tp), o5, some (.ref b), some (plD pl), o8, o9, o10, o11, o12, some (nD p), none, none, none, none, none, none] S' = .ok (decide ((p : Int) > 0)) S' := tst_ok (m2_ok rfl rfl rfl)
      by_cases c : (p : Int) > 0
      · rw [decide_eq_true c] at ts
        obtain ⟨q, rfl⟩ : ∃ q, p = q + 1 := ⟨p - 1, by omega⟩
        have ix : dIx (pD tp) (.int (q : Int)) S' = some (.int (tp.getD q 0), S') := by
          have := row_tup (n := tp.length) (f := fun k => tp.getD k 0) (S := S') (j := q) (by omega)
          unfold rowI at this
          rw [← tops_row] at this
          exact this
        refine ⟨_, _, S', rfl, ife_t ts (m2_ok rfl (m2_ok rfl rfl (sub1 q S')) ix), ⟨_, rfl, ?_, fun _ => rfl⟩, hS⟩
        rw [List.getD_eq_getElem?_getD, List.getElem?_eq_getElem (by omega)]
        exact ht _ (List.getElem_mem (by omega))
      · rw [decide_eq_false c] at ts
        obtain ⟨r, S2, e, k, cc, r0, r2⟩ := throw_n 4 hS.1 (by decide) (by decide)
        exact ⟨_, _, S2, rfl, ife_f ts (call_ok (cons_ok rfl (one_ok rfl)) e), ⟨_, rfl, ⟨r0, by omega⟩, fun h => by omega⟩, k, hS.2.trans cc⟩) ⟨hb, Ch.refl⟩ (by omega)
  obtain ⟨v, ev, hv⟩ := ints_fun (n := pl.length) (φ := φ) (P := fun i v => (0 ≤ v ∧ v ≤ 3) ∧ (0 < pl.getD i 0 → v = tp.getD (pl.getD i 0 - 1) 0)) hφ
  rw [ev] at e
  refine ⟨(List.range pl.length).map v, S', ?_, k', c', by simp, fun x hx => ?_, fun k hk h0 => ?_⟩
  · rw [← mul1]
    refine b_ok (one_ok (cmp_of (src := ⟨none, (List.range pl.length).map fun i : Nat => nD (pl.getD i 0)⟩) (seq_src rfl ?_) e)) rfl
    rw [← nats_row]
    rfl
  · obtain ⟨i, hi, rfl⟩ := List.mem_map.mp hx
    exact (hv i (List.mem_range.mp hi)).1
  · rw [getD_rng hk]
    exact (hv k hk).2 h0
/-- the least readings -/
def lst' (n : Nat) (g : Nat → Nat → Int) : List Int := (List.range n).map fun k => -(g 0 (k + 1))
theorem minL_ok {P : List (List Int)} {g : Nat → Nat → Int} {m k : Nat} (H : Hl m g P) (hk : k < m) (S : So) : bMinL [.lst (P.map fun l => .int (l.getD k 0))] S = some (.int (-(g 0 (k + 1))), S) := by
  unfold bMinL
  dsimp only
  rw [intsIn_map (fun l : List Int => l.getD k 0)]
  have sp := gmax_spec H.ne 0 (k + 1)
  rw [← H.gm 0 (k + 1) (by omega) (by omega)] at sp
  cases e : P.map fun l => l.getD k 0 with
  | nil => exact (H.ne (List.map_eq_nil_iff.mp e)).elim
  | cons x r =>
    have a := minI_mem r x
    rw [← e] at a
    obtain ⟨l, hl, el⟩ := List.mem_map.mp a
    have u := sp.1 l hl
    obtain ⟨q, hq, eq⟩ := sp.2
    have w := minI_le r x (q.getD k 0) (by rw [← e]; exact List.mem_map.mpr ⟨q, hq, rfl⟩)
    rw [fu_zero, fu_succ] at u eq
    have : minI x r = -(g 0 (k + 1)) := by omega
    show some (D.int (minI x r), S) = _
    rw [this]
theorem least_law {P : List (List Int)} {g : Nat → Nat → Int} {m : Nat} (H : Hl m g P) (hm : m ≤ 100) (hz : P.length ≤ 1000) {tp : List Int} (ltp : tp.length = m) (S : So) {o0 o1 o2 o5 o6 o7 o8 o9 o10 o11 o12 : Option D} :
    mB bTup (aCons (mComp (iRg1 (aCons (mB bLen (aCons (mV 4) aNil)) aNil)) (gN 14) tT (mB bMinL (aCons (mComp (iSeq (mV 3)) (gN 18) tT (m2 dIx (mV 18) (mV 14)) [18]) aNil)) [14]) aNil)
      [o0, o1, o2, some (.lst (P.map pD)), some (pD tp), o5, o6, o7, o8, o9, o10, o11, o12, none, none, none, none, none, none, none] S = .ok (pD (lst' m g)) S := by
  unfold lst'
  rw [← mul1]
  have len : bLen [pD tp] S = some (.int (m : Int), S) := by rw [bLen_pD, ltp]
  refine b_ok (one_ok (cmp_rng (n := m) (φ := fun k => .int (-(g 0 (k + 1)))) (one_ok (b_ok (one_ok rfl) len)) (by omega) fun k hk => ⟨_, rfl, ?_⟩)) rfl
  have e := comp_mapα (hold := none) (S0 := S) (S := S) (ι := pD) (φ := fun l => D.int (l.getD k 0)) (g := gN 18) (f := m2 dIx (mV 18) (mV 14)) (enw := [o0, o1, o2, some (.lst (P.map pD)), some (pD tp), o5, o6, o7, o8, o9, o10, o11, o12, none, some (.int (k : Int)), none, none, none, none, none]) rfl P []
    (fun l hl => ⟨_, rfl, by
      have := row_tup (n := l.length) (f := fun k => l.getD k 0) (S := S) (j := k) (by rw [H.len hl]; exact hk)
      unfold rowI at this
      rw [← tops_row] at this
      exact m2_ok rfl rfl this⟩) (by simpa using size4 (by omega))
  rw [List.nil_append] at e
  exact b_ok (one_ok (cmp_of (src := ⟨none, P.map pD⟩) (seq_src rfl rfl) e)) (minL_ok H hk S)
theorem least_own {g : Nat → Nat → Int} {m : Nat} (hm : m ≤ 100) (S : So) : m_Bounds_least [BD (m + 1) g] S = .ok (pD (lst' m g)) S := by
  unfold lst'
  rw [← mul1]
  have ro : dIx (MT (m + 1) g) (.int 0) S = some (.tup (rowI (m + 1) (g 0)), S) := by
    have := ix_tup (l := (List.range (m + 1)).map fun i => D.tup (rowI (m + 1) (g i))) (i := ((0 : Nat) : Int)) (d := .tup (rowI (m + 1) (g 0))) (S := S) (atI_rng _ (by omega))
    exact this
  have li : m_least_in [MT (m + 1) g] S = .ok (.tup (rowI m fun k => -(g 0 (k + 1)))) S := by
    have sl := sl_tup (f := m2 dIx (mV 0) (mC (.int 0))) (fl := pSo (mC (.int 1))) (fh := pNo) (en := [some (MT (m + 1) g), none]) (S := S) (m2_ok rfl rfl ro) (so_ok rfl) rfl
    have tm := tail_map (α := Unit) m fun j => D.int (g 0 j)
    rw [show Mi.cutD (rowI (m + 1) (g 0)) (some 1) none = (List.range m).map fun i => D.int (g 0 (i + 1)) from tm] at sl
    exact body_rt rfl (ret_ok (b_ok (one_ok (cmp_src (ι := fun i => D.int (g 0 (i + 1))) (φ := fun k => .int (-(g 0 (k + 1)))) (seq_src sl rfl) (by omega) fun k hk => ⟨_, rfl, m1_ok rfl rfl⟩)) rfl))
  exact body_rt rfl (ret_ok (call_ok (one_ok (fld_ok rfl rfl)) li))
theorem same_pD {l : List Int} (hl : l.length ≤ 1000) (S : So) : m_law_same 4 [pD l, pD l] S = .ok (.bl true) S := by
  refine same_tup (by rw [List.length_map]; omega) fun d hd => ?_
  obtain ⟨v, _, rfl⟩ := List.mem_map.mp hd
  exact same_int _ _ _
theorem least_in' {P : List (List Int)} {g : Nat → Nat → Int} {m : Nat} (H : Hl m g P) (hm : m ≤ 100) (S : So) : dNInO "Bounds" m_Bounds_contains (pD (lst' m g)) (BD (m + 1) g) S = some (.bl false, S) := by
  have fl : ∀ k, k < m + 1 → fu (lst' m g) k = -(g 0 k) := fun k hk => by
    cases k with
    | zero => rw [fu_zero, H.dg (by omega)]; rfl
    | succ k => rw [fu_succ]; exact getD_rng (by omega)
  have s : heldB (m + 1) g (lst' m g) = true := held_iff.mpr fun i j hi hj => by
    rw [fl i hi, fl j hj]
    have := H.tri (i := 0) (j := j) (k := i) (by omega) hj hi
    omega
  have h := holds_ok (m := m) (f := g) (l := lst' m g) (S := S) (by unfold lst'; simp) hm fun x hx => by
    obtain ⟨k, hk, rfl⟩ := List.mem_map.mp hx
    have := List.mem_range.mp hk
    have := H.gb (i := 0) (j := k + 1) (by omega) (by omega)
    exact in3 (by omega) (by omega)
  rw [s] at h
  have e : m_Bounds_contains [BD (m + 1) g, pD (lst' m g)] S = .ok (.bl true) S := body_rt rfl (ret_ok (call_ok (cons_ok (fld_ok rfl rfl) (one_ok rfl)) h))
  unfold dNInO
  rw [if_pos (show isOwn (BD (m + 1) g) S = some ("Bounds" : Str) from rfl), e]
  rfl
end K25

namespace K25
open PySem PySem.Spec PyProof.Rows L2 Mi Dbm
/-! ### a round -/
theorem new_le {m : Nat} {tp tq : List Int} {gl pl : List Nat} {Q P : List (List Int)} {g : Nat → Nat → Int} (D0 : Dd m tp gl Q g) (K : Pk m gl pl) (T : Tp pl tp tq) (h : ∀ x, x ∈ P ↔ ∃ q ∈ Q, x = mvl pl q) : ∀ l ∈ P, ∀ k, k < pl.length → fu l (k + 1) ≤ tq.getD k 0 := fun l hl k hk => by
  obtain ⟨q, hq, rfl⟩ := (h l).mp hl
  rw [fu_mvl (by omega)]
  have eo : od pl (k + 1) = pl.getD k 0 := rfl
  have pm : pl.getD k 0 ∈ pl := by
    rw [List.getD_eq_getElem?_getD, List.getElem?_eq_getElem hk]
    exact List.getElem_mem hk
  rw [eo]
  have old := T.old k hk
  generalize pl.getD k 0 = p at pm old
  by_cases c : 0 < p
  · rw [old c]
    obtain ⟨j, rfl⟩ : ∃ j, p = j + 1 := ⟨p - 1, by omega⟩
    exact D0.le q hq j (by have := K.le _ pm; omega) (K.off _ pm c)
  · rw [show p = 0 by omega, fu_zero, List.getD_eq_getElem?_getD, List.getElem?_eq_getElem (by rw [T.len]; exact hk)]
    exact (T.b _ (List.getElem_mem _)).1
theorem up_zero (q : List Int) : up q 0 = q := by
  conv => rhs; rw [← List.map_id q]
  exact List.map_congr_left fun r _ => Int.add_zero r
noncomputable def rndB : T := (sSeq (sSet 6 (mCall m_law_start (aCons (mV 0) (aCons (mV 1) aNil))))
    (sSeq (sAsg (gT 4 (gsCons (gN 9) (gsCons (gN 10) (gsCons (gN 11) (gsCons (gN 12) gsNil))))) (mTup (aCons (mCall m_law_throw (aCons (mV 6) (aCons (mC (.int 3)) aNil))) (aCons (mTup aNil) (aCons (mV 3) (aCons (mV 2) aNil))))))
    (sSeq wayS
    (sSeq (sSet 7 (mCall m_law_places (aCons (mV 6) (aCons (mB bLen (aCons (mV 4) aNil)) (aCons (mV 10) aNil)))))
    (sSeq (sSet 4 (mB bTup (aCons (mComp (iSeq (mV 7)) (gN 13) tT (mIf (tB' (m2 dGt (mV 13) (mC (.int 0)))) (m2 dIx (mV 4) (m2 dSub (mV 13) (mC (.int 1)))) (mCall m_law_throw (aCons (mV 6) (aCons (mC (.int 4)) aNil)))) [13]) aNil)))
    (sSeq (sAsg (gT 2 (gsCons (gN 2) (gsCons (gN 3) gsNil))) (mTup (aCons (mMeth "Bounds" "moved" m_Bounds_moved (mV 12) (aCons (mV 7) aNil)) (aCons (mCall m_law_moved (aCons (mV 11) (aCons (mV 7) aNil))) aNil))))
    (sSeq (sSet 8 (mB bTup (aCons (mComp (iRg1 (aCons (mB bLen (aCons (mV 4) aNil)) aNil)) (gN 14) tT (mB bMinL (aCons (mComp (iSeq (mV 3)) (gN 18) tT (m2 dIx (mV 18) (mV 14)) [18]) aNil)) [14]) aNil)))
    (sSeq (sIf (tOr' (tNot' (tTru (mCall m_law_is_of (aCons (mV 2) (aCons (mV 3) aNil))))) (tOr' (tNot' (tTru (mCall (m_law_same 4) (aCons (mMeth "Bounds" "least" m_Bounds_least (mV 2) aNil) (aCons (mV 8) aNil))))) (tB' (m2 (dNInO "Bounds" m_Bounds_contains) (mV 8) (mV 2))))) (sRet (mC (.bl false))) sNil)
    (sSeq (sAsg (gT 2 (gsCons (gN 2) (gsCons (gN 3) gsNil))) (mTup (aCons (mMeth "Bounds" "risen" m_Bounds_risen (mV 2) (aCons (mV 4) aNil)) (aCons (mCall m_law_risen (aCons (mV 3) (aCons (mV 4) aNil))) aNil))))
    (sSeq (sIf (tOr' (tNot' (tTru (mCall m_law_is_of (aCons (mV 2) (aCons (mV 3) aNil))))) (tNot' (tTru (mCall m_law_is_of (aCons (mOwn "Bounds" m_Bounds_and (mV 2) (mV 2)) (aCons (mV 3) aNil)))))) (sRet (mC (.bl false))) sNil)
    (sEx (mM "list" mApp (mV 5) (aCons (mTup (aCons (mV 2) (aCons (mV 3) aNil))) aNil)))))))))))))
/-- what was told -/
def Tld (d : D) : Prop := ∃ m x P, d = .tup [x, .lst (P.map pD)] ∧ IsOf m x P ∧ (∀ l ∈ P, l.length = m) ∧ m ≤ 100 ∧ P.length ≤ 100000
structure Inv' (ns : List Int) (k : Nat) (en : En) (S : So) : Prop where
  ok : ∃ (m : Nat) (g : Nat → Nat → Int) (P : List (List Int)) (tp : List Int) (L : List D) (o1 o6 o7 o8 o9 o10 o11 o12 : Option D),
    en = [some (.scr ns), o1, some (BD (m + 1) g), some (.lst (P.map pD)), some (pD tp), some (.ref 1), o6, o7, o8, o9, o10, o11, o12, none, none, none, none, none, none, none] ∧ S[1]? = some (some (.lst L)) ∧ L.length = k ∧ (∀ d ∈ L, Tld d) ∧ Rnd m g P tp
theorem round_ok {ns : List Int} {k i : Nat} {en : En} {S : So} (hk : k < 100) (h : Inv' ns k en S) : ∃ en1 en2 S2, gN 1 (.int (i : Int)) en S = some en1 ∧ rndB en1 S = .ok (.nx en2) S2 ∧ Inv' ns (k + 1) en2 S2 := by
  obtain ⟨m, g, P, tp, L, o1, o6, o7, o8, o9, o10, o11, o12, rfl, at0, lL, hT, Rn⟩ := h
  have z0 : (0 : Nat) ≤ sizeLine := Nat.zero_le _
  have z2 : (2 : Nat) ≤ sizeLine := size4 (by decide)
  have z4 : (4 : Nat) ≤ sizeLine := size4 (by decide)
  have lS : 1 < S.length := (List.getElem?_eq_some_iff.mp at0).1
  have m3 := Rn.m3
  obtain ⟨u, v, e1⟩ := start_ok ns i S
  obtain ⟨b, hb⟩ : ∃ b, b = S.length := ⟨_, rfl⟩
  have k1 : Bag (S ++ [some (.lst [.int u, .int v, .int 0])]) b := ⟨u, v, 0, by rw [hb]; simp⟩
  have a1 : (S ++ [some (Ob.lst [.int u, .int v, .int 0])])[1]? = some (some (.lst L)) := by rw [List.getElem?_append_left lS]; exact at0
  rw [← hb] at e1
  generalize hS1 : S ++ [some (Ob.lst [.int u, .int v, .int 0])] = S1 at k1 a1 e1
  have l1 : 1 < S1.length := (List.getElem?_eq_some_iff.mp a1).1
  have keep1 : ∀ {S' : So}, Ch b S1 S' → S'[1]? = some (some (.lst L)) := fun c => by rw [c.2 1 l1 (by omega)]; exact a1
  obtain ⟨w, S2, e2, k2, c2, _, _⟩ := throw_n 3 k1 (by decide) (by decide)
  obtain ⟨gl, Q, g3, S3, e3, k3, c3, D3⟩ := way_ok Rn k2 w (o0 := some (.scr ns)) (o1 := some (.int (i : Int))) (o5 := some (.ref 1)) (o7 := o7) (o8 := o8)
  obtain ⟨pl, S4, e4, k4, c4, K, lpl⟩ := law_places_ok (m := m) (gl := gl) k3 (by omega)
  obtain ⟨tq, S5, e5, k5, c5, T⟩ := tops_ok (m := m) (tp := tp) k4 Rn.ltp Rn.tps K.le (by omega) (o0 := some (.scr ns)) (o1 := some (.int (i : Int))) (o2 := some (BD (m + 1) g)) (o3 := some (.lst (P.map pD))) (o5 := some (.ref 1)) (o8 := o8) (o9 := some (.int w)) (o10 := some (plD gl)) (o11 := some (.lst (Q.map pD))) (o12 := some (BD (m + 1) g3))
  obtain ⟨ks, S6, e6, l6, q6, MK⟩ := law_moved_ok (m := m) (P := Q) (pl := pl) (fun l hl => D3.hl.len hl) K.le (by omega) (by omega) (by have := D3.sz; omega) (S5 ++ [none])
  have hP2 : ∀ x, x ∈ srtT ks ↔ ∃ q ∈ Q, x = mvl pl q := fun x => by rw [(srtT_perm ks).mem_iff, MK.mem]
  obtain ⟨g6, e7, H6⟩ := moved_hl D3.hl (by omega) (by omega) K.le K.nd hP2 S5
  have le6 := new_le D3 K T hP2
  have nd6 : (srtT ks).Nodup := (srtT_perm ks).nodup_iff.mpr MK.nd
  have sz6 := H6.size lpl nd6
  have k6 : Bag S6 b := (k5.app (T := [none])).keep q6
  have c6 : Ch b S1 S6 := ((((c2.trans c3).trans c4).trans c5).trans Ch.app).trans (Ch.keep l6 q6)
  have e8 := least_law H6 (by omega) (by omega) T.len S6 (o0 := some (.scr ns)) (o1 := some (.int (i : Int))) (o2 := some (BD (pl.length + 1) g6)) (o5 := some (.ref 1)) (o6 := some (.ref b)) (o7 := some (plD pl)) (o8 := o8) (o9 := some (.int w)) (o10 := some (plD gl)) (o11 := some (.lst (Q.map pD))) (o12 := some (BD (m + 1) g3))
  obtain ⟨S7, e9, l7, q7⟩ := isof_ok (pts_lst (srtT ks) S6) H6.isof (fun l hl => H6.len hl) (by omega) (by omega)
  have e10 := least_own (g := g6) (m := pl.length) (by omega) S7
  have e11 := same_pD (l := lst' pl.length g6) (by unfold lst'; rw [List.length_map, List.length_range]; omega) S7
  have e12 := least_in' H6 (by omega) S7
  have risQ : ∀ {ks' : List (List Int)}, Keys pl.length tq (srtT ks) [] 0 ks' → ∀ x, x ∈ srtT ks' ↔ ∃ q ∈ srtT ks, ∃ d, d < 9 ∧ x = up q d ∧ fitB pl.length tq x = true := fun Kk x => by
    rw [(srtT_perm _).mem_iff, Kk.mem]
    exact ⟨fun h => h.elim id fun ⟨d, hd, _⟩ => by omega, .inl⟩
  obtain ⟨ks0, _, _, _, _, Kk0⟩ := law_risen_ok (m := pl.length) (P := srtT ks) (tp := tq) (fun l hl => H6.len hl) T.len (by omega) (by omega) S7
  obtain ⟨x8, S8, e13, hx8, l8, q8⟩ := ris_hl H6 (by omega) T.len T.b (risQ Kk0) S7
  obtain ⟨kr, S9, e14, l9, q9, Kr⟩ := law_risen_ok (m := pl.length) (P := srtT ks) (tp := tq) (fun l hl => H6.len hl) T.len (by omega) (by omega) S8
  have rk := risQ Kr
  obtain ⟨g9, rfl, H9⟩ : ∃ g', x8 = BD (pl.length + 1) g' ∧ Hl pl.length g' (srtT kr) := by
    rcases hx8 _ rk with ⟨en, _⟩ | h
    · obtain ⟨l0, hl0⟩ : ∃ l0, l0 ∈ srtT ks := by
        cases z : srtT ks with
        | nil => exact (H6.ne z).elim
        | cons a r => exact ⟨a, by simp⟩
      have := (rk l0).mpr ⟨l0, hl0, 0, by decide, (up_zero l0).symm, fit_iff.mpr (le6 l0 hl0)⟩
      rw [en] at this
      cases this
    · exact h
  have nd9 : (srtT kr).Nodup := (srtT_perm kr).nodup_iff.mpr Kr.nd
  have sz9 := H9.size lpl nd9
  obtain ⟨S10, e15, l10, q10⟩ := isof_ok (pts_lst (srtT kr) S9) H9.isof (fun l hl => H9.len hl) (by omega) (by omega)
  obtain ⟨x11, S11, e16, i11, l11, q11⟩ := and_hl H9 (by omega) S10
  obtain ⟨S12, e17, l12, q12⟩ := isof_ok (pts_lst (srtT kr) S11) i11 (fun l hl => H9.len hl) (by omega) (by omega)
  have c12 : Ch b S1 S12 := (((((c6.trans (Ch.keep l7 q7)).trans (Ch.keep l8 q8)).trans (Ch.keep l9 q9)).trans (Ch.keep l10 q10)).trans (Ch.keep l11 q11)).trans (Ch.keep l12 q12)
  have at12 := keep1 c12
  have ap := app_okQ (y := .tup [BD (pl.length + 1) g9, .lst ((srtT kr).map pD)]) at12 (by omega)
  refine ⟨_, _, S12.set 1 (some (.lst (L ++ [.tup [BD (pl.length + 1) g9, .lst ((srtT kr).map pD)]]))), rfl, ?_, ⟨pl.length, g9, srtT kr, tq, L ++ [.tup [BD (pl.length + 1) g9, .lst ((srtT kr).map pD)]], some (.int (i : Int)), some (.ref b), some (plD pl), some (pD (lst' pl.length g6)), some (.int w), some (plD gl), some (.lst (Q.map pD)), some (BD (m + 1) g3), rfl, ?_, ?_, ?_, ?_⟩⟩
  · refine seq_nx (set_ok (call_ok (cons_ok rfl (one_ok rfl)) e1)) ?_
    refine seq_nx (asg_ok (tup_ok (cons_ok (call_ok (cons_ok rfl (one_ok rfl)) e2) (cons_ok (tup_ok rfl z0) (cons_ok rfl (one_ok rfl)))) z4) rfl) ?_
    refine seq_nx e3 ?_
    refine seq_nx (set_ok (call_ok (cons_ok rfl (cons_ok (b_ok (one_ok rfl) (by rw [bLen_pD, Rn.ltp])) (one_ok rfl))) e4)) ?_
    refine seq_nx (set_ok e5) ?_
    refine seq_nx (asg_ok (tup_ok (cons_ok (meth_ok rfl rfl rfl (one_ok rfl) e7) (one_ok (call_ok (cons_ok rfl (one_ok rfl)) e6))) z2) rfl) ?_
    refine seq_nx (set_ok e8) ?_
    refine seq_nx (if_f (tor_f (tnot_t (tru_bl (call_ok (cons_ok rfl (one_ok rfl)) e9))) (tor_f (tnot_t (tru_bl (call_ok (cons_ok (meth_ok rfl rfl rfl rfl e10) (one_ok rfl)) e11))) (tst_ok (m2_ok rfl rfl e12)))) rfl) ?_
    refine seq_nx (asg_ok (tup_ok (cons_ok (meth_ok rfl rfl rfl (one_ok rfl) e13) (one_ok (call_ok (cons_ok rfl (one_ok rfl)) e14))) z2) rfl) ?_
    refine seq_nx (if_f (tor_f (tnot_t (tru_bl (call_ok (cons_ok rfl (one_ok rfl)) e15))) (tnot_t (tru_bl (call_ok (cons_ok (own_ok rfl rfl ⟨rfl, .inr rfl⟩ e16) (one_ok rfl)) e17)))) rfl) ?_
    exact ex_ok (mM_ok rfl (lst_typQ at12) (one_ok (tup_ok (cons_ok rfl (one_ok rfl)) z2)) ap)
  · exact List.getElem?_set_self (List.getElem?_eq_some_iff.mp at12).1
  · rw [List.length_append, lL]
    rfl
  · intro d hd
    rcases List.mem_append.mp hd with hd | hd
    · exact hT d hd
    · rw [List.mem_singleton.mp hd]
      exact ⟨pl.length, _, srtT kr, rfl, H9.isof, fun l hl => H9.len hl, by omega, by omega⟩
  · refine ⟨lpl, H9, T.len, T.b, fun l hl k hk => ?_, nd9⟩
    obtain ⟨q, _, d, _, _, ft⟩ := (rk l).mp hl
    exact fit_iff.mp ft k hk
theorem cm_ok {n : Str} {F : Fm} {fa : E (List D)} {en : En} {S S1 S2 : So} {l : List D} {d : D} (h : fa en S = .ok l S1) (k : F (.cls n :: l) S1 = .ok d S2) : mCm n F fa en S = .ok d S2 := by
  unfold mCm
  rw [h, R.bind_ok, k]
  rfl
theorem law_ok (ns : List Int) (hn : ns.length ≤ 63) : ∃ S', m_law [.scr ns] [] = .ok (.bl true) S' := by
  have z0 : (0 : Nat) ≤ sizeLine := Nat.zero_le _
  have z1 : (1 : Nat) ≤ sizeLine := size4 (by decide)
  have z4 : (4 : Nat) ≤ sizeLine := size4 (by decide)
  have hl : ∀ S, bLen [.scr ns] S = some (.int ns.length, S) := fun S => by
    show some (D.int ((ns.map D.int).length : Nat), S) = _
    rw [List.length_map]
  obtain ⟨en0, hen0⟩ : ∃ en0 : En, en0 = [some (.scr ns), none, some (BD 1 zer), some (.lst ([[]].map pD)), some (pD []), some (.ref 1), none, none, none, none, none, none, none, none, none, none, none, none, none, none] := ⟨_, rfl⟩
  obtain ⟨n, hz, hm⟩ : ∃ n : Nat, n ≤ 63 ∧ iRg1 (aCons (mB bMax (aCons (mC (.int 1)) (aCons (mB bLen (aCons (mV 0) aNil)) aNil))) aNil) en0 [none, some (.lst [])] = .ok ⟨none, (List.range n).map fun i : Nat => D.int (i : Int)⟩ [none, some (.lst [])] := by
    rw [hen0]
    have e2 : ∀ k : Int, bMax [.int 1, .int k] ([none, some (.lst [])] : So) = some (.int (if k > 1 then k else 1), [none, some (.lst [])]) := fun _ => rfl
    by_cases c2 : (ns.length : Int) > 1
    · refine ⟨ns.length, hn, rg_n (one_ok (b_ok (cons_ok rfl (one_ok (b_ok (one_ok rfl) (hl _)))) ?_)) (by omega)⟩
      rw [e2, if_pos c2]
    · refine ⟨1, by decide, rg_n (one_ok (b_ok (cons_ok rfl (one_ok (b_ok (one_ok rfl) (hl _)))) ?_)) (by omega)⟩
      rw [e2, if_neg c2]
      rfl
  obtain ⟨en', S', e1, I⟩ := for_n (S0 := [none, some (.lst [])]) (g := gN 1) (ι := fun i : Nat => D.int (i : Int)) (n := n) (en := en0) (S := [none, some (.lst [])]) (body := rndB) (J := Inv' ns)
    (fun i hi en S hJ => round_ok (by omega) hJ) (by
      rw [hen0]
      exact ⟨0, zer, [[]], [], [], none, none, none, none, none, none, none, none, rfl, rfl, rfl, fun d hd => (by cases hd), ⟨by decide, hl_zero, rfl, fun x hx => (by cases hx), fun l hl k hk => by omega, by simp⟩⟩)
  obtain ⟨m, g, P, tp, L, o1, o6, o7, o8, o9, o10, o11, o12, rfl, at0, lL, hT, Rn⟩ := I.ok
  have sc : srcOf (.ref 1) S' = some ⟨some 1, L⟩ := by
    unfold srcOf
    simp only [at0]
  obtain ⟨ys, S2, e2, _, ly, hy⟩ := comp_ok (hold := some 1) (S0 := S') (I := fun S2 => S2[1]? = S'[1]?) (P := fun y => y = .bl true) (g := gT 2 (gsCons (gN 15) (gsCons (gN 16) gsNil))) (f := mCall m_law_is_of (aCons (mV 15) (aCons (mV 16) aNil))) (enw := [some (.scr ns), o1, some (BD (m + 1) g), some (.lst (P.map pD)), some (pD tp), some (.ref 1), o6, o7, o8, o9, o10, o11, o12, none, none, none, none, none, none, none]) (fun S2 h => still_same fun n hn => by cases hn; exact h) L [] S'
    (fun d hd S2 hS => by
      obtain ⟨m', x, P', rfl, io, hl', hm', hz'⟩ := hT d hd
      obtain ⟨S3, e3, l3, q3⟩ := isof_ok (pts_lst P' S2) io hl' hm' hz'
      refine ⟨_, _, S3, rfl, call_ok (cons_ok rfl (one_ok rfl)) e3, rfl, ?_⟩
      rw [q3 1 (by
        have : S2[1]? = some (some (.lst L)) := hS.trans at0
        exact (List.getElem?_eq_some_iff.mp this).1)]
      exact hS) rfl (by simpa using size4 (by omega))
  rw [List.nil_append] at e2
  have ey : ys = ys.map fun _ => D.bl ((fun _ : D => true) (.non)) := by
    conv => lhs; rw [← List.map_id ys]
    exact List.map_congr_left fun y h => hy y h
  have al : bAll [.lst ys] S2 = some (.bl true, S2) := by
    rw [ey]
    have := all_of (fun _ : D => true) ys S2
    rw [List.all_eq_true.mpr fun _ _ => rfl] at this
    exact this
  refine ⟨S2, body_rt rfl (seq_nx (asg_ok (en1 := en0) (tup_ok (cons_ok (d := BD 1 zer) (S1 := [none]) ?_ (cons_ok (lst_ok (one_ok (tup_ok rfl z0)) z1) (cons_ok (tup_ok rfl z0) (one_ok (d := .ref 1) (S1 := [none, some (.lst [])]) rfl)))) z4) ?_) (seq_nx (for_of hm e1) (ret_ok (b_ok (one_ok (cmp_of (seq_src rfl sc) e2)) al))))⟩
  · exact cm_ok (one_ok rfl) (zero_ok (m := 0) (S := []) (by decide))
  · rw [hen0]
    rfl
end K25

namespace K25
open PySem PySem.Spec PyProof.Rows L2 Mi
theorem mbG1 {K : PySem.W.Frag} {ct : Ct} {fd : FuncData} (b : Binds K fd ["self", "rows"] []) : MkB K ct fd ["self", "rows"] 1 [] G1 :=
  ⟨fun us _ => us, fun vs _ => vs, ⟨fun s us ws X l1 l2 => by
    have z : ws = [] := List.eq_nil_of_length_eq_zero l2
    subst z
    have e := b s us X (by rw [List.append_nil]; exact l1)
    rw [List.append_nil] at e
    exact e, fun r _ => r⟩, fun m S H ds zs vs ws a _ _ _ => a⟩
theorem _root_.L2.Fun.funD0 {K : PySem.W.Frag} {x qual : Str} {st : Stmt} {f : Addr} {fd : FuncData} (h : Fun K x qual st f fd) : FunD K x qual (defArgs st) (defBody st) (defScope st) [] [] f fd := by
  obtain ⟨oc, od, kV, doc, pm, an, cdv, ct, osl, e, lk, hcd⟩ := h.ex
  exact ⟨⟨oc, od, .none, kV, doc, pm, an, cdv, ct, osl, e, lk, hcd, .inl ⟨rfl, rfl⟩, .inl rfl⟩, h.kp⟩
section
variable {P : Program} {w : World} {K : PySem.W.Frag} {mg : Str → Option Value} {base : Heap}
abbrev i_InvalidNumber : Stmt := inClass (top 10) 0
theorem sci_InvalidNumber : FnScope ["self", "value"] ["self", "value"] (defScope i_InvalidNumber) := ⟨rfl, rfl, rfl, by decide +kernel, rfl, by decide +kernel, by decide +kernel⟩
theorem xi_InvalidNumber {fI : Addr} {fd : FuncData} (Fn : Fun K "__init__" "InvalidNumber.__init__" i_InvalidNumber fI fd) (hz : mg "RuntimeError" = none) (vV : PySem.W.findCls K (.type "RuntimeError") (.type "type") "__init__" = some (.val (.builtin "RuntimeError.__init__"))) : FnOk P w K mg base (L2.CX P w) 1 fI fd ["self", "value"] (spXi K [Value.type "RuntimeError", Value.type "Exception", Value.type "BaseException", Value.type "object"] "RuntimeError.__new__" "value") := by
  refine Fn.okX sci_InvalidNumber (fun vs H Q E h => by obtain ⟨a, C, v, rfl, _⟩ := h; rfl) fun cdv A outer s H vs Q E hr' h => ?_
  obtain ⟨a, C, v, rfl, T, hno, ha, q⟩ := h
  refine ⟨_, pss_cons (ps_expr (pe_biinit (B := "RuntimeError") (XB.of PySem.F.excBase_RuntimeError) rfl hz (by decide +kernel) (by kernel_rfl) (by decide +kernel) (by decide +kernel) vV (pa_cons (pv 0) (pa_cons pe_str pa_nil)))) (pss_one (ps_exf (newId := "RuntimeError.__new__") PySem.F.store_RuntimeError (pv 0) (pv 1))), ?_⟩
  exact ⟨_, rfl, a, C, [.str _], rfl, (by show 1 ≤ 1000; decide), T, ha, _, rfl, _, rfl, a, C, rfl, T, hno, ha, fun dx n ne => q dx n ne⟩
abbrev i_UnknownIndex : Stmt := inClass (top 9) 0
theorem sci_UnknownIndex : FnScope ["self", "index"] ["self", "index"] (defScope i_UnknownIndex) := ⟨rfl, rfl, rfl, by decide +kernel, rfl, by decide +kernel, by decide +kernel⟩
theorem xi_UnknownIndex {fI : Addr} {fd : FuncData} (Fn : Fun K "__init__" "UnknownIndex.__init__" i_UnknownIndex fI fd) (hz : mg "IndexError" = none) (vV : PySem.W.findCls K (.type "IndexError") (.type "type") "__init__" = some (.val (.builtin "IndexError.__init__"))) : FnOk P w K mg base (L2.CX P w) 1 fI fd ["self", "index"] (spXi K [Value.type "IndexError", Value.type "LookupError", Value.type "Exception", Value.type "BaseException", Value.type "object"] "IndexError.__new__" "index") := by
  refine Fn.okX sci_UnknownIndex (fun vs H Q E h => by obtain ⟨a, C, v, rfl, _⟩ := h; rfl) fun cdv A outer s H vs Q E hr' h => ?_
  obtain ⟨a, C, v, rfl, T, hno, ha, q⟩ := h
  refine ⟨_, pss_cons (ps_expr (pe_biinit (B := "IndexError") (XB.of PySem.F.excBase_IndexError) rfl hz (by decide +kernel) (by kernel_rfl) (by decide +kernel) (by decide +kernel) vV (pa_cons (pv 0) (pa_cons pe_str pa_nil)))) (pss_one (ps_exf (newId := "IndexError.__new__") PySem.F.store_IndexError (pv 0) (pv 1))), ?_⟩
  exact ⟨_, rfl, a, C, [.str _], rfl, (by show 1 ≤ 1000; decide), T, ha, _, rfl, _, rfl, a, C, rfl, T, hno, ha, fun dx n ne => q dx n ne⟩
abbrev p_rows : Stmt := inClass (top 23) 2
theorem scp_rows : FnScope ["self"] ["self"] (defScope p_rows) := ⟨rfl, rfl, rfl, by decide +kernel, rfl, by decide +kernel, by decide +kernel⟩
theorem get_rows {f C : Addr} {fd : FuncData} (F : Fun K "rows" "Bounds.rows" p_rows f fd) (c : Cls K C) (n : NoAttr K C "own_rows") : FnOk P w K mg base (fun _ _ _ _ _ _ => False) 1 f fd ["self"] (getSp C "own_rows") := by
  obtain ⟨oc, od, kV, doc, pm, an, cdv, ct, osl, rfl, lk, hcd⟩ := F.ex
  exact fn_getter (k := 0) lk hcd scp_rows rfl rfl c n
end
/-! ### the classes, asked in one go -/
def exaB (K : PySem.W.Frag) (C : Addr) : Bool := decide (PySem.W.findIn K (.ref C) "__getattribute__" = some (some (.builtin "BaseException.__getattribute__"))) && (decide (PySem.W.findIn K (.ref C) "__getattr__" = some none) && (decide (PySem.W.subIn K (.ref C) (.type "BaseException") = some true) && (PySem.W.hasDictIn K C &&
  (decide (PySem.W.findIn K (.ref C) "__class__" = some (some (.builtin "object.__class__"))) && (decide (PySem.W.specialIn K (.builtin "object.__class__") "__get__" = some (some (.builtin "getset_descriptor.__get__"))) && (decide (PySem.W.takesIn K (.builtin "object.__class__") = some true) && decide (PySem.W.mroIn K C (.type "object") = some true)))))))
theorem exaB_ok {K : PySem.W.Frag} {C : Addr} (h : exaB K C = true) : ExA K C := by
  simp only [exaB, Bool.and_eq_true, decide_eq_true_eq] at h
  obtain ⟨h1, h2, h3, h4, h5, h6, h7, h8⟩ := h
  exact ⟨h1, h2, h3, h4, h5, h6, h7, h8⟩
def oxB (K : PySem.W.Frag) (C : Addr) (bmB : List Value) (newId : String) : Bool := PySem.W.excInitIn K C bmB newId && (PySem.W.excOver K C bmB && (decide (PySem.W.findIn K (.ref C) "__setattr__" = some (some (.builtin "object.__setattr__"))) && (PySem.W.hasDictIn K C && (decide (PySem.W.subIn K (.ref C) (.type "BaseException") = some true) && (decide (PySem.W.typeIn K (.ref C) = some (.type "type")) && PySem.W.keepIn K (.ref C))))))
theorem oxB_ok {K : PySem.W.Frag} {C : Addr} {bmB : List Value} {newId : String} (h : oxB K C bmB newId = true) : OxC K C bmB newId := by
  simp only [oxB, Bool.and_eq_true, decide_eq_true_eq] at h
  obtain ⟨h1, h2, h3, h4, h5, h6, h7⟩ := h
  exact ⟨h1, h2, h3, h4, h5, h6, h7⟩
def rs1B (K : PySem.W.Frag) (C : Addr) (bmB : List Value) (newId : String) : Bool := PySem.W.keepIn K (.ref C) && (PySem.W.excIn K C bmB newId && (decide (PySem.W.subIn K (.ref C) (.type "BaseException") = some true) && decide (PySem.W.typeIn K (.ref C) = some (.type "type"))))
theorem rs1B_ok {K : PySem.W.Frag} {mg : Str → Option Value} {cm : Cm} {x : Str} {C : Addr} {bmB : List Value} {newId : String} (h : rs1B K C bmB newId = true) (e : cm.exc x = some C) (g : mg x = some (.ref C)) : Rs1 K mg cm x bmB newId := by
  simp only [rs1B, Bool.and_eq_true, decide_eq_true_eq] at h
  obtain ⟨h1, h2, h3, h4⟩ := h
  exact ⟨C, e, g, h1, h2, h3, h4⟩
def rowB (K : PySem.W.Frag) (tab : List (Str × Addr)) (p : Str × Addr) : Bool := exaB K p.2 && (tab.all (fun q => decide (PySem.W.exmOne K (.ref p.2) (.ref q.2) = some (isSub q.1 p.1))) && ([] : List Str).all (fun x => decide (PySem.W.findIn K (.ref p.2) x = some none)))
def tabB (K : PySem.W.Frag) (tab : List (Str × Addr)) : Bool := tab.all (rowB K tab)
abbrev cmOf (C : Addr) (tab : List (Str × Addr)) : Cm := ⟨fun c => if c = "Bounds" then some C else none, fun c => tab.lookup c⟩
section
variable {K : PySem.W.Frag} {C : Addr} {tab : List (Str × Addr)} {mg : Str → Option Value}
theorem row_of (h : tabB K tab = true) {c : Str} {D : Addr} (e : (cmOf C tab).exc c = some D) : rowB K tab (c, D) = true := List.all_eq_true.mp h _ (PySem.mem_of_lookup e)
theorem exm_of (h : tabB K tab = true) {x : Str} {D : Addr} (hx : (x, D) ∈ tab) (hm : mg x = some (.ref D)) : Exm K mg (cmOf C tab) x (isSub x) := ⟨D, hm, fun c D' e => by
  have r := row_of h e
  simp only [rowB, Bool.and_eq_true] at r
  exact of_decide_eq_true (List.all_eq_true.mp r.2.1 _ hx)⟩
theorem nox_of {x : Str} (h : tabB K tab = true) (hx : x ∈ ([] : List Str)) : NoX K (cmOf C tab) x := fun c D e => by
  have r := row_of h e
  simp only [rowB, Bool.and_eq_true] at r
  exact ⟨exaB_ok r.1, of_decide_eq_true (List.all_eq_true.mp r.2.2 x hx)⟩
theorem cls_eq {c : Str} {D : Addr} (e : (cmOf C tab).cls c = some D) : c = "Bounds" ∧ D = C := by
  have e1 : (if c = ("Bounds" : Str) then some C else none) = some D := e
  by_cases h : c = "Bounds"
  · rw [if_pos h] at e1
    exact ⟨h, (Option.some.inj e1).symm⟩
  · rw [if_neg h] at e1
    cases e1
theorem cls_tape : (cmOf C tab).cls "Bounds" = some C := by show (if ("Bounds" : Str) = "Bounds" then some C else none) = some C; exact if_pos rfl
end
/-! ### the class Tape -/
def tys : List Ty := [.non, .bl, .int, .str, .tup, .lst, .dct]
theorem tys_all (T : Ty) : T ∈ tys := by cases T <;> decide
def clsB (K : PySem.W.Frag) (C : Addr) : Bool := PySem.W.plainGet K C Str.empty && (PySem.W.hasDictIn K C && (PySem.W.plainOver K C && decide (PySem.W.findIn K (.ref C) "__setattr__" = some (some (.builtin "object.__setattr__")))))
theorem clsB_ok {K : PySem.W.Frag} {C : Addr} (h : clsB K C = true) : Cls K C := by
  simp only [clsB, Bool.and_eq_true, decide_eq_true_eq] at h
  obtain ⟨h1, h2, h3, h4⟩ := h
  exact ⟨h1, h2, h3, h4⟩
def ownB (K : PySem.W.Frag) (C : Addr) : Bool := clsB K C && (decide (PySem.W.findIn K (.ref C) "__class__" = some (some (.builtin "object.__class__"))) && (decide (PySem.W.specialIn K (.builtin "object.__class__") "__get__" = some (some (.builtin "getset_descriptor.__get__"))) && (decide (PySem.W.takesIn K (.builtin "object.__class__") = some true) &&
  (decide (PySem.W.mroIn K C (.type "object") = some true) && tys.all fun T => decide (T = .non) || decide (PySem.W.kitOne K (.ref C) (.type T.name) = some false)))))
theorem ownB_ok {K : PySem.W.Frag} {C : Addr} (h : ownB K C = true) : OwnC K C := by
  simp only [ownB, Bool.and_eq_true, decide_eq_true_eq] at h
  obtain ⟨h1, h2, h3, h4, h5, h6⟩ := h
  refine ⟨clsB_ok h1, h2, h3, h4, h5, fun T n => ?_⟩
  have z := List.all_eq_true.mp h6 T (tys_all T)
  rw [decide_eq_false n, Bool.false_or] at z
  exact of_decide_eq_true z
def opB (K : PySem.W.Frag) (C : Addr) (nm : String) : Bool := PySem.W.selfFirst K C && (decide (PySem.W.findIn K (.ref C) (dunderR nm) = some none) && tys.all fun T => (PySem.W.findIn K (.type T.name) (PySem.dunder nm)).isSome && ((PySem.W.findIn K (.type T.name) (dunderR nm)).isSome && decide (PySem.W.subIn K (.type T.name) (.ref C) = some false)))
theorem opB_ok {K : PySem.W.Frag} {C : Addr} {nm : String} (h : opB K C nm = true) : OwnOp K C nm := by
  simp only [opB, Bool.and_eq_true, decide_eq_true_eq] at h
  obtain ⟨h1, h2, h3⟩ := h
  refine ⟨h1, ⟨_, h2, .inl rfl⟩, fun T => ?_⟩
  have z := List.all_eq_true.mp h3 T (tys_all T)
  simp only [Bool.and_eq_true, decide_eq_true_eq] at z
  obtain ⟨z1, z2, z3⟩ := z
  obtain ⟨fo, e1⟩ := Option.isSome_iff_exists.mp z1
  obtain ⟨ro, e2⟩ := Option.isSome_iff_exists.mp z2
  exact ⟨fo, ro, e1, e2, z3⟩
def ioB (K : PySem.W.Frag) (C : Addr) : Bool := (tys.all fun T => decide (PySem.W.kitOne K (.type T.name) (.ref C) = some false)) && decide (PySem.W.kitOne K (.ref C) (.ref C) = some true)
theorem ioB_ok {K : PySem.W.Frag} {C : Addr} {tab : List (Str × Addr)} {mg : Str → Option Value} (o : OwnC K C) (h : ioB K C = true) (g : mg "Bounds" = some (.ref C)) : IsOwn K mg (cmOf C tab) "Bounds" := by
  simp only [ioB, Bool.and_eq_true, decide_eq_true_eq] at h
  refine ⟨C, g, fun T => of_decide_eq_true (List.all_eq_true.mp h.1 T (tys_all T)), fun c D e => ?_⟩
  obtain ⟨rfl, rfl⟩ := cls_eq e
  refine ⟨o, ?_⟩
  rw [h.2]
  exact congrArg some (decide_eq_true rfl).symm
def prB (K : PySem.W.Frag) (C p : Addr) (x : Str) : Bool := decide (PySem.W.findIn K (.ref C) x = some (some (.ref p))) && (decide (PySem.W.specialIn K (.ref p) "__get__" = some (some (.builtin "property.__get__"))) && decide (PySem.W.takesIn K (.ref p) = some true))
theorem prB_ok {K : PySem.W.Frag} {C p g : Addr} {x : Str} {rest : List Value} (h : prB K C p x = true) (r : PySem.W.recIn K p "property" = some (.ref g :: rest)) : PropOf K C x p g := by
  simp only [prB, Bool.and_eq_true, decide_eq_true_eq] at h
  exact ⟨h.1, h.2.1, h.2.2, rest, r⟩
def nsB (K : PySem.W.Frag) (C : Addr) : Bool := (tys.all fun T => decide (PySem.W.subIn K (.type T.name) (.ref C) = some false)) && decide (PySem.W.findIn K (.ref C) "__ne__" = some (some (.builtin "object.__ne__")))
theorem nsB_ok {K : PySem.W.Frag} {C : Addr} (h : nsB K C = true) : NotSub K C ∧ NoNe K C := by
  simp only [nsB, Bool.and_eq_true, decide_eq_true_eq] at h
  exact ⟨fun T => of_decide_eq_true (List.all_eq_true.mp h.1 T (tys_all T)), h.2⟩
def wordB (K : PySem.W.Frag) (its : Array Value) (xs : List Str) : Bool := decide (its.size ≤ sizeLine) && He.relAll (xs.map V.str) its.toList
/-- law's promise -/
def spL (K : PySem.W.Frag) : Sp := fun vs H Q _ => ∃ (a : Addr) (ns : List Int), vs = [.ref a] ∧ SqS K H a (ns.map V.int) ∧ (∀ b, H b ≠ none → True) ∧ ns.length ≤ 63 ∧ ∀ H', Q (.bl true) H'
theorem spL_imp {K : PySem.W.Frag} {cls exc : Str → Option Addr} (vs : List L2.V) (H : Hp) (Q : VK) (E : XK) (h : spL K vs H Q E) : spF ⟨K, cls, exc⟩ 1 m_law vs H Q E := by
  obtain ⟨a, ns, rfl, hS, _, hl, q⟩ := h
  obtain ⟨S', e⟩ := law_ok ns hl
  refine ⟨rfl, ⟨fun _ => 0, fun _ => False⟩, [], [.scr ns], ⟨fun n o z => by simp at z, fun n k o u z => by simp at z, fun _ z => z.elim, fun _ z => z.elim⟩, Reps.cons (by simp only [Rep]; exact ⟨a, rfl, hS⟩) Reps.nil, ?_⟩
  rw [e]
  intro v m' H' A R r
  simp only [Rep] at r
  rw [r]
  exact q H'
theorem all_mk {l : PySem.W.OpenLaw} {w : World} {K : PySem.W.Frag} {h : Heap} {mg : Str → Option Value} {fa : Addr} (X : K.In h) (G : h.Ns mainGlobals mg) (hfa : mg "law" = some (.ref fa))
    {C_Bounds : Addr}
    {C_InvalidBounds : Addr}
    {C_InvalidOperation : Addr}
    {C_InvalidNumber : Addr}
    {C_UnknownIndex : Addr}
    {f_is_integer : Addr}
    {od_is_integer an_is_integer : Option Addr} {sl_is_integer : Array (Option Value)} {oc_is_integer kV_is_integer dc_is_integer pm_is_integer cd_is_integer ct_is_integer : Value}
    {f_are_rows : Addr}
    {od_are_rows an_are_rows : Option Addr} {sl_are_rows : Array (Option Value)} {oc_are_rows kV_are_rows dc_are_rows pm_are_rows cd_are_rows ct_are_rows : Value}
    {f_tightened : Addr}
    {od_tightened an_tightened : Option Addr} {sl_tightened : Array (Option Value)} {oc_tightened kV_tightened dc_tightened pm_tightened cd_tightened ct_tightened : Value}
    {f_met_in : Addr}
    {od_met_in an_met_in : Option Addr} {sl_met_in : Array (Option Value)} {oc_met_in kV_met_in dc_met_in pm_met_in cd_met_in ct_met_in : Value}
    {f_holds_in : Addr}
    {od_holds_in an_holds_in : Option Addr} {sl_holds_in : Array (Option Value)} {oc_holds_in kV_holds_in dc_holds_in pm_holds_in cd_holds_in ct_holds_in : Value}
    {f_is_time : Addr}
    {od_is_time an_is_time : Option Addr} {sl_is_time : Array (Option Value)} {oc_is_time kV_is_time dc_is_time pm_is_time cd_is_time ct_is_time : Value}
    {f_later_in : Addr}
    {od_later_in an_later_in : Option Addr} {sl_later_in : Array (Option Value)} {oc_later_in kV_later_in dc_later_in pm_later_in cd_later_in ct_later_in : Value}
    {f_least_in : Addr}
    {od_least_in an_least_in : Option Addr} {sl_least_in : Array (Option Value)} {oc_least_in kV_least_in dc_least_in pm_least_in cd_least_in ct_least_in : Value}
    {f_are_places_in : Addr}
    {od_are_places_in an_are_places_in : Option Addr} {sl_are_places_in : Array (Option Value)} {oc_are_places_in kV_are_places_in dc_are_places_in pm_are_places_in cd_are_places_in ct_are_places_in : Value}
    {f_moved_in : Addr}
    {od_moved_in an_moved_in : Option Addr} {sl_moved_in : Array (Option Value)} {oc_moved_in kV_moved_in dc_moved_in pm_moved_in cd_moved_in ct_moved_in : Value}
    {f_risen_in : Addr}
    {od_risen_in an_risen_in : Option Addr} {sl_risen_in : Array (Option Value)} {oc_risen_in kV_risen_in dc_risen_in pm_risen_in cd_risen_in ct_risen_in : Value}
    {f_cut_in : Addr}
    {od_cut_in an_cut_in : Option Addr} {sl_cut_in : Array (Option Value)} {oc_cut_in kV_cut_in dc_cut_in pm_cut_in cd_cut_in ct_cut_in : Value}
    {f_law_cut_to : Addr}
    {od_law_cut_to an_law_cut_to : Option Addr} {sl_law_cut_to : Array (Option Value)} {oc_law_cut_to kV_law_cut_to dc_law_cut_to pm_law_cut_to cd_law_cut_to ct_law_cut_to : Value}
    {f_law_due_now : Addr}
    {od_law_due_now an_law_due_now : Option Addr} {sl_law_due_now : Array (Option Value)} {oc_law_due_now kV_law_due_now dc_law_due_now pm_law_due_now cd_law_due_now ct_law_due_now : Value}
    {f_law_greatest : Addr}
    {od_law_greatest an_law_greatest : Option Addr} {sl_law_greatest : Array (Option Value)} {oc_law_greatest kV_law_greatest dc_law_greatest pm_law_greatest cd_law_greatest ct_law_greatest : Value}
    {f_law_same : Addr}
    {od_law_same an_law_same : Option Addr} {sl_law_same : Array (Option Value)} {oc_law_same kV_law_same dc_law_same pm_law_same cd_law_same ct_law_same : Value}
    {f_law_is_of : Addr}
    {od_law_is_of an_law_is_of : Option Addr} {sl_law_is_of : Array (Option Value)} {oc_law_is_of kV_law_is_of dc_law_is_of pm_law_is_of cd_law_is_of ct_law_is_of : Value}
    {f_law_moved : Addr}
    {od_law_moved an_law_moved : Option Addr} {sl_law_moved : Array (Option Value)} {oc_law_moved kV_law_moved dc_law_moved pm_law_moved cd_law_moved ct_law_moved : Value}
    {f_law_throw : Addr}
    {od_law_throw an_law_throw : Option Addr} {sl_law_throw : Array (Option Value)} {oc_law_throw kV_law_throw dc_law_throw pm_law_throw cd_law_throw ct_law_throw : Value}
    {f_law_places : Addr}
    {od_law_places an_law_places : Option Addr} {sl_law_places : Array (Option Value)} {oc_law_places kV_law_places dc_law_places pm_law_places cd_law_places ct_law_places : Value}
    {f_law_risen : Addr}
    {od_law_risen an_law_risen : Option Addr} {sl_law_risen : Array (Option Value)} {oc_law_risen kV_law_risen dc_law_risen pm_law_risen cd_law_risen ct_law_risen : Value}
    {f_law_start : Addr}
    {od_law_start an_law_start : Option Addr} {sl_law_start : Array (Option Value)} {oc_law_start kV_law_start dc_law_start pm_law_start cd_law_start ct_law_start : Value}
    {f_law : Addr}
    {od_law an_law : Option Addr} {sl_law : Array (Option Value)} {oc_law kV_law dc_law pm_law cd_law ct_law : Value}
    {f_Tand : Addr}
    {od_Tand an_Tand : Option Addr} {sl_Tand : Array (Option Value)} {oc_Tand kV_Tand dc_Tand pm_Tand cd_Tand ct_Tand : Value}
    {f_Tcontains : Addr}
    {od_Tcontains an_Tcontains : Option Addr} {sl_Tcontains : Array (Option Value)} {oc_Tcontains kV_Tcontains dc_Tcontains pm_Tcontains cd_Tcontains ct_Tcontains : Value}
    {f_Trshift : Addr}
    {od_Trshift an_Trshift : Option Addr} {sl_Trshift : Array (Option Value)} {oc_Trshift kV_Trshift dc_Trshift pm_Trshift cd_Trshift ct_Trshift : Value}
    {f_Tleast : Addr}
    {od_Tleast an_Tleast : Option Addr} {sl_Tleast : Array (Option Value)} {oc_Tleast kV_Tleast dc_Tleast pm_Tleast cd_Tleast ct_Tleast : Value}
    {f_Tmoved : Addr}
    {od_Tmoved an_Tmoved : Option Addr} {sl_Tmoved : Array (Option Value)} {oc_Tmoved kV_Tmoved dc_Tmoved pm_Tmoved cd_Tmoved ct_Tmoved : Value}
    {f_Trisen : Addr}
    {od_Trisen an_Trisen : Option Addr} {sl_Trisen : Array (Option Value)} {oc_Trisen kV_Trisen dc_Trisen pm_Trisen cd_Trisen ct_Trisen : Value}
    {f_Tcut : Addr}
    {od_Tcut an_Tcut : Option Addr} {sl_Tcut : Array (Option Value)} {oc_Tcut kV_Tcut dc_Tcut pm_Tcut cd_Tcut ct_Tcut : Value}
    {f_Tinit : Addr}
    {od_Tinit an_Tinit : Option Addr} {sl_Tinit : Array (Option Value)} {oc_Tinit kV_Tinit dc_Tinit pm_Tinit cd_Tinit ct_Tinit : Value}
    {q_czero : Addr}
    {re_czero : List Value}
    {f_czero : Addr}
    {od_czero an_czero : Option Addr} {sl_czero : Array (Option Value)} {oc_czero kV_czero dc_czero pm_czero cd_czero ct_czero : Value}
    {q_rows : Addr}
    {re_rows : List Value}
    {f_prows : Addr}
    {od_prows an_prows : Option Addr} {sl_prows : Array (Option Value)} {oc_prows kV_prows dc_prows pm_prows cd_prows ct_prows : Value}
    {f_iInvalidNumber : Addr}
    {od_iInvalidNumber an_iInvalidNumber : Option Addr} {sl_iInvalidNumber : Array (Option Value)} {oc_iInvalidNumber kV_iInvalidNumber dc_iInvalidNumber pm_iInvalidNumber cd_iInvalidNumber ct_iInvalidNumber : Value}
    {f_iUnknownIndex : Addr}
    {od_iUnknownIndex an_iUnknownIndex : Option Addr} {sl_iUnknownIndex : Array (Option Value)} {oc_iUnknownIndex kV_iUnknownIndex dc_iUnknownIndex pm_iUnknownIndex cd_iUnknownIndex ct_iUnknownIndex : Value}
    {t_MAX_VALUE : Tok}
    {t_MOST_CLOCKS : Tok}
    (n_Bounds : PySem.W.nsIn K mainGlobals "Bounds" = some (some (.ref C_Bounds)))
    (n_InvalidBounds : PySem.W.nsIn K mainGlobals "InvalidBounds" = some (some (.ref C_InvalidBounds)))
    (n_InvalidOperation : PySem.W.nsIn K mainGlobals "InvalidOperation" = some (some (.ref C_InvalidOperation)))
    (n_InvalidNumber : PySem.W.nsIn K mainGlobals "InvalidNumber" = some (some (.ref C_InvalidNumber)))
    (n_UnknownIndex : PySem.W.nsIn K mainGlobals "UnknownIndex" = some (some (.ref C_UnknownIndex)))
    (a_is_integer : PySem.W.nsIn K mainGlobals "is_integer" = some (some (.ref f_is_integer)))
    (l_is_integer : K.lookup f_is_integer = some ⟨oc_is_integer, od_is_integer, .func (PySem.W.fnOf "is_integer" "is_integer" (defArgs s_is_integer) (defBody s_is_integer) (defScope s_is_integer) .none kV_is_integer dc_is_integer pm_is_integer an_is_integer cd_is_integer ct_is_integer), sl_is_integer⟩)
    (c_is_integer : PySem.W.codeIn K cd_is_integer "is_integer" = true)
    (k_is_integer : PySem.W.keepIn K (.ref f_is_integer) = true)
    (a_are_rows : PySem.W.nsIn K mainGlobals "are_rows" = some (some (.ref f_are_rows)))
    (l_are_rows : K.lookup f_are_rows = some ⟨oc_are_rows, od_are_rows, .func (PySem.W.fnOf "are_rows" "are_rows" (defArgs s_are_rows) (defBody s_are_rows) (defScope s_are_rows) .none kV_are_rows dc_are_rows pm_are_rows an_are_rows cd_are_rows ct_are_rows), sl_are_rows⟩)
    (c_are_rows : PySem.W.codeIn K cd_are_rows "are_rows" = true)
    (k_are_rows : PySem.W.keepIn K (.ref f_are_rows) = true)
    (a_tightened : PySem.W.nsIn K mainGlobals "tightened" = some (some (.ref f_tightened)))
    (l_tightened : K.lookup f_tightened = some ⟨oc_tightened, od_tightened, .func (PySem.W.fnOf "tightened" "tightened" (defArgs s_tightened) (defBody s_tightened) (defScope s_tightened) .none kV_tightened dc_tightened pm_tightened an_tightened cd_tightened ct_tightened), sl_tightened⟩)
    (c_tightened : PySem.W.codeIn K cd_tightened "tightened" = true)
    (k_tightened : PySem.W.keepIn K (.ref f_tightened) = true)
    (a_met_in : PySem.W.nsIn K mainGlobals "met_in" = some (some (.ref f_met_in)))
    (l_met_in : K.lookup f_met_in = some ⟨oc_met_in, od_met_in, .func (PySem.W.fnOf "met_in" "met_in" (defArgs s_met_in) (defBody s_met_in) (defScope s_met_in) .none kV_met_in dc_met_in pm_met_in an_met_in cd_met_in ct_met_in), sl_met_in⟩)
    (c_met_in : PySem.W.codeIn K cd_met_in "met_in" = true)
    (k_met_in : PySem.W.keepIn K (.ref f_met_in) = true)
    (a_holds_in : PySem.W.nsIn K mainGlobals "holds_in" = some (some (.ref f_holds_in)))
    (l_holds_in : K.lookup f_holds_in = some ⟨oc_holds_in, od_holds_in, .func (PySem.W.fnOf "holds_in" "holds_in" (defArgs s_holds_in) (defBody s_holds_in) (defScope s_holds_in) .none kV_holds_in dc_holds_in pm_holds_in an_holds_in cd_holds_in ct_holds_in), sl_holds_in⟩)
    (c_holds_in : PySem.W.codeIn K cd_holds_in "holds_in" = true)
    (k_holds_in : PySem.W.keepIn K (.ref f_holds_in) = true)
    (a_is_time : PySem.W.nsIn K mainGlobals "is_time" = some (some (.ref f_is_time)))
    (l_is_time : K.lookup f_is_time = some ⟨oc_is_time, od_is_time, .func (PySem.W.fnOf "is_time" "is_time" (defArgs s_is_time) (defBody s_is_time) (defScope s_is_time) .none kV_is_time dc_is_time pm_is_time an_is_time cd_is_time ct_is_time), sl_is_time⟩)
    (c_is_time : PySem.W.codeIn K cd_is_time "is_time" = true)
    (k_is_time : PySem.W.keepIn K (.ref f_is_time) = true)
    (a_later_in : PySem.W.nsIn K mainGlobals "later_in" = some (some (.ref f_later_in)))
    (l_later_in : K.lookup f_later_in = some ⟨oc_later_in, od_later_in, .func (PySem.W.fnOf "later_in" "later_in" (defArgs s_later_in) (defBody s_later_in) (defScope s_later_in) .none kV_later_in dc_later_in pm_later_in an_later_in cd_later_in ct_later_in), sl_later_in⟩)
    (c_later_in : PySem.W.codeIn K cd_later_in "later_in" = true)
    (k_later_in : PySem.W.keepIn K (.ref f_later_in) = true)
    (a_least_in : PySem.W.nsIn K mainGlobals "least_in" = some (some (.ref f_least_in)))
    (l_least_in : K.lookup f_least_in = some ⟨oc_least_in, od_least_in, .func (PySem.W.fnOf "least_in" "least_in" (defArgs s_least_in) (defBody s_least_in) (defScope s_least_in) .none kV_least_in dc_least_in pm_least_in an_least_in cd_least_in ct_least_in), sl_least_in⟩)
    (c_least_in : PySem.W.codeIn K cd_least_in "least_in" = true)
    (k_least_in : PySem.W.keepIn K (.ref f_least_in) = true)
    (a_are_places_in : PySem.W.nsIn K mainGlobals "are_places_in" = some (some (.ref f_are_places_in)))
    (l_are_places_in : K.lookup f_are_places_in = some ⟨oc_are_places_in, od_are_places_in, .func (PySem.W.fnOf "are_places_in" "are_places_in" (defArgs s_are_places_in) (defBody s_are_places_in) (defScope s_are_places_in) .none kV_are_places_in dc_are_places_in pm_are_places_in an_are_places_in cd_are_places_in ct_are_places_in), sl_are_places_in⟩)
    (c_are_places_in : PySem.W.codeIn K cd_are_places_in "are_places_in" = true)
    (k_are_places_in : PySem.W.keepIn K (.ref f_are_places_in) = true)
    (a_moved_in : PySem.W.nsIn K mainGlobals "moved_in" = some (some (.ref f_moved_in)))
    (l_moved_in : K.lookup f_moved_in = some ⟨oc_moved_in, od_moved_in, .func (PySem.W.fnOf "moved_in" "moved_in" (defArgs s_moved_in) (defBody s_moved_in) (defScope s_moved_in) .none kV_moved_in dc_moved_in pm_moved_in an_moved_in cd_moved_in ct_moved_in), sl_moved_in⟩)
    (c_moved_in : PySem.W.codeIn K cd_moved_in "moved_in" = true)
    (k_moved_in : PySem.W.keepIn K (.ref f_moved_in) = true)
    (a_risen_in : PySem.W.nsIn K mainGlobals "risen_in" = some (some (.ref f_risen_in)))
    (l_risen_in : K.lookup f_risen_in = some ⟨oc_risen_in, od_risen_in, .func (PySem.W.fnOf "risen_in" "risen_in" (defArgs s_risen_in) (defBody s_risen_in) (defScope s_risen_in) .none kV_risen_in dc_risen_in pm_risen_in an_risen_in cd_risen_in ct_risen_in), sl_risen_in⟩)
    (c_risen_in : PySem.W.codeIn K cd_risen_in "risen_in" = true)
    (k_risen_in : PySem.W.keepIn K (.ref f_risen_in) = true)
    (a_cut_in : PySem.W.nsIn K mainGlobals "cut_in" = some (some (.ref f_cut_in)))
    (l_cut_in : K.lookup f_cut_in = some ⟨oc_cut_in, od_cut_in, .func (PySem.W.fnOf "cut_in" "cut_in" (defArgs s_cut_in) (defBody s_cut_in) (defScope s_cut_in) .none kV_cut_in dc_cut_in pm_cut_in an_cut_in cd_cut_in ct_cut_in), sl_cut_in⟩)
    (c_cut_in : PySem.W.codeIn K cd_cut_in "cut_in" = true)
    (k_cut_in : PySem.W.keepIn K (.ref f_cut_in) = true)
    (a_law_cut_to : PySem.W.nsIn K mainGlobals "_law_cut_to" = some (some (.ref f_law_cut_to)))
    (l_law_cut_to : K.lookup f_law_cut_to = some ⟨oc_law_cut_to, od_law_cut_to, .func (PySem.W.fnOf "_law_cut_to" "_law_cut_to" (defArgs s_law_cut_to) (defBody s_law_cut_to) (defScope s_law_cut_to) .none kV_law_cut_to dc_law_cut_to pm_law_cut_to an_law_cut_to cd_law_cut_to ct_law_cut_to), sl_law_cut_to⟩)
    (c_law_cut_to : PySem.W.codeIn K cd_law_cut_to "_law_cut_to" = true)
    (k_law_cut_to : PySem.W.keepIn K (.ref f_law_cut_to) = true)
    (a_law_due_now : PySem.W.nsIn K mainGlobals "_law_due_now" = some (some (.ref f_law_due_now)))
    (l_law_due_now : K.lookup f_law_due_now = some ⟨oc_law_due_now, od_law_due_now, .func (PySem.W.fnOf "_law_due_now" "_law_due_now" (defArgs s_law_due_now) (defBody s_law_due_now) (defScope s_law_due_now) .none kV_law_due_now dc_law_due_now pm_law_due_now an_law_due_now cd_law_due_now ct_law_due_now), sl_law_due_now⟩)
    (c_law_due_now : PySem.W.codeIn K cd_law_due_now "_law_due_now" = true)
    (k_law_due_now : PySem.W.keepIn K (.ref f_law_due_now) = true)
    (a_law_greatest : PySem.W.nsIn K mainGlobals "_law_greatest" = some (some (.ref f_law_greatest)))
    (l_law_greatest : K.lookup f_law_greatest = some ⟨oc_law_greatest, od_law_greatest, .func (PySem.W.fnOf "_law_greatest" "_law_greatest" (defArgs s_law_greatest) (defBody s_law_greatest) (defScope s_law_greatest) .none kV_law_greatest dc_law_greatest pm_law_greatest an_law_greatest cd_law_greatest ct_law_greatest), sl_law_greatest⟩)
    (c_law_greatest : PySem.W.codeIn K cd_law_greatest "_law_greatest" = true)
    (k_law_greatest : PySem.W.keepIn K (.ref f_law_greatest) = true)
    (a_law_same : PySem.W.nsIn K mainGlobals "_law_same" = some (some (.ref f_law_same)))
    (l_law_same : K.lookup f_law_same = some ⟨oc_law_same, od_law_same, .func (PySem.W.fnOf "_law_same" "_law_same" (defArgs s_law_same) (defBody s_law_same) (defScope s_law_same) .none kV_law_same dc_law_same pm_law_same an_law_same cd_law_same ct_law_same), sl_law_same⟩)
    (c_law_same : PySem.W.codeIn K cd_law_same "_law_same" = true)
    (k_law_same : PySem.W.keepIn K (.ref f_law_same) = true)
    (a_law_is_of : PySem.W.nsIn K mainGlobals "_law_is_of" = some (some (.ref f_law_is_of)))
    (l_law_is_of : K.lookup f_law_is_of = some ⟨oc_law_is_of, od_law_is_of, .func (PySem.W.fnOf "_law_is_of" "_law_is_of" (defArgs s_law_is_of) (defBody s_law_is_of) (defScope s_law_is_of) .none kV_law_is_of dc_law_is_of pm_law_is_of an_law_is_of cd_law_is_of ct_law_is_of), sl_law_is_of⟩)
    (c_law_is_of : PySem.W.codeIn K cd_law_is_of "_law_is_of" = true)
    (k_law_is_of : PySem.W.keepIn K (.ref f_law_is_of) = true)
    (a_law_moved : PySem.W.nsIn K mainGlobals "_law_moved" = some (some (.ref f_law_moved)))
    (l_law_moved : K.lookup f_law_moved = some ⟨oc_law_moved, od_law_moved, .func (PySem.W.fnOf "_law_moved" "_law_moved" (defArgs s_law_moved) (defBody s_law_moved) (defScope s_law_moved) .none kV_law_moved dc_law_moved pm_law_moved an_law_moved cd_law_moved ct_law_moved), sl_law_moved⟩)
    (c_law_moved : PySem.W.codeIn K cd_law_moved "_law_moved" = true)
    (k_law_moved : PySem.W.keepIn K (.ref f_law_moved) = true)
    (a_law_throw : PySem.W.nsIn K mainGlobals "_law_throw" = some (some (.ref f_law_throw)))
    (l_law_throw : K.lookup f_law_throw = some ⟨oc_law_throw, od_law_throw, .func (PySem.W.fnOf "_law_throw" "_law_throw" (defArgs s_law_throw) (defBody s_law_throw) (defScope s_law_throw) .none kV_law_throw dc_law_throw pm_law_throw an_law_throw cd_law_throw ct_law_throw), sl_law_throw⟩)
    (c_law_throw : PySem.W.codeIn K cd_law_throw "_law_throw" = true)
    (k_law_throw : PySem.W.keepIn K (.ref f_law_throw) = true)
    (a_law_places : PySem.W.nsIn K mainGlobals "_law_places" = some (some (.ref f_law_places)))
    (l_law_places : K.lookup f_law_places = some ⟨oc_law_places, od_law_places, .func (PySem.W.fnOf "_law_places" "_law_places" (defArgs s_law_places) (defBody s_law_places) (defScope s_law_places) .none kV_law_places dc_law_places pm_law_places an_law_places cd_law_places ct_law_places), sl_law_places⟩)
    (c_law_places : PySem.W.codeIn K cd_law_places "_law_places" = true)
    (k_law_places : PySem.W.keepIn K (.ref f_law_places) = true)
    (a_law_risen : PySem.W.nsIn K mainGlobals "_law_risen" = some (some (.ref f_law_risen)))
    (l_law_risen : K.lookup f_law_risen = some ⟨oc_law_risen, od_law_risen, .func (PySem.W.fnOf "_law_risen" "_law_risen" (defArgs s_law_risen) (defBody s_law_risen) (defScope s_law_risen) .none kV_law_risen dc_law_risen pm_law_risen an_law_risen cd_law_risen ct_law_risen), sl_law_risen⟩)
    (c_law_risen : PySem.W.codeIn K cd_law_risen "_law_risen" = true)
    (k_law_risen : PySem.W.keepIn K (.ref f_law_risen) = true)
    (a_law_start : PySem.W.nsIn K mainGlobals "_law_start" = some (some (.ref f_law_start)))
    (l_law_start : K.lookup f_law_start = some ⟨oc_law_start, od_law_start, .func (PySem.W.fnOf "_law_start" "_law_start" (defArgs s_law_start) (defBody s_law_start) (defScope s_law_start) .none kV_law_start dc_law_start pm_law_start an_law_start cd_law_start ct_law_start), sl_law_start⟩)
    (c_law_start : PySem.W.codeIn K cd_law_start "_law_start" = true)
    (k_law_start : PySem.W.keepIn K (.ref f_law_start) = true)
    (a_law : PySem.W.nsIn K mainGlobals "law" = some (some (.ref f_law)))
    (l_law : K.lookup f_law = some ⟨oc_law, od_law, .func (PySem.W.fnOf "law" "law" (defArgs s_law) (defBody s_law) (defScope s_law) .none kV_law dc_law pm_law an_law cd_law ct_law), sl_law⟩)
    (c_law : PySem.W.codeIn K cd_law "law" = true)
    (k_law : PySem.W.keepIn K (.ref f_law) = true)
    (a_Tand : PySem.W.findIn K (.ref C_Bounds) "__and__" = some (some (.ref f_Tand)))
    (l_Tand : K.lookup f_Tand = some ⟨oc_Tand, od_Tand, .func (PySem.W.fnOf "__and__" "Bounds.__and__" (defArgs s_Bounds_and) (defBody s_Bounds_and) (defScope s_Bounds_and) .none kV_Tand dc_Tand pm_Tand an_Tand cd_Tand ct_Tand), sl_Tand⟩)
    (c_Tand : PySem.W.codeIn K cd_Tand "Bounds.__and__" = true)
    (k_Tand : PySem.W.keepIn K (.ref f_Tand) = true)
    (w_Tand : PySem.W.isFn K (.ref f_Tand) = true)
    (a_Tcontains : PySem.W.findIn K (.ref C_Bounds) "__contains__" = some (some (.ref f_Tcontains)))
    (l_Tcontains : K.lookup f_Tcontains = some ⟨oc_Tcontains, od_Tcontains, .func (PySem.W.fnOf "__contains__" "Bounds.__contains__" (defArgs s_Bounds_contains) (defBody s_Bounds_contains) (defScope s_Bounds_contains) .none kV_Tcontains dc_Tcontains pm_Tcontains an_Tcontains cd_Tcontains ct_Tcontains), sl_Tcontains⟩)
    (c_Tcontains : PySem.W.codeIn K cd_Tcontains "Bounds.__contains__" = true)
    (k_Tcontains : PySem.W.keepIn K (.ref f_Tcontains) = true)
    (w_Tcontains : PySem.W.isFn K (.ref f_Tcontains) = true)
    (a_Trshift : PySem.W.findIn K (.ref C_Bounds) "__rshift__" = some (some (.ref f_Trshift)))
    (l_Trshift : K.lookup f_Trshift = some ⟨oc_Trshift, od_Trshift, .func (PySem.W.fnOf "__rshift__" "Bounds.__rshift__" (defArgs s_Bounds_rshift) (defBody s_Bounds_rshift) (defScope s_Bounds_rshift) .none kV_Trshift dc_Trshift pm_Trshift an_Trshift cd_Trshift ct_Trshift), sl_Trshift⟩)
    (c_Trshift : PySem.W.codeIn K cd_Trshift "Bounds.__rshift__" = true)
    (k_Trshift : PySem.W.keepIn K (.ref f_Trshift) = true)
    (w_Trshift : PySem.W.isFn K (.ref f_Trshift) = true)
    (a_Tleast : PySem.W.findIn K (.ref C_Bounds) "least" = some (some (.ref f_Tleast)))
    (l_Tleast : K.lookup f_Tleast = some ⟨oc_Tleast, od_Tleast, .func (PySem.W.fnOf "least" "Bounds.least" (defArgs s_Bounds_least) (defBody s_Bounds_least) (defScope s_Bounds_least) .none kV_Tleast dc_Tleast pm_Tleast an_Tleast cd_Tleast ct_Tleast), sl_Tleast⟩)
    (c_Tleast : PySem.W.codeIn K cd_Tleast "Bounds.least" = true)
    (k_Tleast : PySem.W.keepIn K (.ref f_Tleast) = true)
    (w_Tleast : PySem.W.isFn K (.ref f_Tleast) = true)
    (a_Tmoved : PySem.W.findIn K (.ref C_Bounds) "moved" = some (some (.ref f_Tmoved)))
    (l_Tmoved : K.lookup f_Tmoved = some ⟨oc_Tmoved, od_Tmoved, .func (PySem.W.fnOf "moved" "Bounds.moved" (defArgs s_Bounds_moved) (defBody s_Bounds_moved) (defScope s_Bounds_moved) .none kV_Tmoved dc_Tmoved pm_Tmoved an_Tmoved cd_Tmoved ct_Tmoved), sl_Tmoved⟩)
    (c_Tmoved : PySem.W.codeIn K cd_Tmoved "Bounds.moved" = true)
    (k_Tmoved : PySem.W.keepIn K (.ref f_Tmoved) = true)
    (w_Tmoved : PySem.W.isFn K (.ref f_Tmoved) = true)
    (a_Trisen : PySem.W.findIn K (.ref C_Bounds) "risen" = some (some (.ref f_Trisen)))
    (l_Trisen : K.lookup f_Trisen = some ⟨oc_Trisen, od_Trisen, .func (PySem.W.fnOf "risen" "Bounds.risen" (defArgs s_Bounds_risen) (defBody s_Bounds_risen) (defScope s_Bounds_risen) .none kV_Trisen dc_Trisen pm_Trisen an_Trisen cd_Trisen ct_Trisen), sl_Trisen⟩)
    (c_Trisen : PySem.W.codeIn K cd_Trisen "Bounds.risen" = true)
    (k_Trisen : PySem.W.keepIn K (.ref f_Trisen) = true)
    (w_Trisen : PySem.W.isFn K (.ref f_Trisen) = true)
    (a_Tcut : PySem.W.findIn K (.ref C_Bounds) "cut" = some (some (.ref f_Tcut)))
    (l_Tcut : K.lookup f_Tcut = some ⟨oc_Tcut, od_Tcut, .func (PySem.W.fnOf "cut" "Bounds.cut" (defArgs s_Bounds_cut) (defBody s_Bounds_cut) (defScope s_Bounds_cut) .none kV_Tcut dc_Tcut pm_Tcut an_Tcut cd_Tcut ct_Tcut), sl_Tcut⟩)
    (c_Tcut : PySem.W.codeIn K cd_Tcut "Bounds.cut" = true)
    (k_Tcut : PySem.W.keepIn K (.ref f_Tcut) = true)
    (w_Tcut : PySem.W.isFn K (.ref f_Tcut) = true)
    (a_Tinit : PySem.W.findIn K (.ref C_Bounds) "__init__" = some (some (.ref f_Tinit)))
    (l_Tinit : K.lookup f_Tinit = some ⟨oc_Tinit, od_Tinit, .func (PySem.W.fnOf "__init__" "Bounds.__init__" (defArgs s_Bounds_init) (defBody s_Bounds_init) (defScope s_Bounds_init) .none kV_Tinit dc_Tinit pm_Tinit an_Tinit cd_Tinit ct_Tinit), sl_Tinit⟩)
    (c_Tinit : PySem.W.codeIn K cd_Tinit "Bounds.__init__" = true)
    (k_Tinit : PySem.W.keepIn K (.ref f_Tinit) = true)
    (w_Tinit : PySem.W.isFn K (.ref f_Tinit) = true)
    (n_czero : PySem.W.findCls K (.ref C_Bounds) (.type "type") "zero" = some (.get (.builtin "classmethod.__get__") (.ref q_czero) .none (.ref C_Bounds)))
    (r_czero : PySem.W.recIn K q_czero "classmethod" = some (.ref f_czero :: re_czero))
    (l_czero : K.lookup f_czero = some ⟨oc_czero, od_czero, .func (PySem.W.fnOf "zero" "Bounds.zero" (defArgs s_Bounds_zero) (defBody s_Bounds_zero) (defScope s_Bounds_zero) .none kV_czero dc_czero pm_czero an_czero cd_czero ct_czero), sl_czero⟩)
    (c_czero : PySem.W.codeIn K cd_czero "Bounds.zero" = true)
    (k_czero : PySem.W.keepIn K (.ref f_czero) = true)
    (i_czero : PySem.W.fnIn K f_czero = true)
    (m_rd : PySem.W.readsIn K C_Bounds (.type "type") = true)
    (m_sg : PySem.W.specialIn K (.ref C_Bounds) "__getattribute__" = some (some (.builtin "type.__getattribute__")))
    (n_prows : PySem.W.findIn K (.ref C_Bounds) "rows" = some (some (.ref q_rows)))
    (r_prows : PySem.W.recIn K q_rows "property" = some (.ref f_prows :: re_rows))
    (m_prows : prB K C_Bounds q_rows "rows" = true)
    (l_prows : K.lookup f_prows = some ⟨oc_prows, od_prows, .func (PySem.W.fnOf "rows" "Bounds.rows" (defArgs p_rows) (defBody p_rows) (defScope p_rows) .none kV_prows dc_prows pm_prows an_prows cd_prows ct_prows), sl_prows⟩)
    (c_prows : PySem.W.codeIn K cd_prows "Bounds.rows" = true)
    (k_prows : PySem.W.keepIn K (.ref f_prows) = true)
    (a_iInvalidNumber : PySem.W.findIn K (.ref C_InvalidNumber) "__init__" = some (some (.ref f_iInvalidNumber)))
    (l_iInvalidNumber : K.lookup f_iInvalidNumber = some ⟨oc_iInvalidNumber, od_iInvalidNumber, .func (PySem.W.fnOf "__init__" "InvalidNumber.__init__" (defArgs i_InvalidNumber) (defBody i_InvalidNumber) (defScope i_InvalidNumber) .none kV_iInvalidNumber dc_iInvalidNumber pm_iInvalidNumber an_iInvalidNumber cd_iInvalidNumber ct_iInvalidNumber), sl_iInvalidNumber⟩)
    (c_iInvalidNumber : PySem.W.codeIn K cd_iInvalidNumber "InvalidNumber.__init__" = true)
    (k_iInvalidNumber : PySem.W.keepIn K (.ref f_iInvalidNumber) = true)
    (w_InvalidNumber : PySem.W.isFn K (.ref f_iInvalidNumber) = true)
    (v_InvalidNumber : PySem.W.findCls K (.type "RuntimeError") (.type "type") "__init__" = some (.val (.builtin "RuntimeError.__init__")))
    (x_InvalidNumber : PySem.W.findIn K (.ref C_InvalidNumber) "value" = some none)
    (z_RuntimeError : PySem.W.nsIn K mainGlobals "RuntimeError" = some none)
    (a_iUnknownIndex : PySem.W.findIn K (.ref C_UnknownIndex) "__init__" = some (some (.ref f_iUnknownIndex)))
    (l_iUnknownIndex : K.lookup f_iUnknownIndex = some ⟨oc_iUnknownIndex, od_iUnknownIndex, .func (PySem.W.fnOf "__init__" "UnknownIndex.__init__" (defArgs i_UnknownIndex) (defBody i_UnknownIndex) (defScope i_UnknownIndex) .none kV_iUnknownIndex dc_iUnknownIndex pm_iUnknownIndex an_iUnknownIndex cd_iUnknownIndex ct_iUnknownIndex), sl_iUnknownIndex⟩)
    (c_iUnknownIndex : PySem.W.codeIn K cd_iUnknownIndex "UnknownIndex.__init__" = true)
    (k_iUnknownIndex : PySem.W.keepIn K (.ref f_iUnknownIndex) = true)
    (w_UnknownIndex : PySem.W.isFn K (.ref f_iUnknownIndex) = true)
    (v_UnknownIndex : PySem.W.findCls K (.type "IndexError") (.type "type") "__init__" = some (.val (.builtin "IndexError.__init__")))
    (x_UnknownIndex : PySem.W.findIn K (.ref C_UnknownIndex) "index" = some none)
    (z_IndexError : PySem.W.nsIn K mainGlobals "IndexError" = some none)
    (z_abs : PySem.W.nsIn K mainGlobals "abs" = some none)
    (z_all : PySem.W.nsIn K mainGlobals "all" = some none)
    (z_any : PySem.W.nsIn K mainGlobals "any" = some none)
    (z_bool : PySem.W.nsIn K mainGlobals "bool" = some none)
    (z_enumerate : PySem.W.nsIn K mainGlobals "enumerate" = some none)
    (z_int : PySem.W.nsIn K mainGlobals "int" = some none)
    (z_isinstance : PySem.W.nsIn K mainGlobals "isinstance" = some none)
    (z_len : PySem.W.nsIn K mainGlobals "len" = some none)
    (z_list : PySem.W.nsIn K mainGlobals "list" = some none)
    (z_max : PySem.W.nsIn K mainGlobals "max" = some none)
    (z_min : PySem.W.nsIn K mainGlobals "min" = some none)
    (z_range : PySem.W.nsIn K mainGlobals "range" = some none)
    (z_set : PySem.W.nsIn K mainGlobals "set" = some none)
    (z_sorted : PySem.W.nsIn K mainGlobals "sorted" = some none)
    (z_tuple : PySem.W.nsIn K mainGlobals "tuple" = some none)
    (z_zip : PySem.W.nsIn K mainGlobals "zip" = some none)
    (n_MAX_VALUE : PySem.W.nsIn K mainGlobals "MAX_VALUE" = some (some (.int 999999999999999999999999999999999999999999999999999999999999 t_MAX_VALUE)))
    (n_MOST_CLOCKS : PySem.W.nsIn K mainGlobals "MOST_CLOCKS" = some (some (.int 12 t_MOST_CLOCKS)))
    (ck : tabB K [(("InvalidBounds" : Str), C_InvalidBounds), (("InvalidOperation" : Str), C_InvalidOperation), (("InvalidNumber" : Str), C_InvalidNumber), (("UnknownIndex" : Str), C_UnknownIndex)] = true)
    (m_InvalidBounds : rs1B K C_InvalidBounds [Value.type "ValueError", Value.type "Exception", Value.type "BaseException", Value.type "object"] "ValueError.__new__" = true)
    (m_InvalidOperation : rs1B K C_InvalidOperation [Value.type "ValueError", Value.type "Exception", Value.type "BaseException", Value.type "object"] "ValueError.__new__" = true)
    (m_InvalidNumber : oxB K C_InvalidNumber [Value.type "RuntimeError", Value.type "Exception", Value.type "BaseException", Value.type "object"] "RuntimeError.__new__" = true)
    (m_UnknownIndex : oxB K C_UnknownIndex [Value.type "IndexError", Value.type "LookupError", Value.type "Exception", Value.type "BaseException", Value.type "object"] "IndexError.__new__" = true)
    (m_own : ownB K C_Bounds = true)
    (m_and : opB K C_Bounds "and" = true)
    (m_rshift : opB K C_Bounds "rshift" = true)
    (m_io : ioB K C_Bounds = true)
    (m_mk : PySem.W.makesIn K C_Bounds = true)
    (m_kp : PySem.W.keepIn K (.ref C_Bounds) = true)
    (m_nown_rows : PySem.W.findIn K (.ref C_Bounds) "own_rows" = some none) :
    ∃ fd : FuncData, (∀ (s : Shared) (v : Value), BindsTo s fd ⟨[v], []⟩ [("script", v)]) ∧ ∀ base : Heap, K.In base → base.Ns mainGlobals mg → FnG l.prog w K mg base (L2.CX l.prog w) 13 fa fd ["script"] (spL K) := by
  have e := hfa.symm.trans (PySem.W.mg_of X G a_law)
  cases e
  have g_Bounds := PySem.W.mg_of X G n_Bounds
  have g_InvalidBounds := PySem.W.mg_of X G n_InvalidBounds
  have g_InvalidOperation := PySem.W.mg_of X G n_InvalidOperation
  have g_InvalidNumber := PySem.W.mg_of X G n_InvalidNumber
  have g_UnknownIndex := PySem.W.mg_of X G n_UnknownIndex
  have F_is_integer := fun_mk (st := s_is_integer) l_is_integer c_is_integer k_is_integer
  have b_is_integer := F_is_integer.binds (ps := ["value"]) fun _ _ _ _ _ _ us hl => match us, hl with | [_], _ => rfl
  have F_are_rows := fun_mk (st := s_are_rows) l_are_rows c_are_rows k_are_rows
  have b_are_rows := F_are_rows.binds (ps := ["value"]) fun _ _ _ _ _ _ us hl => match us, hl with | [_], _ => rfl
  have F_tightened := fun_mk (st := s_tightened) l_tightened c_tightened k_tightened
  have b_tightened := F_tightened.binds (ps := ["rows"]) fun _ _ _ _ _ _ us hl => match us, hl with | [_], _ => rfl
  have F_met_in := fun_mk (st := s_met_in) l_met_in c_met_in k_met_in
  have b_met_in := F_met_in.binds (ps := ["rows", "others"]) fun _ _ _ _ _ _ us hl => match us, hl with | [_, _], _ => rfl
  have F_holds_in := fun_mk (st := s_holds_in) l_holds_in c_holds_in k_holds_in
  have b_holds_in := F_holds_in.binds (ps := ["rows", "value"]) fun _ _ _ _ _ _ us hl => match us, hl with | [_, _], _ => rfl
  have F_is_time := fun_mk (st := s_is_time) l_is_time c_is_time k_is_time
  have b_is_time := F_is_time.binds (ps := ["value"]) fun _ _ _ _ _ _ us hl => match us, hl with | [_], _ => rfl
  have F_later_in := fun_mk (st := s_later_in) l_later_in c_later_in k_later_in
  have b_later_in := F_later_in.binds (ps := ["rows", "time"]) fun _ _ _ _ _ _ us hl => match us, hl with | [_, _], _ => rfl
  have F_least_in := fun_mk (st := s_least_in) l_least_in c_least_in k_least_in
  have b_least_in := F_least_in.binds (ps := ["rows"]) fun _ _ _ _ _ _ us hl => match us, hl with | [_], _ => rfl
  have F_are_places_in := fun_mk (st := s_are_places_in) l_are_places_in c_are_places_in k_are_places_in
  have b_are_places_in := F_are_places_in.binds (ps := ["value", "many"]) fun _ _ _ _ _ _ us hl => match us, hl with | [_, _], _ => rfl
  have F_moved_in := fun_mk (st := s_moved_in) l_moved_in c_moved_in k_moved_in
  have b_moved_in := F_moved_in.binds (ps := ["rows", "places"]) fun _ _ _ _ _ _ us hl => match us, hl with | [_, _], _ => rfl
  have F_risen_in := fun_mk (st := s_risen_in) l_risen_in c_risen_in k_risen_in
  have b_risen_in := F_risen_in.binds (ps := ["rows", "tops"]) fun _ _ _ _ _ _ us hl => match us, hl with | [_, _], _ => rfl
  have F_cut_in := fun_mk (st := s_cut_in) l_cut_in c_cut_in k_cut_in
  have b_cut_in := F_cut_in.binds (ps := ["rows", "i", "j", "most"]) fun _ _ _ _ _ _ us hl => match us, hl with | [_, _, _, _], _ => rfl
  have F_law_cut_to := fun_mk (st := s_law_cut_to) l_law_cut_to c_law_cut_to k_law_cut_to
  have b_law_cut_to := F_law_cut_to.binds (ps := ["bounds", "tops", "gone"]) fun _ _ _ _ _ _ us hl => match us, hl with | [_, _, _], _ => rfl
  have F_law_due_now := fun_mk (st := s_law_due_now) l_law_due_now c_law_due_now k_law_due_now
  have b_law_due_now := F_law_due_now.binds (ps := ["points", "tops", "gone"]) fun _ _ _ _ _ _ us hl => match us, hl with | [_, _, _], _ => rfl
  have F_law_greatest := fun_mk (st := s_law_greatest) l_law_greatest c_law_greatest k_law_greatest
  have b_law_greatest := F_law_greatest.binds (ps := ["points"]) fun _ _ _ _ _ _ us hl => match us, hl with | [_], _ => rfl
  have F_law_same := fun_mk (st := s_law_same) l_law_same c_law_same k_law_same
  have b_law_same := F_law_same.binds (ps := ["one", "other"]) fun _ _ _ _ _ _ us hl => match us, hl with | [_, _], _ => rfl
  have F_law_is_of := fun_mk (st := s_law_is_of) l_law_is_of c_law_is_of k_law_is_of
  have b_law_is_of := F_law_is_of.binds (ps := ["bounds", "points"]) fun _ _ _ _ _ _ us hl => match us, hl with | [_, _], _ => rfl
  have F_law_moved := fun_mk (st := s_law_moved) l_law_moved c_law_moved k_law_moved
  have b_law_moved := F_law_moved.binds (ps := ["points", "places"]) fun _ _ _ _ _ _ us hl => match us, hl with | [_, _], _ => rfl
  have F_law_throw := fun_mk (st := s_law_throw) l_law_throw c_law_throw k_law_throw
  have b_law_throw := F_law_throw.binds (ps := ["bag", "total"]) fun _ _ _ _ _ _ us hl => match us, hl with | [_, _], _ => rfl
  have F_law_places := fun_mk (st := s_law_places) l_law_places c_law_places k_law_places
  have b_law_places := F_law_places.binds (ps := ["bag", "many", "gone"]) fun _ _ _ _ _ _ us hl => match us, hl with | [_, _, _], _ => rfl
  have F_law_risen := fun_mk (st := s_law_risen) l_law_risen c_law_risen k_law_risen
  have b_law_risen := F_law_risen.binds (ps := ["points", "tops"]) fun _ _ _ _ _ _ us hl => match us, hl with | [_, _], _ => rfl
  have F_law_start := fun_mk (st := s_law_start) l_law_start c_law_start k_law_start
  have b_law_start := F_law_start.binds (ps := ["script", "at"]) fun _ _ _ _ _ _ us hl => match us, hl with | [_, _], _ => rfl
  have F_law := fun_mk (st := s_law) l_law c_law k_law
  have b_law := F_law.binds (ps := ["script"]) fun _ _ _ _ _ _ us hl => match us, hl with | [_], _ => rfl
  have F_Tand := fun_mk (st := s_Bounds_and) l_Tand c_Tand k_Tand
  have b_Tand := F_Tand.binds (ps := ["self", "other"]) fun _ _ _ _ _ _ us hl => match us, hl with | [_, _], _ => rfl
  have F_Tcontains := fun_mk (st := s_Bounds_contains) l_Tcontains c_Tcontains k_Tcontains
  have b_Tcontains := F_Tcontains.binds (ps := ["self", "value"]) fun _ _ _ _ _ _ us hl => match us, hl with | [_, _], _ => rfl
  have F_Trshift := fun_mk (st := s_Bounds_rshift) l_Trshift c_Trshift k_Trshift
  have b_Trshift := F_Trshift.binds (ps := ["self", "time"]) fun _ _ _ _ _ _ us hl => match us, hl with | [_, _], _ => rfl
  have F_Tleast := fun_mk (st := s_Bounds_least) l_Tleast c_Tleast k_Tleast
  have b_Tleast := F_Tleast.binds (ps := ["self"]) fun _ _ _ _ _ _ us hl => match us, hl with | [_], _ => rfl
  have F_Tmoved := fun_mk (st := s_Bounds_moved) l_Tmoved c_Tmoved k_Tmoved
  have b_Tmoved := F_Tmoved.binds (ps := ["self", "places"]) fun _ _ _ _ _ _ us hl => match us, hl with | [_, _], _ => rfl
  have F_Trisen := fun_mk (st := s_Bounds_risen) l_Trisen c_Trisen k_Trisen
  have b_Trisen := F_Trisen.binds (ps := ["self", "tops"]) fun _ _ _ _ _ _ us hl => match us, hl with | [_, _], _ => rfl
  have F_Tcut := fun_mk (st := s_Bounds_cut) l_Tcut c_Tcut k_Tcut
  have b_Tcut := F_Tcut.binds (ps := ["self", "i", "j", "most"]) fun _ _ _ _ _ _ us hl => match us, hl with | [_, _, _, _], _ => rfl
  have F_Tinit := fun_mk (st := s_Bounds_init) l_Tinit c_Tinit k_Tinit
  have b_Tinit := F_Tinit.binds (ps := ["self", "rows"]) fun _ _ _ _ _ _ us hl => match us, hl with | [_, _], _ => rfl
  have F_czero := fun_mk (st := s_Bounds_zero) l_czero c_czero k_czero
  have b_czero := F_czero.binds (ps := ["cls", "many"]) fun _ _ _ _ _ _ us hl => match us, hl with | [_, _], _ => rfl
  have F_prows := fun_mk (st := p_rows) l_prows c_prows k_prows
  have b_prows := F_prows.binds (ps := ["self"]) fun _ _ _ _ _ _ us hl => match us, hl with | [_], _ => rfl
  have F_iInvalidNumber := fun_mk (st := i_InvalidNumber) l_iInvalidNumber c_iInvalidNumber k_iInvalidNumber
  have b_iInvalidNumber := F_iInvalidNumber.binds (ps := ["self", "value"]) fun _ _ _ _ _ _ us hl => match us, hl with | [_, _], _ => rfl
  have F_iUnknownIndex := fun_mk (st := i_UnknownIndex) l_iUnknownIndex c_iUnknownIndex k_iUnknownIndex
  have b_iUnknownIndex := F_iUnknownIndex.binds (ps := ["self", "index"]) fun _ _ _ _ _ _ us hl => match us, hl with | [_, _], _ => rfl
  have O := ownB_ok m_own
  have M : Mk K C_Bounds f_Tinit := ⟨m_mk, a_Tinit, w_Tinit, m_kp⟩
  have T : Txt K mg (cmOf C_Bounds [(("InvalidBounds" : Str), C_InvalidBounds), (("InvalidOperation" : Str), C_InvalidOperation), (("InvalidNumber" : Str), C_InvalidNumber), (("UnknownIndex" : Str), C_UnknownIndex)]) := {
    z_abs := PySem.W.mg_none_of X G z_abs
    z_all := PySem.W.mg_none_of X G z_all
    z_any := PySem.W.mg_none_of X G z_any
    z_bool := PySem.W.mg_none_of X G z_bool
    z_enumerate := PySem.W.mg_none_of X G z_enumerate
    z_int := PySem.W.mg_none_of X G z_int
    z_isinstance := PySem.W.mg_none_of X G z_isinstance
    z_len := PySem.W.mg_none_of X G z_len
    z_list := PySem.W.mg_none_of X G z_list
    z_max := PySem.W.mg_none_of X G z_max
    z_min := PySem.W.mg_none_of X G z_min
    z_range := PySem.W.mg_none_of X G z_range
    z_set := PySem.W.mg_none_of X G z_set
    z_sorted := PySem.W.mg_none_of X G z_sorted
    z_tuple := PySem.W.mg_none_of X G z_tuple
    z_zip := PySem.W.mg_none_of X G z_zip
    g_MAX_VALUE := ⟨_, PySem.W.mg_of X G n_MAX_VALUE⟩
    g_MOST_CLOCKS := ⟨_, PySem.W.mg_of X G n_MOST_CLOCKS⟩
    f_is_integer := ⟨_, _, PySem.W.mg_of X G a_is_integer, F_is_integer, b_is_integer⟩
    f_are_rows := ⟨_, _, PySem.W.mg_of X G a_are_rows, F_are_rows, b_are_rows⟩
    f_tightened := ⟨_, _, PySem.W.mg_of X G a_tightened, F_tightened, b_tightened⟩
    k_Bounds_G1 := ⟨C_Bounds, _, _, _, _, cls_tape, g_Bounds, M, F_Tinit.funD0, mbG1 b_Tinit⟩
    f_met_in := ⟨_, _, PySem.W.mg_of X G a_met_in, F_met_in, b_met_in⟩
    f_Bounds_and := ⟨C_Bounds, _, _, cls_tape, O, a_Tand, w_Tand, F_Tand, b_Tand⟩
    f_holds_in := ⟨_, _, PySem.W.mg_of X G a_holds_in, F_holds_in, b_holds_in⟩
    f_Bounds_contains := ⟨C_Bounds, _, _, cls_tape, O, a_Tcontains, w_Tcontains, F_Tcontains, b_Tcontains⟩
    f_is_time := ⟨_, _, PySem.W.mg_of X G a_is_time, F_is_time, b_is_time⟩
    f_later_in := ⟨_, _, PySem.W.mg_of X G a_later_in, F_later_in, b_later_in⟩
    f_Bounds_rshift := ⟨C_Bounds, _, _, cls_tape, O, a_Trshift, w_Trshift, F_Trshift, b_Trshift⟩
    f_least_in := ⟨_, _, PySem.W.mg_of X G a_least_in, F_least_in, b_least_in⟩
    f_Bounds_least := ⟨C_Bounds, _, _, cls_tape, O, a_Tleast, w_Tleast, F_Tleast, b_Tleast⟩
    f_are_places_in := ⟨_, _, PySem.W.mg_of X G a_are_places_in, F_are_places_in, b_are_places_in⟩
    f_moved_in := ⟨_, _, PySem.W.mg_of X G a_moved_in, F_moved_in, b_moved_in⟩
    f_Bounds_moved := ⟨C_Bounds, _, _, cls_tape, O, a_Tmoved, w_Tmoved, F_Tmoved, b_Tmoved⟩
    f_risen_in := ⟨_, _, PySem.W.mg_of X G a_risen_in, F_risen_in, b_risen_in⟩
    f_Bounds_risen := ⟨C_Bounds, _, _, cls_tape, O, a_Trisen, w_Trisen, F_Trisen, b_Trisen⟩
    c_Bounds_zero := ⟨C_Bounds, q_czero, f_czero, _, _, cls_tape, g_Bounds, ⟨m_rd, m_sg⟩, ⟨n_czero, ⟨_, r_czero⟩, i_czero⟩, F_czero, b_czero⟩
    f_cut_in := ⟨_, _, PySem.W.mg_of X G a_cut_in, F_cut_in, b_cut_in⟩
    f_Bounds_cut := ⟨C_Bounds, _, _, cls_tape, O, a_Tcut, w_Tcut, F_Tcut, b_Tcut⟩
    f_law_cut_to := ⟨_, _, PySem.W.mg_of X G a_law_cut_to, F_law_cut_to, b_law_cut_to⟩
    f_law_due_now := ⟨_, _, PySem.W.mg_of X G a_law_due_now, F_law_due_now, b_law_due_now⟩
    f_law_greatest := ⟨_, _, PySem.W.mg_of X G a_law_greatest, F_law_greatest, b_law_greatest⟩
    f_law_same := ⟨_, _, PySem.W.mg_of X G a_law_same, F_law_same, b_law_same⟩
    f_law_is_of := ⟨_, _, PySem.W.mg_of X G a_law_is_of, F_law_is_of, b_law_is_of⟩
    f_law_moved := ⟨_, _, PySem.W.mg_of X G a_law_moved, F_law_moved, b_law_moved⟩
    f_law_throw := ⟨_, _, PySem.W.mg_of X G a_law_throw, F_law_throw, b_law_throw⟩
    f_law_places := ⟨_, _, PySem.W.mg_of X G a_law_places, F_law_places, b_law_places⟩
    f_law_risen := ⟨_, _, PySem.W.mg_of X G a_law_risen, F_law_risen, b_law_risen⟩
    f_law_start := ⟨_, _, PySem.W.mg_of X G a_law_start, F_law_start, b_law_start⟩
    f_law := ⟨_, _, PySem.W.mg_of X G a_law, F_law, b_law⟩
    own := fun c C e => by rw [(cls_eq e).2]; exact O
    op_Bounds_and := fun C e => by rw [(cls_eq e).2]; exact opB_ok m_and
    op_Bounds_rshift := fun C e => by rw [(cls_eq e).2]; exact opB_ok m_rshift
    na_own_rows := fun c C e => by rw [(cls_eq e).2]; exact ⟨O.cl, m_nown_rows⟩
    pr_rows := fun P w base c C e => by rw [(cls_eq e).2]; exact ⟨O.cl, q_rows, f_prows, _, prB_ok m_prows r_prows, get_rows F_prows O.cl m_nown_rows, b_prows⟩
    io_Bounds := ioB_ok O m_io g_Bounds
    rs_InvalidBounds := rs1B_ok m_InvalidBounds rfl g_InvalidBounds
    rs_InvalidOperation := rs1B_ok m_InvalidOperation rfl g_InvalidOperation
    mk_InvalidNumber := fun P w base => ⟨C_InvalidNumber, f_iInvalidNumber, _, _, oxB_ok m_InvalidNumber, a_iInvalidNumber, w_InvalidNumber, x_InvalidNumber, xi_InvalidNumber F_iInvalidNumber (PySem.W.mg_none_of X G z_RuntimeError) v_InvalidNumber, b_iInvalidNumber, rfl, g_InvalidNumber⟩
    mk_UnknownIndex := fun P w base => ⟨C_UnknownIndex, f_iUnknownIndex, _, _, oxB_ok m_UnknownIndex, a_iUnknownIndex, w_UnknownIndex, x_UnknownIndex, xi_UnknownIndex F_iUnknownIndex (PySem.W.mg_none_of X G z_IndexError) v_UnknownIndex, b_iUnknownIndex, rfl, g_UnknownIndex⟩ }
  exact ⟨PySem.W.fnOf "law" "law" (defArgs s_law) (defBody s_law) (defScope s_law) .none kV_law dc_law pm_law an_law cd_law ct_law, fun s v => .of_eq rfl, fun base _ _ => (d_law T F_law).imp spL_imp⟩
theorem walk {l : PySem.W.OpenLaw} {q : Program} {loose : List Str} {XP : (Str → Option Value) → Heap → Prop} {YP : World → Heap → Prop} {d : DefRec} {K : Params → PySem.W.Frag} (hn : l.most = some 63) (hdf : d.params.defaults = [])
    (hY : ∀ (w : World) (h : Heap), YP w h → (K w.params).In h)
    (F : ∀ (w : World) (mg : Str → Option Value) (fa : Addr) (h : Heap), (K w.params).In h → h.Ns mainGlobals mg → mg d.name = some (.ref fa) →
      ∃ fd : FuncData, (∀ (s : Shared) (u : Value), BindsTo s fd ⟨[u], []⟩ [("script", u)]) ∧ ∀ base : Heap, (K w.params).In base → base.Ns mainGlobals mg → FnG l.prog w (K w.params) mg base (L2.CX l.prog w) 13 fa fd ["script"] (spL (K w.params))) :
    PySem.W.WalkO q loose XP YP l.row.toRowW d [] (fun f vs => PySem.call f vs) :=
  Mi.walk_ofG (n := 63) (k := 13) (x := "script") (CX := fun w => L2.CX l.prog w) (sp := fun w => spL (K w.params)) hn (by decide) hdf ⟨rfl, by decide, by decide⟩ hY F (fun w H a ns hl hO hS => ⟨a, ns, rfl, (by
    rcases hS with (h | ⟨o, h⟩) | h
    · rcases hO a with z | ⟨o, xs, z⟩
      · rw [z] at h; cases h
      · rw [z] at h; cases h
    · exact .inl ⟨o, h⟩
    · exact .inr h), fun _ _ => trivial, hl, fun _ => rfl⟩) fun w H s e s' z => by
    obtain ⟨_, _, _, _, _, _, _, _, _, _, _, _, z⟩ := z
    exact z
end K25
open PySem PySem.W PyProof.Rows
set_option maxRecDepth 100000 in
set_option maxHeartbeats 0 in
theorem PySem.Challenge.cw_pushalike_k25_whole_histories_of_bounds_holds : PySem.Challenge.rw_pushalike_k25_whole_histories_of_bounds.Holds := by
  w_on; o_law; k_head; (case hw => w_witness2)
  k_fill
  refine K25.walk (l := PySem.Challenge.rw_pushalike_k25_whole_histories_of_bounds) rfl rfl (fun w h Y => PySem.W.kIn_of Y) ?F
  case F =>
    intro w mg fa h KX G hmg
    refine' K25.all_mk KX G hmg ?n_Bounds ?n_InvalidBounds ?n_InvalidOperation ?n_InvalidNumber ?n_UnknownIndex ?a_is_integer ?l_is_integer ?c_is_integer ?k_is_integer ?a_are_rows ?l_are_rows ?c_are_rows ?k_are_rows ?a_tightened ?l_tightened ?c_tightened ?k_tightened ?a_met_in ?l_met_in ?c_met_in ?k_met_in ?a_holds_in ?l_holds_in ?c_holds_in ?k_holds_in ?a_is_time ?l_is_time ?c_is_time ?k_is_time ?a_later_in ?l_later_in ?c_later_in ?k_later_in ?a_least_in ?l_least_in ?c_least_in ?k_least_in ?a_are_places_in ?l_are_places_in ?c_are_places_in ?k_are_places_in ?a_moved_in ?l_moved_in ?c_moved_in ?k_moved_in ?a_risen_in ?l_risen_in ?c_risen_in ?k_risen_in ?a_cut_in ?l_cut_in ?c_cut_in ?k_cut_in ?a_law_cut_to ?l_law_cut_to ?c_law_cut_to ?k_law_cut_to ?a_law_due_now ?l_law_due_now ?c_law_due_now ?k_law_due_now ?a_law_greatest ?l_law_greatest ?c_law_greatest ?k_law_greatest ?a_law_same ?l_law_same ?c_law_same ?k_law_same ?a_law_is_of ?l_law_is_of ?c_law_is_of ?k_law_is_of ?a_law_moved ?l_law_moved ?c_law_moved ?k_law_moved ?a_law_throw ?l_law_throw ?c_law_throw ?k_law_throw ?a_law_places ?l_law_places ?c_law_places ?k_law_places ?a_law_risen ?l_law_risen ?c_law_risen ?k_law_risen ?a_law_start ?l_law_start ?c_law_start ?k_law_start ?a_law ?l_law ?c_law ?k_law ?a_Tand ?l_Tand ?c_Tand ?k_Tand ?w_Tand ?a_Tcontains ?l_Tcontains ?c_Tcontains ?k_Tcontains ?w_Tcontains ?a_Trshift ?l_Trshift ?c_Trshift ?k_Trshift ?w_Trshift ?a_Tleast ?l_Tleast ?c_Tleast ?k_Tleast ?w_Tleast ?a_Tmoved ?l_Tmoved ?c_Tmoved ?k_Tmoved ?w_Tmoved ?a_Trisen ?l_Trisen ?c_Trisen ?k_Trisen ?w_Trisen ?a_Tcut ?l_Tcut ?c_Tcut ?k_Tcut ?w_Tcut ?a_Tinit ?l_Tinit ?c_Tinit ?k_Tinit ?w_Tinit ?n_czero ?r_czero ?l_czero ?c_czero ?k_czero ?i_czero ?m_rd ?m_sg ?n_prows ?r_prows ?m_prows ?l_prows ?c_prows ?k_prows ?a_iInvalidNumber ?l_iInvalidNumber ?c_iInvalidNumber ?k_iInvalidNumber ?w_InvalidNumber ?v_InvalidNumber ?x_InvalidNumber ?z_RuntimeError ?a_iUnknownIndex ?l_iUnknownIndex ?c_iUnknownIndex ?k_iUnknownIndex ?w_UnknownIndex ?v_UnknownIndex ?x_UnknownIndex ?z_IndexError ?z_abs ?z_all ?z_any ?z_bool ?z_enumerate ?z_int ?z_isinstance ?z_len ?z_list ?z_max ?z_min ?z_range ?z_set ?z_sorted ?z_tuple ?z_zip ?n_MAX_VALUE ?n_MOST_CLOCKS ?ck ?m_InvalidBounds ?m_InvalidOperation ?m_InvalidNumber ?m_UnknownIndex ?m_own ?m_and ?m_rshift ?m_io ?m_mk ?m_kp ?m_nown_rows
    (case n_Bounds => k_is)
    (case n_InvalidBounds => k_is)
    (case n_InvalidOperation => k_is)
    (case n_InvalidNumber => k_is)
    (case n_UnknownIndex => k_is)
    (case a_is_integer => k_is)
    (case l_is_integer => k_is)
    (case c_is_integer => k_is)
    (case k_is_integer => k_is)
    (case a_are_rows => k_is)
    (case l_are_rows => k_is)
    (case c_are_rows => k_is)
    (case k_are_rows => k_is)
    (case a_tightened => k_is)
    (case l_tightened => k_is)
    (case c_tightened => k_is)
    (case k_tightened => k_is)
    (case a_met_in => k_is)
    (case l_met_in => k_is)
    (case c_met_in => k_is)
    (case k_met_in => k_is)
    (case a_holds_in => k_is)
    (case l_holds_in => k_is)
    (case c_holds_in => k_is)
    (case k_holds_in => k_is)
    (case a_is_time => k_is)
    (case l_is_time => k_is)
    (case c_is_time => k_is)
    (case k_is_time => k_is)
    (case a_later_in => k_is)
    (case l_later_in => k_is)
    (case c_later_in => k_is)
    (case k_later_in => k_is)
    (case a_least_in => k_is)
    (case l_least_in => k_is)
    (case c_least_in => k_is)
    (case k_least_in => k_is)
    (case a_are_places_in => k_is)
    (case l_are_places_in => k_is)
    (case c_are_places_in => k_is)
    (case k_are_places_in => k_is)
    (case a_moved_in => k_is)
    (case l_moved_in => k_is)
    (case c_moved_in => k_is)
    (case k_moved_in => k_is)
    (case a_risen_in => k_is)
    (case l_risen_in => k_is)
    (case c_risen_in => k_is)
    (case k_risen_in => k_is)
    (case a_cut_in => k_is)
    (case l_cut_in => k_is)
    (case c_cut_in => k_is)
    (case k_cut_in => k_is)
    (case a_law_cut_to => k_is)
    (case l_law_cut_to => k_is)
    (case c_law_cut_to => k_is)
    (case k_law_cut_to => k_is)
    (case a_law_due_now => k_is)
    (case l_law_due_now => k_is)
    (case c_law_due_now => k_is)
    (case k_law_due_now => k_is)
    (case a_law_greatest => k_is)
    (case l_law_greatest => k_is)
    (case c_law_greatest => k_is)
    (case k_law_greatest => k_is)
    (case a_law_same => k_is)
    (case l_law_same => k_is)
    (case c_law_same => k_is)
    (case k_law_same => k_is)
    (case a_law_is_of => k_is)
    (case l_law_is_of => k_is)
    (case c_law_is_of => k_is)
    (case k_law_is_of => k_is)
    (case a_law_moved => k_is)
    (case l_law_moved => k_is)
    (case c_law_moved => k_is)
    (case k_law_moved => k_is)
    (case a_law_throw => k_is)
    (case l_law_throw => k_is)
    (case c_law_throw => k_is)
    (case k_law_throw => k_is)
    (case a_law_places => k_is)
    (case l_law_places => k_is)
    (case c_law_places => k_is)
    (case k_law_places => k_is)
    (case a_law_risen => k_is)
    (case l_law_risen => k_is)
    (case c_law_risen => k_is)
    (case k_law_risen => k_is)
    (case a_law_start => k_is)
    (case l_law_start => k_is)
    (case c_law_start => k_is)
    (case k_law_start => k_is)
    (case a_law => k_is)
    (case l_law => k_is)
    (case c_law => k_is)
    (case k_law => k_is)
    (case a_Tand => k_is)
    (case l_Tand => k_is)
    (case c_Tand => k_is)
    (case k_Tand => k_is)
    (case w_Tand => k_is)
    (case a_Tcontains => k_is)
    (case l_Tcontains => k_is)
    (case c_Tcontains => k_is)
    (case k_Tcontains => k_is)
    (case w_Tcontains => k_is)
    (case a_Trshift => k_is)
    (case l_Trshift => k_is)
    (case c_Trshift => k_is)
    (case k_Trshift => k_is)
    (case w_Trshift => k_is)
    (case a_Tleast => k_is)
    (case l_Tleast => k_is)
    (case c_Tleast => k_is)
    (case k_Tleast => k_is)
    (case w_Tleast => k_is)
    (case a_Tmoved => k_is)
    (case l_Tmoved => k_is)
    (case c_Tmoved => k_is)
    (case k_Tmoved => k_is)
    (case w_Tmoved => k_is)
    (case a_Trisen => k_is)
    (case l_Trisen => k_is)
    (case c_Trisen => k_is)
    (case k_Trisen => k_is)
    (case w_Trisen => k_is)
    (case a_Tcut => k_is)
    (case l_Tcut => k_is)
    (case c_Tcut => k_is)
    (case k_Tcut => k_is)
    (case w_Tcut => k_is)
    (case a_Tinit => k_is)
    (case l_Tinit => k_is)
    (case c_Tinit => k_is)
    (case k_Tinit => k_is)
    (case w_Tinit => k_is)
    (case n_czero => k_is)
    (case r_czero => k_is)
    (case l_czero => k_is)
    (case c_czero => k_is)
    (case k_czero => k_is)
    (case i_czero => kernel_rfl)
    (case m_rd => kernel_rfl)
    (case m_sg => k_is)
    (case n_prows => k_is)
    (case r_prows => k_is)
    (case m_prows => kernel_rfl)
    (case l_prows => k_is)
    (case c_prows => k_is)
    (case k_prows => k_is)
    (case a_iInvalidNumber => k_is)
    (case l_iInvalidNumber => k_is)
    (case c_iInvalidNumber => k_is)
    (case k_iInvalidNumber => k_is)
    (case w_InvalidNumber => k_is)
    (case v_InvalidNumber => k_is)
    (case x_InvalidNumber => k_is)
    (case z_RuntimeError => k_is)
    (case a_iUnknownIndex => k_is)
    (case l_iUnknownIndex => k_is)
    (case c_iUnknownIndex => k_is)
    (case k_iUnknownIndex => k_is)
    (case w_UnknownIndex => k_is)
    (case v_UnknownIndex => k_is)
    (case x_UnknownIndex => k_is)
    (case z_IndexError => k_is)
    (case z_abs => k_is)
    (case z_all => k_is)
    (case z_any => k_is)
    (case z_bool => k_is)
    (case z_enumerate => k_is)
    (case z_int => k_is)
    (case z_isinstance => k_is)
    (case z_len => k_is)
    (case z_list => k_is)
    (case z_max => k_is)
    (case z_min => k_is)
    (case z_range => k_is)
    (case z_set => k_is)
    (case z_sorted => k_is)
    (case z_tuple => k_is)
    (case z_zip => k_is)
    (case n_MAX_VALUE => k_is)
    (case n_MOST_CLOCKS => k_is)
    (case ck => kernel_rfl)
    (case m_InvalidBounds => kernel_rfl)
    (case m_InvalidOperation => kernel_rfl)
    (case m_InvalidNumber => kernel_rfl)
    (case m_UnknownIndex => kernel_rfl)
    (case m_own => kernel_rfl)
    (case m_and => kernel_rfl)
    (case m_rshift => kernel_rfl)
    (case m_io => kernel_rfl)
    (case m_mk => kernel_rfl)
    (case m_kp => kernel_rfl)
    (case m_nown_rows => k_is)
#print axioms PySem.Challenge.cw_pushalike_k25_whole_histories_of_bounds_holds

