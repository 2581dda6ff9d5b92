import PyProof.Rows.All
import Wide.All
import OpenK.AllK
import Wide.FinOn
import HandS.ForExc
import HandS.Comp
import HandS.Wide
import HandS.TupAny
import HandS.More
import HandS.DeepEq
import HandS.TupMul
import HandS.Style
import HandS.Star
import HandS.RaiseMore
import HandS.IsInst
import HandS.Defaults
import HandS.TryOnly
import HandS.Flow
import HandS.Zip
import HandS.Iter
import HandS.Property
import OpenK.KMeth
import HandS.SortRule
import HandS.SortInts
import KE.GoesNew
import HandS.Strs
import HandS.SetFor
import HandS.HeadNt
import HandS.ClsMeth
import KE.KExcIs
import HandS.Conv
import HandS.Codes
import HandS.Head0
import HandS.Head1
import HandS.Head2
import HandS.HeadEnd
import HandS.HeadHook1
import HandS.HeadHook2
import HandS.Words
import HandS.Ends
import KE.KStateDown
import PyProof.ReprLen
import PyProof.StrLawsRepr
import PyProof.Rows.ReprOcc
import PySem.Challenge.RW_dearcurves_k81_whole_numbers_between
set_option Elab.async false
set_option linter.all false
set_option maxRecDepth 100000
set_option maxHeartbeats 8000000
/-! FwA: pure data, states, results; how data lie in the abstract heap. -/
namespace FW
open PySem PySem.Spec PyProof.Rows L2

inductive D where
  | non | bl (b : Bool) | int (i : Int) | str (x : Str)
  | tup (l : List D) | lst (l : List D) | scr (l : List D) | obj (c : Nat) (l : List D) | ref (n : Nat) | dic (l : List (Str × Int))
  deriving Inhabited

inductive Slot where
  | non | val (d : D) | own (l : List D)
abbrev Env := List Slot
inductive Cell where
  | lst (l : List D) | ins (c : Nat) (fs : List (Str × D))
abbrev Store := List Cell
structure State where
  env : FW.Env
  sto : Store
inductive R (α : Type) where
  | ok (a : α) (s : State) | exc (e : D) (s : State) | bad
def R.bind {α β : Type} (r : R α) (f : α → State → R β) : R β := match r with
  | .ok a s => f a s
  | .exc e s => .exc e s
  | .bad => .bad
@[simp] theorem R.bind_ok {α β : Type} (a : α) (s : State) (f : α → State → R β) : (R.ok a s).bind f = f a s := rfl
@[simp] theorem R.bind_exc {α β : Type} (e : D) (s : State) (f : α → State → R β) : (R.exc e s : R α).bind f = .exc e s := rfl
@[simp] theorem R.bind_bad {α β : Type} (f : α → State → R β) : (R.bad : R α).bind f = .bad := rfl
def R.lift {α : Type} (o : Option α) (s : State) : R α := match o with
  | some a => .ok a s
  | none => .bad
@[simp] theorem R.lift_some {α : Type} (a : α) (s : State) : R.lift (some a) s = .ok a s := rfl
@[simp] theorem R.lift_none {α : Type} (s : State) : R.lift (none : Option α) s = .bad := rfl

/-! ### how data lie -/
structure Txt where
  K : PySem.W.Frag
  cA : Nat → Addr
  fl : Nat → List Str
  eF : Nat → Str
/-- a small dict of ints by texts -/
def dicKV (l : List (Str × Int)) : List (Key × V) := l.map fun p => (Sum.inr p.1, V.int p.2)
structure Wd where
  HF : Hp
  m : List Addr
structure Wd.le (w w' : Wd) : Prop where
  hf : ∀ a o, w.HF a = some o → w'.HF a = some o
  m : w.m <+: w'.m
theorem Wd.le.refl (w : Wd) : w.le w := ⟨fun _ _ h => h, List.prefix_refl _⟩
theorem Wd.le.trans {a b c : Wd} (h : a.le b) (h' : b.le c) : a.le c := ⟨fun x o q => h'.hf x o (h.hf x o q), h.m.trans h'.m⟩

mutual
def RepV (T : Txt) (w : Wd) : D → V → Prop
  | .non, v => v = .non
  | .bl b, v => v = .bl b
  | .int i, v => v = .int i
  | .str x, v => v = .str x
  | .tup l, v => ∃ a vs, v = .ref a ∧ SqT T.K w.HF a vs ∧ RepVs T w l vs
  | .lst l, v => ∃ a vs, v = .ref a ∧ w.HF a = some (.lst vs) ∧ RepVs T w l vs
  | .scr l, v => ∃ a vs, v = .ref a ∧ SqL T.K w.HF a vs ∧ RepVs T w l vs
  | .obj c l, v => ∃ a dx fs, v = .ref a ∧ w.HF a = some (.ins (T.cA c) dx fs) ∧ fs.map (·.1) = T.fl c ∧ RepVs T w l (fs.map (·.2))
  | .ref n, v => ∃ a, v = .ref a ∧ w.m[n]? = some a
  | .dic l, v => ∃ a, v = .ref a ∧ w.HF a = some (.dK (dicKV l))
def RepVs (T : Txt) (w : Wd) : List D → List V → Prop
  | [], vs => vs = []
  | d :: ds, vs => ∃ v r, vs = v :: r ∧ RepV T w d v ∧ RepVs T w ds r
end

theorem SqL.up {K : PySem.W.Frag} {H H' : Hp} {a : Addr} {xs : List V} (h : ∀ a o, H a = some o → H' a = some o) (q : SqL K H a xs) : SqL K H' a xs := by
  rcases q with (q | ⟨o, q⟩) | q
  · exact .inl (.inl (h _ _ q))
  · exact .inl (.inr ⟨o, h _ _ q⟩)
  · exact .inr q
theorem SqT.up {K : PySem.W.Frag} {H H' : Hp} {a : Addr} {xs : List V} (h : ∀ a o, H a = some o → H' a = some o) (q : SqT K H a xs) : SqT K H' a xs := by
  rcases q with (q | ⟨o, q⟩) | q
  · exact .inl (.inl (h _ _ q))
  · exact .inl (.inr ⟨o, h _ _ q⟩)
  · exact .inr q
mutual
theorem RepV.up {T : Txt} {w w' : Wd} (h : w.le w') : ∀ (d : D) (v : V), RepV T w d v → RepV T w' d v
  | .non, _, q => by simpa [RepV] using q
  | .bl _, _, q => by simpa [RepV] using q
  | .int _, _, q => by simpa [RepV] using q
  | .str _, _, q => by simpa [RepV] using q
  | .tup l, _, q => by
    obtain ⟨a, vs, e, s, r⟩ := (by simpa only [RepV] using q)
    simp only [RepV]
    exact ⟨a, vs, e, SqT.up h.hf s, RepVs.up h l vs r⟩
  | .lst l, _, q => by
    obtain ⟨a, vs, e, s, r⟩ := (by simpa only [RepV] using q)
    simp only [RepV]
    exact ⟨a, vs, e, h.hf _ _ s, RepVs.up h l vs r⟩
  | .scr l, _, q => by
    obtain ⟨a, vs, e, s, r⟩ := (by simpa only [RepV] using q)
    simp only [RepV]
    exact ⟨a, vs, e, SqL.up h.hf s, RepVs.up h l vs r⟩
  | .obj c l, _, q => by
    obtain ⟨a, dx, fs, e, s, n, r⟩ := (by simpa only [RepV] using q)
    simp only [RepV]
    exact ⟨a, dx, fs, e, h.hf _ _ s, n, RepVs.up h l _ r⟩
  | .ref n, _, q => by
    obtain ⟨a, e, s⟩ := (by simpa only [RepV] using q)
    simp only [RepV]
    obtain ⟨t, ht⟩ := h.m
    refine ⟨a, e, ?_⟩
    rw [← ht, List.getElem?_append_left (List.getElem?_eq_some_iff.mp s).1]
    exact s
  | .dic l, _, q => by
    obtain ⟨a, e, s⟩ := (by simpa only [RepV] using q)
    simp only [RepV]
    exact ⟨a, e, h.hf _ _ s⟩
theorem RepVs.up {T : Txt} {w w' : Wd} (h : w.le w') : ∀ (ds : List D) (vs : List V), RepVs T w ds vs → RepVs T w' ds vs
  | [], _, q => by simpa [RepVs] using q
  | d :: ds, _, q => by
    obtain ⟨v, r, e, a, b⟩ := (by simpa only [RepVs] using q)
    simp only [RepVs]
    exact ⟨v, r, e, RepV.up h d v a, RepVs.up h ds r b⟩
end
theorem RepVs.nil_eq {T : Txt} {w : Wd} {vs : List V} (h : RepVs T w [] vs) : vs = [] := by simpa only [RepVs] using h
theorem RepVs.nil {T : Txt} {w : Wd} : RepVs T w [] [] := by simp [RepVs]
theorem RepVs.cons {T : Txt} {w : Wd} {d : D} {ds : List D} {v : V} {vs : List V} (h : RepV T w d v) (r : RepVs T w ds vs) : RepVs T w (d :: ds) (v :: vs) := by
  simp only [RepVs]; exact ⟨v, vs, rfl, h, r⟩
theorem RepVs.uncons {T : Txt} {w : Wd} {d : D} {ds : List D} {vs : List V} (h : RepVs T w (d :: ds) vs) : ∃ v r, vs = v :: r ∧ RepV T w d v ∧ RepVs T w ds r := by
  simpa only [RepVs] using h
theorem RepVs.length {T : Txt} {w : Wd} : ∀ {ds : List D} {vs : List V}, RepVs T w ds vs → ds.length = vs.length
  | [], _, h => by
    rw [h.nil_eq]; rfl
  | d :: ds, _, h => by
    obtain ⟨v, r, rfl, _, h2⟩ := h.uncons
    simp [RepVs.length h2]
theorem RepVs.get {T : Txt} {w : Wd} : ∀ {ds : List D} {vs : List V} {i : Nat} {d : D}, RepVs T w ds vs → ds[i]? = some d → ∃ v, vs[i]? = some v ∧ RepV T w d v
  | [], _, _, _, _, e => by simp at e
  | d :: ds, _, 0, _, h, e => by
    obtain ⟨v, r, rfl, h1, _⟩ := h.uncons
    simp at e; subst e
    exact ⟨v, by simp, h1⟩
  | d :: ds, _, i + 1, _, h, e => by
    obtain ⟨v, r, rfl, _, h2⟩ := h.uncons
    obtain ⟨u, q1, q2⟩ := RepVs.get h2 (i := i) (by simpa using e)
    exact ⟨u, by simpa using q1, q2⟩
theorem RepVs.append {T : Txt} {w : Wd} : ∀ {ds es : List D} {vs us : List V}, RepVs T w ds vs → RepVs T w es us → RepVs T w (ds ++ es) (vs ++ us)
  | [], _, _, _, h, h' => by
    rw [h.nil_eq]; exact h'
  | d :: ds, _, _, _, h, h' => by
    obtain ⟨v, r, rfl, h1, h2⟩ := h.uncons
    exact .cons h1 (RepVs.append h2 h')
theorem RepVs.take {T : Txt} {w : Wd} : ∀ {ds : List D} {vs : List V} (n : Nat), RepVs T w ds vs → RepVs T w (ds.take n) (vs.take n)
  | _, _, 0, _ => by simp [RepVs]
  | [], _, n + 1, h => by
    rw [h.nil_eq]; simp [RepVs]
  | d :: ds, _, n + 1, h => by
    obtain ⟨v, r, rfl, h1, h2⟩ := h.uncons
    exact .cons h1 (RepVs.take n h2)
theorem RepVs.drop {T : Txt} {w : Wd} : ∀ {ds : List D} {vs : List V} (n : Nat), RepVs T w ds vs → RepVs T w (ds.drop n) (vs.drop n)
  | _, _, 0, h => h
  | [], _, n + 1, h => by
    rw [h.nil_eq]; simp [RepVs]
  | d :: ds, _, n + 1, h => by
    obtain ⟨v, r, rfl, h1, h2⟩ := h.uncons
    exact RepVs.drop n h2
theorem RepVs.set {T : Txt} {w : Wd} {d : D} {v : V} (q : RepV T w d v) : ∀ {ds : List D} {vs : List V} (n : Nat), RepVs T w ds vs → RepVs T w (ds.set n d) (vs.set n v)
  | [], _, n, h => by
    rw [h.nil_eq]; simp [RepVs]
  | a :: ds, _, 0, h => by
    obtain ⟨v, r, rfl, h1, h2⟩ := h.uncons
    exact .cons q h2
  | a :: ds, _, n + 1, h => by
    obtain ⟨v, r, rfl, h1, h2⟩ := h.uncons
    exact .cons h1 (RepVs.set q n h2)
theorem RepVs.eraseIdx {T : Txt} {w : Wd} : ∀ {ds : List D} {vs : List V} (n : Nat), RepVs T w ds vs → RepVs T w (ds.eraseIdx n) (vs.eraseIdx n)
  | [], _, n, h => by
    rw [h.nil_eq]; simp [RepVs]
  | a :: ds, _, 0, h => by
    obtain ⟨v, r, rfl, h1, h2⟩ := h.uncons
    exact h2
  | a :: ds, _, n + 1, h => by
    obtain ⟨v, r, rfl, h1, h2⟩ := h.uncons
    exact .cons h1 (RepVs.eraseIdx n h2)
theorem RepVs.reverse {T : Txt} {w : Wd} : ∀ {ds : List D} {vs : List V}, RepVs T w ds vs → RepVs T w ds.reverse vs.reverse
  | [], _, h => by
    rw [h.nil_eq]; simp [RepVs]
  | d :: ds, _, h => by
    obtain ⟨v, r, rfl, h1, h2⟩ := h.uncons
    rw [List.reverse_cons, List.reverse_cons]
    exact (RepVs.reverse h2).append (.cons h1 .nil)
theorem RepVs.flatRep {T : Txt} {w : Wd} {ds : List D} {vs : List V} (h : RepVs T w ds vs) : ∀ n : Nat, RepVs T w (List.replicate n ds).flatten (List.replicate n vs).flatten
  | 0 => by simp [RepVs]
  | n + 1 => by
    rw [List.replicate_succ, List.replicate_succ, List.flatten_cons, List.flatten_cons]
    exact h.append (h.flatRep n)

def RepFs (T : Txt) (w : Wd) : List (Str × D) → List (Str × V) → Prop
  | [], fv => fv = []
  | (f, d) :: fs, fv => ∃ v r, fv = (f, v) :: r ∧ RepV T w d v ∧ RepFs T w fs r
theorem RepFs.up {T : Txt} {w w' : Wd} (h : w.le w') : ∀ (fs : List (Str × D)) (fv : List (Str × V)), RepFs T w fs fv → RepFs T w' fs fv
  | [], _, q => q
  | (f, d) :: fs, _, ⟨v, r, e, a, b⟩ => ⟨v, r, e, RepV.up h d v a, RepFs.up h fs r b⟩

def CellR (T : Txt) (w : Wd) (H : Hp) (a : Addr) : Cell → Prop
  | .lst ds => ∃ vs, H a = some (.lst vs) ∧ RepVs T w ds vs
  | .ins c fs => ∃ dx fv, H a = some (.ins (T.cA c) dx fv) ∧ RepFs T w fs fv
theorem CellR.up {T : Txt} {w w' : Wd} {H H' : Hp} {a : Addr} {c : Cell} (h : w.le w') (e : H' a = H a) (q : CellR T w H a c) : CellR T w' H' a c := by
  cases c with
  | lst ds => obtain ⟨vs, h1, h2⟩ := q; exact ⟨vs, e.trans h1, h2.up h⟩
  | ins c fs => obtain ⟨dx, fv, h1, h2⟩ := q; exact ⟨dx, fv, e.trans h1, h2.up h⟩
theorem CellR.some {T : Txt} {w : Wd} {H : Hp} {a : Addr} {c : Cell} (q : CellR T w H a c) : H a ≠ none := by
  cases c with
  | lst ds => obtain ⟨vs, h1, h2⟩ := q; rw [h1]; simp
  | ins c fs => obtain ⟨dx, fv, h1, h2⟩ := q; rw [h1]; simp

/-- the heap and the store -/
structure RC (T : Txt) (w : Wd) (S : Store) (H : Hp) : Prop where
  hf : ∀ a o, w.HF a = some o → H a = some o
  nd : w.m.Nodup
  len : w.m.length = S.length
  cell : ∀ (n : Nat) (a : Addr), w.m[n]? = some a → w.HF a = none ∧ ∃ c, S[n]? = some c ∧ CellR T w H a c
/-- what stood ahead of a def's entry -/
structure Fra (w : Wd) (H : Hp) (w' : Wd) (H' : Hp) : Prop where
  le : w.le w'
  kp : ∀ a o, H a = some o → a ∉ w.m → H' a = some o
  ff : ∀ a, H a ≠ none → w.HF a = none → w'.HF a = none
  fm : ∀ a, H a ≠ none → a ∈ w'.m → a ∈ w.m
theorem Fra.refl (w : Wd) (H : Hp) : Fra w H w H := ⟨.refl w, fun _ _ h _ => h, fun _ _ h => h, fun _ _ h => h⟩

structure Ent where
  w : Wd
  H : Hp
/-- a slot -/
def SlotR (T : Txt) (G : Ent) (w : Wd) (H : Hp) (o : Option V) : Slot → Prop
  | .non => True
  | .val d => ∃ v, o = some v ∧ RepV T w d v
  | .own ds => ∃ a vs, o = some (.ref a) ∧ H a = some (.lst vs) ∧ RepVs T w ds vs ∧ w.HF a = none ∧ a ∉ w.m ∧ G.H a = none
def Slot.isOwn : Slot → Bool
  | .own _ => true
  | _ => false
structure RS (T : Txt) (G : Ent) (w : Wd) (st : State) (σ : L2.St) (H : Hp) : Prop where
  rc : RC T w st.sto H
  fra : Fra G.w G.H w H
  elen : st.env.length = σ.length
  slot : ∀ (i : Nat) (s : Slot), st.env[i]? = some s → ∃ o, σ[i]? = some o ∧ SlotR T G w H o s
  dist : ∀ (i j : Nat) (a : Addr) (s s' : Slot), st.env[i]? = some s → s.isOwn = true → σ[i]? = some (some (V.ref a)) → st.env[j]? = some s' → s'.isOwn = true → σ[j]? = some (some (V.ref a)) → i = j
end FW

/-! FwB: steps of the relation. -/
namespace FW
open PySem PySem.Spec PyProof.Rows L2
section
variable {T : Txt} {G : Ent} {w w' : Wd} {st : State} {σ : L2.St} {H H' : Hp}

theorem RC.mem {S : Store} (r : RC T w S H) {a : Addr} (h : a ∈ w.m) : w.HF a = none ∧ H a ≠ none := by
  obtain ⟨n, e⟩ := List.getElem?_of_mem h
  obtain ⟨h1, c, _, h3⟩ := r.cell n a e
  exact ⟨h1, h3.some⟩
theorem RS.there (r : RS T G w st σ H) {a : Addr} (h : G.H a ≠ none) : H a ≠ none := by
  by_cases q : a ∈ G.w.m
  · obtain ⟨t, ht⟩ := r.fra.le.m
    exact (r.rc.mem (by rw [← ht]; exact List.mem_append_left _ q)).2
  · cases e : G.H a with
    | none => exact absurd e h
    | some o => rw [r.fra.kp a o e q]; simp
theorem RS.absent (r : RS T G w st σ H) {a : Addr} (h : H a = none) : G.H a = none := by
  cases e : G.H a with
  | none => rfl
  | some o => exact absurd h (r.there (by rw [e]; simp))
/-- the heap grows, more is frozen -/
theorem RS.grow (r : RS T G w st σ H) (le : w.le w') (hm : w'.m = w.m) (k : ∀ a o, H a = some o → H' a = some o) (f : ∀ a o, w'.HF a = some o → H' a = some o) (n : ∀ a, H a ≠ none → w.HF a = none → w'.HF a = none) : RS T G w' st σ H' := by
  refine ⟨⟨f, hm ▸ r.rc.nd, by rw [hm]; exact r.rc.len, fun i a e => ?_⟩, ⟨r.fra.le.trans le, fun a o e q => k a o (r.fra.kp a o e q), fun a e q => n a (r.there e) (r.fra.ff a e q), fun a e q => r.fra.fm a e (hm ▸ q)⟩, r.elen, fun i s e => ?_, r.dist⟩
  · rw [hm] at e
    obtain ⟨h1, c, h2, h3⟩ := r.rc.cell i a e
    have hs := h3.some
    refine ⟨n a hs h1, c, h2, h3.up le ?_⟩
    cases q : H a with
    | none => exact absurd q hs
    | some o => exact k a o q
  · obtain ⟨o, e1, e2⟩ := r.slot i s e
    refine ⟨o, e1, ?_⟩
    cases s with
    | non => trivial
    | val d => obtain ⟨v, q1, q2⟩ := e2; exact ⟨v, q1, q2.up le⟩
    | own ds =>
      obtain ⟨a, vs, q1, q2, q3, q4, q5, q6⟩ := e2
      exact ⟨a, vs, q1, k _ _ q2, q3.up le, n a (by rw [q2]; simp) q4, by rw [hm]; exact q5, q6⟩
def Wd.add (w : Wd) (p : Addr) (o : HO) : Wd := ⟨upd w.HF p o, w.m⟩
theorem Wd.le_add {p : Addr} {o : HO} (h : w.HF p = none) : w.le (w.add p o) := ⟨fun a u e => by
  show upd w.HF p o a = _
  rw [upd_ne (ne_of_none e h)]; exact e, List.prefix_refl _⟩
theorem RC.hfn {S : Store} (r : RC T w S H) {p : Addr} (h : H p = none) : w.HF p = none := by
  cases e : w.HF p with
  | none => rfl
  | some o => rw [r.hf p o e] at h; cases h
theorem upd_keep {H : Hp} {p : Addr} {o : HO} (h : H p = none) : ∀ a u, H a = some u → upd H p o a = some u := fun a u e => by rw [upd_ne (ne_of_none e h)]; exact e
/-- a new frozen object -/
theorem RS.newF (r : RS T G w st σ H) {p : Addr} (h : H p = none) (o : HO) : RS T G (w.add p o) st σ (upd H p o) :=
  r.grow (Wd.le_add (r.rc.hfn h)) rfl (upd_keep h) (fun a u e => by
    by_cases q : a = p
    · subst q
      have e : upd w.HF a o a = some u := e
      rw [upd_same] at e ⊢; exact e
    · have e : upd w.HF p o a = some u := e
      rw [upd_ne q] at e ⊢
      exact r.rc.hf _ _ e) fun a e q => by
    have ne : a ≠ p := fun z => by subst z; exact e h
    show upd w.HF p o a = none
    rw [upd_ne ne]; exact q
/-- a new object, not frozen -/
theorem RS.newU (r : RS T G w st σ H) {p : Addr} (h : H p = none) (o : HO) : RS T G w st σ (upd H p o) :=
  r.grow (.refl w) rfl (upd_keep h) (fun a u e => upd_keep h _ _ (r.rc.hf _ _ e)) fun _ _ q => q
theorem RepV.newT {p : Addr} {ds : List D} {vs : List V} (h : w.HF p = none) (q : RepVs T w ds vs) : RepV T (w.add p (.tup vs)) (.tup ds) (.ref p) := by
  simp only [RepV]
  exact ⟨p, vs, rfl, .inl (.inl upd_same), q.up (Wd.le_add h)⟩
theorem RepV.newL {p : Addr} {ds : List D} {vs : List V} (h : w.HF p = none) (q : RepVs T w ds vs) : RepV T (w.add p (.lst vs)) (.lst ds) (.ref p) := by
  simp only [RepV]
  exact ⟨p, vs, rfl, upd_same, q.up (Wd.le_add h)⟩

/-- a new list, nobody's yet -/
structure Fresh (T : Txt) (G : Ent) (w : Wd) (st : State) (σ : L2.St) (H : Hp) (a : Addr) (ds : List D) : Prop where
  at_ : ∃ vs, H a = some (.lst vs) ∧ RepVs T w ds vs
  hf : w.HF a = none
  m : a ∉ w.m
  g : G.H a = none
  own : ∀ (j : Nat) (s : Slot), st.env[j]? = some s → s.isOwn = true → σ[j]? ≠ some (some (V.ref a))
theorem RS.newL (r : RS T G w st σ H) {p : Addr} {ds : List D} {vs : List V} (h : H p = none) (q : RepVs T w ds vs) : Fresh T G w st σ (upd H p (.lst vs)) p ds where
  at_ := ⟨vs, upd_same, q⟩
  hf := r.rc.hfn h
  m := fun z => (r.rc.mem z).2 h
  g := r.absent h
  own := fun j s e o z => by
    obtain ⟨u, e1, e2⟩ := r.slot j s e
    cases s with
    | own ds =>
      obtain ⟨a, vs, q1, q2, _⟩ := e2
      rw [z] at e1; cases e1
      cases q1
      rw [h] at q2; cases q2
    | non => cases o
    | val d => cases o
/-- it is frozen -/
theorem RS.freezeL (r : RS T G w st σ H) {a : Addr} {ds : List D} (f : Fresh T G w st σ H a ds) : ∃ w', w.le w' ∧ RS T G w' st σ H ∧ RepV T w' (.lst ds) (.ref a) := by
  obtain ⟨vs, e, q⟩ := f.at_
  refine ⟨w.add a (.lst vs), Wd.le_add f.hf, ?_, RepV.newL f.hf q⟩
  have nm : ∀ {b : Addr}, b ∈ w.m → b ≠ a := fun hb z => f.m (z ▸ hb)
  refine ⟨⟨fun b o z => ?_, r.rc.nd, r.rc.len, fun i b z => ?_⟩, ⟨r.fra.le.trans (Wd.le_add f.hf), r.fra.kp, fun b z y => ?_, r.fra.fm⟩, r.elen, fun i s z => ?_, r.dist⟩
  · have z : upd w.HF a (.lst vs) b = some o := z
    by_cases y : b = a
    · subst y; rw [upd_same] at z; rw [e]; exact z
    · rw [upd_ne y] at z; exact r.rc.hf _ _ z
  · obtain ⟨h1, c, h2, h3⟩ := r.rc.cell i b z
    refine ⟨?_, c, h2, h3.up (Wd.le_add f.hf) rfl⟩
    show upd w.HF a _ b = none
    rw [upd_ne (nm (List.mem_of_getElem? z))]; exact h1
  · show upd w.HF a _ b = none
    rw [upd_ne (fun x => by subst x; exact z f.g)]
    exact r.fra.ff b z y
  · obtain ⟨o, e1, e2⟩ := r.slot i s z
    refine ⟨o, e1, ?_⟩
    cases s with
    | non => trivial
    | val d => obtain ⟨v, q1, q2⟩ := e2; exact ⟨v, q1, q2.up (Wd.le_add f.hf)⟩
    | own ds' =>
      obtain ⟨b, us, q1, q2, q3, q4, q5, q6⟩ := e2
      have ne : b ≠ a := fun x => by
        subst x
        exact f.own i _ z rfl (by rw [e1, q1])
      refine ⟨b, us, q1, q2, q3.up (Wd.le_add f.hf), ?_, q5, q6⟩
      show upd w.HF a _ b = none
      rw [upd_ne ne]; exact q4
theorem set_env {E : FW.Env} {i : Nat} {s : Slot} {j : Nat} {t : Slot} (h : (E.set i s)[j]? = some t) : (i = j ∧ s = t ∧ j < E.length) ∨ (i ≠ j ∧ E[j]? = some t) := by
  by_cases e : i = j
  · subst e
    by_cases l : i < E.length
    · rw [List.getElem?_set_self l] at h; exact .inl ⟨rfl, Option.some.inj h, l⟩
    · rw [List.getElem?_eq_none (by simpa using l)] at h; cases h
  · rw [List.getElem?_set_ne e] at h; exact .inr ⟨e, h⟩
theorem RS.setSlot (r : RS T G w st σ H) {i : Nat} {v : V} {s : Slot} (hs : SlotR T G w H (some v) s)
    (ho : s.isOwn = true → ∀ (a : Addr), v = .ref a → ∀ (j : Nat) (t : Slot), st.env[j]? = some t → t.isOwn = true → σ[j]? ≠ some (some (V.ref a))) : RS T G w ⟨st.env.set i s, st.sto⟩ (σ.set i (some v)) H := by
  refine ⟨r.rc, r.fra, by simp [r.elen], fun j t e => ?_, fun j k a t t' e1 o1 e2 e3 o2 e4 => ?_⟩
  · rcases set_env e with ⟨rfl, rfl, l⟩ | ⟨ne, e⟩
    · exact ⟨some v, by rw [List.getElem?_set_self (by rw [← r.elen]; exact l)], hs⟩
    · obtain ⟨o, q1, q2⟩ := r.slot j t e
      exact ⟨o, by rw [List.getElem?_set_ne ne]; exact q1, q2⟩
  · have get : ∀ {j : Nat} {x : Option V}, (σ.set i (some v))[j]? = some x → i ≠ j → σ[j]? = some x := fun h n => by rwa [List.getElem?_set_ne n] at h
    have self : ∀ {x : Option V}, i < st.env.length → (σ.set i (some v))[i]? = some x → x = some v := fun l h => by
      rw [List.getElem?_set_self (by rw [← r.elen]; exact l)] at h; exact (Option.some.inj h).symm
    rcases set_env e1 with ⟨q1, q2, l⟩ | ⟨ne, q⟩ <;> rcases set_env e3 with ⟨p1, p2, l'⟩ | ⟨ne', q'⟩
    · exact q1.symm.trans p1
    · subst q1 q2
      exact absurd (get e4 ne') (ho o1 a (Option.some.inj (self l e2)).symm k t' q' o2)
    · subst p1 p2
      exact absurd (get e2 ne) (ho o2 a (Option.some.inj (self l' e4)).symm j t q o1)
    · exact r.dist j k a t t' q o1 (get e2 ne) q' o2 (get e4 ne')
theorem RS.setVal (r : RS T G w st σ H) {i : Nat} {d : D} {v : V} (h : RepV T w d v) : RS T G w ⟨st.env.set i (.val d), st.sto⟩ (σ.set i (some v)) H :=
  r.setSlot ⟨v, rfl, h⟩ fun z => by cases z
theorem RS.setOwn (r : RS T G w st σ H) {i : Nat} {a : Addr} {ds : List D} (f : Fresh T G w st σ H a ds) : RS T G w ⟨st.env.set i (.own ds), st.sto⟩ (σ.set i (some (.ref a))) H := by
  obtain ⟨vs, e, q⟩ := f.at_
  exact r.setSlot ⟨a, vs, rfl, e, q, f.hf, f.m, f.g⟩ fun _ b z => by cases z; exact f.own
/-- a slot's own list -/
theorem RS.ownAt (r : RS T G w st σ H) {i : Nat} {ds : List D} (h : st.env[i]? = some (.own ds)) : ∃ a vs, σ[i]? = some (some (.ref a)) ∧ H a = some (.lst vs) ∧ RepVs T w ds vs ∧ w.HF a = none ∧ a ∉ w.m ∧ G.H a = none := by
  obtain ⟨o, e, a, vs, rfl, q⟩ := r.slot i _ h
  exact ⟨a, vs, e, q⟩
theorem RS.valAt (r : RS T G w st σ H) {i : Nat} {d : D} (h : st.env[i]? = some (.val d)) : ∃ v, σ[i]? = some (some v) ∧ RepV T w d v := by
  obtain ⟨o, e, v, rfl, q⟩ := r.slot i _ h
  exact ⟨v, e, q⟩
/-- it is frozen: the slot holds a value from now on -/
theorem RS.freezeS (r : RS T G w st σ H) {i : Nat} {ds : List D} (h : st.env[i]? = some (.own ds)) : ∃ w' v, w.le w' ∧ σ[i]? = some (some v) ∧ RS T G w' ⟨st.env.set i (.val (.lst ds)), st.sto⟩ σ H ∧ RepV T w' (.lst ds) v := by
  obtain ⟨a, vs, e, h1, h2, h3, h4, h5⟩ := r.ownAt h
  have r1 : RS T G w ⟨st.env.set i .non, st.sto⟩ (σ.set i (some (.ref a))) H := r.setSlot trivial fun z => by cases z
  have eσ : σ.set i (some (V.ref a)) = σ := List.ext_getElem? fun j => by
    by_cases z : i = j
    · subst z; rw [List.getElem?_set_self (List.getElem?_eq_some_iff.mp e).1, e]
    · rw [List.getElem?_set_ne z]
  rw [eσ] at r1
  have f : Fresh T G w ⟨st.env.set i .non, st.sto⟩ σ H a ds := ⟨⟨vs, h1, h2⟩, h3, h4, h5, fun j s z o q => by
    rcases set_env z with ⟨_, rfl, _⟩ | ⟨ne, z⟩
    · cases o
    · exact ne (r.dist i j a _ s h rfl e z o q)⟩
  obtain ⟨w', le, r2, q⟩ := r1.freezeL f
  have r3 := r2.setVal (i := i) q
  rw [eσ] at r3
  refine ⟨w', _, le, e, ?_, q⟩
  simpa only [List.set_set] using r3
/-- the own list is written -/
theorem RS.wrOwn (r : RS T G w st σ H) {i : Nat} {a : Addr} {ds ds' : List D} {vs' : List V} (h : st.env[i]? = some (.own ds)) (e : σ[i]? = some (some (.ref a))) (q : RepVs T w ds' vs') :
    RS T G w ⟨st.env.set i (.own ds'), st.sto⟩ σ (upd H a (.lst vs')) := by
  obtain ⟨b, vs, e', h1, h2, h3, h4, h5⟩ := r.ownAt h
  rw [e] at e'; cases e'
  have oth : ∀ {b : Addr}, b ≠ a → upd H a (.lst vs') b = H b := fun n => upd_ne n
  refine ⟨⟨fun b o z => ?_, r.rc.nd, r.rc.len, fun n b z => ?_⟩, ⟨r.fra.le, fun b o z y => ?_, r.fra.ff, r.fra.fm⟩, by simp [r.elen], fun j s z => ?_, fun j k b s s' z1 o1 z2 z3 o2 z4 => ?_⟩
  · rw [oth (fun y => by rw [y, h3] at z; cases z)]; exact r.rc.hf _ _ z
  · obtain ⟨g1, c, g2, g3⟩ := r.rc.cell n b z
    exact ⟨g1, c, g2, g3.up (.refl w) (oth fun y => h4 (y ▸ List.mem_of_getElem? z))⟩
  · rw [oth (fun x => by rw [x, h5] at z; cases z)]; exact r.fra.kp b o z y
  · rcases set_env z with ⟨rfl, rfl, _⟩ | ⟨ne, z⟩
    · exact ⟨_, e, a, vs', rfl, upd_same, q, h3, h4, h5⟩
    · obtain ⟨o, e1, e2⟩ := r.slot j s z
      refine ⟨o, e1, ?_⟩
      cases s with
      | non => trivial
      | val d => exact e2
      | own ds2 =>
        obtain ⟨b, us, q1, q2, q3⟩ := e2
        refine ⟨b, us, q1, ?_, q3⟩
        rw [oth (fun x => by
          subst x
          exact ne (r.dist i j b _ _ h rfl e z rfl (by rw [e1, q1])))]
        exact q2
  · have old : ∀ {j : Nat} {s : Slot}, (st.env.set i (.own ds'))[j]? = some s → s.isOwn = true → ∃ s0, st.env[j]? = some s0 ∧ s0.isOwn = true := fun {j s} z o => by
      rcases set_env z with ⟨rfl, _, _⟩ | ⟨_, z⟩
      · exact ⟨_, h, rfl⟩
      · exact ⟨s, z, o⟩
    obtain ⟨t, y1, y2⟩ := old z1 o1
    obtain ⟨t', y3, y4⟩ := old z3 o2
    exact r.dist j k b t t' y1 y2 z2 y3 y4 z4
/-- a cell is written -/
theorem RS.wrCell (r : RS T G w st σ H) {n : Nat} {a : Addr} {c' : Cell} {o' : HO} (e : w.m[n]? = some a) (q : CellR T w (upd H a o') a c') :
    RS T G w ⟨st.env, st.sto.set n c'⟩ σ (upd H a o') := by
  have hm := List.mem_of_getElem? e
  obtain ⟨hf, hs⟩ := r.rc.mem hm
  have oth : ∀ {b : Addr}, b ≠ a → upd H a o' b = H b := fun n => upd_ne n
  refine ⟨⟨fun b o z => ?_, r.rc.nd, by simp [r.rc.len], fun i b z => ?_⟩, ⟨r.fra.le, fun b o z y => ?_, r.fra.ff, r.fra.fm⟩, r.elen, fun i s z => ?_, r.dist⟩
  · rw [oth (fun y => by rw [y, hf] at z; cases z)]; exact r.rc.hf _ _ z
  · obtain ⟨g1, c, g2, g3⟩ := r.rc.cell i b z
    by_cases y : b = a
    · subst y
      obtain ⟨l1, e1⟩ := List.getElem?_eq_some_iff.mp e
      obtain ⟨l2, e2⟩ := List.getElem?_eq_some_iff.mp z
      have : n = i := (List.getElem_inj r.rc.nd).mp (e1.trans e2.symm)
      subst this
      exact ⟨g1, c', by rw [List.getElem?_set_self (by rw [← r.rc.len]; exact l1)], q⟩
    · have ne : n ≠ i := fun x => by subst x; rw [e] at z; cases z; exact y rfl
      exact ⟨g1, c, by rw [List.getElem?_set_ne ne]; exact g2, g3.up (.refl w) (oth y)⟩
  · rw [oth (fun x => by
      subst x
      exact y (r.fra.fm _ (by rw [z]; simp) hm))]
    exact r.fra.kp b o z y
  · obtain ⟨o, e1, e2⟩ := r.slot i s z
    refine ⟨o, e1, ?_⟩
    cases s with
    | non => trivial
    | val d => exact e2
    | own ds =>
      obtain ⟨b, us, q1, q2, q3, q4, q5, q6⟩ := e2
      exact ⟨b, us, q1, (oth fun (x : b = a) => q5 (by rw [x]; exact hm)).trans q2, q3, q4, q5, q6⟩
/-- a new cell of the store -/
theorem RS.newCell (r : RS T G w st σ H) {a : Addr} {ds : List D} (f : Fresh T G w st σ H a ds) : ∃ w', w.le w' ∧ RS T G w' ⟨st.env, st.sto ++ [.lst ds]⟩ σ H ∧ RepV T w' (.ref st.sto.length) (.ref a) := by
  obtain ⟨vs, e, q⟩ := f.at_
  have le : w.le ⟨w.HF, w.m ++ [a]⟩ := ⟨fun _ _ h => h, List.prefix_append _ _⟩
  refine ⟨⟨w.HF, w.m ++ [a]⟩, le, ⟨⟨r.rc.hf, ?_, by simp [r.rc.len], fun i b z => ?_⟩, ⟨r.fra.le.trans le, r.fra.kp, r.fra.ff, fun b z y => ?_⟩, r.elen, fun i s z => ?_, r.dist⟩, ?_⟩
  · exact List.nodup_append.mpr ⟨r.rc.nd, List.nodup_cons.mpr ⟨by simp, List.nodup_nil⟩, fun x hx y hy z => by
      have : y = a := by simpa using hy
      subst this z; exact f.m hx⟩
  · have z : (w.m ++ [a])[i]? = some b := z
    by_cases l : i < w.m.length
    · rw [List.getElem?_append_left l] at z
      obtain ⟨g1, c, g2, g3⟩ := r.rc.cell i b z
      exact ⟨g1, c, by rw [List.getElem?_append_left (by rw [← r.rc.len]; exact l)]; exact g2, g3.up le rfl⟩
    · rw [List.getElem?_append_right (by omega)] at z
      have hi : i - w.m.length = 0 := by
        have := (List.getElem?_eq_some_iff.mp z).1
        simp at this; omega
      rw [hi] at z
      have : a = b := by simpa using z
      subst this
      refine ⟨f.hf, .lst ds, ?_, vs, e, q.up le⟩
      have : i = st.sto.length := by rw [← r.rc.len]; omega
      rw [this]; simp
  · rcases List.mem_append.mp y with y | y
    · exact r.fra.fm b z y
    · have : b = a := by simpa using y
      subst this; exact absurd f.g z
  · obtain ⟨o, e1, e2⟩ := r.slot i s z
    refine ⟨o, e1, ?_⟩
    cases s with
    | non => trivial
    | val d => obtain ⟨v, q1, q2⟩ := e2; exact ⟨v, q1, q2.up le⟩
    | own ds' =>
      obtain ⟨b, us, q1, q2, q3, q4, q5, q6⟩ := e2
      refine ⟨b, us, q1, q2, q3.up le, q4, ?_, q6⟩
      intro y
      rcases List.mem_append.mp y with y | y
      · exact q5 y
      · have : b = a := by simpa using y
        subst this
        exact f.own i _ z rfl (by rw [e1, q1])
  · simp only [RepV]
    exact ⟨a, rfl, by rw [← r.rc.len]; simp⟩
/-- behind a call -/
theorem RS.call (r : RS T G w st σ H) {S' : Store} (f : Fra w H w' H') (c : RC T w' S' H') : RS T G w' ⟨st.env, S'⟩ σ H' := by
  refine ⟨c, ⟨r.fra.le.trans f.le, fun a o e q => f.kp a o (r.fra.kp a o e q) fun z => q (r.fra.fm a (by rw [e]; simp) z), fun a e q => f.ff a (r.there e) (r.fra.ff a e q), fun a e q => r.fra.fm a e (f.fm a (r.there e) q)⟩, r.elen, fun i s z => ?_, r.dist⟩
  obtain ⟨o, e1, e2⟩ := r.slot i s z
  refine ⟨o, e1, ?_⟩
  cases s with
  | non => trivial
  | val d => obtain ⟨v, q1, q2⟩ := e2; exact ⟨v, q1, q2.up f.le⟩
  | own ds =>
    obtain ⟨b, us, q1, q2, q3, q4, q5, q6⟩ := e2
    have hb : H b ≠ none := by rw [q2]; simp
    exact ⟨b, us, q1, f.kp _ _ q2 q5, q3.up f.le, f.ff b hb q4, fun y => q5 (f.fm b hb y), q6⟩
/-- a block's view of the slots: its own names and the own lists are hidden -/
def hideFrom (k : Nat) (vs : List Nat) : FW.Env → FW.Env
  | [] => []
  | s :: r => (if k ∈ vs then Slot.non else match s with
    | .own _ => .non
    | s => s) :: hideFrom (k + 1) vs r
theorem hide_get {vs : List Nat} : ∀ (k : Nat) (E : FW.Env) (i : Nat) (s : Slot), (hideFrom k vs E)[i]? = some s → s = .non ∨ ∃ d, s = .val d ∧ E[i]? = some s ∧ k + i ∉ vs
  | _, [], _, _, h => by simp [hideFrom] at h
  | k, t :: r, 0, s, h => by
    simp only [hideFrom, List.getElem?_cons_zero, Option.some.injEq] at h
    by_cases q : k ∈ vs
    · rw [if_pos q] at h; exact .inl h.symm
    · rw [if_neg q] at h
      cases t with
      | own l => exact .inl h.symm
      | non => exact .inl h.symm
      | val d => exact .inr ⟨d, h.symm, by simp [h], q⟩
  | k, t :: r, i + 1, s, h => by
    have h : (hideFrom (k + 1) vs r)[i]? = some s := by simpa [hideFrom] using h
    rcases hide_get (k + 1) r i s h with e | ⟨d, e1, e2, e3⟩
    · exact .inl e
    · exact .inr ⟨d, e1, by simpa using e2, by rw [show k + (i + 1) = k + 1 + i by omega]; exact e3⟩
theorem hide_len {vs : List Nat} : ∀ (k : Nat) (E : FW.Env), (hideFrom k vs E).length = E.length
  | _, [] => rfl
  | k, t :: r => by simp [hideFrom, hide_len (k + 1) r]
theorem wipe_get {σ : L2.St} {i : Nat} : ∀ {vs : List Nat}, i ∉ vs → (wipe σ vs)[i]? = σ[i]?
  | [], _ => rfl
  | v :: vs, h => by
    unfold wipe
    rw [List.getElem?_set_ne (fun z => h (by simp [z])), wipe_get fun z => h (by simp [z])]
theorem RS.hide (r : RS T G w st σ H) (vs : List Nat) : RS T ⟨w, H⟩ w ⟨hideFrom 0 vs st.env, st.sto⟩ (wipe σ vs) H := by
  refine ⟨r.rc, .refl w H, by rw [wipe_length, ← r.elen]; exact hide_len 0 _, fun i s e => ?_, fun i j a s s' e o _ _ _ _ => ?_⟩
  · have l : i < σ.length := by
      have := (List.getElem?_eq_some_iff.mp e).1
      rw [hide_len, r.elen] at this; exact this
    rcases hide_get 0 _ i s e with rfl | ⟨d, rfl, h1, h2⟩
    · have l' : i < (wipe σ vs).length := by rw [wipe_length]; exact l
      exact ⟨_, List.getElem?_eq_getElem l', trivial⟩
    · rw [Nat.zero_add] at h2
      obtain ⟨v, q1, q2⟩ := r.valAt h1
      exact ⟨some v, by rw [wipe_get h2]; exact q1, v, rfl, q2⟩
  · rcases hide_get 0 _ i s e with rfl | ⟨d, rfl, _⟩ <;> cases o
/-- a slot forgotten -/
theorem RS.rec0 (r : RS T G w st σ H) : RS T ⟨w, H⟩ w ⟨hideFrom 0 [] st.env, st.sto⟩ σ H := r.hide []
/-- a def's entry -/
def argsEnv (n : Nat) (ds : List D) : FW.Env := ds.map .val ++ List.replicate (n - ds.length) .non
theorem RS.entry {S : Store} {N : List Str} {ds : List D} {vs : List V} (r : RC T w S H) (q : RepVs T w ds vs) : RS T ⟨w, H⟩ w ⟨argsEnv N.length ds, S⟩ (L2.start N vs) H := by
  have hl := q.length
  refine ⟨r, .refl w H, by simp [argsEnv, L2.start, hl], fun i s e => ?_, fun i j a s s' e o _ _ _ _ => ?_⟩
  · unfold argsEnv at e
    unfold L2.start
    by_cases l : i < ds.length
    · rw [List.getElem?_append_left (by simpa using l), List.getElem?_map] at e
      rw [List.getElem?_append_left (by simp [← hl, l]), List.getElem?_map]
      cases z : ds[i]? with
      | none => rw [z] at e; cases e
      | some d =>
        rw [z] at e
        obtain rfl : Slot.val d = s := by simpa using e
        obtain ⟨v, h1, h2⟩ := q.get z
        exact ⟨some v, by rw [h1]; rfl, v, rfl, h2⟩
    · rw [List.getElem?_append_right (by simpa using l), List.getElem?_replicate] at e
      rw [List.getElem?_append_right (by simp [← hl]; omega), List.getElem?_replicate]
      simp only [List.length_map] at e ⊢
      split at e
      · rename_i z
        obtain rfl := Option.some.inj e
        exact ⟨none, by rw [if_pos (by rw [← hl]; exact z)], trivial⟩
      · cases e
  · unfold argsEnv at e
    have no : ∀ x ∈ ds.map Slot.val ++ List.replicate (N.length - ds.length) Slot.non, x.isOwn = false := fun x hx => by
      rcases List.mem_append.mp hx with hx | hx
      · obtain ⟨d, _, rfl⟩ := List.mem_map.mp hx; rfl
      · rw [(List.mem_replicate.mp hx).2]; rfl
    rw [no s (List.mem_of_getElem? e)] at o; cases o
end
end FW

/-! FwC: readings over data; constants, names, operators, tests. -/
namespace FW
open PySem PySem.Spec PyProof.Rows L2
/-- an exception that flies -/
def RepX (T : Txt) (w : Wd) (e : D) (cls : Value) (dx : Option Addr) : Prop :=
  ∃ c, cls = .ref (T.cA c) ∧ ((e = .obj c [] ∧ dx = none) ∨ ∃ d p v, e = .obj c [d] ∧ dx = some p ∧ w.HF p = some (.xd [(T.eF c, v)]) ∧ RepV T w d v)
theorem RepX.up {T : Txt} {w w' : Wd} {e : D} {cls : Value} {dx : Option Addr} (h : w.le w') (q : RepX T w e cls dx) : RepX T w' e cls dx := by
  obtain ⟨c, e1, q⟩ := q
  refine ⟨c, e1, q.imp_right fun ⟨d, p, v, a, b, x, y⟩ => ⟨d, p, v, a, b, h.hf _ _ x, y.up h⟩⟩
def Post (T : Txt) (W : WX) (G : Ent) (w : Wd) (σ : L2.St) {α β : Type} (Rep : Wd → α → β → Prop) (r : R α) (Q : β → Hp → Prop) : Prop := match r with
  | .ok d st' => ∀ w' v H', w.le w' → RS T G w' st' σ H' → Rep w' d v → Q v H'
  | .exc e st' => ∀ w' cls dx H', w.le w' → RS T G w' st' σ H' → RepX T w' e cls dx → W cls dx σ H'
  | .bad => False
section
variable {T : Txt} {W : WX} {G : Ent} {w w' : Wd} {σ : L2.St} {α β γ δ : Type} {Rep : Wd → α → β → Prop} {Rep' : Wd → γ → δ → Prop}
theorem Post.mono {r : R α} {Q Q' : β → Hp → Prop} (h : Post T W G w σ Rep r Q) (k : ∀ v H, Q v H → Q' v H) : Post T W G w σ Rep r Q' := by
  cases r with
  | ok d s => exact fun w' v H' a b c => k _ _ (h w' v H' a b c)
  | exc e s => exact h
  | bad => exact h
theorem Post.up {r : R α} {Q : β → Hp → Prop} (le : w.le w') (h : Post T W G w σ Rep r Q) : Post T W G w' σ Rep r Q := by
  cases r with
  | ok d s => exact fun w1 v H' a b c => h w1 v H' (le.trans a) b c
  | exc e s => exact fun w1 v H' a b c => h w1 v H' a (le.trans b) c
  | bad => exact h
theorem Post.bind {r : R α} {f : α → State → R γ} {Q : δ → Hp → Prop} (h : Post T W G w σ Rep' (r.bind f) Q) :
    Post T W G w σ Rep r fun v H1 => ∃ d st1 w1, RS T G w1 st1 σ H1 ∧ Rep w1 d v ∧ Post T W G w1 σ Rep' (f d st1) Q := by
  cases r with
  | ok d s => exact fun w' v H' a b c => ⟨d, s, w', b, c, h.up a⟩
  | exc e s => exact h
  | bad => exact h
end
/-! ### the judgements -/
section
variable (T : Txt) (W : WX)
def TEd (c : State → R D) : TE := fun σ H Q => ∃ G w st, RS T G w st σ H ∧ Post T W G w σ (RepV T) (c st) Q
def TAd (c : State → R (List D)) : TA := fun σ H Q => ∃ G w st, RS T G w st σ H ∧ Post T W G w σ (RepVs T) (c st) Q
def eqB (_ : Wd) (b b' : Bool) : Prop := b' = b
def TTd (c : State → R Bool) : TT := fun σ H Q => ∃ G w st, RS T G w st σ H ∧ Post T W G w σ eqB (c st) Q
end
theorem _root_.L2.PE.imp {X : Cx} {e : Expr} {t t' : TE} (h : PE X e t) (k : ∀ σ H Q, t' σ H Q → t σ H Q) : PE X e t' := ⟨fun pins s σ H Q I q => h.run pins s σ H Q I (k σ H Q q)⟩
theorem _root_.L2.PT.imp {X : Cx} {e : Expr} {t t' : TT} (h : PT X e t) (k : ∀ σ H Q, t' σ H Q → t σ H Q) : PT X e t' := ⟨fun pins s σ H Q I q => h.run pins s σ H Q I (k σ H Q q)⟩
theorem _root_.L2.PW.imp {X : Cx} {e : Expr} {t t' : TT} (h : PW X e t) (k : ∀ σ H Q, t' σ H Q → t σ H Q) : PW X e t' := ⟨fun whole pins s σ H Q I q => h.run whole pins s σ H Q I (k σ H Q q)⟩
theorem _root_.L2.PA.imp {X : Cx} {e : List Expr} {t t' : TA} (h : PA X e t) (k : ∀ σ H Q, t' σ H Q → t σ H Q) : PA X e t' := ⟨fun pos pins s σ H Q I q => h.run pos pins s σ H Q I (k σ H Q q)⟩
theorem _root_.L2.PS.imp {X : Cx} {e : Stmt} {t t' : TS} (h : PS X e t) (k : ∀ D σ H, t' D σ H → t D σ H) : PS X e t' := ⟨fun pins s σ H Q I q => h.run pins s σ H Q I (k Q σ H q)⟩
theorem _root_.L2.PSs.imp {X : Cx} {e : List Stmt} {t t' : TS} (h : PSs X e t) (k : ∀ D σ H, t' D σ H → t D σ H) : PSs X e t' := ⟨fun pins s σ H Q I q => h.run pins s σ H Q I (k Q σ H q)⟩
abbrev DE (T : Txt) (W : WX) (X : Cx) (e : Expr) (c : State → R D) : Prop := PE X e (TEd T W c)
abbrev DA (T : Txt) (W : WX) (X : Cx) (e : List Expr) (c : State → R (List D)) : Prop := PA X e (TAd T W c)
abbrev DT (T : Txt) (W : WX) (X : Cx) (e : Expr) (c : State → R Bool) : Prop := PT X e (TTd T W c)
abbrev DW (T : Txt) (W : WX) (X : Cx) (e : Expr) (c : State → R Bool) : Prop := PW X e (TTd T W c)
section
variable {T : Txt} {W : WX} {G : Ent} {w : Wd} {st : State} {σ : L2.St} {H : Hp} {γ δ : Type} {Rep' : Wd → γ → δ → Prop} {Q : δ → Hp → Prop}
/-- a first part, then the rest -/
theorem seqE {c : State → R D} {f : D → State → R γ} (r : RS T G w st σ H) (h : Post T W G w σ Rep' ((c st).bind f) Q) :
    TEd T W c σ H fun v H1 => ∃ w1 d s, w.le w1 ∧ RS T G w1 s σ H1 ∧ RepV T w1 d v ∧ Post T W G w1 σ Rep' (f d s) Q :=
  ⟨G, w, st, r, by
    cases e : c st with
    | ok d s => rw [e] at h; exact fun w' v H' a b c => ⟨w', d, s, a, b, c, Post.up a h⟩
    | exc x s => rw [e] at h; exact h
    | bad => rw [e] at h; exact h⟩
theorem seqA {c : State → R (List D)} {f : List D → State → R γ} (r : RS T G w st σ H) (h : Post T W G w σ Rep' ((c st).bind f) Q) :
    TAd T W c σ H fun v H1 => ∃ w1 d s, w.le w1 ∧ RS T G w1 s σ H1 ∧ RepVs T w1 d v ∧ Post T W G w1 σ Rep' (f d s) Q :=
  ⟨G, w, st, r, by
    cases e : c st with
    | ok d s => rw [e] at h; exact fun w' v H' a b c => ⟨w', d, s, a, b, c, Post.up a h⟩
    | exc x s => rw [e] at h; exact h
    | bad => rw [e] at h; exact h⟩
theorem seqT {c : State → R Bool} {f : Bool → State → R γ} (r : RS T G w st σ H) (h : Post T W G w σ Rep' ((c st).bind f) Q) :
    TTd T W c σ H fun v H1 => ∃ w1 s, w.le w1 ∧ RS T G w1 s σ H1 ∧ Post T W G w1 σ Rep' (f v s) Q :=
  ⟨G, w, st, r, by
    cases e : c st with
    | ok d s =>
      rw [e] at h
      intro w' v H' a b c
      cases (show v = d from c)
      exact ⟨w', s, a, b, Post.up a h⟩
    | exc x s => rw [e] at h; exact h
    | bad => rw [e] at h; exact h⟩
end
theorem TEd.imp {T : Txt} {W : WX} {σ : L2.St} {H : Hp} {c : State → R D} {Q Q' : VK} (h : TEd T W c σ H Q) (k : ∀ v H, Q v H → Q' v H) : TEd T W c σ H Q' := by
  obtain ⟨G, w, st, r, p⟩ := h; exact ⟨G, w, st, r, p.mono k⟩
theorem TAd.imp {T : Txt} {W : WX} {σ : L2.St} {H : Hp} {c : State → R (List D)} {Q Q' : List V → Hp → Prop} (h : TAd T W c σ H Q) (k : ∀ v H, Q v H → Q' v H) : TAd T W c σ H Q' := by
  obtain ⟨G, w, st, r, p⟩ := h; exact ⟨G, w, st, r, p.mono k⟩
theorem TTd.imp {T : Txt} {W : WX} {σ : L2.St} {H : Hp} {c : State → R Bool} {Q Q' : Bool → Hp → Prop} (h : TTd T W c σ H Q) (k : ∀ v H, Q v H → Q' v H) : TTd T W c σ H Q' := by
  obtain ⟨G, w, st, r, p⟩ := h; exact ⟨G, w, st, r, p.mono k⟩

/-! ### growth -/
structure Gr (w : Wd) (H : Hp) (w' : Wd) (H' : Hp) : Prop where
  le : w.le w'
  m : w'.m = w.m
  k : ∀ a o, H a = some o → H' a = some o
  hf : ∀ a o, w'.HF a = some o → H' a = some o
  n : ∀ a, H a ≠ none → w.HF a = none → w'.HF a = none
def Sub (w : Wd) (H : Hp) : Prop := ∀ a o, w.HF a = some o → H a = some o
theorem Gr.refl {w : Wd} {H : Hp} (h : Sub w H) : Gr w H w H := ⟨.refl w, rfl, fun _ _ e => e, h, fun _ _ e => e⟩
theorem Sub.none {w : Wd} {H : Hp} (h : Sub w H) {p : Addr} (e : H p = none) : w.HF p = none := by
  cases q : w.HF p with
  | none => rfl
  | some o => rw [h p o q] at e; cases e
theorem Gr.add {w : Wd} {H : Hp} (h : Sub w H) {p : Addr} (e : H p = Option.none) (o : HO) : Gr w H (w.add p o) (upd H p o) :=
  ⟨Wd.le_add (h.none e), rfl, upd_keep e, fun a u z => by
    have z : upd w.HF p o a = some u := z
    by_cases q : a = p
    · subst q; rw [upd_same] at z ⊢; exact z
    · rw [upd_ne q] at z ⊢; exact h _ _ z, fun a q z => by
    show upd w.HF p o a = Option.none
    rw [upd_ne fun y => q (by rw [y]; exact e)]; exact z⟩
theorem Gr.addU {w : Wd} {H : Hp} (h : Sub w H) {p : Addr} (e : H p = Option.none) (o : HO) : Gr w H w (upd H p o) :=
  ⟨.refl w, rfl, upd_keep e, fun a u z => upd_keep e _ _ (h _ _ z), fun _ _ z => z⟩
theorem Gr.trans {w w1 w2 : Wd} {H H1 H2 : Hp} (a : Gr w H w1 H1) (b : Gr w1 H1 w2 H2) : Gr w H w2 H2 :=
  ⟨a.le.trans b.le, b.m.trans a.m, fun x o e => b.k x o (a.k x o e), b.hf, fun x e q => b.n x (by
    cases z : H x with
    | none => exact absurd z e
    | some o => rw [a.k x o z]; simp) (a.n x e q)⟩
section
variable {T : Txt} {W : WX} {G : Ent} {w w' : Wd} {st : State} {σ : L2.St} {H H' : Hp}
theorem RS.sub (r : RS T G w st σ H) : Sub w H := r.rc.hf
theorem RS.gr (r : RS T G w st σ H) (g : Gr w H w' H') : RS T G w' st σ H' := r.grow g.le g.m g.k g.hf g.n
/-- an outcome by values alone -/
def Grown (T : Txt) (w : Wd) (H : Hp) (d : D) (Q : VK) : Prop := ∀ w' v H', Gr w H w' H' → RepV T w' d v → Q v H'
theorem Post.grown {d : D} {Q : VK} (r : RS T G w st σ H) (h : Post T W G w σ (RepV T) (.ok d st) Q) : Grown T w H d Q := fun w' v H' g q => h w' v H' g.le (r.gr g) q
theorem Post.here {d : D} {v : V} {Q : VK} (r : RS T G w st σ H) (h : Post T W G w σ (RepV T) (.ok d st) Q) (q : RepV T w d v) : Q v H := h w v H (.refl w) r q
end
/-- a value, or a list that a slot owns: as it stands now -/
def RepB (T : Txt) (w : Wd) (H : Hp) (d : D) (v : V) : Prop := RepV T w d v ∨ ∃ l a vs, d = .lst l ∧ v = .ref a ∧ H a = some (.lst vs) ∧ RepVs T w l vs
def RepBs (T : Txt) (w : Wd) (H : Hp) (ds : List D) (vs : List V) : Prop := RepVs T w ds vs ∨ ∃ d v, ds = [d] ∧ vs = [v] ∧ RepB T w H d v
/-! by-value rules over data -/
def rB (T : Txt) (g : D → D → Option D) : R2 := fun x y H Q => ∃ w a b d, Sub w H ∧ RepB T w H a x ∧ RepB T w H b y ∧ g a b = some d ∧ Grown T w H d Q
def rU1 (T : Txt) (g : D → Option D) : V → Hp → VK → Prop := fun x H Q => ∃ w a d, Sub w H ∧ RepB T w H a x ∧ g a = some d ∧ Grown T w H d Q
def rN (T : Txt) (g : List D → Option D) : List V → Hp → VK → Prop := fun xs H Q => ∃ w ds d, Sub w H ∧ RepBs T w H ds xs ∧ g ds = some d ∧ Grown T w H d Q
def cBin (g : D → D → Option D) (a b : State → R D) : State → R D := fun st => (a st).bind fun x s1 => (b s1).bind fun y s2 => R.lift (g x y) s2
def cUn (g : D → Option D) (a : State → R D) : State → R D := fun st => (a st).bind fun x s1 => R.lift (g x) s1
def cArgs (g : List D → Option D) (a : State → R (List D)) : State → R D := fun st => (a st).bind fun x s1 => R.lift (g x) s1
section
variable {T : Txt} {W : WX} {X : Cx} {a b : Expr} {es : List Expr} {ca cb : State → R D} {cs : State → R (List D)} {pos : Pos}
theorem Post.lift {γ δ : Type} {Rep : Wd → γ → δ → Prop} {G : Ent} {w : Wd} {σ : L2.St} {o : Option γ} {s : State} {Q : δ → Hp → Prop} (h : Post T W G w σ Rep (R.lift o s) Q) : ∃ d, o = some d ∧ Post T W G w σ Rep (.ok d s) Q := by
  cases o with
  | none => exact h.elim
  | some d => exact ⟨d, rfl, h⟩
theorem tOp_of {g : D → D → Option D} {σ : L2.St} {H : Hp} {Q : VK} (h : TEd T W (cBin g ca cb) σ H Q) : tOp (rB T g) (TEd T W ca) (TEd T W cb) σ H Q := by
  obtain ⟨G, w, st, r, p⟩ := h
  refine (seqE r p).imp fun x H1 ⟨w1, d1, s1, l1, r1, q1, p1⟩ => ?_
  refine (seqE r1 p1).imp fun y H2 ⟨w2, d2, s2, l2, r2, q2, p2⟩ => ?_
  obtain ⟨d, e, p3⟩ := Post.lift p2
  exact ⟨w2, d1, d2, d, r2.sub, .inl (q1.up l2), .inl q2, e, Post.grown r2 p3⟩
theorem de_bin {op : Operator} {g : D → D → Option D} (ho : OpR X (binaryOp op) (rB T g)) (ha : DE T W X a ca) (hb : DE T W X b cb) : DE T W X (.BinOp a op b pos) (cBin g ca cb) :=
  (pe_op ho ha hb).imp fun σ H Q h => tOp_of h
theorem tUn_of {g : D → Option D} {σ : L2.St} {H : Hp} {Q : VK} (h : TEd T W (cUn g ca) σ H Q) : tUn (rU1 T g) (TEd T W ca) σ H Q := by
  obtain ⟨G, w, st, r, p⟩ := h
  refine (seqE r p).imp fun x H1 ⟨w1, d1, s1, l1, r1, q1, p1⟩ => ?_
  obtain ⟨d, e, p3⟩ := Post.lift p1
  exact ⟨w1, d1, d, r1.sub, .inl q1, e, Post.grown r1 p3⟩
theorem de_un {op : UnaryOp} {g : D → Option D} (ho : UnR X (unaryOp op) (rU1 T g)) (ha : DE T W X a ca) : DE T W X (.UnaryOp op a pos) (cUn g ca) :=
  (pe_un ho ha).imp fun σ H Q h => tUn_of h
theorem de_cmp {op : CmpOp} {g : D → D → Option D} (ho : OpR X (compareOp op) (rB T g)) (ha : DE T W X a ca) (hb : DE T W X b cb) (hm : behindInMarks op b = false) : DE T W X (.Compare a [op] [b] pos) (cBin g ca cb) :=
  (pe_cmpR ho ha hb hm).imp fun σ H Q h => tOp_of h
end
end FW

/-! FwD: operators on data, by values. -/
namespace FW
open PySem PySem.Spec PyProof.Rows L2
def szOk (n : Nat) : Bool := decide (n ≤ 16777216)
theorem szOk_line {n : Nat} (h : szOk n = true) : n ≤ sizeLine := by rw [sizeLine_eq]; exact of_decide_eq_true h
def gd (c : Bool) (d : D) : Option D := if c then some d else none
theorem gd_some {c : Bool} {d e : D} (h : gd c d = some e) : c = true ∧ d = e := by
  unfold gd at h
  cases c with
  | true => exact ⟨rfl, Option.some.inj h⟩
  | false => cases h
@[simp] theorem gd_true {d : D} : gd true d = some d := rfl
theorem band {a b : Bool} (h : (a && b) = true) : a = true ∧ b = true := Bool.and_eq_true_iff.mp h
section
variable {T : Txt} {w : Wd} {H : Hp} {v : V}
theorem RepV.tup_at (s : Sub w H) {l : List D} (h : RepV T w (.tup l) v) : ∃ a vs, v = .ref a ∧ SqT T.K H a vs ∧ RepVs T w l vs := by
  obtain ⟨a, vs, e, q, r⟩ := (by simpa only [RepV] using h)
  exact ⟨a, vs, e, SqT.up s q, r⟩
theorem RepV.lst_at (s : Sub w H) {l : List D} (h : RepV T w (.lst l) v) : ∃ a vs, v = .ref a ∧ H a = some (.lst vs) ∧ RepVs T w l vs := by
  obtain ⟨a, vs, e, q, r⟩ := (by simpa only [RepV] using h)
  exact ⟨a, vs, e, s _ _ q, r⟩
theorem RepV.scr_at (s : Sub w H) {l : List D} (h : RepV T w (.scr l) v) : ∃ a vs, v = .ref a ∧ SqL T.K H a vs ∧ RepVs T w l vs := by
  obtain ⟨a, vs, e, q, r⟩ := (by simpa only [RepV] using h)
  exact ⟨a, vs, e, SqL.up s q, r⟩
theorem RepB.tup_at (s : Sub w H) {l : List D} (h : RepB T w H (.tup l) v) : ∃ a vs, v = .ref a ∧ SqT T.K H a vs ∧ RepVs T w l vs := by
  rcases h with h | ⟨_, _, _, e, _⟩
  · exact h.tup_at s
  · cases e
theorem RepB.lst_at (s : Sub w H) {l : List D} (h : RepB T w H (.lst l) v) : ∃ a vs, v = .ref a ∧ H a = some (.lst vs) ∧ RepVs T w l vs := by
  rcases h with h | ⟨_, a, vs, e, q⟩
  · exact h.lst_at s
  · cases e; exact ⟨a, vs, q⟩
theorem RepB.scr_at (s : Sub w H) {l : List D} (h : RepB T w H (.scr l) v) : ∃ a vs, v = .ref a ∧ SqL T.K H a vs ∧ RepVs T w l vs := by
  rcases h with h | ⟨_, _, _, e, _⟩
  · exact h.scr_at s
  · cases e
theorem RepB.val {d : D} (h : RepB T w H d v) (n : ∀ l, d ≠ .lst l) : RepV T w d v := by
  rcases h with h | ⟨l, _, _, e, _⟩
  · exact h
  · exact absurd e (n l)
theorem RepV.int_eq {i : Int} (h : RepV T w (.int i) v) : v = .int i := by simpa only [RepV] using h
theorem RepV.str_eq {i : Str} (h : RepV T w (.str i) v) : v = .str i := by simpa only [RepV] using h
theorem RepV.bl_eq {i : Bool} (h : RepV T w (.bl i) v) : v = .bl i := by simpa only [RepV] using h
theorem RepV.non_eq (h : RepV T w .non v) : v = .non := by simpa only [RepV] using h
theorem RepB.int_eq {i : Int} (h : RepB T w H (.int i) v) : v = .int i := by
  rcases h with h | ⟨_, _, _, e, _⟩
  · simpa only [RepV] using h
  · cases e
theorem RepV.int_ {i : Int} : RepV T w (.int i) (.int i) := by simp only [RepV]
theorem RepB.str_eq {i : Str} (h : RepB T w H (.str i) v) : v = .str i := by
  rcases h with h | ⟨_, _, _, e, _⟩
  · simpa only [RepV] using h
  · cases e
theorem RepV.str_ {i : Str} : RepV T w (.str i) (.str i) := by simp only [RepV]
theorem RepB.bl_eq {i : Bool} (h : RepB T w H (.bl i) v) : v = .bl i := by
  rcases h with h | ⟨_, _, _, e, _⟩
  · simpa only [RepV] using h
  · cases e
theorem RepV.bl_ {i : Bool} : RepV T w (.bl i) (.bl i) := by simp only [RepV]
theorem RepB.non_eq (h : RepB T w H .non v) : v = .non := by
  rcases h with h | ⟨_, _, _, e, _⟩
  · simpa only [RepV] using h
  · cases e
theorem RepV.non_ : RepV T w .non .non := by simp only [RepV]
variable {d : D} {Q : VK}
theorem Grown.here (s : Sub w H) (g : Grown T w H d Q) (q : RepV T w d v) : Q v H := g w v H (.refl s) q
theorem Grown.tup (s : Sub w H) {l : List D} {vs : List V} (g : Grown T w H (.tup l) Q) (q : RepVs T w l vs) : ∀ p, H p = none → Q (.ref p) (upd H p (.tup vs)) :=
  fun p e => g _ _ _ (.add s e _) (RepV.newT (s.none e) q)
theorem Grown.lst (s : Sub w H) {l : List D} {vs : List V} (g : Grown T w H (.lst l) Q) (q : RepVs T w l vs) : ∀ p, H p = none → Q (.ref p) (upd H p (.lst vs)) :=
  fun p e => g _ _ _ (.add s e _) (RepV.newL (s.none e) q)
theorem Grown.int (s : Sub w H) {i : Int} (g : Grown T w H (.int i) Q) : Q (.int i) H := g.here s .int_
theorem Grown.bl (s : Sub w H) {i : Bool} (g : Grown T w H (.bl i) Q) : Q (.bl i) H := g.here s .bl_
theorem Grown.str (s : Sub w H) {i : Str} (g : Grown T w H (.str i) Q) : Q (.str i) H := g.here s .str_
end
/-! ### arithmetic -/
def addD : D → D → Option D
  | .int i, .int j => some (.int (i + j))
  | .str x, .str y => gd (szOk (x.length + y.length)) (.str (x ++ y))
  | .tup l, .tup r => gd (szOk (l.length + r.length)) (.tup (l ++ r))
  | .lst l, .lst r => gd (szOk (l.length + r.length)) (.lst (l ++ r))
  | _, _ => none
def subD : D → D → Option D
  | .int i, .int j => some (.int (i - j))
  | _, _ => none
def mulOk (i j : Int) : Bool := decide (i.natAbs < 2 ^ 64) || decide (j.natAbs < 2 ^ 64) || (decide (i.natAbs < 2 ^ 1000) && decide (j.natAbs < 2 ^ 1000))
def mulD : D → D → Option D
  | .int i, .int j => gd (mulOk i j) (.int (i * j))
  | .lst l, .int k => gd (decide (k.natAbs < 2 ^ 62) && szOk (l.length * k.toNat)) (.lst (List.replicate k.toNat l).flatten)
  | .tup l, .int k => gd (!l.isEmpty && (decide (1 ≤ k) && (decide (k ≤ 1000) && decide (l.length ≤ 1000)))) (.tup (List.replicate k.toNat l).flatten)
  | _, _ => none
def fdivD : D → D → Option D
  | .int i, .int j => gd (decide (0 < j) && decide (j.natAbs < 2 ^ 1000)) (.int (i / j))
  | _, _ => none
def modD : D → D → Option D
  | .int i, .int j => gd (decide (0 < j)) (.int (i % j))
  | _, _ => none
def powD : D → D → Option D
  | .int i, .int j => gd (decide (0 ≤ j) && (decide (j ≤ 1000) && decide (i.natAbs < 2 ^ 64))) (.int (i ^ j.toNat))
  | _, _ => none
def negD : D → Option D
  | .int i => some (.int (-i))
  | _ => none
theorem log2_lt {n k : Nat} (hk : 0 < k) (h : n < 2 ^ k) : n.log2 < k := PySem.Flt.log2_lt_of hk h
theorem mulOk_ok {i j : Int} (h : mulOk i j = true) : CMul i j ∨ CMulW i j := by
  unfold mulOk at h
  rcases Bool.or_eq_true_iff.mp h with h | h
  · rcases Bool.or_eq_true_iff.mp h with h | h
    · have := of_decide_eq_true h
      exact .inl (.inl ⟨by omega, by omega⟩)
    · have := of_decide_eq_true h
      exact .inl (.inr ⟨by omega, by omega⟩)
  · obtain ⟨h1, h2⟩ := Bool.and_eq_true_iff.mp h
    have h1 := log2_lt (by decide) (of_decide_eq_true h1)
    have h2 := log2_lt (by decide) (of_decide_eq_true h2)
    exact .inr (by unfold CMulW; omega)
section
variable {T : Txt} {X : Cx}
theorem op_addD (hK : X.K = T.K) : OpR X (binaryOp .Add) (rB T addD) := by
  intro pins s σ H x y v u Q I rx ry h
  obtain ⟨w, a, b, d, sb, ra, rb, e, g⟩ := h
  cases a <;> cases b <;> first | (cases e; done) | skip
  · cases e; exact op_add pins s σ H _ _ v u Q I (ra.int_eq ▸ rx) (rb.int_eq ▸ ry) ⟨_, _, rfl, rfl, g.int sb⟩
  · obtain ⟨hz, rfl⟩ := gd_some e
    exact op_add_str pins s σ H _ _ v u Q I (ra.str_eq ▸ rx) (rb.str_eq ▸ ry) ⟨_, _, rfl, rfl, szOk_line hz, g.str sb⟩
  · obtain ⟨hz, rfl⟩ := gd_some e
    obtain ⟨p, vs, rfl, q1, q2⟩ := ra.tup_at sb
    obtain ⟨p', vs', rfl, q1', q2'⟩ := rb.tup_at sb
    refine op_catA pins s σ H _ _ v u Q I rx ry ⟨p, p', vs, vs', rfl, rfl, hK ▸ q1, hK ▸ q1', by rw [← q2.length, ← q2'.length]; exact szOk_line hz, fun z => ?_, fun _ z => ?_, fun _ _ => g.tup sb (q2.append q2')⟩
    · subst z
      have := q2.length
      obtain rfl := List.length_eq_zero_iff.mp this
      exact g.here sb (rb.val fun _ z => by cases z)
    · subst z
      have := q2'.length
      obtain rfl := List.length_eq_zero_iff.mp this
      rw [List.append_nil] at g
      exact g.here sb (ra.val fun _ z => by cases z)
  · obtain ⟨hz, rfl⟩ := gd_some e
    obtain ⟨p, vs, rfl, q1, q2⟩ := ra.lst_at sb
    obtain ⟨p', vs', rfl, q1', q2'⟩ := rb.lst_at sb
    exact op_cat pins s σ H _ _ v u Q I rx ry ⟨p, p', vs, vs', rfl, rfl, q1, q1', by rw [← q2.length, ← q2'.length]; exact szOk_line hz, g.lst sb (q2.append q2')⟩
theorem op_subD : OpR X (binaryOp .Sub) (rB T subD) := by
  intro pins s σ H x y v u Q I rx ry h
  obtain ⟨w, a, b, d, sb, ra, rb, e, g⟩ := h
  cases a <;> cases b <;> first | (cases e; done) | skip
  cases e; exact op_sub pins s σ H _ _ v u Q I (ra.int_eq ▸ rx) (rb.int_eq ▸ ry) ⟨_, _, rfl, rfl, g.int sb⟩
/-- tuple * 1 is the tuple itself -/
theorem tuple_mul1 (l : Addr) (items : Array Value) (n : Nat) (dd : Option Addr) (sl : Array (Option Value)) (u : Tok) :
    PySem.Meets (Builtin.«tuple.__mul__» ⟨[.ref l, .int 1 u], []⟩) (fun _ R s => s.heap.get? l = some { cls := .type "tuple", dict := dd, data := .seq items n, slots := sl } ∧ R (.ok (.ret (Value.ref l))) s) :=
  .of_wp fun prog w A R s h => by
    obtain ⟨hp, g, d, tk, os⟩ := s
    obtain ⟨hl, h⟩ := h
    have f1 := AutoSeq1.idx_int
    have c1 : (items.isEmpty || (1 : Int) == 1) = true := by simp
    wp_walk using wpAny_loadPart' hl
    exact ⟨_, rfl, h⟩
theorem op_repT1 {X : Cx} {pins : List (Addr × Obj)} {s : Shared} {σ : L2.St} {H : Hp} {l : Addr} {xs : List V} {u : Value} {Q : V → Hp → Prop} (I : Inv X pins σ H s) (ry : RelV (.int 1) u) (hT : SqT X.K H l xs) (q : Q (.ref l) H) :
    wpAny (model X.prog X.w) X.A (binaryOp .Mult (.ref l) u) (EP X pins σ Q) X.xe s := by
  obtain ⟨t, rfl⟩ := ry
  obtain ⟨its, r, ⟨⟨cls, dd, data, sl⟩, ho, hc, n, hd⟩, hs⟩ := I.tuple hT
  simp only at hc hd
  subst hc hd
  refine wpAny_binaryOp_repeat_ref (T := "tuple") (U := "int") (by decide) ⟨_, ho, rfl⟩ (fun s' => typeIs_int s' 1 t) noFill_tuple_mul F.fills_int_mul F.slot_int_rmul repeat_tuple F.slot_int_index.lookup
    (call_meets F.slot_int_rmul (typeIs_int s 1 t) F.entry_int_rmul (F.args_int_rmul_2 _ _) (int_rmul_tuple 1 t l its.toArray n dd sl)
      ⟨ho, rfl, ⟨_, ho, rfl⟩, call_meets F.slot_tuple_mul ⟨_, ho, rfl⟩ F.entry_tuple_mul (F.args_tuple_mul_2 _ _) (tuple_mul1 l its.toArray n dd sl t) ⟨ho, ?_⟩⟩)
  exact ⟨.ref l, H, I, rfl, q⟩
theorem op_mulD (hK : X.K = T.K) : OpR X (binaryOp .Mult) (rB T mulD) := by
  intro pins s σ H x y v u Q I rx ry h
  obtain ⟨w, a, b, d, sb, ra, rb, e, g⟩ := h
  cases a <;> cases b <;> first | (cases e; done) | skip
  · obtain ⟨hz, rfl⟩ := gd_some e
    rcases mulOk_ok hz with hz | hz
    · exact op_mul pins s σ H _ _ v u Q I (ra.int_eq ▸ rx) (rb.int_eq ▸ ry) ⟨_, _, rfl, rfl, hz, g.int sb⟩
    · exact op_mulW pins s σ H _ _ v u Q I (ra.int_eq ▸ rx) (rb.int_eq ▸ ry) ⟨_, _, rfl, rfl, hz, g.int sb⟩
  · rename_i l k
    obtain ⟨hz, rfl⟩ := gd_some e
    obtain ⟨h0, hz⟩ := band hz
    obtain ⟨h1, hz⟩ := band hz
    obtain ⟨h2, h3⟩ := band hz
    have h1 := of_decide_eq_true h1
    have h2 := of_decide_eq_true h2
    have h3 := of_decide_eq_true h3
    obtain ⟨p, vs, rfl, q1, q2⟩ := ra.tup_at sb
    have hl := q2.length
    cases (show v = Value.ref p from rx)
    by_cases hk : k = 1
    · subst hk
      refine op_repT1 I (rb.int_eq ▸ ry) (hK ▸ q1) ?_
      have e1 : (List.replicate (1 : Int).toNat l).flatten = l := by simp
      rw [e1] at g
      exact g.here sb (ra.val fun _ z => by cases z)
    · have hne : vs ≠ [] := fun z => by
        subst z
        obtain rfl := List.length_eq_zero_iff.mp hl
        cases h0
      exact op_repT pins s σ H (.ref p) _ _ u Q I rfl (rb.int_eq ▸ ry) ⟨p, _, vs, rfl, rfl, hK ▸ q1, hne, by omega, h2, by omega, fun z hz => g.tup sb (q2.flatRep _) z hz⟩
  · obtain ⟨hz, rfl⟩ := gd_some e
    obtain ⟨h1, h2⟩ := band hz
    have h1 := of_decide_eq_true h1
    obtain ⟨p, vs, rfl, q1, q2⟩ := ra.lst_at sb
    exact op_rep pins s σ H _ _ v u Q I rx (rb.int_eq ▸ ry) ⟨p, _, vs, rfl, rfl, q1, by omega, by omega, by rw [← q2.length]; exact szOk_line h2, g.lst sb (q2.flatRep _)⟩
theorem op_fdivD : OpR X (binaryOp .FloorDiv) (rB T fdivD) := by
  intro pins s σ H x y v u Q I rx ry h
  obtain ⟨w, a, b, d, sb, ra, rb, e, g⟩ := h
  cases a <;> cases b <;> first | (cases e; done) | skip
  obtain ⟨hz, rfl⟩ := gd_some e
  obtain ⟨h1, h2⟩ := band hz
  have h1 := of_decide_eq_true h1
  have h2 := of_decide_eq_true h2
  exact op_fdivW pins s σ H _ _ v u Q I (ra.int_eq ▸ rx) (rb.int_eq ▸ ry) ⟨_, _, rfl, rfl, ⟨h1, Nat.lt_trans (log2_lt (k := 1000) (by decide) (by omega)) (by decide)⟩, g.int sb⟩
theorem op_modD : OpR X (binaryOp .Mod) (rB T modD) := by
  intro pins s σ H x y v u Q I rx ry h
  obtain ⟨w, a, b, d, sb, ra, rb, e, g⟩ := h
  cases a <;> cases b <;> first | (cases e; done) | skip
  obtain ⟨hz, rfl⟩ := gd_some e
  exact op_mod pins s σ H _ _ v u Q I (ra.int_eq ▸ rx) (rb.int_eq ▸ ry) ⟨_, _, rfl, rfl, of_decide_eq_true hz, g.int sb⟩
theorem op_powD : OpR X (binaryOp .Pow) (rB T powD) := by
  intro pins s σ H x y v u Q I rx ry h
  obtain ⟨w, a, b, d, sb, ra, rb, e, g⟩ := h
  cases a <;> cases b <;> first | (cases e; done) | skip
  obtain ⟨hz, rfl⟩ := gd_some e
  obtain ⟨h1, h2⟩ := band hz
  obtain ⟨h2, h3⟩ := band h2
  have h1 := of_decide_eq_true h1
  have h2 := of_decide_eq_true h2
  exact op_pow pins s σ H _ _ v u Q I (ra.int_eq ▸ rx) (rb.int_eq ▸ ry) ⟨_, _, rfl, rfl, ⟨h1, by omega, of_decide_eq_true h3⟩, g.int sb⟩
theorem op_negD : UnR X (unaryOp .USub) (rU1 T negD) := by
  intro pins s σ H x v Q I rx h
  obtain ⟨w, a, d, sb, ra, e, g⟩ := h
  cases a <;> first | (cases e; done) | skip
  cases e; exact un_neg pins s σ H _ v Q I (ra.int_eq ▸ rx) ⟨_, rfl, g.int sb⟩
end
/-! ### comparisons -/
mutual
def D.py : D → PyData
  | .non => .none
  | .bl b => .bool b
  | .int i => .int i
  | .str x => .str x
  | .tup l => .tuple (D.pys l)
  | .lst l => .list (D.pys l)
  | .dic l => .dict (l.map fun p => (.str p.1, .int p.2))
  | _ => .none
def D.pys : List D → List PyData
  | [] => []
  | d :: r => D.py d :: D.pys r
end
mutual
def D.pure : D → Bool
  | .non => true
  | .bl _ => true
  | .int _ => true
  | .str _ => true
  | .tup l => D.pures l
  | .lst l => D.pures l
  | _ => false
def D.pures : List D → Bool
  | [] => true
  | d :: r => D.pure d && D.pures r
end
mutual
theorem RepV.dp {T : Txt} {w : Wd} {H : Hp} (s : Sub w H) : ∀ (d : D) (v : V), D.pure d = true → RepV T w d v → Dp T.K H v (D.py d)
  | .non, _, _, h => by rw [h.non_eq]; exact .non
  | .bl _, _, _, h => by rw [h.bl_eq]; exact .bl _
  | .int _, _, _, h => by rw [h.int_eq]; exact .int _
  | .str _, _, _, h => by rw [h.str_eq]; exact .str _
  | .tup l, _, p, h => by
    obtain ⟨a, vs, rfl, q1, q2⟩ := h.tup_at s
    exact .tup q1 (RepVs.dp s l vs (by simpa only [D.pure] using p) q2)
  | .lst l, _, p, h => by
    obtain ⟨a, vs, rfl, q1, q2⟩ := h.lst_at s
    exact .lst (SqL.of q1) (RepVs.dp s l vs (by simpa only [D.pure] using p) q2)
  | .scr _, _, p, _ => by simp [D.pure] at p
  | .obj _ _, _, p, _ => by simp [D.pure] at p
  | .ref _, _, p, _ => by simp [D.pure] at p
  | .dic _, _, p, _ => by simp [D.pure] at p
theorem RepVs.dp {T : Txt} {w : Wd} {H : Hp} (s : Sub w H) : ∀ (ds : List D) (vs : List V), D.pures ds = true → RepVs T w ds vs → DpAll T.K H vs (D.pys ds)
  | [], _, _, h => by rw [h.nil_eq]; exact .nil
  | d :: ds, _, p, h => by
    obtain ⟨v, r, rfl, h1, h2⟩ := h.uncons
    obtain ⟨p1, p2⟩ := band (show (D.pure d && D.pures ds) = true from by simpa only [D.pures] using p)
    exact .cons (RepV.dp s d v p1 h1) (RepVs.dp s ds r p2 h2)
end
theorem RepB.dp {T : Txt} {w : Wd} {H : Hp} (s : Sub w H) (d : D) (v : V) (p : D.pure d = true) (h : RepB T w H d v) : Dp T.K H v (D.py d) := by
  rcases h with h | ⟨l, a, vs, rfl, rfl, q1, q2⟩
  · exact h.dp s d v p
  · exact .lst (SqL.of q1) (RepVs.dp s l vs (by simpa only [D.pure] using p) q2)
def pureB (a b : D) : Bool := D.pure a && (D.pure b && (SeqAt.shaped (D.py a) && SeqAt.shaped (D.py b)))
def eqD : D → D → Option D
  | .str x, .str y => some (.bl (decide (x = y)))
  | .dic l, .dic m => gd (decide (l = m) && decide (l.length ≤ 1)) (.bl true)
  | .tup l, .tup [] => some (.bl l.isEmpty)
  | .lst l, .lst [] => some (.bl l.isEmpty)
  | a, b => gd (pureB a b) (.bl (PyData.eqv (D.py a) (D.py b)))
def neD : D → D → Option D
  | .str x, .str y => some (.bl (!decide (x = y)))
  | .tup l, .tup [] => some (.bl (!l.isEmpty))
  | .lst l, .lst [] => some (.bl (!l.isEmpty))
  | a, b => gd (pureB a b) (.bl (!PyData.eqv (D.py a) (D.py b)))
theorem str_dec {x y : Str} : decide (V.str x = V.str y) = decide (x = y) := by
  by_cases h : x = y
  · simp [h]
  · simp [h]
def ltD : D → D → Option D
  | .int i, .int j => some (.bl (decide (i < j)))
  | _, _ => none
def leD : D → D → Option D
  | .int i, .int j => some (.bl (decide (i ≤ j)))
  | _, _ => none
def gtD : D → D → Option D
  | .int i, .int j => some (.bl (decide (j < i)))
  | _, _ => none
def geD : D → D → Option D
  | .int i, .int j => some (.bl (decide (j ≤ i)))
  | _, _ => none
def D.isN : D → Bool
  | .non => true
  | _ => false
def isD : D → D → Option D
  | .bl j, .bl k => some (.bl (decide (j = k)))
  | a, b => gd b.isN (.bl a.isN)
def isntD : D → D → Option D
  | .bl j, .bl k => some (.bl (!decide (j = k)))
  | a, b => gd b.isN (.bl (!a.isN))
def D.flat : D → Bool
  | .non => true
  | .bl _ => true
  | .int _ => true
  | .str _ => true
  | _ => false
def eqF (a b : D) : Bool := PyData.eqv (D.py a) (D.py b)
def inD : D → D → Option D
  | a, .tup l => gd (a.flat && l.all D.flat) (.bl (l.any fun b => eqF b a))
  | a, .lst l => gd (a.flat && l.all D.flat) (.bl (l.any fun b => eqF b a))
  | _, _ => none
def ninD : D → D → Option D
  | a, .tup l => gd (a.flat && l.all D.flat) (.bl (!(l.any fun b => eqF b a)))
  | a, .lst l => gd (a.flat && l.all D.flat) (.bl (!(l.any fun b => eqF b a)))
  | _, _ => none
theorem flat_ok {T : Txt} {w : Wd} {H : Hp} {d : D} {v : V} (h : RepB T w H d v) (f : d.flat = true) : flatV v = true := by
  cases d <;> first | (cases f; done) | skip
  · rw [h.non_eq]; rfl
  · rw [h.bl_eq]; rfl
  · rw [h.int_eq]; rfl
  · rw [h.str_eq]; rfl
theorem flats_ok {T : Txt} {w : Wd} : ∀ {l : List D} {vs : List V}, RepVs T w l vs → l.all D.flat = true → vs.all flatV = true
  | [], _, h, _ => by rw [h.nil_eq]; rfl
  | d :: l, _, h, f => by
    obtain ⟨v, r, rfl, h1, h2⟩ := h.uncons
    rw [List.all_cons] at f ⊢
    obtain ⟨f1, f2⟩ := band f
    rw [flat_ok (H := fun _ => none) (.inl h1) f1, flats_ok h2 f2]; rfl
theorem eqF_ok {T : Txt} {w : Wd} {H : Hp} {a b : D} {x y : V} (ha : RepB T w H a x) (hb : RepB T w H b y) (fa : a.flat = true) (fb : b.flat = true) : eqV x y = eqF a b := by
  cases a <;> first | (cases fa; done) | skip
  all_goals (cases b <;> first | (cases fb; done) | skip)
  all_goals
    first | (have e1 := ha.non_eq; subst e1) | (have e1 := ha.bl_eq; subst e1) | (have e1 := ha.int_eq; subst e1) | (have e1 := ha.str_eq; subst e1)
    first | (have e2 := hb.non_eq; subst e2) | (have e2 := hb.bl_eq; subst e2) | (have e2 := hb.int_eq; subst e2) | (have e2 := hb.str_eq; subst e2)
    simp [eqV, eqF, D.py, PyData.eqv]
theorem inV_ok {T : Txt} {w : Wd} {H : Hp} {a : D} {x : V} (ha : RepB T w H a x) (fa : a.flat = true) : ∀ {l : List D} {vs : List V}, RepVs T w l vs → l.all D.flat = true → inV x vs = l.any fun b => eqF b a
  | [], _, h, _ => by rw [h.nil_eq]; rfl
  | d :: l, _, h, f => by
    obtain ⟨v, r, rfl, h1, h2⟩ := h.uncons
    rw [List.all_cons] at f
    obtain ⟨f1, f2⟩ := band f
    have ih := inV_ok ha fa h2 f2
    unfold inV at ih ⊢
    rw [List.any_cons, List.any_cons, ih, eqF_ok (.inl h1) ha f1 fa]
theorem RepVs.nilV {T : Txt} {w : Wd} {l : List D} {vs : List V} (h : RepVs T w l vs) : vs.isEmpty = l.isEmpty := by
  cases l with
  | nil => cases h.nil_eq; rfl
  | cons d l => obtain ⟨v, r, rfl, _, _⟩ := h.uncons; rfl
theorem vals_nil {us : List Value} (h : Vals [] us) : us = [] := by cases h; rfl
theorem vals_size {vs : List V} {us : List Value} (h : Vals vs us) : us.toArray.size = vs.length := by rw [List.size_toArray, ← h.length]
section
variable {X : Cx} {pins : List (Addr × Obj)} {σ : L2.St} {H : Hp} {s : Shared} {a b : Addr} {xs : List V}
/-- against (), against [] -/
theorem eq_tup0 (I : Inv X pins σ H s) {A : Around} (hu : A.units < cLine) (ha : SqT X.K H a xs) (hb : SqT X.K H b []) : SeqAt.RcAt A s (.ref a) (.ref b) xs.isEmpty ∧ SeqAt.RcNeAt A s (.ref a) (.ref b) (!xs.isEmpty) := by
  obtain ⟨us, r1, ⟨o, h1, h2, n1, h3⟩, _⟩ := I.tuple ha
  obtain ⟨ts, r2, ⟨o2, k1, k2, n2, k3⟩, _⟩ := I.tuple hb
  cases vals_nil r2
  have e1 := SeqAt.RcAt.tuples (A := A) (e := fun _ => true) ⟨o, h1, h2, n1, h3⟩ ⟨o2, k1, k2, n2, k3⟩ hu fun j _ z => absurd z (Nat.not_lt_zero j)
  have e2 := SeqAt.RcNeAt.tuples (A := A) (e := fun _ => true) ⟨o, h1, h2, n1, h3⟩ ⟨o2, k1, k2, n2, k3⟩ hu fun j _ z => absurd z (Nat.not_lt_zero j)
  rw [vals_size r1] at e1 e2
  cases xs with
  | nil => exact ⟨by simpa using e1, by simpa using e2⟩
  | cons x xs => exact ⟨by simpa using e1, by simpa using e2⟩
theorem eq_lst0 (I : Inv X pins σ H s) {A : Around} (hu : A.units < cLine) (ha : SqL X.K H a xs) (hb : SqL X.K H b []) : SeqAt.RcAt A s (.ref a) (.ref b) xs.isEmpty ∧ SeqAt.RcNeAt A s (.ref a) (.ref b) (!xs.isEmpty) := by
  obtain ⟨us, r1, p1, _⟩ := I.list ha
  obtain ⟨ts, r2, p2, _⟩ := I.list hb
  cases vals_nil r2
  have hz := vals_size r1
  cases xs with
  | nil =>
    have e1 := SeqAt.RcAt.lists (A := A) (e := fun _ => true) p1.isList p2.isList (by rw [hz]; rfl) hu fun j _ z => absurd z (Nat.not_lt_zero j)
    have e2 := SeqAt.RcNeAt.lists (A := A) (e := fun _ => true) p1.isList p2.isList (by rw [hz]; rfl) hu fun j _ z => absurd z (Nat.not_lt_zero j)
    rw [hz] at e1 e2
    exact ⟨by simpa using e1, by simpa using e2⟩
  | cons x xs =>
    exact ⟨SeqAt.RcAt.lists_lengths p1.isList p2.isList (by rw [hz]; rfl) hu, SeqAt.RcNeAt.lists_lengths p1.isList p2.isList (by rw [hz]; rfl) hu⟩
end
section
variable {T : Txt} {X : Cx}
theorem op_eqDD (hK : X.K = T.K) (hu : X.A.units + 64 < cLine) : OpR X (compareOp .Eq) (rB T eqD) := by
  intro pins s σ H x y v u Q I rx ry h
  obtain ⟨w, a, b, d, sb, ra, rb, e, g⟩ := h
  unfold eqD at e
  split at e
  · cases e
    refine op_eq pins s σ H _ _ v u Q I (ra.str_eq ▸ rx) (rb.str_eq ▸ ry) ⟨rfl, ?_⟩
    rw [str_dec]; exact g.bl sb
  · rename_i l m
    obtain ⟨hz, rfl⟩ := gd_some e
    obtain ⟨z1, z2⟩ := band hz
    obtain rfl := of_decide_eq_true z1
    have z2 := of_decide_eq_true z2
    obtain ⟨p, rfl, h1⟩ := (by simpa only [RepV] using ra.val fun _ z => by cases z)
    obtain ⟨p', rfl, h2⟩ := (by simpa only [RepV] using rb.val fun _ z => by cases z)
    refine op_eqV hu pins s σ H _ _ v u Q I rx ry ⟨1, by decide, .inr ⟨p, p', _, _, rfl, rfl, sb _ _ h1, sb _ _ h2, rfl, fun q hq => ?_⟩, g.bl sb⟩
    rcases l with _ | ⟨y, _ | ⟨z, r⟩⟩
    · cases hq
    · obtain rfl : q = (Sum.inr y.1, V.int y.2) := by simpa [dicKV] using hq
      refine ⟨V.int y.2, ?_, .inl ⟨rfl, rfl⟩⟩
      simp [dicKV, valV]
    · simp at z2
  · cases e
    obtain ⟨p, vs, rfl, q1, q2⟩ := ra.tup_at sb
    obtain ⟨p', vs', rfl, k1, k2⟩ := rb.tup_at sb
    cases k2.nil_eq
    cases (show v = Value.ref p from rx)
    cases (show u = Value.ref p' from ry)
    refine (eq_tup0 I (A := X.A) (by omega) (hK ▸ q1) (hK ▸ k1)).1 _ _ _ _ ⟨.bl vs.isEmpty, H, I, rfl, ?_⟩
    rw [q2.nilV]; exact g.bl sb
  · cases e
    obtain ⟨p, vs, rfl, q1, q2⟩ := ra.lst_at sb
    obtain ⟨p', vs', rfl, k1, k2⟩ := rb.lst_at sb
    cases k2.nil_eq
    cases (show v = Value.ref p from rx)
    cases (show u = Value.ref p' from ry)
    refine (eq_lst0 I (A := X.A) (by omega) (SqL.of q1) (SqL.of k1)).1 _ _ _ _ ⟨.bl vs.isEmpty, H, I, rfl, ?_⟩
    rw [q2.nilV]; exact g.bl sb
  obtain ⟨hz, rfl⟩ := gd_some e
  obtain ⟨z1, hz⟩ := band hz
  obtain ⟨z2, hz⟩ := band hz
  obtain ⟨z3, z4⟩ := band hz
  exact op_eqD hu pins s σ H _ _ v u Q I rx ry ⟨_, _, hK ▸ ra.dp sb _ _ z1, hK ▸ rb.dp sb _ _ z2, z3, z4, g.bl sb⟩
theorem op_neDD (hK : X.K = T.K) (hu : X.A.units + 64 < cLine) : OpR X (compareOp .NotEq) (rB T neD) := by
  intro pins s σ H x y v u Q I rx ry h
  obtain ⟨w, a, b, d, sb, ra, rb, e, g⟩ := h
  unfold neD at e
  split at e
  · cases e
    refine op_ne pins s σ H _ _ v u Q I (ra.str_eq ▸ rx) (rb.str_eq ▸ ry) ⟨rfl, ?_⟩
    rw [str_dec]; exact g.bl sb
  · cases e
    obtain ⟨p, vs, rfl, q1, q2⟩ := ra.tup_at sb
    obtain ⟨p', vs', rfl, k1, k2⟩ := rb.tup_at sb
    cases k2.nil_eq
    cases (show v = Value.ref p from rx)
    cases (show u = Value.ref p' from ry)
    refine (eq_tup0 I (A := X.A) (by omega) (hK ▸ q1) (hK ▸ k1)).2 _ _ _ _ ⟨.bl (!vs.isEmpty), H, I, rfl, ?_⟩
    rw [q2.nilV]; exact g.bl sb
  · cases e
    obtain ⟨p, vs, rfl, q1, q2⟩ := ra.lst_at sb
    obtain ⟨p', vs', rfl, k1, k2⟩ := rb.lst_at sb
    cases k2.nil_eq
    cases (show v = Value.ref p from rx)
    cases (show u = Value.ref p' from ry)
    refine (eq_lst0 I (A := X.A) (by omega) (SqL.of q1) (SqL.of k1)).2 _ _ _ _ ⟨.bl (!vs.isEmpty), H, I, rfl, ?_⟩
    rw [q2.nilV]; exact g.bl sb
  obtain ⟨hz, rfl⟩ := gd_some e
  obtain ⟨z1, hz⟩ := band hz
  obtain ⟨z2, hz⟩ := band hz
  obtain ⟨z3, z4⟩ := band hz
  exact op_neD hu pins s σ H _ _ v u Q I rx ry ⟨_, _, hK ▸ ra.dp sb _ _ z1, hK ▸ rb.dp sb _ _ z2, z3, z4, g.bl sb⟩
theorem op_ltD : OpR X (compareOp .Lt) (rB T ltD) := by
  intro pins s σ H x y v u Q I rx ry h
  obtain ⟨w, a, b, d, sb, ra, rb, e, g⟩ := h
  cases a <;> cases b <;> first | (cases e; done) | skip
  cases e; exact op_lt pins s σ H _ _ v u Q I (ra.int_eq ▸ rx) (rb.int_eq ▸ ry) ⟨_, _, rfl, rfl, g.bl sb⟩
theorem op_leD : OpR X (compareOp .LtE) (rB T leD) := by
  intro pins s σ H x y v u Q I rx ry h
  obtain ⟨w, a, b, d, sb, ra, rb, e, g⟩ := h
  cases a <;> cases b <;> first | (cases e; done) | skip
  cases e; exact op_le pins s σ H _ _ v u Q I (ra.int_eq ▸ rx) (rb.int_eq ▸ ry) ⟨_, _, rfl, rfl, g.bl sb⟩
theorem op_gtD : OpR X (compareOp .Gt) (rB T gtD) := by
  intro pins s σ H x y v u Q I rx ry h
  obtain ⟨w, a, b, d, sb, ra, rb, e, g⟩ := h
  cases a <;> cases b <;> first | (cases e; done) | skip
  cases e; exact op_gt pins s σ H _ _ v u Q I (ra.int_eq ▸ rx) (rb.int_eq ▸ ry) ⟨_, _, rfl, rfl, g.bl sb⟩
theorem op_geD : OpR X (compareOp .GtE) (rB T geD) := by
  intro pins s σ H x y v u Q I rx ry h
  obtain ⟨w, a, b, d, sb, ra, rb, e, g⟩ := h
  cases a <;> cases b <;> first | (cases e; done) | skip
  cases e; exact op_ge pins s σ H _ _ v u Q I (ra.int_eq ▸ rx) (rb.int_eq ▸ ry) ⟨_, _, rfl, rfl, g.bl sb⟩
theorem isN_ok {w : Wd} {H : Hp} {a : D} {x : V} (h : RepB T w H a x) : decide (x = .non) = a.isN := by
  rcases h with h | ⟨_, _, _, rfl, rfl, _⟩
  case inr => rfl
  cases a
  · rw [h.non_eq]; rfl
  · rw [h.bl_eq]; rfl
  · rw [h.int_eq]; rfl
  · rw [h.str_eq]; rfl
  · obtain ⟨a, vs, rfl, _⟩ := (by simpa only [RepV] using h); rfl
  · obtain ⟨a, vs, rfl, _⟩ := (by simpa only [RepV] using h); rfl
  · obtain ⟨a, vs, rfl, _⟩ := (by simpa only [RepV] using h); rfl
  · obtain ⟨a, vs, fs, rfl, _⟩ := (by simpa only [RepV] using h); rfl
  · obtain ⟨a, rfl, _⟩ := (by simpa only [RepV] using h); rfl
  · obtain ⟨a, rfl, _⟩ := (by simpa only [RepV] using h); rfl
theorem op_isD : OpR X (compareOp .Is) (rB T isD) := by
  intro pins s σ H x y v u Q I rx ry h
  obtain ⟨w, a, b, d, sb, ra, rb, e, g⟩ := h
  unfold isD at e
  split at e
  · cases e
    exact op_isBl pins s σ H _ _ v u Q I rx ry ⟨_, _, ra.bl_eq, rb.bl_eq, g.bl sb⟩
  · obtain ⟨hz, rfl⟩ := gd_some e
    cases b <;> first | (cases hz; done) | skip
    exact op_isN pins s σ H _ _ v u Q I rx ry ⟨rb.non_eq, by rw [isN_ok ra]; exact g.bl sb⟩
theorem op_isntD : OpR X (compareOp .IsNot) (rB T isntD) := by
  intro pins s σ H x y v u Q I rx ry h
  obtain ⟨w, a, b, d, sb, ra, rb, e, g⟩ := h
  unfold isntD at e
  split at e
  · cases e
    exact op_notBl pins s σ H _ _ v u Q I rx ry ⟨_, _, ra.bl_eq, rb.bl_eq, g.bl sb⟩
  · obtain ⟨hz, rfl⟩ := gd_some e
    cases b <;> first | (cases hz; done) | skip
    exact op_notN pins s σ H _ _ v u Q I rx ry ⟨rb.non_eq, by rw [isN_ok ra]; exact g.bl sb⟩
theorem op_inD (hK : X.K = T.K) : OpR X (compareOp .In) (rB T inD) := by
  intro pins s σ H x y v u Q I rx ry h
  obtain ⟨w, a, b, d, sb, ra, rb, e, g⟩ := h
  cases b <;> first | (cases a <;> cases e; done) | skip
  · rename_i l
    have e : gd (a.flat && l.all D.flat) (.bl (l.any fun b => eqF b a)) = some d := by cases a <;> exact e
    obtain ⟨hz, rfl⟩ := gd_some e
    obtain ⟨z1, z2⟩ := band hz
    obtain ⟨p, vs, rfl, q1, q2⟩ := rb.tup_at sb
    exact op_in_seq pins s σ H _ _ v u Q I rx ry ⟨p, vs, rfl, .inr (hK ▸ q1), flat_ok ra z1, flats_ok q2 z2, by rw [inV_ok ra z1 q2 z2]; exact g.bl sb⟩
  · rename_i l
    have e : gd (a.flat && l.all D.flat) (.bl (l.any fun b => eqF b a)) = some d := by cases a <;> exact e
    obtain ⟨hz, rfl⟩ := gd_some e
    obtain ⟨z1, z2⟩ := band hz
    obtain ⟨p, vs, rfl, q1, q2⟩ := rb.lst_at sb
    exact op_in_seq pins s σ H _ _ v u Q I rx ry ⟨p, vs, rfl, .inl (SqL.of q1), flat_ok ra z1, flats_ok q2 z2, by rw [inV_ok ra z1 q2 z2]; exact g.bl sb⟩
theorem op_ninD (hK : X.K = T.K) : OpR X (compareOp .NotIn) (rB T ninD) := by
  intro pins s σ H x y v u Q I rx ry h
  obtain ⟨w, a, b, d, sb, ra, rb, e, g⟩ := h
  cases b <;> first | (cases a <;> cases e; done) | skip
  · rename_i l
    have e : gd (a.flat && l.all D.flat) (.bl (!(l.any fun b => eqF b a))) = some d := by cases a <;> exact e
    obtain ⟨hz, rfl⟩ := gd_some e
    obtain ⟨z1, z2⟩ := band hz
    obtain ⟨p, vs, rfl, q1, q2⟩ := rb.tup_at sb
    exact op_notIn_seq pins s σ H _ _ v u Q I rx ry ⟨p, vs, rfl, .inr (hK ▸ q1), flat_ok ra z1, flats_ok q2 z2, by rw [inV_ok ra z1 q2 z2]; exact g.bl sb⟩
  · rename_i l
    have e : gd (a.flat && l.all D.flat) (.bl (!(l.any fun b => eqF b a))) = some d := by cases a <;> exact e
    obtain ⟨hz, rfl⟩ := gd_some e
    obtain ⟨z1, z2⟩ := band hz
    obtain ⟨p, vs, rfl, q1, q2⟩ := rb.lst_at sb
    exact op_notIn_seq pins s σ H _ _ v u Q I rx ry ⟨p, vs, rfl, .inl (SqL.of q1), flat_ok ra z1, flats_ok q2 z2, by rw [inV_ok ra z1 q2 z2]; exact g.bl sb⟩
end
end FW

/-! FwE: expressions over data. -/
namespace FW
open PySem PySem.Spec PyProof.Rows L2
theorem isEmpty_len {α β : Type} {l : List α} {r : List β} (h : l.length = r.length) : l.isEmpty = r.isEmpty := by
  cases l <;> cases r <;> first | rfl | cases h
section
variable {T : Txt} {W : WX} {X : Cx} {a b c d : Expr} {es : List Expr} {ca cb cc cd : State → R D} {cs : State → R (List D)} {pos : Pos} {j : Nat}
/-! ### constants, names -/
def cPure (d : D) : State → R D := fun st => .ok d st
theorem de_pure {v : V} {d : D} (h : PE X a (tC v)) (q : ∀ w, RepV T w d v) : DE T W X a (cPure d) := h.imp fun σ H Q ⟨G, w, st, r, p⟩ => p.here r (q w)
theorem de_int {i : Int} : DE T W X (.Constant (.int i) j pos) (cPure (.int i)) := de_pure pe_int fun _ => .int_
theorem de_bl {i : Bool} : DE T W X (.Constant (.bool i) j pos) (cPure (.bl i)) := de_pure pe_bl fun _ => .bl_
theorem de_str {i : Str} : DE T W X (.Constant (.str i) j pos) (cPure (.str i)) := de_pure pe_str fun _ => .str_
theorem de_non : DE T W X (.Constant .none j pos) (cPure .non) := de_pure pe_non fun _ => .non_
def cVar (i : Nat) : State → R D := fun st => match st.env[i]? with
  | some (.val d) => .ok d st
  | _ => .bad
def cFrz (i : Nat) : State → R D := fun st => match st.env[i]? with
  | some (.own l) => .ok (.lst l) ⟨st.env.set i (.val (.lst l)), st.sto⟩
  | some (.val d) => .ok d st
  | _ => .bad
theorem dv_var {i : Nat} {σ : L2.St} {H : Hp} {Q : VK} (h : TEd T W (cVar i) σ H Q) : tVar i σ H Q := by
  obtain ⟨G, w, st, r, p⟩ := h
  unfold cVar at p
  split at p
  · rename_i d e
    obtain ⟨v, e1, q⟩ := r.valAt e
    exact ⟨v, e1, p.here r q⟩
  · exact p.elim
theorem de_var {i : Nat} {x : Str} (hN : X.N[i]? = some x) (hv : Vis X.env.scope x) (hd : (x == ("__debug__" : Str)) = false) (hcd : (x == ("__classdict__" : Str)) = false) : DE T W X (.Name x pos) (cVar i) :=
  (pe_var hN hv hd hcd).imp fun σ H Q h => dv_var h
theorem de_frz {i : Nat} {x : Str} (hN : X.N[i]? = some x) (hv : Vis X.env.scope x) (hd : (x == ("__debug__" : Str)) = false) (hcd : (x == ("__classdict__" : Str)) = false) : DE T W X (.Name x pos) (cFrz i) := by
  refine (pe_var hN hv hd hcd).imp fun σ H Q ⟨G, w, st, r, p⟩ => ?_
  unfold cFrz at p
  split at p
  · rename_i l e
    obtain ⟨w', v, le, e1, r', q⟩ := r.freezeS e
    exact ⟨v, e1, p w' v H le r' q⟩
  · rename_i d e
    obtain ⟨v, e1, q⟩ := r.valAt e
    exact ⟨v, e1, p.here r q⟩
  · exact p.elim
theorem de_glob {x : Str} {d : D} {v : V} {u : Value} (hg : Gl X x) (hm : X.mg x = some u) (r : RelV v u) (q : ∀ w, RepV T w d v) (hd : (x == ("__debug__" : Str)) = false) : DE T W X (.Name x pos) (cPure d) :=
  de_pure (pe_glob hg hm r hd) q
/-! ### truth -/
def toB (c : State → R D) : State → R Bool := fun st => (c st).bind fun d s => match d with
  | .bl k => .ok k s
  | _ => .bad
def truD : D → Option Bool
  | .non => some false
  | .bl b => some b
  | .int i => some (i != 0)
  | .str y => if szOk y.length then some (y.length != 0) else none
  | .tup l => some (!l.isEmpty)
  | .lst l => some (!l.isEmpty)
  | .scr l => some (!l.isEmpty)
  | _ => none
def cTru (c : State → R D) : State → R Bool := fun st => (c st).bind fun d s => R.lift (truD d) s
theorem dt_bool {σ : L2.St} {H : Hp} {Q : Bool → Hp → Prop} (h : TTd T W (toB ca) σ H Q) : tTest (TEd T W ca) σ H Q := by
  obtain ⟨G, w, st, r, p⟩ := h
  refine (seqE r p).imp fun x H1 ⟨w1, d1, s1, l1, r1, q1, p1⟩ => ?_
  cases d1 <;> first | exact p1.elim | skip
  exact ⟨_, q1.bl_eq, p1 w1 _ H1 (.refl _) r1 rfl⟩
theorem dt_cmp {op : CmpOp} {g : D → D → Option D} (ho : OpR X (compareOp op) (rB T g)) (ha : DE T W X a ca) (hb : DE T W X b cb) (hm : behindInMarks op b = false) : DT T W X (.Compare a [op] [b] pos) (toB (cBin g ca cb)) :=
  (pt_cmpR ho ha hb hm).imp fun σ H Q h => tOp_of (dt_bool h)
theorem tru_v (hK : X.K = T.K) {w : Wd} {H : Hp} {d : D} {v : V} {k : Bool} (s : Sub w H) (h : RepV T w d v) (e : truD d = some k) : TruV X.K v H k := by
  cases d <;> first | (cases e; done) | skip
  · cases e; rw [h.non_eq]; rfl
  · cases e; rw [h.bl_eq]; rfl
  · cases e; rw [h.int_eq]; rfl
  · rename_i x
    have e : (if szOk x.length = true then some (x.length != 0) else none) = some k := e
    by_cases hz : szOk x.length = true
    · rw [if_pos hz] at e
      cases e; rw [h.str_eq]
      refine ⟨szOk_line hz, ?_⟩
      cases x.length with
      | zero => rfl
      | succ n => simp [bne]; omega
    · rw [if_neg hz] at e; cases e
  · cases e
    obtain ⟨p, vs, rfl, q1, q2⟩ := h.tup_at s
    refine .inr (.inl ⟨vs, hK ▸ q1, ?_⟩)
    rw [isEmpty_len q2.length]
  · cases e
    obtain ⟨p, vs, rfl, q1, q2⟩ := h.lst_at s
    refine .inl ⟨vs, SqL.of q1, ?_⟩
    rw [isEmpty_len q2.length]
  · cases e
    obtain ⟨p, vs, rfl, q1, q2⟩ := h.scr_at s
    refine .inl ⟨vs, hK ▸ q1, ?_⟩
    rw [isEmpty_len q2.length]
theorem dt_tru (hK : X.K = T.K) (ha : DE T W X a ca) (he : ∀ whole, isTrue a X.env whole = (do let v ← whole; standAt a.pos; holding [v] (truthy v))) : DT T W X a (cTru ca) := by
  refine (pt_truth ha he).imp fun σ H Q ⟨G, w, st, r, p⟩ => ?_
  refine (seqE r p).imp fun x H1 ⟨w1, d1, s1, l1, r1, q1, p1⟩ => ?_
  obtain ⟨k, e, p2⟩ := Post.lift p1
  exact ⟨k, tru_v hK r1.sub q1 e, p2 w1 _ H1 (.refl _) r1 rfl⟩
/-! ### and, or, not -/
def cAndB (a b : State → R Bool) : State → R Bool := fun st => (a st).bind fun k s => if k then b s else .ok false s
def cOrB (a b : State → R Bool) : State → R Bool := fun st => (a st).bind fun k s => if k then .ok true s else b s
def cNotB (a : State → R Bool) : State → R Bool := fun st => (a st).bind fun k s => .ok (!k) s
section
variable {ba bb : State → R Bool} {rest : List Expr}
theorem Post.boolHere {G : Ent} {w : Wd} {st : State} {σ : L2.St} {H : Hp} {k : Bool} {Q : Bool → Hp → Prop} (r : RS T G w st σ H) (h : Post T W G w σ eqB (.ok k st) Q) : Q k H := h w k H (.refl _) r rfl
theorem dw_and1 (ha : DT T W X a ba) : DW T W X (.BoolOp .And [a] pos) ba := pw_and1 ha
theorem dw_or1 (ha : DT T W X a ba) : DW T W X (.BoolOp .Or [a] pos) ba := pw_or1 ha
theorem dw_and (ha : DT T W X a ba) (hb : DW T W X (.BoolOp .And (b :: rest) pos) bb) : DW T W X (.BoolOp .And (a :: b :: rest) pos) (cAndB ba bb) := by
  refine (pw_and ha hb).imp fun σ H Q ⟨G, w, st, r, p⟩ => ?_
  refine (seqT r p).imp fun k H1 ⟨w1, s1, l1, r1, p1⟩ => ?_
  cases k with
  | true => exact (if_pos rfl : (if true = true then _ else _) = _) ▸ (⟨G, w1, s1, r1, p1⟩ : TTd T W bb σ H1 Q)
  | false => exact (if_neg (by decide) : (if false = true then _ else _) = _) ▸ p1.boolHere r1
theorem dw_or (ha : DT T W X a ba) (hb : DW T W X (.BoolOp .Or (b :: rest) pos) bb) : DW T W X (.BoolOp .Or (a :: b :: rest) pos) (cOrB ba bb) := by
  refine (pw_or ha hb).imp fun σ H Q ⟨G, w, st, r, p⟩ => ?_
  refine (seqT r p).imp fun k H1 ⟨w1, s1, l1, r1, p1⟩ => ?_
  cases k with
  | false => exact (if_neg (by decide) : (if false = true then _ else _) = _) ▸ (⟨G, w1, s1, r1, p1⟩ : TTd T W bb σ H1 Q)
  | true => exact (if_pos rfl : (if true = true then _ else _) = _) ▸ p1.boolHere r1
theorem dt_not (ha : DT T W X a ba) : DT T W X (.UnaryOp .Not a pos) (cNotB ba) := by
  refine (pt_not ha).imp fun σ H Q ⟨G, w, st, r, p⟩ => ?_
  exact (seqT r p).imp fun k H1 ⟨w1, s1, l1, r1, p1⟩ => p1.boolHere r1
/-- as values: all but the last are truth values -/
def cAndV (a b : State → R D) : State → R D := fun st => (a st).bind fun d s => match d with
  | .bl k => if k then b s else .ok (.bl false) s
  | _ => .bad
def cOrV (a b : State → R D) : State → R D := fun st => (a st).bind fun d s => match d with
  | .bl k => if k then .ok (.bl true) s else b s
  | _ => .bad
def cNotV (a : State → R D) : State → R D := fun st => (a st).bind fun d s => match d with
  | .bl k => .ok (.bl (!k)) s
  | _ => .bad
theorem de_one {op} (ha : DE T W X a ca) : DE T W X (.BoolOp op [a] pos) ca := pe_one ha
theorem de_and (ha : DE T W X a ca) (hb : DE T W X (.BoolOp .And (b :: rest) pos) cb) : DE T W X (.BoolOp .And (a :: b :: rest) pos) (cAndV ca cb) := by
  refine (pe_and ha hb).imp fun σ H Q ⟨G, w, st, r, p⟩ => ?_
  refine (seqE r p).imp fun x H1 ⟨w1, d1, s1, l1, r1, q1, p1⟩ => ?_
  cases d1 <;> first | exact p1.elim | skip
  rename_i k
  refine ⟨k, q1.bl_eq, ?_⟩
  cases k with
  | true => exact (if_pos rfl : (if true = true then _ else _) = _) ▸ (⟨G, w1, s1, r1, p1⟩ : TEd T W cb σ H1 Q)
  | false => exact (if_neg (by decide) : (if false = true then _ else _) = _) ▸ p1.here r1 .bl_
theorem de_or (ha : DE T W X a ca) (hb : DE T W X (.BoolOp .Or (b :: rest) pos) cb) : DE T W X (.BoolOp .Or (a :: b :: rest) pos) (cOrV ca cb) := by
  refine (pe_or ha hb).imp fun σ H Q ⟨G, w, st, r, p⟩ => ?_
  refine (seqE r p).imp fun x H1 ⟨w1, d1, s1, l1, r1, q1, p1⟩ => ?_
  cases d1 <;> first | exact p1.elim | skip
  rename_i k
  refine ⟨k, q1.bl_eq, ?_⟩
  cases k with
  | false => exact (if_neg (by decide) : (if false = true then _ else _) = _) ▸ (⟨G, w1, s1, r1, p1⟩ : TEd T W cb σ H1 Q)
  | true => exact (if_pos rfl : (if true = true then _ else _) = _) ▸ p1.here r1 .bl_
theorem de_not (ha : DE T W X a ca) : DE T W X (.UnaryOp .Not a pos) (cNotV ca) := by
  refine (pe_not ha).imp fun σ H Q ⟨G, w, st, r, p⟩ => ?_
  refine (seqE r p).imp fun x H1 ⟨w1, d1, s1, l1, r1, q1, p1⟩ => ?_
  cases d1 <;> first | exact p1.elim | skip
  exact ⟨_, q1.bl_eq, p1.here r1 .bl_⟩
def cIte (c : State → R Bool) (a b : State → R D) : State → R D := fun st => (c st).bind fun k s => if k then a s else b s
theorem de_ite (hc : DT T W X c ba) (ha : DE T W X a ca) (hb : DE T W X b cb) : DE T W X (.IfExp c a b pos) (cIte ba ca cb) := by
  refine (pe_ifExp hc ha hb).imp fun σ H Q ⟨G, w, st, r, p⟩ => ?_
  refine (seqT r p).imp fun k H1 ⟨w1, s1, l1, r1, p1⟩ => ?_
  cases k with
  | true => exact (if_pos rfl : (if true = true then _ else _) = _) ▸ (⟨G, w1, s1, r1, p1⟩ : TEd T W ca σ H1 Q)
  | false => exact (if_neg (by decide) : (if false = true then _ else _) = _) ▸ (⟨G, w1, s1, r1, p1⟩ : TEd T W cb σ H1 Q)
end
/-! ### chains -/
def cCh2 (g g' : D → D → Option D) (a b c : State → R D) : State → R D := fun st => (a st).bind fun x s1 => (b s1).bind fun y s2 => match g x y with
  | some (.bl k) => if k then (c s2).bind fun z s3 => R.lift (g' y z) s3 else .ok (.bl false) s2
  | _ => .bad
def Pureg (g : D → D → Option D) : Prop := ∀ x y d, g x y = some d → ∃ k, d = .bl k
/-- an operator whose outcome is a truth value, the heap as it was -/
theorem rB_bl {g : D → D → Option D} {w : Wd} {H : Hp} {x y : D} {u v : V} {k : Bool} {Q : VK} (s : Sub w H) (rx : RepV T w x u) (ry : RepV T w y v) (e : g x y = some (.bl k)) (q : ∀ w' H', Gr w H w' H' → Q (.bl k) H') : rB T g u v H Q :=
  ⟨w, x, y, .bl k, s, .inl rx, .inl ry, e, fun w' v' H' gr rv => by rw [rv.bl_eq]; exact q w' H' gr⟩
theorem ch2_of {g g' : D → D → Option D} {σ : L2.St} {H : Hp} {Q : VK} (h : TEd T W (cCh2 g g' ca cb cc) σ H Q) : tChain (rB T g) (rB T g') (TEd T W ca) (TEd T W cb) (TEd T W cc) σ H Q := by
  obtain ⟨G, w, st, r, p⟩ := h
  refine (seqE r p).imp fun x H1 ⟨w1, d1, s1, l1, r1, q1, p1⟩ => ?_
  refine (seqE r1 p1).imp fun y H2 ⟨w2, d2, s2, l2, r2, q2, p2⟩ => ?_
  cases e : g d1 d2 with
  | none => rw [e] at p2; exact p2.elim
  | some d =>
    rw [e] at p2
    cases d <;> first | exact p2.elim | skip
    rename_i k
    refine rB_bl r2.sub (q1.up l2) q2 e fun w3 H3 gr => ⟨k, rfl, ?_⟩
    have r3 := r2.gr gr
    cases k with
    | true =>
      refine (if_pos rfl : (if true = true then _ else _) = _) ▸ (seqE r3 (Post.up gr.le p2)).imp fun z H4 ⟨w4, d4, s4, l4, r4, q4, p4⟩ => ?_
      obtain ⟨d, e, p5⟩ := Post.lift p4
      exact ⟨w4, d2, d4, d, r4.sub, .inl ((q2.up gr.le).up l4), .inl q4, e, Post.grown r4 p5⟩
    | false => exact (if_neg (by decide) : (if false = true then _ else _) = _) ▸ (Post.up gr.le p2).here r3 .bl_
theorem de_ch2 {op op' : CmpOp} {g g' : D → D → Option D} (ho : OpR X (compareOp op) (rB T g)) (ho' : OpR X (compareOp op') (rB T g')) (ha : DE T W X a ca) (hb : DE T W X b cb) (hc : DE T W X c cc) (hm : lastMarks [op, op'] [b, c] = false) :
    DE T W X (.Compare a [op, op'] [b, c] pos) (cCh2 g g' ca cb cc) := (pe_chain ho ho' ha hb hc hm).imp fun σ H Q h => ch2_of h
theorem dt_ch2 {op op' : CmpOp} {g g' : D → D → Option D} (ho : OpR X (compareOp op) (rB T g)) (ho' : OpR X (compareOp op') (rB T g')) (ha : DE T W X a ca) (hb : DE T W X b cb) (hc : DE T W X c cc) (hm : lastMarks [op, op'] [b, c] = false) :
    DT T W X (.Compare a [op, op'] [b, c] pos) (toB (cCh2 g g' ca cb cc)) := (pt_chain ho ho' ha hb hc hm).imp fun σ H Q h => ch2_of (dt_bool h)
/-! three -/
def tChain3 (r r' r2 : R2) (ta tb tc td : TE) : TE := fun σ H Q => ta σ H fun x H1 => tb σ H1 fun y H2 => r x y H2 fun z H3 => ∃ k, z = .bl k ∧
  (if k = true then tc σ H3 fun y2 H4 => r' y y2 H4 fun z H5 => ∃ k, z = .bl k ∧ (if k = true then td σ H5 fun w' H6 => r2 y2 w' H6 Q else Q (.bl false) H5) else Q (.bl false) H3)
theorem pe_chain3 {op op' op2 : CmpOp} {r r' r2 : R2} {ta tb tc td : TE} (ho : OpR X (compareOp op) r) (ho' : OpR X (compareOp op') r') (ho2 : OpR X (compareOp op2) r2) (ha : PE X a ta) (hb : PE X b tb) (hc : PE X c tc) (hd : PE X d td)
    (hm : lastMarks [op, op', op2] [b, c, d] = false) : PE X (.Compare a [op, op', op2] [b, c, d] pos) (tChain3 r r' r2 ta tb tc td) := by
  refine ⟨fun pins s σ H Q I h => ?_⟩
  refine Compare_chain (thn (ha.run pins s σ H _ I h) fun v s1 ⟨x, H1, I1, r1, q1⟩ => chain_link (thn (hb.run pins s1 σ H1 _ I1 q1) fun u s2 ⟨y, H2, I2, r2, q2⟩ =>
    thn (ho pins s2 σ H2 x y v u _ I2 r1 r2 q2) fun d s3 ⟨z, H3, I3, r3, k, e, q3⟩ => ?_)) hm
  subst e
  cases r3
  refine wpAny_truthy_bool ?_
  cases k with
  | false => exact ite_ff ⟨.bl false, H3, I3, rfl, q3⟩
  | true =>
    refine ite_tt (chain_link (thn (hc.run pins s3 σ H3 _ I3 q3) fun u4 s4 ⟨y4, H4, I4, r4, q4⟩ => thn (ho' pins s4 σ H4 y y4 u u4 _ I4 r2 r4 q4) fun d s5 ⟨z, H5, I5, r5, k, e, q5⟩ => ?_))
    subst e
    cases r5
    refine wpAny_truthy_bool ?_
    cases k with
    | false => exact ite_ff ⟨.bl false, H5, I5, rfl, q5⟩
    | true => exact ite_tt (chain_last (thn (hd.run pins s5 σ H5 _ I5 q5) fun w' s6 ⟨z', H6, I6, r6, q6⟩ => ho2 pins s6 σ H6 y4 z' u4 w' Q I6 r4 r6 q6))
theorem pt_chain3 {op op' op2 : CmpOp} {r r' r2 : R2} {ta tb tc td : TE} (ho : OpR X (compareOp op) r) (ho' : OpR X (compareOp op') r') (ho2 : OpR X (compareOp op2) r2) (ha : PE X a ta) (hb : PE X b tb) (hc : PE X c tc) (hd : PE X d td)
    (hm : lastMarks [op, op', op2] [b, c, d] = false) : PT X (.Compare a [op, op', op2] [b, c, d] pos) (tTest (tChain3 r r' r2 ta tb tc td)) := by
  refine ⟨fun pins s σ H Q I h => ?_⟩
  refine isTrue_chain (thn (ha.run pins s σ H _ I h) fun v s1 ⟨x, H1, I1, r1, q1⟩ => test_link (thn (hb.run pins s1 σ H1 _ I1 q1) fun u s2 ⟨y, H2, I2, r2, q2⟩ =>
    thn (ho pins s2 σ H2 x y v u _ I2 r1 r2 q2) fun d s3 ⟨z, H3, I3, r3, k, e, q3⟩ => ?_)) hm
  subst e
  cases r3
  refine wpAny_truthy_bool ?_
  cases k with
  | false =>
    obtain ⟨k', e', q'⟩ := q3
    cases e'
    exact ite_ff ⟨H3, I3, q'⟩
  | true =>
    refine ite_tt (test_link (thn (hc.run pins s3 σ H3 _ I3 q3) fun u4 s4 ⟨y4, H4, I4, r4, q4⟩ => thn (ho' pins s4 σ H4 y y4 u u4 _ I4 r2 r4 q4) fun d s5 ⟨z, H5, I5, r5, k, e, q5⟩ => ?_))
    subst e
    cases r5
    refine wpAny_truthy_bool ?_
    cases k with
    | false =>
      obtain ⟨k', e', q'⟩ := q5
      cases e'
      exact ite_ff ⟨H5, I5, q'⟩
    | true =>
      refine ite_tt (test_last (thn (hd.run pins s5 σ H5 _ I5 q5) fun w' s6 ⟨z', H6, I6, r6, q6⟩ => thn (ho2 pins s6 σ H6 y4 z' u4 w' _ I6 r4 r6 q6) fun d' s7 ⟨z2, H7, I7, r7, k2, e2, q7⟩ => ?_))
      subst e2
      cases r7
      exact wpAny_truthy_bool ⟨H7, I7, q7⟩
def cCh3 (g g' g2 : D → D → Option D) (a b c d : State → R D) : State → R D := fun st => (a st).bind fun x s1 => (b s1).bind fun y s2 => match g x y with
  | some (.bl k) => if k then cCh2 g' g2 (cPure y) c d s2 else .ok (.bl false) s2
  | _ => .bad
theorem ch3_of {g g' g2 : D → D → Option D} {σ : L2.St} {H : Hp} {Q : VK} (h : TEd T W (cCh3 g g' g2 ca cb cc cd) σ H Q) : tChain3 (rB T g) (rB T g') (rB T g2) (TEd T W ca) (TEd T W cb) (TEd T W cc) (TEd T W cd) σ H Q := by
  obtain ⟨G, w, st, r, p⟩ := h
  refine (seqE r p).imp fun x H1 ⟨w1, d1, s1, l1, r1, q1, p1⟩ => ?_
  refine (seqE r1 p1).imp fun y H2 ⟨w2, d2, s2, l2, r2, q2, p2⟩ => ?_
  cases e : g d1 d2 with
  | none => rw [e] at p2; exact p2.elim
  | some d =>
    rw [e] at p2
    cases d <;> first | exact p2.elim | skip
    rename_i k
    refine rB_bl r2.sub (q1.up l2) q2 e fun w3 H3 gr => ⟨k, rfl, ?_⟩
    have r3 := r2.gr gr
    cases k with
    | true =>
      have p3 : Post T W G w3 σ (RepV T) ((cc s2).bind fun y s2 => match g' d2 y with
        | some (.bl k) => if k then (cd s2).bind fun z s3 => R.lift (g2 y z) s3 else .ok (.bl false) s2
        | _ => .bad) Q := Post.up gr.le p2
      refine (if_pos rfl : (if true = true then _ else _) = _) ▸ (seqE r3 p3).imp fun z H4 ⟨w4, d4, s4, l4, r4, q4, p4⟩ => ?_
      cases e : g' d2 d4 with
      | none => rw [e] at p4; exact p4.elim
      | some d =>
        rw [e] at p4
        cases d <;> first | exact p4.elim | skip
        rename_i k
        refine rB_bl r4.sub ((q2.up gr.le).up l4) q4 e fun w5 H5 gr5 => ⟨k, rfl, ?_⟩
        have r5 := r4.gr gr5
        cases k with
        | true =>
          refine (if_pos rfl : (if true = true then _ else _) = _) ▸ (seqE r5 (Post.up gr5.le p4)).imp fun z H6 ⟨w6, d6, s6, l6, r6, q6, p6⟩ => ?_
          obtain ⟨d, e, p7⟩ := Post.lift p6
          exact ⟨w6, d4, d6, d, r6.sub, .inl ((q4.up gr5.le).up l6), .inl q6, e, Post.grown r6 p7⟩
        | false => exact (if_neg (by decide) : (if false = true then _ else _) = _) ▸ (Post.up gr5.le p4).here r5 .bl_
    | false => exact (if_neg (by decide) : (if false = true then _ else _) = _) ▸ (Post.up gr.le p2).here r3 .bl_
theorem de_ch3 {op op' op2 : CmpOp} {g g' g2 : D → D → Option D} (ho : OpR X (compareOp op) (rB T g)) (ho' : OpR X (compareOp op') (rB T g')) (ho2 : OpR X (compareOp op2) (rB T g2)) (ha : DE T W X a ca) (hb : DE T W X b cb) (hc : DE T W X c cc) (hd : DE T W X d cd)
    (hm : lastMarks [op, op', op2] [b, c, d] = false) : DE T W X (.Compare a [op, op', op2] [b, c, d] pos) (cCh3 g g' g2 ca cb cc cd) := (pe_chain3 ho ho' ho2 ha hb hc hd hm).imp fun σ H Q h => ch3_of h
theorem dt_ch3 {op op' op2 : CmpOp} {g g' g2 : D → D → Option D} (ho : OpR X (compareOp op) (rB T g)) (ho' : OpR X (compareOp op') (rB T g')) (ho2 : OpR X (compareOp op2) (rB T g2)) (ha : DE T W X a ca) (hb : DE T W X b cb) (hc : DE T W X c cc) (hd : DE T W X d cd)
    (hm : lastMarks [op, op', op2] [b, c, d] = false) : DT T W X (.Compare a [op, op', op2] [b, c, d] pos) (toB (cCh3 g g' g2 ca cb cc cd)) := (pt_chain3 ho ho' ho2 ha hb hc hd hm).imp fun σ H Q h => ch3_of (dt_bool h)
end
end FW

/-! FwF: displays, subscripts, calls of built-ins. -/
namespace FW
open PySem PySem.Spec PyProof.Rows L2
section
variable {T : Txt} {W : WX} {X : Cx} {a b c d : Expr} {es : List Expr} {ca cb cc cd : State → R D} {cs cr : State → R (List D)} {pos p2 : Pos} {j : Nat}
/-! ### argument lists -/
def cNil : State → R (List D) := fun st => .ok [] st
def cCons (a : State → R D) (r : State → R (List D)) : State → R (List D) := fun st => (a st).bind fun d s => (r s).bind fun ds s2 => .ok (d :: ds) s2
def itemsD : D → Option (List D)
  | .tup l => some l
  | .lst l => some l
  | .scr l => some l
  | _ => none
def cStar (a : State → R D) (r : State → R (List D)) : State → R (List D) := fun st => (a st).bind fun d s => match itemsD d with
  | some l => (r s).bind fun ds s2 => .ok (l ++ ds) s2
  | none => .bad
theorem Post.hereA {G : Ent} {w : Wd} {st : State} {σ : L2.St} {H : Hp} {ds : List D} {vs : List V} {Q : List V → Hp → Prop} (r : RS T G w st σ H) (h : Post T W G w σ (RepVs T) (.ok ds st) Q) (q : RepVs T w ds vs) : Q vs H := h w vs H (.refl w) r q
theorem da_nil : DA T W X [] cNil := pa_nil.imp fun σ H Q ⟨G, w, st, r, p⟩ => p.hereA r .nil
theorem da_cons (ha : DE T W X a ca) (hr : DA T W X es cr) (hs : starEach (a :: es) X.env = (false, eval a X.env) :: starEach es X.env) : DA T W X (a :: es) (cCons ca cr) := by
  refine (pa_cons ha hr hs).imp fun σ H Q ⟨G, w, st, r, p⟩ => ?_
  refine (seqE r p).imp fun x H1 ⟨w1, d1, s1, l1, r1, q1, p1⟩ => ?_
  exact (seqA r1 p1).imp fun y H2 ⟨w2, d2, s2, l2, r2, q2, p2⟩ => p2.hereA r2 (.cons (q1.up l2) q2)
theorem items_at (hK : X.K = T.K) {w : Wd} {H : Hp} {d : D} {v : V} {l : List D} (s : Sub w H) (h : RepV T w d v) (e : itemsD d = some l) : ∃ p vs, v = .ref p ∧ (SqT X.K H p vs ∨ SqL X.K H p vs) ∧ RepVs T w l vs := by
  cases d <;> first | (cases e; done) | skip
  · cases e; obtain ⟨p, vs, rfl, q1, q2⟩ := h.tup_at s; exact ⟨p, vs, rfl, .inl (hK ▸ q1), q2⟩
  · cases e; obtain ⟨p, vs, rfl, q1, q2⟩ := h.lst_at s; exact ⟨p, vs, rfl, .inr (SqL.of q1), q2⟩
  · cases e; obtain ⟨p, vs, rfl, q1, q2⟩ := h.scr_at s; exact ⟨p, vs, rfl, .inr (hK ▸ q1), q2⟩
theorem da_star (hK : X.K = T.K) (ha : DE T W X a ca) (hr : DA T W X es cr) (hs : starEach (.Starred a p2 :: es) X.env = (true, eval a X.env) :: starEach es X.env) : DA T W X (.Starred a p2 :: es) (cStar ca cr) := by
  refine (StX.pa_star ha hr hs).imp fun σ H Q ⟨G, w, st, r, p⟩ => ?_
  refine (seqE r p).imp fun x H1 ⟨w1, d1, s1, l1, r1, q1, p1⟩ => ?_
  cases e : itemsD d1 with
  | none => rw [e] at p1; exact p1.elim
  | some l =>
    rw [e] at p1
    obtain ⟨q, vs, rfl, h1, h2⟩ := items_at hK r1.sub q1 e
    refine ⟨q, vs, rfl, h1, ?_⟩
    exact (seqA r1 p1).imp fun y H2 ⟨w2, d2, s2, l2, r2, q2, p2⟩ => p2.hereA r2 ((h2.up l2).append q2)
/-! ### displays -/
def cTup (cs : State → R (List D)) : State → R D := fun st => (cs st).bind fun l s => if szOk l.length then .ok (.tup l) s else .bad
def cLst (cs : State → R (List D)) : State → R (List D) := fun st => (cs st).bind fun l s => if szOk l.length then .ok l s else .bad
theorem de_tup {k : Nat} (h : DA T W X es cs) : DE T W X (.Tuple es k pos) (cTup cs) := by
  refine (pe_tup h).imp fun σ H Q ⟨G, w, st, r, p⟩ => ?_
  refine (seqA r p).imp fun xs H1 ⟨w1, l, s1, l1, r1, q1, p1⟩ => ?_
  by_cases hz : szOk l.length = true
  · rw [if_pos hz] at p1
    refine ⟨by rw [← q1.length]; exact szOk_line hz, fun a e => ?_⟩
    exact (Post.grown r1 p1).tup r1.sub q1 a e
  · rw [if_neg hz] at p1; exact p1.elim
/-- a new list: its address, nobody's -/
def PostF (T : Txt) (W : WX) (G : Ent) (w : Wd) (σ : L2.St) (r : R (List D)) (Q : VK) : Prop := match r with
  | .ok l st' => ∀ w' a H', w.le w' → RS T G w' st' σ H' → Fresh T G w' st' σ H' a l → Q (.ref a) H'
  | .exc e st' => ∀ w' cls dx H', w.le w' → RS T G w' st' σ H' → RepX T w' e cls dx → W cls dx σ H'
  | .bad => False
def TFd (T : Txt) (W : WX) (c : State → R (List D)) : TE := fun σ H Q => ∃ G w st, RS T G w st σ H ∧ PostF T W G w σ (c st) Q
abbrev DF (T : Txt) (W : WX) (X : Cx) (e : Expr) (c : State → R (List D)) : Prop := PE X e (TFd T W c)
theorem PostF.up {G : Ent} {w w' : Wd} {σ : L2.St} {r : R (List D)} {Q : VK} (le : w.le w') (h : PostF T W G w σ r Q) : PostF T W G w' σ r Q := by
  cases r with
  | ok d s => exact fun w1 v H' a b c => h w1 v H' (le.trans a) b c
  | exc e s => exact fun w1 v H' a b c => h w1 v H' a (le.trans b) c
  | bad => exact h
theorem df_seqA {G : Ent} {w : Wd} {st : State} {σ : L2.St} {H : Hp} {Q : VK} {f : List D → State → R (List D)} (r : RS T G w st σ H) (h : PostF T W G w σ ((cs st).bind f) Q) :
    TAd T W cs σ H fun v H1 => ∃ w1 d s, w.le w1 ∧ RS T G w1 s σ H1 ∧ RepVs T w1 d v ∧ PostF T W G w1 σ (f d s) Q :=
  ⟨G, w, st, r, by
    cases e : cs st with
    | ok d s => rw [e] at h; exact fun w' v H' a b c => ⟨w', d, s, a, b, c, PostF.up a h⟩
    | exc x s => rw [e] at h; exact h
    | bad => rw [e] at h; exact h⟩
theorem df_seqE {G : Ent} {w : Wd} {st : State} {σ : L2.St} {H : Hp} {Q : VK} {f : D → State → R (List D)} (r : RS T G w st σ H) (h : PostF T W G w σ ((ca st).bind f) Q) :
    TEd T W ca σ H fun v H1 => ∃ w1 d s, w.le w1 ∧ RS T G w1 s σ H1 ∧ RepV T w1 d v ∧ PostF T W G w1 σ (f d s) Q :=
  ⟨G, w, st, r, by
    cases e : ca st with
    | ok d s => rw [e] at h; exact fun w' v H' a b c => ⟨w', d, s, a, b, c, PostF.up a h⟩
    | exc x s => rw [e] at h; exact h
    | bad => rw [e] at h; exact h⟩
theorem PostF.new {G : Ent} {w : Wd} {st : State} {σ : L2.St} {H : Hp} {Q : VK} {l : List D} {vs : List V} (r : RS T G w st σ H) (h : PostF T W G w σ (.ok l st) Q) (q : RepVs T w l vs) : ∀ a, H a = none → Q (.ref a) (upd H a (.lst vs)) :=
  fun a e => h w a _ (.refl w) (r.newU e _) (r.newL e q)
theorem df_lst (h : DA T W X es cs) : DF T W X (.List es pos) (cLst cs) := by
  refine (pe_lst h).imp fun σ H Q ⟨G, w, st, r, p⟩ => ?_
  refine (df_seqA r p).imp fun xs H1 ⟨w1, l, s1, l1, r1, q1, p1⟩ => ?_
  by_cases hz : szOk l.length = true
  · rw [if_pos hz] at p1
    exact ⟨by rw [← q1.length]; exact szOk_line hz, p1.new r1 q1⟩
  · rw [if_neg hz] at p1; exact p1.elim
/-- frozen at once -/
def cFz (c : State → R (List D)) : State → R D := fun st => (c st).bind fun l s => .ok (.lst l) s
theorem de_fz (h : DF T W X a cs) : DE T W X a (cFz cs) := by
  refine h.imp fun σ H Q ⟨G, w, st, r, p⟩ => ⟨G, w, st, r, ?_⟩
  unfold cFz at p
  cases e : cs st with
  | ok l s =>
    rw [e] at p
    intro w' v H' le r' f
    obtain ⟨w2, le2, r2, q2⟩ := r'.freezeL f
    exact p w2 _ H' (le.trans le2) r2 q2
  | exc x s => rw [e] at p; exact p
  | bad => rw [e] at p; exact p
/-- laid into the store -/
def cNew (c : State → R (List D)) : State → R D := fun st => (c st).bind fun l s => .ok (.ref s.sto.length) ⟨s.env, s.sto ++ [.lst l]⟩
theorem de_new (h : DF T W X a cs) : DE T W X a (cNew cs) := by
  refine h.imp fun σ H Q ⟨G, w, st, r, p⟩ => ⟨G, w, st, r, ?_⟩
  unfold cNew at p
  cases e : cs st with
  | ok l s =>
    rw [e] at p
    intro w' v H' le r' f
    obtain ⟨w2, le2, r2, q2⟩ := r'.newCell f
    exact p w2 _ H' (le.trans le2) r2 q2
  | exc x s => rw [e] at p; exact p
  | bad => rw [e] at p; exact p
/-! ### subscripts -/
def charS (z : Str) (i : Int) : Option D := (atI z.cps.toList i).map fun c => .str ⟨#[c]⟩
def ixD : D → D → Option D
  | .tup l, .int i => atI l i
  | .lst l, .int i => atI l i
  | .scr l, .int i => atI l i
  | .str z, .int i => if szOk z.length then charS z i else none
  | _, _ => none
theorem atI_rep {w : Wd} {l : List D} {vs : List V} {i : Int} {d : D} (h : RepVs T w l vs) (e : atI l i = some d) : ∃ v, atI vs i = some v ∧ RepV T w d v := by
  unfold atI at e ⊢
  rw [← h.length]
  cases q : ixN l.length i with
  | none => rw [q] at e; cases e
  | some k => rw [q] at e; exact h.get e
theorem ix_D (hK : X.K = T.K) : IxR X (rB T ixD) := by
  intro value slice pins s σ H x y v u Q I rx ry h hs
  obtain ⟨w, a, b, d, sb, ra, rb, e, g⟩ := h
  cases a <;> cases b <;> first | (cases e; done) | skip
  · rename_i z i
    have e : (if szOk z.length = true then charS z i else none) = some d := e
    by_cases hz : szOk z.length = true
    · rw [if_pos hz] at e
      unfold charS at e
      obtain ⟨ch, e1, rfl⟩ := Option.map_eq_some_iff.mp e
      exact ix_str value slice pins s σ H _ _ v u Q I (ra.str_eq ▸ rx) (rb.int_eq ▸ ry) ⟨z, i, ch, rfl, rfl, szOk_line hz, e1, g.str sb⟩ hs
    · rw [if_neg hz] at e; cases e
  · obtain ⟨p, vs, rfl, q1, q2⟩ := ra.tup_at sb
    obtain ⟨z, e1, e2⟩ := atI_rep q2 e
    exact ix_tup value slice pins s σ H _ _ v u Q I rx (rb.int_eq ▸ ry) ⟨p, vs, _, z, rfl, rfl, hK ▸ q1, e1, g.here sb e2⟩ hs
  · obtain ⟨p, vs, rfl, q1, q2⟩ := ra.lst_at sb
    obtain ⟨z, e1, e2⟩ := atI_rep q2 e
    exact ix_list value slice pins s σ H _ _ v u Q I rx (rb.int_eq ▸ ry) ⟨p, vs, _, z, rfl, rfl, SqL.of q1, e1, g.here sb e2⟩ hs
  · obtain ⟨p, vs, rfl, q1, q2⟩ := (ra.val fun _ z => by cases z).scr_at sb
    obtain ⟨z, e1, e2⟩ := atI_rep q2 e
    exact ix_list value slice pins s σ H _ _ v u Q I rx (rb.int_eq ▸ ry) ⟨p, vs, _, z, rfl, rfl, hK ▸ q1, e1, g.here sb e2⟩ hs
theorem de_ix (hK : X.K = T.K) (ha : DE T W X a ca) (hb : DE T W X b cb) (hs : PlainIx b) : DE T W X (.Subscript a b pos) (cBin ixD ca cb) := (pe_ix (ix_D hK) ha hb hs).imp fun σ H Q h => tOp_of h
/-! slices -/
def cutL (l : List D) (lo hi : Option Int) : List D := (l.drop (HT.sIx l.length 0 lo)).take (HT.sIx l.length l.length hi - HT.sIx l.length 0 lo)
def slD : D → Option Int → Option Int → Option D
  | .tup l, lo, hi => some (.tup (cutL l lo hi))
  | .lst l, lo, hi => some (.lst (cutL l lo hi))
  | .scr l, lo, hi => some (.lst (cutL l lo hi))
  | _, _, _ => none
theorem cut_rep {w : Wd} {l : List D} {vs : List V} (h : RepVs T w l vs) (lo hi : Option Int) : RepVs T w (cutL l lo hi) (cutV vs lo hi) := by
  unfold cutL cutV
  rw [h.length]
  exact (h.drop _).take _
theorem cut_all {α : Type} (l : List α) {a b : Nat} (h1 : a = 0) (h2 : b = l.length) : (l.drop a).take (b - a) = l := by subst h1 h2; simp
def rSl (T : Txt) : V → Option Int → Option Int → Hp → VK → Prop := fun x lo hi H Q => ∃ w a d, Sub w H ∧ RepB T w H a x ∧ slD a lo hi = some d ∧ Grown T w H d Q
theorem sl_D (hK : X.K = T.K) : SlR X (rSl T) := by
  intro pins s σ H x v vl vu lo hi sl Q I rx hs pl pu h
  obtain ⟨w, a, d, sb, ra, e, g⟩ := h
  cases a <;> first | (cases e; done) | skip
  · cases e
    obtain ⟨p, vs, rfl, q1, q2⟩ := ra.tup_at sb
    refine sl_tupA pins s σ H _ v vl vu lo hi sl Q I rx hs pl pu ⟨p, vs, rfl, hK ▸ q1, fun ⟨h1, h2⟩ => ?_, fun _ => g.tup sb (cut_rep q2 lo hi)⟩
    rw [← q2.length] at h1 h2
    have : cutL _ lo hi = _ := cut_all _ h1 h2
    rw [this] at g
    exact g.here sb (ra.val fun _ z => by cases z)
  · cases e
    obtain ⟨p, vs, rfl, q1, q2⟩ := ra.lst_at sb
    exact sl_list pins s σ H _ v vl vu lo hi sl Q I rx hs pl pu ⟨p, vs, rfl, SqL.of q1, g.lst sb (cut_rep q2 lo hi)⟩
  · cases e
    obtain ⟨p, vs, rfl, q1, q2⟩ := (ra.val fun _ z => by cases z).scr_at sb
    exact sl_list pins s σ H _ v vl vu lo hi sl Q I rx hs pl pu ⟨p, vs, rfl, hK ▸ q1, g.lst sb (cut_rep q2 lo hi)⟩
def eqO (_ : Wd) (b b' : Option Int) : Prop := b' = b
def TOd (T : Txt) (W : WX) (c : State → R (Option Int)) : TO := fun σ H Q => ∃ G w st, RS T G w st σ H ∧ Post T W G w σ eqO (c st) Q
abbrev DO (T : Txt) (W : WX) (X : Cx) (e : Option Expr) (c : State → R (Option Int)) : Prop := PO X e (TOd T W c)
def cNoP : State → R (Option Int) := fun st => .ok none st
def cPart (c : State → R D) : State → R (Option Int) := fun st => (c st).bind fun d s => match d with
  | .int i => .ok (some i) s
  | _ => .bad
theorem _root_.L2.PO.imp {X : Cx} {e : Option Expr} {t t' : TO} (h : PO X e t) (k : ∀ σ H Q, t' σ H Q → t σ H Q) : PO X e t' := ⟨fun pins s σ H Q I q => h.run pins s σ H Q I (k σ H Q q)⟩
theorem do_none : DO T W X none cNoP := po_none.imp fun σ H Q ⟨G, w, st, r, p⟩ => p w none H (.refl _) r rfl
theorem do_some (ha : DE T W X a ca) : DO T W X (some a) (cPart ca) := by
  refine (po_some ha).imp fun σ H Q ⟨G, w, st, r, p⟩ => ?_
  refine (seqE r p).imp fun x H1 ⟨w1, d1, s1, l1, r1, q1, p1⟩ => ?_
  cases d1 <;> first | exact p1.elim | skip
  exact ⟨_, q1.int_eq, p1 w1 _ H1 (.refl _) r1 rfl⟩
theorem seqO {c : State → R (Option Int)} {γ δ : Type} {Rep' : Wd → γ → δ → Prop} {f : Option Int → State → R γ} {G : Ent} {w : Wd} {st : State} {σ : L2.St} {H : Hp} {Q : δ → Hp → Prop} (r : RS T G w st σ H) (h : Post T W G w σ Rep' ((c st).bind f) Q) :
    TOd T W c σ H fun v H1 => ∃ w1 s, w.le w1 ∧ RS T G w1 s σ H1 ∧ Post T W G w1 σ Rep' (f v s) Q :=
  ⟨G, w, st, r, by
    cases e : c st with
    | ok d s =>
      rw [e] at h
      intro w' v H' a b c
      cases (show v = d from c)
      exact ⟨w', s, a, b, Post.up a h⟩
    | exc x s => rw [e] at h; exact h
    | bad => rw [e] at h; exact h⟩
theorem TOd.imp {σ : L2.St} {H : Hp} {c : State → R (Option Int)} {Q Q' : Option Int → Hp → Prop} (h : TOd T W c σ H Q) (k : ∀ v H, Q v H → Q' v H) : TOd T W c σ H Q' := by
  obtain ⟨G, w, st, r, p⟩ := h; exact ⟨G, w, st, r, p.mono k⟩
def cSl (a : State → R D) (lo hi : State → R (Option Int)) : State → R D := fun st => (a st).bind fun x s1 => (lo s1).bind fun l s2 => (hi s2).bind fun h s3 => R.lift (slD x l h) s3
theorem de_sl (hK : X.K = T.K) {lo hi : Option Expr} {cl ch : State → R (Option Int)} (ha : DE T W X a ca) (hl : DO T W X lo cl) (hh : DO T W X hi ch) : DE T W X (.Subscript a (.Slice lo hi none p2) pos) (cSl ca cl ch) := by
  refine (pe_slice (sl_D hK) ha hl hh).imp fun σ H Q ⟨G, w, st, r, p⟩ => ?_
  refine (seqE r p).imp fun x H1 ⟨w1, d1, s1, l1, r1, q1, p1⟩ => ?_
  refine (seqO r1 p1).imp fun l H2 ⟨w2, s2, l2, r2, p2⟩ => ?_
  refine (seqO r2 p2).imp fun h H3 ⟨w3, s3, l3, r3, p3⟩ => ?_
  obtain ⟨d, e, p4⟩ := Post.lift p3
  exact ⟨w3, d1, d, r3.sub, .inl ((q1.up l2).up l3), e, Post.grown r3 p4⟩
/-! ### calls of built-ins -/
theorem tCB_of {g : List D → Option D} {σ : L2.St} {H : Hp} {Q : VK} (h : TEd T W (cArgs g cs) σ H Q) : tCB (rN T g) (TAd T W cs) σ H Q := by
  obtain ⟨G, w, st, r, p⟩ := h
  refine (seqA r p).imp fun x H1 ⟨w1, d1, s1, l1, r1, q1, p1⟩ => ?_
  obtain ⟨d, e, p3⟩ := Post.lift p1
  exact ⟨w1, d1, d, r1.sub, .inl q1, e, Post.grown r1 p3⟩
def lenD : List D → Option D
  | [.tup l] => some (.int l.length)
  | [.lst l] => some (.int l.length)
  | [.scr l] => some (.int l.length)
  | [.str x] => if szOk x.length then some (.int x.length) else none
  | _ => none
def absD : List D → Option D
  | [.int i] => some (.int (if i < 0 then -i else i))
  | _ => none
/-- the greatest, the least of some ints -/
def maxI : Int → List Int → Int
  | m, [] => m
  | m, a :: l => maxI (if a > m then a else m) l
def minI : Int → List Int → Int
  | m, [] => m
  | m, a :: l => minI (if a < m then a else m) l
def intsO : List D → Option (List Int)
  | [] => some []
  | .int i :: r => (intsO r).map (i :: ·)
  | _ => none
def max2D : List D → Option D
  | [.int i, .int j] => some (.int (if j > i then j else i))
  | [.lst l] => (match intsO l with
    | some (m :: r) => some (.int (maxI m r))
    | _ => none)
  | _ => none
def min2D : List D → Option D
  | [.int i, .int j] => some (.int (if j < i then j else i))
  | [.lst l] => (match intsO l with
    | some (m :: r) => some (.int (minI m r))
    | _ => none)
  | _ => none
theorem maxI_ok : ∀ (l : List Int) (m : Int), (maxI m l = m ∨ maxI m l ∈ l) ∧ m ≤ maxI m l ∧ ∀ y ∈ l, y ≤ maxI m l
  | [], m => ⟨.inl rfl, Int.le_refl _, fun _ z => by cases z⟩
  | a :: l, m => by
    obtain ⟨h1, h2, h3⟩ := maxI_ok l (if a > m then a else m)
    show (maxI (if a > m then a else m) l = m ∨ maxI (if a > m then a else m) l ∈ a :: l) ∧ m ≤ maxI (if a > m then a else m) l ∧ ∀ y ∈ a :: l, y ≤ maxI (if a > m then a else m) l
    generalize maxI (if a > m then a else m) l = M at h1 h2 h3
    refine ⟨?_, by split at h2 <;> omega, fun y hy => ?_⟩
    · rcases h1 with h1 | h1
      · split at h1
        · exact .inr (by rw [h1]; exact List.mem_cons_self)
        · exact .inl h1
      · exact .inr (List.mem_cons_of_mem _ h1)
    · rcases List.mem_cons.mp hy with rfl | hy
      · split at h2 <;> omega
      · exact h3 y hy
theorem minI_ok : ∀ (l : List Int) (m : Int), (minI m l = m ∨ minI m l ∈ l) ∧ minI m l ≤ m ∧ ∀ y ∈ l, minI m l ≤ y
  | [], m => ⟨.inl rfl, Int.le_refl _, fun _ z => by cases z⟩
  | a :: l, m => by
    obtain ⟨h1, h2, h3⟩ := minI_ok l (if a < m then a else m)
    show (minI (if a < m then a else m) l = m ∨ minI (if a < m then a else m) l ∈ a :: l) ∧ minI (if a < m then a else m) l ≤ m ∧ ∀ y ∈ a :: l, minI (if a < m then a else m) l ≤ y
    generalize minI (if a < m then a else m) l = M at h1 h2 h3
    refine ⟨?_, by split at h2 <;> omega, fun y hy => ?_⟩
    · rcases h1 with h1 | h1
      · split at h1
        · exact .inr (by rw [h1]; exact List.mem_cons_self)
        · exact .inl h1
      · exact .inr (List.mem_cons_of_mem _ h1)
    · rcases List.mem_cons.mp hy with rfl | hy
      · split at h2 <;> omega
      · exact h3 y hy
theorem maxI_mem (m : Int) (l : List Int) : maxI m l ∈ m :: l := by
  rcases (maxI_ok l m).1 with h | h
  · rw [h]; exact List.mem_cons_self
  · exact List.mem_cons_of_mem _ h
theorem minI_mem (m : Int) (l : List Int) : minI m l ∈ m :: l := by
  rcases (minI_ok l m).1 with h | h
  · rw [h]; exact List.mem_cons_self
  · exact List.mem_cons_of_mem _ h
theorem maxI_le (m : Int) (l : List Int) : ∀ y ∈ m :: l, y ≤ maxI m l := fun y hy => by
  rcases List.mem_cons.mp hy with rfl | hy
  · exact (maxI_ok l y).2.1
  · exact (maxI_ok l m).2.2 y hy
theorem minI_le (m : Int) (l : List Int) : ∀ y ∈ m :: l, minI m l ≤ y := fun y hy => by
  rcases List.mem_cons.mp hy with rfl | hy
  · exact (minI_ok l y).2.1
  · exact (minI_ok l m).2.2 y hy
def intD : List D → Option D
  | [.int i] => some (.int i)
  | [.bl k] => some (.int (if k then 1 else 0))
  | _ => none
def strOk (i : Int) : Bool := decide (i.natAbs < 2 ^ 1900)
def strD : List D → Option D
  | [.int i] => if strOk i then some (.str (toString i)) else none
  | _ => none
def intsD : List D → Option (List Int)
  | [] => some []
  | .int i :: r => (intsD r).map (i :: ·)
  | _ => none
def blsD : List D → Option (List Bool)
  | [] => some []
  | .bl i :: r => (blsD r).map (i :: ·)
  | _ => none
def sumD : List D → Option D
  | [.lst l] => (intsD l).map fun ns => .int ns.sum
  | _ => none
def allD : List D → Option D
  | [.lst l] => (blsD l).map fun ns => .bl (ns.all id)
  | _ => none
def tupleD : List D → Option D
  | [.tup l] => some (.tup l)
  | [.lst l] => some (.tup l)
  | _ => none
theorem RepVs.one {w : Wd} {d : D} {vs : List V} (h : RepVs T w [d] vs) : ∃ v, vs = [v] ∧ RepV T w d v := by
  obtain ⟨v, r, rfl, h1, h2⟩ := h.uncons
  rw [h2.nil_eq]; exact ⟨v, rfl, h1⟩
theorem RepVs.two {w : Wd} {d e : D} {vs : List V} (h : RepVs T w [d, e] vs) : ∃ v u, vs = [v, u] ∧ RepV T w d v ∧ RepV T w e u := by
  obtain ⟨v, r, rfl, h1, h2⟩ := h.uncons
  obtain ⟨u, rfl, h3⟩ := h2.one
  exact ⟨v, u, rfl, h1, h3⟩
theorem RepBs.one {w : Wd} {H : Hp} {d : D} {vs : List V} (h : RepBs T w H [d] vs) : ∃ v, vs = [v] ∧ RepB T w H d v := by
  rcases h with h | ⟨d', v, e, rfl, q⟩
  · obtain ⟨v, rfl, q⟩ := h.one; exact ⟨v, rfl, .inl q⟩
  · cases e; exact ⟨v, rfl, q⟩
theorem RepBs.two {w : Wd} {H : Hp} {d e : D} {vs : List V} (h : RepBs T w H [d, e] vs) : ∃ v u, vs = [v, u] ∧ RepV T w d v ∧ RepV T w e u := by
  rcases h with h | ⟨d', v, e, rfl, q⟩
  · exact h.two
  · cases e
theorem ints_rep {w : Wd} : ∀ {l : List D} {ns : List Int} {vs : List V}, RepVs T w l vs → intsD l = some ns → vs = ns.map V.int
  | [], ns, _, h, e => by rw [h.nil_eq]; cases e; rfl
  | d :: l, ns, _, h, e => by
    obtain ⟨v, r, rfl, h1, h2⟩ := h.uncons
    cases d <;> first | (cases e; done) | skip
    obtain ⟨ms, e1, rfl⟩ := Option.map_eq_some_iff.mp (show (intsD l).map (_ :: ·) = some ns from e)
    rw [h1.int_eq, ints_rep h2 e1]; rfl
theorem bls_rep {w : Wd} : ∀ {l : List D} {ns : List Bool} {vs : List V}, RepVs T w l vs → blsD l = some ns → vs = ns.map V.bl
  | [], ns, _, h, e => by rw [h.nil_eq]; cases e; rfl
  | d :: l, ns, _, h, e => by
    obtain ⟨v, r, rfl, h1, h2⟩ := h.uncons
    cases d <;> first | (cases e; done) | skip
    obtain ⟨ms, e1, rfl⟩ := Option.map_eq_some_iff.mp (show (blsD l).map (_ :: ·) = some ns from e)
    rw [h1.bl_eq, bls_rep h2 e1]; rfl
theorem call_lenD (hK : X.K = T.K) : CallR X (.builtin "len") (rN T lenD) := by
  intro pins s σ H vs us Q I r h
  obtain ⟨w, ds, d, sb, rd, e, g⟩ := h
  rcases ds with _ | ⟨x, _ | ⟨y, t⟩⟩
  · cases e
  · obtain ⟨v, rfl, rv⟩ := rd.one
    cases x <;> first | (cases e; done) | skip
    · rename_i z
      have e : (if szOk z.length = true then some (D.int z.length) else none) = some d := e
      by_cases hz : szOk z.length = true
      · rw [if_pos hz] at e; cases e
        exact call_len pins s σ H _ us Q I r ⟨v, _, rfl, by rw [rv.str_eq]; exact ⟨szOk_line hz, rfl⟩, g.int sb⟩
      · rw [if_neg hz] at e; cases e
    · cases e
      obtain ⟨p, vs, rfl, q1, q2⟩ := rv.tup_at sb
      exact call_len_seq pins s σ H _ us Q I r ⟨p, vs, rfl, .inr (hK ▸ q1), by rw [← q2.length]; exact g.int sb⟩
    · cases e
      obtain ⟨p, vs, rfl, q1, q2⟩ := rv.lst_at sb
      exact call_len_seq pins s σ H _ us Q I r ⟨p, vs, rfl, .inl (SqL.of q1), by rw [← q2.length]; exact g.int sb⟩
    · cases e
      obtain ⟨p, vs, rfl, q1, q2⟩ := rv.scr_at sb
      exact call_len_seq pins s σ H _ us Q I r ⟨p, vs, rfl, .inl (hK ▸ q1), by rw [← q2.length]; exact g.int sb⟩
  · cases x <;> cases e
theorem call_absD : CallR X (.builtin "abs") (rN T absD) := by
  intro pins s σ H vs us Q I r h
  obtain ⟨w, ds, d, sb, rd, e, g⟩ := h
  rcases ds with _ | ⟨x, _ | ⟨y, t⟩⟩
  · cases e
  · obtain ⟨v, rfl, rv⟩ := rd.one
    cases x <;> first | (cases e; done) | skip
    cases e
    exact call_abs pins s σ H _ us Q I r ⟨_, by rw [rv.int_eq], g.int sb⟩
  · cases x <;> cases e
theorem intsO_eq : ∀ {l : List D} {ns : List Int}, intsO l = some ns → l = ns.map .int
  | [], _, h => by cases h; rfl
  | d :: l, ns, h => by
    cases d <;> first | (cases h; done) | skip
    obtain ⟨r, h1, rfl⟩ := Option.map_eq_some_iff.mp (show (intsO l).map _ = some ns from h)
    rw [intsO_eq h1]; rfl
theorem repVs_ints {T : Txt} {w : Wd} : ∀ {ns : List Int} {vs : List V}, RepVs T w (ns.map .int) vs → vs = ns.map .int
  | [], _, h => h.nil_eq
  | n :: ns, _, h => by
    obtain ⟨v, r, rfl, h1, h2⟩ := h.uncons
    rw [h1.int_eq, repVs_ints h2]; rfl
theorem call_max2D (hc : X.calm = true) : CallR X (.builtin "max") (rN T max2D) := by
  intro pins s σ H vs us Q I r h
  obtain ⟨w, ds, d, sb, rd, e, g⟩ := h
  unfold max2D at e
  split at e
  · rename_i i j
    cases e
    obtain ⟨v, u, rfl, h1, h2⟩ := rd.two
    exact call_max2 hc pins s σ H _ us Q I r ⟨i, j, by rw [h1.int_eq, h2.int_eq], g.int sb⟩
  · rename_i l
    split at e
    · rename_i m rr ei
      cases e
      obtain ⟨v, rfl, rv⟩ := rd.one
      obtain ⟨p, vs, rfl, q1, q2⟩ := rv.lst_at sb
      rw [intsO_eq ei] at q2
      rw [repVs_ints q2] at q1
      refine cr_max hc pins s σ H _ us Q I r ⟨p, m :: rr, rfl, SqL.of q1, Nat.succ_pos _, fun y h1 h2 => ?_⟩
      rw [show y = maxI m rr from Int.le_antisymm (maxI_le m rr y h1) (h2 _ (maxI_mem m rr))]
      exact g.int sb
    · cases e
  · cases e
theorem call_min2D (hc : X.calm = true) : CallR X (.builtin "min") (rN T min2D) := by
  intro pins s σ H vs us Q I r h
  obtain ⟨w, ds, d, sb, rd, e, g⟩ := h
  unfold min2D at e
  split at e
  · rename_i i j
    cases e
    obtain ⟨v, u, rfl, h1, h2⟩ := rd.two
    exact call_min2 hc pins s σ H _ us Q I r ⟨i, j, by rw [h1.int_eq, h2.int_eq], g.int sb⟩
  · rename_i l
    split at e
    · rename_i m rr ei
      cases e
      obtain ⟨v, rfl, rv⟩ := rd.one
      obtain ⟨p, vs, rfl, q1, q2⟩ := rv.lst_at sb
      rw [intsO_eq ei] at q2
      rw [repVs_ints q2] at q1
      refine cr_min hc pins s σ H _ us Q I r ⟨p, m :: rr, rfl, SqL.of q1, Nat.succ_pos _, fun y h1 h2 => ?_⟩
      rw [show y = minI m rr from Int.le_antisymm (h2 _ (minI_mem m rr)) (minI_le m rr y h1)]
      exact g.int sb
    · cases e
  · cases e
theorem call_intD : CallR X (.type "int") (rN T intD) := by
  intro pins s σ H vs us Q I r h
  obtain ⟨w, ds, d, sb, rd, e, g⟩ := h
  rcases ds with _ | ⟨x, _ | ⟨y, t⟩⟩
  · cases e
  · obtain ⟨v, rfl, rv⟩ := rd.one
    cases x <;> first | (cases e; done) | skip
    · cases e
      exact call_int1 pins s σ H _ us Q I r (.inr ⟨_, by rw [rv.bl_eq], g.int sb⟩)
    · cases e
      exact call_int1 pins s σ H _ us Q I r (.inl ⟨_, by rw [rv.int_eq], g.int sb⟩)
  · cases x <;> cases e
theorem call_strD : CallR X (.type "str") (rN T strD) := by
  intro pins s σ H vs us Q I r h
  obtain ⟨w, ds, d, sb, rd, e, g⟩ := h
  rcases ds with _ | ⟨x, _ | ⟨y, t⟩⟩
  · cases e
  · obtain ⟨v, rfl, rv⟩ := rd.one
    cases x <;> first | (cases e; done) | skip
    rename_i i
    have e : (if strOk i = true then some (D.str (toString i)) else none) = some d := e
    by_cases hz : strOk i = true
    · rw [if_pos hz] at e; cases e
      exact call_str_int pins s σ H _ us Q I r ⟨_, by rw [rv.int_eq], Nat.lt_trans (log2_lt (k := 1900) (by decide) (of_decide_eq_true hz)) (by decide), g.str sb⟩
    · rw [if_neg hz] at e; cases e
  · cases x <;> cases e
theorem call_sumD (hc : X.calm = true) : CallR X (.builtin "sum") (rN T sumD) := by
  intro pins s σ H vs us Q I r h
  obtain ⟨w, ds, d, sb, rd, e, g⟩ := h
  rcases ds with _ | ⟨x, _ | ⟨y, t⟩⟩
  · cases e
  · obtain ⟨v, rfl, rv⟩ := rd.one
    cases x <;> first | (cases e; done) | skip
    obtain ⟨ns, e1, rfl⟩ := Option.map_eq_some_iff.mp (show (intsD _).map _ = some d from e)
    obtain ⟨p, vs, rfl, q1, q2⟩ := rv.lst_at sb
    rw [ints_rep q2 e1] at q1
    exact cr_sum hc pins s σ H _ us Q I r ⟨p, ns, rfl, SqL.of q1, g.int sb⟩
  · cases x <;> cases e
theorem call_allD (hc : X.calm = true) : CallR X (.builtin "all") (rN T allD) := by
  intro pins s σ H vs us Q I r h
  obtain ⟨w, ds, d, sb, rd, e, g⟩ := h
  rcases ds with _ | ⟨x, _ | ⟨y, t⟩⟩
  · cases e
  · obtain ⟨v, rfl, rv⟩ := rd.one
    cases x <;> first | (cases e; done) | skip
    obtain ⟨ns, e1, rfl⟩ := Option.map_eq_some_iff.mp (show (blsD _).map _ = some d from e)
    obtain ⟨p, vs, rfl, q1, q2⟩ := rv.lst_at sb
    rw [bls_rep q2 e1] at q1
    exact cr_all hc pins s σ H _ us Q I r ⟨p, ns, rfl, SqL.of q1, g.bl sb⟩
  · cases x <;> cases e
theorem call_tupleD (hK : X.K = T.K) : CallR X (.type "tuple") (rN T tupleD) := by
  intro pins s σ H vs us Q I r h
  obtain ⟨w, ds, d, sb, rd, e, g⟩ := h
  rcases ds with _ | ⟨x, _ | ⟨y, t⟩⟩
  · cases e
  · obtain ⟨v, rfl, rv⟩ := rd.one
    cases x <;> first | (cases e; done) | skip
    · cases e
      obtain ⟨p, vs, rfl, q1, q2⟩ := rv.tup_at sb
      exact call_tuple_of pins s σ H _ us Q I r ⟨p, vs, rfl, .inr ⟨hK ▸ q1, g.here sb (rv.val fun _ z => by cases z)⟩⟩
    · cases e
      obtain ⟨p, vs, rfl, q1, q2⟩ := rv.lst_at sb
      exact call_tuple_of pins s σ H _ us Q I r ⟨p, vs, rfl, .inl ⟨SqL.of q1, g.tup sb q2⟩⟩
  · cases x <;> cases e
end
end FW

/-! FwG: defs and their calls. -/
namespace FW
open PySem PySem.Spec PyProof.Rows L2
structure RoomG (k : Nat) (A : Around) : Prop extends Room k A where
  gu : A.guards = some []
theorem RoomG.mono {j k : Nat} {A : Around} (r : RoomG k A) (h : j ≤ k) : RoomG j A := ⟨r.toRoom.mono h, r.gu⟩
theorem RoomG.deeper {k : Nat} {A : Around} (r : RoomG (k + 1) A) (env : PySem.Env) : RoomG k (A.deeper env) := ⟨r.toRoom.deeper env, r.gu⟩
theorem RoomG.hu {k : Nat} {A : Around} (r : RoomG k A) : A.units + 64 < cLine := r.toRoom.units
structure FnG (P : Program) (w : World) (K : PySem.W.Frag) (mg : Str → Option Value) (base : Heap) (k : Nat) (f : Addr) (fd : FuncData) (ps : List Str) (sp : Sp) : Prop where
  len : ∀ vs H Q E, sp vs H Q E → vs.length = ps.length
  run : ∀ (A : Around) (outer : List PySem.Env) (s : Shared) (H : Hp) (args : Args) (us : List Value) (vs : List V) (Q : VK) (E : XK), RoomG k A → Env0 P w K mg base A outer s H → BindsTo s fd args (ps.zip us) → Vals vs us → sp vs H Q E →
    codeAny (model P w) A (.call (.ref f) args) (CR (L2.CX P w) outer P w H s Q E) s
theorem fn_ofG {P : Program} {w : World} {K : PySem.W.Frag} {mg : Str → Option Value} {base : Heap} {k : Nat} {f : Addr} {name qual : Str} {params : Arguments} {body : List Stmt} {scope : Scope} {dV kV doc pm cdv ct oc : Value} {an od : Option Addr}
    {osl : Array (Option Value)} {N ps : List Str} {sp : Sp} (lk : K.lookup f = some ⟨oc, od, .func (PySem.W.fnOf name qual params body scope dV kV doc pm an cdv ct), osl⟩) (hcd : PySem.W.codeIn K cdv qual = true) (S : FnScope N ps scope)
    (len : ∀ vs H Q E, sp vs H Q E → vs.length = ps.length)
    (hbody : ∀ (A : Around) (outer : List PySem.Env) (s : Shared) (H : Hp) (vs : List V) (Q : VK) (E : XK), RoomG k (A.deeper (envOfC qual scope s.heap.objs.size f cdv)) → sp vs H Q E →
      ∃ t, PSs (cxOf (L2.CX P w) P w K mg base N qual scope f cdv A outer s H E) body t ∧ t { nx := fun _ H' => Q .non H', rt := Q } (L2.start N vs) H) :
    FnG P w K mg base (k + 1) f (PySem.W.fnOf name qual params body scope dV kV doc pm an cdv ct) ps sp := by
  refine ⟨len, fun A outer s H args us vs Q E hr e0 hb r hsp => ?_⟩
  have hl := len _ _ _ _ hsp
  have KX : K.In s.heap := e0.mod.kin.keeps fun b o e => (e0.bs b o e).1
  have lim : s.heap.NoLimit := e0.mod.nolimit.keeps fun b o e => (e0.bs b o e).1
  have hkind : ∀ y ∈ ps.zip us, scope.names.lookup y.1 = some .local ∨ (scope.names.lookup y.1 = some .cell ∧ ((cellsFrom (s.heap.objs.size + 1) scope.names []).lookup y.1).isSome = true) := fun ⟨n, v⟩ hy => by
    rcases S.par n (List.of_mem_zip hy).1 with q | q
    · exact .inl q
    · exact .inr ⟨q, PySem.W.cellsFrom_some _ _ _ (.inl q)⟩
  refine codeAny_call_function hr.toRoom.depth (KX _ _ lk) rfl S.co S.gen rfl (PySem.W.codeRec_of KX hcd) (hb _ _ _ _ ?_)
  refine wpAny_newFunctionEnv_cells S.kind hkind fun env he s1 x => ?_
  subst he
  refine ⟨lim.keeps x.toInCall.keep, codeAny_func ?_⟩
  obtain ⟨t, ht, hq⟩ := hbody A outer s H vs Q E (hr.deeper _) hsp
  have I : Inv (cxOf (L2.CX P w) P w K mg base N qual scope f cdv A outer s H E) [] (L2.start N vs) H s1 := inv_start S hr.hd e0 hl r x
  refine wpAny_mono (ht.run [] s1 (L2.start N vs) H _ I hq) (fun fl s' hs => ?_) fun e s' hs => hs
  have fin : ∀ {σ' : L2.St} {H' : Hp} {v : V} {u : Value}, Inv (cxOf (L2.CX P w) P w K mg base N qual scope f cdv A outer s H E) [] σ' H' s' → RelV v u → Q v H' → CE outer P w H s Q u s' :=
    fun {σ' H' v u} J rv q => ⟨v, H', J.os, J.bare, J.base, J.hok, rv, q⟩
  cases fl with
  | ret u =>
    obtain ⟨v, σ', H', J, rv, q⟩ := hs
    exact fin J rv q
  | next =>
    obtain ⟨σ', H', J, q⟩ := hs
    exact fin (v := V.non) (u := Value.none) J rfl q
  | brk =>
    obtain ⟨_, _, _, q⟩ := hs
    exact False.elim q
  | cont =>
    obtain ⟨_, _, _, q⟩ := hs
    exact False.elim q
section
variable {X : Cx} {k : Nat} {f : Addr} {fd : FuncData} {ps : List Str} {sp : Sp} {E : L2.St → XK} {x m : Str} {p pos apos : Pos} {e o : Expr} {es : List Expr} {ta : TE} {t : TA}
theorem run_fnG {pins : List (Addr × Obj)} {σ : L2.St} {H : Hp} {s : Shared} {Q : VK} {us : List Value} {vs : List V} (F : FnG X.prog X.w X.K X.mg X.base k f fd ps sp) (hr : RoomG k X.A) (hb : Binds X.K fd ps []) (hx : PassesAt (L2.CX X.prog X.w) X σ (E σ))
    (I : Inv X pins σ H s) (r : Vals vs us) (h : sp vs H Q (E σ)) : wpAny (model X.prog X.w) X.A (call (.ref f) us) (EP X pins σ Q) X.xe s := by
  have hl : us.length = ps.length := by rw [← r.length]; exact F.len _ _ _ _ h
  have b := hb s us I.kIn (by rw [List.append_nil]; exact hl)
  rw [List.append_nil] at b
  refine wpAny_call (codeAny_mono (F.run X.A X.stack s H ⟨us, []⟩ us vs Q (E σ) hr I.env0 b r h) fun r s' hq => ?_)
  cases r with
  | error e => exact hx pins H s e s' I hq
  | ok fl =>
    cases fl with
    | ret u => exact I.after hq
    | next => exact False.elim hq
    | brk => exact False.elim hq
    | cont => exact False.elim hq
theorem pe_callG (F : FnG X.prog X.w X.K X.mg X.base k f fd ps sp) (hr : RoomG k X.A) (hg : Gl X x) (hm : X.mg x = some (.ref f)) (hk : PySem.W.keepIn X.K (.ref f) = true) (hb : Binds X.K fd ps []) (hx : ∀ σ, PassesAt (L2.CX X.prog X.w) X σ (E σ))
    (ha : PA X (e :: es) t) (hdb : (x == ("__debug__" : Str)) = false) (he : starEach (e :: es) X.env = (false, eval e X.env) :: starEach es X.env) (hpl : (backTo pos (starEach es X.env)).any (·.1) = false) :
    PE X (.Call (.Name x p) (e :: es) [] pos) (tCallS sp E t) := by
  refine ⟨fun pins s σ H Q I h => ?_⟩
  refine wpAny_Call_Name_kw (ld_glob I hg hm ?_ hdb)
  refine PySem.W.callWith_K (h₀ := X.base) I.ok.mod.kin hk (thn (ha.run pos pins s σ H _ I h) fun us s1 ⟨vs, H1, I1, r, q⟩ => ⟨I1.kIn, ?_⟩) he hpl
  exact run_fnG F hr hb (hx σ) I1 r q
theorem pe_callG0 (F : FnG X.prog X.w X.K X.mg X.base k f fd ps sp) (hr : RoomG k X.A) (hg : Gl X x) (hm : X.mg x = some (.ref f)) (hk : PySem.W.keepIn X.K (.ref f) = true) (hb : Binds X.K fd ps []) (hx : ∀ σ, PassesAt (L2.CX X.prog X.w) X σ (E σ))
    (hdb : (x == ("__debug__" : Str)) = false) : PE X (.Call (.Name x p) [] [] pos) (tCallS sp E tNil) := by
  refine ⟨fun pins s σ H Q I h => ?_⟩
  refine wpAny_Call_Name_kw (ld_glob I hg hm ?_ hdb)
  exact PySem.W.callWith_K0 I.kIn hk (run_fnG (us := []) F hr hb (hx σ) I .nil h)
end
/-! ### over data -/
abbrev Call := List D → Store → R D
/-- the def's promise -/
def spD (T : Txt) (n : Nat) (c : Call) : Sp := fun vs H Q E => ∃ w S ds, ds.length = n ∧ RC T w S H ∧ RepVs T w ds vs ∧ match c ds S with
  | .ok d s => ∀ w' v H', Fra w H w' H' → RC T w' s.sto H' → RepV T w' d v → Q v H'
  | .exc e s => ∀ w' cls dx H', Fra w H w' H' → RC T w' s.sto H' → RepX T w' e cls dx → E cls dx H'
  | .bad => False
def cCall (c : Call) (cs : State → R (List D)) : State → R D := fun st => (cs st).bind fun ds s => match c ds s.sto with
  | .ok d s' => .ok d ⟨s.env, s'.sto⟩
  | .exc e s' => .exc e ⟨s.env, s'.sto⟩
  | .bad => .bad
theorem tCall_of {T : Txt} {W : WX} {c : Call} {n : Nat} {cs : State → R (List D)} {σ : L2.St} {H : Hp} {Q : VK} (ha : ∀ ds s, c ds s ≠ .bad → ds.length = n) (h : TEd T W (cCall c cs) σ H Q) : tCallS (spD T n c) (WE W) (TAd T W cs) σ H Q := by
  obtain ⟨G, w, st, r, p⟩ := h
  refine (seqA r p).imp fun vs H1 ⟨w1, ds, s1, l1, r1, q1, p1⟩ => ?_
  have nb : c ds s1.sto ≠ .bad := fun z => by rw [z] at p1; exact p1
  refine ⟨w1, s1.sto, ds, ha _ _ nb, r1.rc, q1, ?_⟩
  cases e : c ds s1.sto with
  | ok d s =>
    rw [e] at p1
    exact fun w' v H' f rc q => p1 w' v H' f.le (r1.call f rc) q
  | exc x s =>
    rw [e] at p1
    exact fun w' cls dx H' f rc q => p1 w' cls dx H' f.le (r1.call f rc) q
  | bad => exact nb e
/-! ### how arguments bind -/
theorem zip_lookup {ps : List Str} {us : List Value} (nd : ps.Nodup) (h : us.length = ps.length) : (ps.filterMap fun n => ((ps.zip us).lookup n).map fun v => (n, v)) = ps.zip us := by
  have gen : ∀ (qs : List Str) (vs : List Value), vs.length = qs.length → qs.Nodup → ∀ L : List (Str × Value), (∀ (i : Nat) (n : Str) (v : Value), qs[i]? = some n → vs[i]? = some v → L.lookup n = some v) → (qs.filterMap fun n => (L.lookup n).map fun v => (n, v)) = qs.zip vs := by
    intro qs
    induction qs with
    | nil => intro vs _ _ L _; rfl
    | cons q qs ih =>
      intro vs hl nd L hL
      cases vs with
      | nil => cases hl
      | cons v vs =>
        have e := hL 0 q v rfl rfl
        rw [List.filterMap_cons, e]
        show (q, v) :: _ = (q, v) :: _
        rw [ih vs (by simpa using hl) (List.nodup_cons.mp nd).2 L fun i n u h1 h2 => hL (i + 1) n u (by simpa using h1) (by simpa using h2)]
        rfl
  refine gen ps us h nd _ ?_
  have look : ∀ (qs : List Str) (vs : List Value), qs.Nodup → ∀ (i : Nat) (n : Str) (v : Value), qs[i]? = some n → vs[i]? = some v → (qs.zip vs).lookup n = some v := by
    intro qs
    induction qs with
    | nil => intro vs _ i n v h; simp at h
    | cons q qs ih =>
      intro vs nd i n v h1 h2
      cases vs with
      | nil => simp at h2
      | cons u vs =>
        cases i with
        | zero =>
          simp at h1 h2; subst h1 h2
          simp [List.zip_cons_cons, List.lookup_cons]
        | succ i =>
          have h1 : qs[i]? = some n := by simpa using h1
          have ne : n ≠ q := fun z => (List.nodup_cons.mp nd).1 (z ▸ List.mem_of_getElem? h1)
          rw [List.zip_cons_cons, List.lookup_cons, beq_eq_false_iff_ne.mpr ne]
          exact ih vs (List.nodup_cons.mp nd).2 i n v h1 (by simpa using h2)
  exact look ps us nd
theorem zip_some {ps : List Str} {us : List Value} (h : us.length = ps.length) : ∀ n ∈ ps, ((ps.zip us).lookup n).isNone = false := by
  induction ps generalizing us with
  | nil => intro n hn; cases hn
  | cons p ps ih =>
    intro n hn
    cases us with
    | nil => cases h
    | cons u us =>
      rw [List.zip_cons_cons, List.lookup_cons]
      cases e : n == p with
      | true => rfl
      | false =>
        rcases List.mem_cons.mp hn with rfl | hn
        · simp at e
        · exact ih (by simpa using h) n hn
theorem seqItems_none : seqItems? Value.none = pure none := rfl
theorem bind_plain {x qual : Str} {body : List Stmt} {scope : Scope} {kV doc pm cdv ct : Value} {an : Option Addr} {as : List Arg} {us : List Value} (nd : (as.map (·.arg)).Nodup) (h : us.length = as.length) :
    bindArgs (PySem.W.fnOf x qual ⟨[], as, none, [], [], none, []⟩ body scope .none kV doc pm an cdv ct) ⟨us, []⟩ = pure ((as.map (·.arg)).zip us) := by
  have hl : us.length = (as.map (·.arg)).length := by simpa using h
  have hm : ((as.map (·.arg)).filter fun n => (((as.map (·.arg)).zip us).lookup n).isNone) = [] := List.filter_eq_nil_iff.mpr fun n hn => by rw [zip_some hl n hn]; decide
  have hb := zip_lookup nd hl
  unfold bindArgs
  simp only [PySem.W.fnOf, seqItems_none, List.map_nil, List.nil_append, List.append_nil, List.forIn_nil, pure_bind, Option.getD_none, List.isEmpty_nil, List.length_nil, Nat.zero_sub, Nat.sub_zero, List.drop_nil, List.drop_zero]
  generalize as.map (·.arg) = ps at *
  have e1 : ¬ (us.length > ps.length) := by omega
  simp [hm, hb, hl, e1, List.take_length]
end FW

/-! FwH: isinstance, repr, calls, lists that change. -/
namespace FW
open PySem PySem.Spec PyProof.Rows L2
/-! ### isinstance -/
inductive Ty where
  | int | bool | str | tup | lst | dict
def Ty.nm : Ty → String
  | .int => "int"
  | .bool => "bool"
  | .str => "str"
  | .tup => "tuple"
  | .lst => "list"
  | .dict => "dict"
def Ty.id : Ty → Str
  | .int => "int"
  | .bool => "bool"
  | .str => "str"
  | .tup => "tuple"
  | .lst => "list"
  | .dict => "dict"
def D.tn : D → Option String
  | .non => some "NoneType"
  | .bl _ => some "bool"
  | .int _ => some "int"
  | .str _ => some "str"
  | .tup _ => some "tuple"
  | .lst _ => some "list"
  | .dic _ => some "dict"
  | _ => none
/-- whether a value is of a built-in type -/
def D.isTy : D → Ty → Bool
  | .bl _, .int => true
  | .bl _, .bool => true
  | .int _, .int => true
  | .str _, .str => true
  | .tup _, .tup => true
  | .lst _, .lst => true
  | .dic _, .dict => true
  | _, _ => false
def isiD (d : D) (ts : List Ty) : Option D := if d.tn.isSome then some (.bl (ts.any d.isTy)) else none
theorem kit_int : ∀ a ∈ ["NoneType", "bool", "int", "str", "tuple", "list", "dict"], kitB a "int" = some (a == "bool" || a == "int") := by decide +kernel
theorem kit_bool : ∀ a ∈ ["NoneType", "bool", "int", "str", "tuple", "list", "dict"], kitB a "bool" = some (a == "bool") := by decide +kernel
theorem kit_str : ∀ a ∈ ["NoneType", "bool", "int", "str", "tuple", "list", "dict"], kitB a "str" = some (a == "str") := by decide +kernel
theorem kit_tup : ∀ a ∈ ["NoneType", "bool", "int", "str", "tuple", "list", "dict"], kitB a "tuple" = some (a == "tuple") := by decide +kernel
theorem kit_lst : ∀ a ∈ ["NoneType", "bool", "int", "str", "tuple", "list", "dict"], kitB a "list" = some (a == "list") := by decide +kernel
theorem kit_dict : ∀ a ∈ ["NoneType", "bool", "int", "str", "tuple", "list", "dict"], kitB a "dict" = some (a == "dict") := by decide +kernel
theorem kit_D {d : D} {n : String} (h : d.tn = some n) (t : Ty) : kitB n t.nm = some (d.isTy t) := by
  cases d <;> first | (cases h; done) | skip
  all_goals (cases h; cases t)
  all_goals first | exact kit_int _ (by decide) | exact kit_bool _ (by decide) | exact kit_str _ (by decide) | exact kit_tup _ (by decide) | exact kit_lst _ (by decide) | exact kit_dict _ (by decide)
theorem kit_any {K : PySem.W.Frag} {d : D} {n : String} (h : d.tn = some n) : ∀ ts : List Ty, PySem.W.kitAny K (.type n) (ts.map fun t => Value.type t.nm) = some (ts.any d.isTy)
  | [] => rfl
  | t :: ts => by
    have e := kit_ty (K := K) (kit_D h t)
    have ih := kit_any (K := K) h ts
    rw [List.map_cons, List.any_cons]
    unfold PySem.W.kitAny
    rw [e]
    cases d.isTy t with
    | true => rfl
    | false => rw [ih]; rfl
theorem tys_cls : ∀ ts : List Ty, Paired ClsV (ts.map fun t => V.ty t.nm) (ts.map fun t => Value.type t.nm)
  | [] => .nil
  | t :: ts => .cons (.ty _) (tys_cls ts)
theorem tyX_D {T : Txt} {w : Wd} {H : Hp} {d : D} {v : V} {n : String} (s : Sub w H) (h : RepV T w d v) (e : d.tn = some n) : TyX T.K H v (.type n) := by
  cases d <;> first | (cases e; done) | skip
  · cases e; rw [h.non_eq]; exact .base .non
  · cases e; rw [h.bl_eq]; exact .base (.bl _)
  · cases e; rw [h.int_eq]; exact .base (.int _)
  · cases e; rw [h.str_eq]; exact .base (.str _)
  · cases e
    obtain ⟨a, vs, rfl, q, _⟩ := h.tup_at s
    rcases q with (q | ⟨o, q⟩) | ⟨o, its, n, q, c, _⟩
    · exact .base (.tup q)
    · exact .fTuple q
    · exact .kTuple q c
  · cases e
    obtain ⟨a, vs, rfl, q, _⟩ := h.lst_at s
    exact .base (.lst q)
  · cases e
    obtain ⟨a, rfl, q⟩ := (by simpa only [RepV] using h)
    exact .base (.dK (s _ _ q))
section
variable {T : Txt} {W : WX} {X : Cx} {a b c d : Expr} {es : List Expr} {ca cb cc cd : State → R D} {cs cr : State → R (List D)} {pos p p2 p3 apos : Pos} {j : Nat}
def cIsi (c : State → R D) (ts : List Ty) : State → R D := fun st => (c st).bind fun d s => R.lift (isiD d ts) s
theorem isiD_some {d e : D} {ts : List Ty} (h : isiD d ts = some e) : ∃ n, d.tn = some n ∧ e = .bl (ts.any d.isTy) := by
  unfold isiD at h
  cases q : d.tn with
  | none => rw [q] at h; cases h
  | some n => rw [q] at h; cases h; exact ⟨n, rfl, rfl⟩
theorem de_isi1 (hK : X.K = T.K) (t : Ty) (hg : Gl X "isinstance") (hm : X.mg "isinstance" = none) (ha : DE T W X a ca) (hb : PE X b (tC (.ty t.nm))) (h1 : starEach [a, b] X.env = (false, eval a X.env) :: starEach [b] X.env) (h2 : starEach [b] X.env = (false, eval b X.env) :: starEach [] X.env)
    (hpl : (backTo pos (starEach [b] X.env)).any (·.1) = false) : DE T W X (.Call (.Name "isinstance" p) [a, b] [] pos) (cIsi ca [t]) := by
  refine (pe_callB call_isi hg hm (by decide +kernel) (pa_cons ha (pa_cons hb pa_nil h2) h1) (he := h1) (hpl := hpl)).imp fun σ H Q ⟨G, w, st, r, p⟩ => ?_
  refine (seqE r p).imp fun x H1 ⟨w1, d1, s1, l1, r1, q1, p1⟩ => ?_
  obtain ⟨e, he, p2⟩ := Post.lift p1
  obtain ⟨n, hn, rfl⟩ := isiD_some he
  exact ⟨x, .ty t.nm, _, _, _, rfl, .ty _, hK ▸ tyX_D r1.sub q1 hn, kit_ty (kit_D hn t), by simpa using p2.here r1 .bl_⟩
theorem de_isiN (hK : X.K = T.K) (ts : List Ty) {k : Nat} (hg : Gl X "isinstance") (hm : X.mg "isinstance" = none) (ha : DE T W X a ca) (hb : PA X es (fun σ H Q => Q (ts.map fun t => V.ty t.nm) H)) (hz : ts.length ≤ 100)
    (h1 : starEach [a, .Tuple es k p2] X.env = (false, eval a X.env) :: starEach [.Tuple es k p2] X.env) (hpl : (backTo pos (starEach [.Tuple es k p2] X.env)).any (·.1) = false) : DE T W X (.Call (.Name "isinstance" p) [a, .Tuple es k p2] [] pos) (cIsi ca ts) := by
  refine (pe_callB call_isiT hg hm (by decide +kernel) (pa_cons ha (pa_cons (pe_tup hb) pa_nil rfl) h1) (he := h1) (hpl := hpl)).imp fun σ H Q ⟨G, w, st, r, p⟩ => ?_
  refine (seqE r p).imp fun x H1 ⟨w1, d1, s1, l1, r1, q1, p1⟩ => ?_
  refine ⟨by rw [List.length_map, sizeLine_eq]; omega, fun t ht => ?_⟩
  obtain ⟨e, he, p2⟩ := Post.lift p1
  obtain ⟨n, hn, rfl⟩ := isiD_some he
  have r2 := r1.newU ht (.tup (ts.map fun t => V.ty t.nm))
  refine ⟨x, t, _, _, ts.map fun t => Value.type t.nm, _, rfl, upd_same, ?_, hK ▸ tyX_D r2.sub q1 hn, kit_any hn ts, p2.here r2 .bl_⟩
  exact tys_cls ts
/-! ### repr -/
mutual
/-- data that repr shows -/
def D.shw : D → Bool
  | .non => true
  | .bl _ => true
  | .int _ => true
  | .str _ => true
  | .tup l => D.shws l
  | .lst l => D.shws l
  | .dic _ => true
  | _ => false
def D.shws : List D → Bool
  | [] => true
  | d :: r => D.shw d && D.shws r
end
def reprOk (d : D) : Bool := d.shw && (PyData.showable d.py && (szOk d.py.shown.length && decide (d.py.depth ≤ 60)))
def reprD : List D → Option D
  | [d] => if reprOk d then some (.str d.py.shown) else none
  | _ => none
def encK : Key → PyData
  | .inl i => .int i
  | .inr x => .str x
theorem dic_pairs {h : Heap} : ∀ {l : List (Str × Int)} {vs : List (Key × Value)}, KV (dicKV l) vs → PyProof.V.PairsRead h encK vs (l.map fun p => (PyData.str p.1, PyData.int p.2)) []
  | [], _, r => by
    cases r
    exact .nil
  | p :: l, _, r => by
    cases r with
    | cons h1 h2 =>
      rename_i q qs
      obtain ⟨k, v⟩ := q
      obtain ⟨rfl, t, rfl⟩ := h1
      exact .cons (Reads.int p.2 t) (dic_pairs h2)
mutual
theorem readsD {T : Txt} {X : Cx} {pins : List (Addr × Obj)} {σ : L2.St} {H : Hp} {s : Shared} {w : Wd} (hK : X.K = T.K) (sm : ∃ o, X.K.lookup sysModules = some o ∧ o.cls = .type "dict") (I : Inv X pins σ H s) (sb : Sub w H) :
    ∀ (d : D) (v : V) (u : Value), D.shw d = true → RepV T w d v → RelV v u → ∃ as, Reads s.heap u (D.py d) as ∧ sysModules ∉ as
  | .non, _, _, _, h, r => by
    cases h.non_eq
    cases r
    exact ⟨_, Reads.none, by simp⟩
  | .bl b, _, _, _, h, r => by
    cases h.bl_eq
    cases r
    exact ⟨_, Reads.bool b, by simp⟩
  | .int i, _, _, _, h, r => by
    cases h.int_eq
    obtain ⟨t, rfl⟩ := r
    exact ⟨_, Reads.int i t, by simp⟩
  | .str x, _, _, _, h, r => by
    cases h.str_eq
    obtain ⟨t, rfl⟩ := r
    exact ⟨_, Reads.str x t, by simp⟩
  | .tup l, _, _, p, h, r => by
    obtain ⟨a, vs, rfl, q1, q2⟩ := h.tup_at sb
    cases r
    obtain ⟨its, rv, ⟨o, ho, hc, n, hd⟩, _⟩ := I.tuple (hK ▸ q1)
    obtain ⟨as, hr, hn⟩ := readsDs hK sm I sb l vs its (by simpa only [D.shw] using p) q2 rv
    exact ⟨as, Reads.tuple ho hc hd hr, hn⟩
  | .lst l, _, _, p, h, r => by
    obtain ⟨a, vs, rfl, q1, q2⟩ := h.lst_at sb
    cases r
    obtain ⟨its, rv, ⟨o, n, ho, hc, _, hd⟩, _⟩ := I.list (SqL.of q1)
    obtain ⟨as, hr, hn⟩ := readsDs hK sm I sb l vs its (by simpa only [D.shw] using p) q2 rv
    refine ⟨_, Reads.list ho hc hd hr, fun z => ?_⟩
    rcases List.mem_cons.mp z with z | z
    · obtain ⟨oM, e1, e2⟩ := sm
      have e3 := I.kIn _ _ e1
      rw [z] at e3
      rw [ho] at e3
      cases e3
      rw [hc] at e2
      exact absurd e2 (by decide)
    · exact hn z
  | .dic l, _, _, p, h, r => by
    obtain ⟨a, rfl, q⟩ := (by simpa only [RepV] using h)
    cases r
    obtain ⟨_, hs, vs, rv, dd⟩ := (show ObjOk X.prog X.w H s.heap a (.dK (dicKV l)) from I.hok a _ (sb _ _ q))
    refine ⟨_, PyProof.V.reads_dictOf (enc := encK) (fun k key hk => ?_) dd (dic_pairs rv), fun z => ?_⟩
    · rcases keyIs_shape hk with ⟨i, t, rfl, rfl⟩ | ⟨x, t, rfl, rfl⟩
      · exact Reads.int i t
      · exact Reads.str x t
    · rcases List.mem_cons.mp z with z | z
      · rw [← z] at hs
        simp at hs
      · cases z
  | .scr _, _, _, p, _, _ => by simp [D.shw] at p
  | .obj _ _, _, _, p, _, _ => by simp [D.shw] at p
  | .ref _, _, _, p, _, _ => by simp [D.shw] at p
theorem readsDs {T : Txt} {X : Cx} {pins : List (Addr × Obj)} {σ : L2.St} {H : Hp} {s : Shared} {w : Wd} (hK : X.K = T.K) (sm : ∃ o, X.K.lookup sysModules = some o ∧ o.cls = .type "dict") (I : Inv X pins σ H s) (sb : Sub w H) :
    ∀ (ds : List D) (vs : List V) (us : List Value), D.shws ds = true → RepVs T w ds vs → Vals vs us → ∃ as, ReadsAll s.heap us (D.pys ds) as ∧ sysModules ∉ as
  | [], _, _, _, h, r => by
    cases h.nil_eq
    cases r
    exact ⟨_, ReadsAll.nil, by simp⟩
  | d :: ds, _, _, p, h, r => by
    obtain ⟨v, t, rfl, h1, h2⟩ := h.uncons
    obtain ⟨p1, p2⟩ := band (show (D.shw d && D.shws ds) = true from by simpa only [D.shws] using p)
    cases r with
    | cons r1 r2 =>
      obtain ⟨as, q1, n1⟩ := readsD hK sm I sb d _ _ p1 h1 r1
      obtain ⟨bs, q2, n2⟩ := readsDs hK sm I sb ds _ _ p2 h2 r2
      exact ⟨_, ReadsAll.cons q1 q2, fun z => (List.mem_append.mp z).elim n1 n2⟩
end
theorem call_reprD (hK : X.K = T.K) (sm : ∃ o, X.K.lookup sysModules = some o ∧ o.cls = .type "dict") (hg : X.A.guards = some []) (hu : X.A.units + 64 < cLine) : CallR X (.builtin "repr") (rN T reprD) := by
  intro pins s σ H vs us Q I r h
  obtain ⟨w, ds, d, sb, rd, e, g⟩ := h
  rcases ds with _ | ⟨x, _ | ⟨y, t⟩⟩
  · cases e
  · have e : (if reprOk x = true then some (D.str x.py.shown) else none) = some d := e
    by_cases hz : reprOk x = true
    · rw [if_pos hz] at e; cases e
      obtain ⟨z1, hz⟩ := band hz
      obtain ⟨z2, hz⟩ := band hz
      obtain ⟨z3, z4⟩ := band hz
      have z3 := szOk_line z3
      have z4 := of_decide_eq_true z4
      have lk : ∀ (h' : Heap) (tk : Nat) (u' : Tok), (∀ b o, s.heap.get? b = some o → h'.get? b = some o) → EP X pins σ Q (.str x.py.shown u') { s with heap := h', toks := tk } := fun h' tk u' k => ⟨.str _, H, I.kept (t' := tk) k, ⟨_, rfl⟩, g.str sb⟩
      have same := lk s.heap (s.toks + 1) s.toks fun _ _ e => e
      -- a list that a slot owns is frozen for the look
      rcases rd with rd | ⟨d0, v0, ed, ev, rb⟩
      · obtain ⟨v, rfl, rv⟩ := rd.one
        obtain ⟨u, rfl, ru⟩ := vals1 r
        cases x <;> first | (simp [D.shw] at z1; done) | skip
        · cases rv.non_eq; cases ru; exact PySem.P.repr_of_none same
        · cases rv.bl_eq; cases ru; exact PySem.P.repr_of_bool same
        · cases rv.int_eq
          obtain ⟨t, rfl⟩ := ru
          exact PySem.P.repr_of_int (of_decide_eq_true z2) same
        · cases rv.str_eq
          obtain ⟨t, rfl⟩ := ru
          exact PySem.P.repr_of_str same z3
        · obtain ⟨a, ws, rfl, _⟩ := rv.tup_at sb
          obtain ⟨as, rd, hn⟩ := readsD hK sm I sb _ _ _ z1 rv ru
          cases ru
          exact repr_of_reads' rd z2 (fun _ => hn) hg (by omega) (fun _ _ e => e) (fun h' u' tk k => lk h' tk u' k) z3
        · obtain ⟨a, ws, rfl, _⟩ := rv.lst_at sb
          obtain ⟨as, rd, hn⟩ := readsD hK sm I sb _ _ _ z1 rv ru
          cases ru
          exact repr_of_reads' rd z2 (fun _ => hn) hg (by omega) (fun _ _ e => e) (fun h' u' tk k => lk h' tk u' k) z3
        · obtain ⟨as, rd, hn⟩ := readsD hK sm I sb _ _ _ z1 rv ru
          obtain ⟨a, rfl, _⟩ := (by simpa only [RepV] using rv)
          cases ru
          exact repr_of_reads' rd z2 (fun _ => hn) hg (by omega) (fun _ _ e => e) (fun h' u' tk k => lk h' tk u' k) z3
      · cases ed
        subst ev
        obtain ⟨u, rfl, ru⟩ := vals1 r
        rcases rb with rv | ⟨l, a, ws, rfl, rfl, k1, k2⟩
        · cases x <;> first | (simp [D.shw] at z1; done) | skip
          · cases rv.non_eq; cases ru; exact PySem.P.repr_of_none same
          · cases rv.bl_eq; cases ru; exact PySem.P.repr_of_bool same
          · cases rv.int_eq
            obtain ⟨t, rfl⟩ := ru
            exact PySem.P.repr_of_int (of_decide_eq_true z2) same
          · cases rv.str_eq
            obtain ⟨t, rfl⟩ := ru
            exact PySem.P.repr_of_str same z3
          · obtain ⟨a, ws, rfl, _⟩ := rv.tup_at sb
            obtain ⟨as, rd, hn⟩ := readsD hK sm I sb _ _ _ z1 rv ru
            cases ru
            exact repr_of_reads' rd z2 (fun _ => hn) hg (by omega) (fun _ _ e => e) (fun h' u' tk k => lk h' tk u' k) z3
          · obtain ⟨a, ws, rfl, _⟩ := rv.lst_at sb
            obtain ⟨as, rd, hn⟩ := readsD hK sm I sb _ _ _ z1 rv ru
            cases ru
            exact repr_of_reads' rd z2 (fun _ => hn) hg (by omega) (fun _ _ e => e) (fun h' u' tk k => lk h' tk u' k) z3
          · obtain ⟨as, rd, hn⟩ := readsD hK sm I sb _ _ _ z1 rv ru
            obtain ⟨a, rfl, _⟩ := (by simpa only [RepV] using rv)
            cases ru
            exact repr_of_reads' rd z2 (fun _ => hn) hg (by omega) (fun _ _ e => e) (fun h' u' tk k => lk h' tk u' k) z3
        · obtain ⟨its, rv, ⟨o, n, ho, hc, _, hd⟩, _⟩ := I.list (SqL.of k1)
          cases ru
          obtain ⟨as, hr, hn⟩ := readsDs hK sm I sb l ws its (by simpa only [D.shw] using z1) k2 rv
          have rd := Reads.list ho hc hd hr
          have z5 : (PyData.list (D.pys l)).depth ≤ 60 := by simpa only [D.py] using z4
          refine repr_of_reads' rd z2 (fun _ z => ?_) hg (by omega) (fun _ _ e => e) (fun h' u' tk k => lk h' tk u' k) z3
          rcases List.mem_cons.mp z with z | z
          · obtain ⟨oM, e1, e2⟩ := sm
            have e3 := I.kIn _ _ e1
            rw [z] at e3
            rw [ho] at e3
            cases e3
            rw [hc] at e2
            exact absurd e2 (by decide)
          · exact hn z
    · rw [if_neg hz] at e; cases e
  · cases e
/-! ### lists that change: a slot's own one, a cell of the store -/
inductive Bor where
  | slot (i : Nat) | cell (n : Nat)
def content (st : State) : Bor → Option (List D)
  | .slot i => match st.env[i]? with
    | some (.own l) => some l
    | _ => none
  | .cell n => match st.sto[n]? with
    | some (.lst l) => some l
    | _ => none
def wrContent (st : State) (l : List D) : Bor → State
  | .slot i => ⟨st.env.set i (.own l), st.sto⟩
  | .cell n => ⟨st.env, st.sto.set n (.lst l)⟩
def RepBor (σ : L2.St) (w : Wd) (b : Bor) (v : V) : Prop := ∃ a, v = .ref a ∧ match b with
  | .slot i => σ[i]? = some (some (.ref a))
  | .cell n => w.m[n]? = some a
theorem RepBor.up {σ : L2.St} {w w' : Wd} {b : Bor} {v : V} (h : w.le w') (q : RepBor σ w b v) : RepBor σ w' b v := by
  obtain ⟨a, e, q⟩ := q
  refine ⟨a, e, ?_⟩
  cases b with
  | slot i => exact q
  | cell n =>
    obtain ⟨t, ht⟩ := h.m
    show w'.m[n]? = some a
    rw [← ht, List.getElem?_append_left (List.getElem?_eq_some_iff.mp q).1]
    exact q
theorem content_slot {st : State} {i : Nat} {l : List D} (e : content st (.slot i) = some l) : st.env[i]? = some (.own l) := by
  have e : (match st.env[i]? with
    | some (.own l) => some l
    | _ => none) = some l := e
  cases h : st.env[i]? with
  | none => rw [h] at e; cases e
  | some s =>
    rw [h] at e
    cases s <;> cases e
    rfl
theorem content_cell {st : State} {i : Nat} {l : List D} (e : content st (.cell i) = some l) : st.sto[i]? = some (.lst l) := by
  have e : (match st.sto[i]? with
    | some (.lst l) => some l
    | _ => none) = some l := e
  cases h : st.sto[i]? with
  | none => rw [h] at e; cases e
  | some s =>
    rw [h] at e
    cases s <;> cases e
    rfl
theorem RS.content {G : Ent} {w : Wd} {st : State} {σ : L2.St} {H : Hp} {b : Bor} {v : V} {l : List D} (r : RS T G w st σ H) (q : RepBor σ w b v) (e : FW.content st b = some l) : ∃ a vs, v = .ref a ∧ H a = some (.lst vs) ∧ RepVs T w l vs := by
  obtain ⟨a, rfl, q⟩ := q
  cases b with
  | slot i =>
    obtain ⟨b, vs, e1, h1, h2, _⟩ := r.ownAt (content_slot e)
    have q : σ[i]? = some (some (.ref a)) := q
    rw [q] at e1; cases e1
    exact ⟨a, vs, rfl, h1, h2⟩
  | cell n =>
    obtain ⟨_, c, h1, h2⟩ := r.rc.cell n a q
    rw [content_cell e] at h1; cases h1
    obtain ⟨vs, h3, h4⟩ := h2
    exact ⟨a, vs, rfl, h3, h4⟩
theorem RS.wrBor {G : Ent} {w : Wd} {st : State} {σ : L2.St} {H : Hp} {b : Bor} {a : Addr} {l l' : List D} {vs' : List V} (r : RS T G w st σ H) (q : RepBor σ w b (.ref a)) (e : FW.content st b = some l) (q' : RepVs T w l' vs') :
    RS T G w (wrContent st l' b) σ (upd H a (.lst vs')) := by
  obtain ⟨a', e', q⟩ := q
  cases e'
  cases b with
  | slot i => exact r.wrOwn (content_slot e) q q'
  | cell n => exact r.wrCell q ⟨vs', upd_same, q'⟩
/-- a list that changes, as an expression -/
def TBd (T : Txt) (W : WX) (c : State → R Bor) : TE := fun σ H Q => ∃ G w st, RS T G w st σ H ∧ Post T W G w σ (RepBor σ) (c st) Q
abbrev DB (T : Txt) (W : WX) (X : Cx) (e : Expr) (c : State → R Bor) : Prop := PE X e (TBd T W c)
theorem TBd.imp {σ : L2.St} {H : Hp} {c : State → R Bor} {Q Q' : VK} (h : TBd T W c σ H Q) (k : ∀ v H, Q v H → Q' v H) : TBd T W c σ H Q' := by
  obtain ⟨G, w, st, r, p⟩ := h; exact ⟨G, w, st, r, p.mono k⟩
theorem seqB {c : State → R Bor} {γ δ : Type} {Rep' : Wd → γ → δ → Prop} {f : Bor → State → R γ} {G : Ent} {w : Wd} {st : State} {σ : L2.St} {H : Hp} {Q : δ → Hp → Prop} (r : RS T G w st σ H) (h : Post T W G w σ Rep' ((c st).bind f) Q) :
    TBd T W c σ H fun v H1 => ∃ w1 b s, w.le w1 ∧ RS T G w1 s σ H1 ∧ RepBor σ w1 b v ∧ Post T W G w1 σ Rep' (f b s) Q :=
  ⟨G, w, st, r, by
    cases e : c st with
    | ok d s => rw [e] at h; exact fun w' v H' a b c => ⟨w', d, s, a, b, c, Post.up a h⟩
    | exc x s => rw [e] at h; exact h
    | bad => rw [e] at h; exact h⟩
def cbSlot (i : Nat) : State → R Bor := fun st => match st.env[i]? with
  | some (.own _) => .ok (.slot i) st
  | _ => .bad
def cbRef (c : State → R D) : State → R Bor := fun st => (c st).bind fun d s => match d with
  | .ref n => .ok (.cell n) s
  | _ => .bad
theorem db_slot {i : Nat} {x : Str} (hN : X.N[i]? = some x) (hv : Vis X.env.scope x) (hd : (x == ("__debug__" : Str)) = false) (hcd : (x == ("__classdict__" : Str)) = false) : DB T W X (.Name x pos) (cbSlot i) := by
  refine (pe_var hN hv hd hcd).imp fun σ H Q ⟨G, w, st, r, p⟩ => ?_
  unfold cbSlot at p
  split at p
  · rename_i l e
    obtain ⟨a, vs, e1, _⟩ := r.ownAt e
    exact ⟨_, e1, p w _ H (.refl _) r ⟨a, rfl, e1⟩⟩
  · exact p.elim
theorem db_ref (ha : DE T W X a ca) : DB T W X a (cbRef ca) := by
  refine ha.imp fun σ H Q ⟨G, w, st, r, p⟩ => ?_
  refine (seqE r p).imp fun x H1 ⟨w1, d1, s1, l1, r1, q1, p1⟩ => ?_
  cases d1 <;> first | exact p1.elim | skip
  obtain ⟨a, rfl, q⟩ := (by simpa only [RepV] using q1)
  exact p1 w1 _ H1 (.refl _) r1 ⟨a, rfl, q⟩
/-! its uses -/
def cBinB (g : D → D → Option D) (a : State → R Bor) (b : State → R D) : State → R D := fun st => (a st).bind fun x s1 => (b s1).bind fun y s2 => match content s2 x with
  | some l => R.lift (g (.lst l) y) s2
  | none => .bad
theorem tOpB_of {g : D → D → Option D} {cx : State → R Bor} {σ : L2.St} {H : Hp} {Q : VK} (h : TEd T W (cBinB g cx cb) σ H Q) : tOp (rB T g) (TBd T W cx) (TEd T W cb) σ H Q := by
  obtain ⟨G, w, st, r, p⟩ := h
  refine (seqB r p).imp fun x H1 ⟨w1, d1, s1, l1, r1, q1, p1⟩ => ?_
  refine (seqE r1 p1).imp fun y H2 ⟨w2, d2, s2, l2, r2, q2, p2⟩ => ?_
  cases e : content s2 d1 with
  | none => rw [e] at p2; exact p2.elim
  | some l =>
    rw [e] at p2
    obtain ⟨d, e3, p3⟩ := Post.lift p2
    obtain ⟨a, vs, rfl, h1, h2⟩ := r2.content (q1.up l2) e
    exact ⟨w2, .lst l, d2, d, r2.sub, .inr ⟨l, a, vs, rfl, rfl, h1, h2⟩, .inl q2, e3, Post.grown r2 p3⟩
theorem de_ixB (hK : X.K = T.K) {cx : State → R Bor} (ha : DB T W X a cx) (hb : DE T W X b cb) (hs : PlainIx b) : DE T W X (.Subscript a b pos) (cBinB ixD cx cb) := (pe_ix (ix_D hK) ha hb hs).imp fun σ H Q h => tOpB_of h
theorem de_binB {op : Operator} {g : D → D → Option D} {cx : State → R Bor} (ho : OpR X (binaryOp op) (rB T g)) (ha : DB T W X a cx) (hb : DE T W X b cb) : DE T W X (.BinOp a op b pos) (cBinB g cx cb) :=
  (pe_op ho ha hb).imp fun σ H Q h => tOpB_of h
theorem de_cmpB {op : CmpOp} {g : D → D → Option D} {cx : State → R Bor} (ho : OpR X (compareOp op) (rB T g)) (ha : DB T W X a cx) (hb : DE T W X b cb) (hm : behindInMarks op b = false) : DE T W X (.Compare a [op] [b] pos) (cBinB g cx cb) :=
  (pe_cmpR ho ha hb hm).imp fun σ H Q h => tOpB_of h
theorem dt_cmpB {op : CmpOp} {g : D → D → Option D} {cx : State → R Bor} (ho : OpR X (compareOp op) (rB T g)) (ha : DB T W X a cx) (hb : DE T W X b cb) (hm : behindInMarks op b = false) : DT T W X (.Compare a [op] [b] pos) (toB (cBinB g cx cb)) :=
  (pt_cmpR ho ha hb hm).imp fun σ H Q h => tOpB_of (dt_bool h)
def cArgB (g : List D → Option D) (a : State → R Bor) : State → R D := fun st => (a st).bind fun x s => match content s x with
  | some l => R.lift (g [.lst l]) s
  | none => .bad
theorem tCBB_of {g : List D → Option D} {cx : State → R Bor} {σ : L2.St} {H : Hp} {Q : VK} (h : TEd T W (cArgB g cx) σ H Q) : tCB (rN T g) (tCons (TBd T W cx) tNil) σ H Q := by
  obtain ⟨G, w, st, r, p⟩ := h
  refine (seqB r p).imp fun x H1 ⟨w1, d1, s1, l1, r1, q1, p1⟩ => ?_
  cases e : content s1 d1 with
  | none => rw [e] at p1; exact p1.elim
  | some l =>
    rw [e] at p1
    obtain ⟨d, e3, p3⟩ := Post.lift p1
    obtain ⟨a, vs, rfl, h1, h2⟩ := r1.content q1 e
    exact ⟨w1, [.lst l], d, r1.sub, .inr ⟨_, _, rfl, rfl, .inr ⟨l, a, vs, rfl, rfl, h1, h2⟩⟩, e3, Post.grown r1 p3⟩
/-! o.pop(i) -/
def cPopB (a : State → R Bor) (i : State → R D) : State → R D := fun st => (a st).bind fun x s1 => match content s1 x with
  | none => .bad
  | some _ => (i s1).bind fun y s2 => match content s2 x, y with
    | some l, .int k => if szOk l.length then (match ixN l.length k with
      | some n => (match l[n]? with
        | some d => .ok d (wrContent s2 (l.eraseIdx n) x)
        | none => .bad)
      | none => .bad) else .bad
    | _, _ => .bad
theorem popB_of (hK : X.K = T.K) {cx : State → R Bor} {σ : L2.St} {H : Hp} {Q : VK} (h : TEd T W (cPopB cx cb) σ H Q) : tBM X.K "list" rPopAt (TBd T W cx) (tCons (TEd T W cb) tNil) σ H Q := by
  obtain ⟨G, w, st, r, p⟩ := h
  refine (seqB r p).imp fun x H1 ⟨w1, d1, s1, l1, r1, q1, p1⟩ => ?_
  cases e : content s1 d1 with
  | none => rw [e] at p1; exact p1.elim
  | some l =>
    rw [e] at p1
    obtain ⟨a, vs, rfl, h1, h2⟩ := r1.content q1 e
    refine ⟨.inl ⟨rfl, vs, SqL.of h1⟩, ?_⟩
    refine (seqE r1 p1).imp fun y H2 ⟨w2, d2, s2, l2, r2, q2, p2⟩ => ?_
    cases e2 : content s2 d1 with
    | none => rw [e2] at p2; exact p2.elim
    | some l' =>
      rw [e2] at p2
      cases d2 <;> first | exact p2.elim | skip
      rename_i k
      obtain ⟨a', vs', e3, h3, h4⟩ := r2.content (q1.up l2) e2
      cases e3
      have p3 : Post T W G w2 σ (RepV T) (if szOk l'.length then (match ixN l'.length k with
        | some n => (match l'[n]? with
          | some d => .ok d (wrContent s2 (l'.eraseIdx n) d1)
          | none => .bad)
        | none => .bad) else .bad) Q := p2
      by_cases hsz : szOk l'.length = true
      case neg => rw [if_neg hsz] at p3; exact p3.elim
      rw [if_pos hsz] at p3
      cases e4 : ixN l'.length k with
      | none => rw [e4] at p3; exact p3.elim
      | some n =>
        rw [e4] at p3
        have p3 : Post T W G w2 σ (RepV T) (match l'[n]? with
          | some d => .ok d (wrContent s2 (l'.eraseIdx n) d1)
          | none => .bad) Q := p3
        cases e5 : l'[n]? with
        | none => rw [e5] at p3; exact p3.elim
        | some d =>
          rw [e5] at p3
          obtain ⟨v, e6, q6⟩ := h4.get e5
          obtain ⟨g1, g2, g3, g4⟩ := ixN_seq e4
          have hl := h4.length
          have hz := of_decide_eq_true hsz
          refine ⟨a, vs', k, n, v, rfl, by rw [q2.int_eq], h3, ?_, ?_, by rw [← hl]; exact g1, e6, ?_⟩
          · omega
          · omega
          exact p3 w2 v _ (.refl _) (r2.wrBor (q1.up l2) e2 (h4.eraseIdx n)) q6
end
end FW

/-! FwI: statements over data. -/
namespace FW
open PySem PySem.Spec PyProof.Rows L2
inductive Fl where
  | nx | bk | ct | rt (d : D)
def PostS (T : Txt) (W : WX) (G : Ent) (w : Wd) (r : R Fl) (Z : Ends) : Prop := match r with
  | .ok .nx st' => ∀ w' σ' H', w.le w' → RS T G w' st' σ' H' → Z.nx σ' H'
  | .ok .bk st' => ∀ w' σ' H', w.le w' → RS T G w' st' σ' H' → Z.bk σ' H'
  | .ok .ct st' => ∀ w' σ' H', w.le w' → RS T G w' st' σ' H' → Z.ct σ' H'
  | .ok (.rt d) st' => ∀ w' v σ' H', w.le w' → RS T G w' st' σ' H' → RepV T w' d v → Z.rt v H'
  | .exc e st' => ∀ w' cls dx σ' H', w.le w' → RS T G w' st' σ' H' → RepX T w' e cls dx → W cls dx σ' H'
  | .bad => False
def TSd (T : Txt) (W : WX) (c : State → R Fl) : TS := fun Z σ H => ∃ G w st, RS T G w st σ H ∧ PostS T W G w (c st) Z
abbrev DS (T : Txt) (W : WX) (X : Cx) (s : Stmt) (c : State → R Fl) : Prop := PS X s (TSd T W c)
abbrev DSs (T : Txt) (W : WX) (X : Cx) (s : List Stmt) (c : State → R Fl) : Prop := PSs X s (TSd T W c)
section
variable {T : Txt} {W : WX} {X : Cx} {G : Ent} {w w' : Wd} {st : State} {σ : L2.St} {H : Hp} {Z : Ends} {a b c e : Expr} {ca cb : State → R D} {pos p p2 apos cpos tpos : Pos} {cs cr : State → R Fl} {s : Stmt} {rest : List Stmt} {ba : State → R Bool}
theorem PostS.up {r : R Fl} (le : w.le w') (h : PostS T W G w r Z) : PostS T W G w' r Z := by
  cases r with
  | ok f s =>
    cases f with
    | nx => exact fun w1 σ' H' a b => h w1 σ' H' (le.trans a) b
    | bk => exact fun w1 σ' H' a b => h w1 σ' H' (le.trans a) b
    | ct => exact fun w1 σ' H' a b => h w1 σ' H' (le.trans a) b
    | rt d => exact fun w1 v σ' H' a b => h w1 v σ' H' (le.trans a) b
  | exc e s => exact fun w1 cls dx σ' H' a b => h w1 cls dx σ' H' (le.trans a) b
  | bad => exact h
theorem Post.seqS {α β : Type} {Rep : Wd → α → β → Prop} {r : R α} {f : α → State → R Fl} (h : PostS T W G w (r.bind f) Z) :
    Post T W G w σ Rep r fun v H1 => ∃ w1 d s, w.le w1 ∧ RS T G w1 s σ H1 ∧ Rep w1 d v ∧ PostS T W G w1 (f d s) Z := by
  cases r with
  | ok d s => exact fun w' v H' a b c => ⟨w', d, s, a, b, c, PostS.up a h⟩
  | exc x s => exact fun w' cls dx H' a b c => h w' cls dx σ H' a b c
  | bad => exact h
theorem PostF.seqS {r : R (List D)} {f : List D → State → R Fl} (h : PostS T W G w (r.bind f) Z) :
    PostF T W G w σ r fun v H1 => ∃ w1 d s a, v = .ref a ∧ w.le w1 ∧ RS T G w1 s σ H1 ∧ Fresh T G w1 s σ H1 a d ∧ PostS T W G w1 (f d s) Z := by
  cases r with
  | ok d s => exact fun w' v H' a b c => ⟨w', d, s, v, rfl, a, b, c, PostS.up a h⟩
  | exc x s => exact fun w' cls dx H' a b c => h w' cls dx σ H' a b c
  | bad => exact h
def cNext : State → R Fl := fun st => .ok .nx st
def cSeq (c r : State → R Fl) : State → R Fl := fun st => (c st).bind fun f s => match f with
  | .nx => r s
  | f => .ok f s
theorem dss_nil : DSs T W X [] cNext := pss_nil.imp fun Z σ H ⟨G, w, st, r, p⟩ => p w σ H (.refl w) r
theorem dss_cons (hc : DS T W X s cs) (hr : DSs T W X rest cr) : DSs T W X (s :: rest) (cSeq cs cr) := by
  refine (pss_cons hc hr).imp fun Z σ H ⟨G, w, st, r, p⟩ => ⟨G, w, st, r, ?_⟩
  unfold cSeq at p
  cases e : cs st with
  | ok f s =>
    rw [e] at p
    cases f with
    | nx => exact fun w1 σ1 H1 le r1 => ⟨G, w1, s, r1, PostS.up le p⟩
    | bk => exact p
    | ct => exact p
    | rt d => exact p
  | exc x s => rw [e] at p; exact p
  | bad => rw [e] at p; exact p
theorem dss_one (hc : DS T W X s cs) : DSs T W X [s] cs := pss_one hc
def cFl (f : Fl) : State → R Fl := fun st => .ok f st
theorem ds_pass : DS T W X (.Pass pos) cNext := ps_pass.imp fun Z σ H ⟨G, w, st, r, p⟩ => p w σ H (.refl w) r
theorem ds_break : DS T W X (.Break pos) (cFl .bk) := ps_break.imp fun Z σ H ⟨G, w, st, r, p⟩ => p w σ H (.refl w) r
theorem ds_continue : DS T W X (.Continue pos) (cFl .ct) := ps_continue.imp fun Z σ H ⟨G, w, st, r, p⟩ => p w σ H (.refl w) r
theorem ds_doc {x j pos'} : DS T W X (.Expr (.Constant (.str x) j pos) pos') cNext := ps_doc.imp fun Z σ H ⟨G, w, st, r, p⟩ => p w σ H (.refl w) r
def cDrop (c : State → R D) : State → R Fl := fun st => (c st).bind fun _ s => .ok .nx s
theorem ds_expr (he : DE T W X e ca) (hs : swapsWith e none pos.line X.env = pure false) : DS T W X (.Expr e pos) (cDrop ca) := by
  refine (ps_expr he hs).imp fun Z σ H ⟨G, w, st, r, p⟩ => ⟨G, w, st, r, (Post.seqS p).mono fun v H1 ⟨w1, d, s, le, r1, q, p1⟩ => p1 w1 σ H1 (.refl _) r1⟩
def cRet (c : State → R D) : State → R Fl := fun st => (c st).bind fun d s => .ok (.rt d) s
theorem ds_ret (he : DE T W X e ca) : DS T W X (.Return (some e) pos) (cRet ca) := by
  refine (ps_ret he).imp fun Z σ H ⟨G, w, st, r, p⟩ => ⟨G, w, st, r, (Post.seqS p).mono fun v H1 ⟨w1, d, s, le, r1, q, p1⟩ => p1 w1 v σ H1 (.refl _) r1 q⟩
theorem ds_retN : DS T W X (.Return none pos) (cFl (.rt .non)) := ps_retN.imp fun Z σ H ⟨G, w, st, r, p⟩ => p w .non σ H (.refl w) r .non_
def cIf (c : State → R Bool) (a b : State → R Fl) : State → R Fl := fun st => (c st).bind fun k s => if k then a s else b s
theorem ds_if {as bs : List Stmt} (hc : DT T W X c ba) (ha : DSs T W X as cs) (hb : DSs T W X bs cr) : DS T W X (.If c as bs pos) (cIf ba cs cr) := by
  refine (ps_if hc ha hb).imp fun Z σ H ⟨G, w, st, r, p⟩ => ⟨G, w, st, r, (Post.seqS p).mono fun v H1 ⟨w1, d, s, le, r1, q, p1⟩ => ?_⟩
  have q : v = d := q
  subst q
  cases v with
  | true => exact (if_pos rfl : (if true = true then _ else _) = _) ▸ (⟨G, w1, s, r1, p1⟩ : TSd T W cs Z σ H1)
  | false => exact (if_neg (by decide) : (if false = true then _ else _) = _) ▸ (⟨G, w1, s, r1, p1⟩ : TSd T W cr Z σ H1)
def cBad : State → R Fl := fun _ => .bad
theorem ds_never : DS T W X s cBad := ps_never.imp fun Z σ H ⟨G, w, st, r, p⟩ => p
/-! ### targets -/
inductive Tg where
  | nm (i : Nat) | tup (ts : List Tg)
mutual
def asg : Tg → D → State → Option State
  | .nm i, d, st => some ⟨st.env.set i (.val d), st.sto⟩
  | .tup ts, d, st => match d with
    | .tup l => asgs ts l st
    | .lst l => asgs ts l st
    | .scr l => asgs ts l st
    | _ => none
def asgs : List Tg → List D → State → Option State
  | [], [], st => some st
  | t :: ts, d :: ds, st => match asg t d st with
    | some s1 => asgs ts ds s1
    | none => none
  | _, _, _ => none
end
mutual
def Tg.slots : Tg → List Nat
  | .nm i => [i]
  | .tup ts => Tg.slotss ts
def Tg.slotss : List Tg → List Nat
  | [] => []
  | t :: ts => Tg.slots t ++ Tg.slotss ts
end
def Agree (vs : List Nat) (σ σ' : L2.St) : Prop := σ'.length = σ.length ∧ ∀ i, i ∉ vs → σ'[i]? = σ[i]?
def TGd (T : Txt) (t : Tg) : TG := fun v σ H Q => ∃ G w st d st', RS T G w st σ H ∧ RepV T w d v ∧ asg t d st = some st' ∧ ∀ σ', RS T G w st' σ' H → Agree t.slots σ σ' → Q σ' H
def TGsd (T : Txt) (ts : List Tg) : TGs := fun vs σ H Q => ∃ G w st ds st', RS T G w st σ H ∧ RepVs T w ds vs ∧ asgs ts ds st = some st' ∧ ∀ σ', RS T G w st' σ' H → Agree (Tg.slotss ts) σ σ' → Q σ' H
theorem _root_.L2.PG.imp {X : Cx} {e : Expr} {t t' : TG} (h : PG X e t) (k : ∀ v σ H Q, t' v σ H Q → t v σ H Q) : PG X e t' := ⟨fun pins s σ H v u Q I r q => h.run pins s σ H v u Q I r (k v σ H Q q)⟩
theorem _root_.L2.PGs.imp {X : Cx} {e : List Expr} {t t' : TGs} (h : PGs X e t) (k : ∀ v σ H Q, t' v σ H Q → t v σ H Q) : PGs X e t' := ⟨fun pins s σ H v u Q I r q => h.run pins s σ H v u Q I r (k v σ H Q q)⟩
abbrev DG (T : Txt) (X : Cx) (e : Expr) (t : Tg) : Prop := PG X e (TGd T t)
abbrev DGs (T : Txt) (X : Cx) (e : List Expr) (t : List Tg) : Prop := PGs X e (TGsd T t)
theorem dg_name {i : Nat} {x : Str} (hN : X.N.Nodup) (hi : X.N[i]? = some x) (hx : Loc X.env.scope x) (hf : X.fn x = true ∨ X.env.scope.names.lookup x = some .local) : DG T X (.Name x pos) (.nm i) := by
  refine (pg_name hN hi hx hf).imp fun v σ H Q ⟨G, w, st, d, st', r, q, e, k⟩ => ?_
  cases e
  exact k _ (r.setVal q) ⟨by simp, fun j hj => List.getElem?_set_ne fun z => hj (by simp [Tg.slots, z])⟩
theorem dgs_nil : DGs T X [] [] := by
  refine pgs_nil.imp fun vs σ H Q ⟨G, w, st, ds, st', r, q, e, k⟩ => ?_
  cases ds with
  | nil =>
    cases e
    exact ⟨q.nil_eq, k _ r ⟨rfl, fun _ _ => rfl⟩⟩
  | cons d ds => simp [asgs] at e
theorem dgs_cons {es : List Expr} {t : Tg} {ts : List Tg} (h1 : DG T X e t) (h2 : DGs T X es ts) (hs : (assignEach (e :: es) X.env).map (·.2) = assign e X.env :: (assignEach es X.env).map (·.2)) : DGs T X (e :: es) (t :: ts) := by
  refine (pgs_cons h1 h2 hs).imp fun vs σ H Q ⟨G, w, st, ds, st', r, q, e, k⟩ => ?_
  cases ds with
  | nil => simp [asgs] at e
  | cons d ds =>
    obtain ⟨v, vr, rfl, q1, q2⟩ := q.uncons
    simp only [asgs] at e
    cases e1 : asg t d st with
    | none => rw [e1] at e; cases e
    | some s1 =>
      rw [e1] at e
      exact ⟨v, vr, rfl, G, w, st, d, s1, r, q1, e1, fun σ1 r1 a1 => ⟨G, w, s1, ds, st', r1, q2, e, fun σ2 r2 a2 => k σ2 r2 ⟨a2.1.trans a1.1, fun j hj => by
        simp only [Tg.slotss, List.mem_append, not_or] at hj
        rw [a2.2 j hj.2, a1.2 j hj.1]⟩⟩⟩
theorem asgs_len : ∀ (ts : List Tg) (ds : List D) (st st' : State), asgs ts ds st = some st' → ds.length = ts.length
  | [], [], _, _, _ => rfl
  | [], _ :: _, _, _, h => by simp [asgs] at h
  | _ :: _, [], _, _, h => by simp [asgs] at h
  | t :: ts, d :: ds, st, st', h => by
    simp only [asgs] at h
    split at h
    · simp [asgs_len ts ds _ _ h]
    · cases h
/-- a tuple or a list taken apart -/
def gTL (K : PySem.W.Frag) (n : Nat) (t : TGs) : TG := fun v σ H Q => ∃ a xs, v = .ref a ∧ (SqT K H a xs ∨ SqL K H a xs) ∧ xs.length = n ∧ t xs σ H Q
theorem pg_tl {es : List Expr} {k : Nat} {t : TGs} {n : Nat} (hc : X.calm = true) (h : PGs X es t)
    (hn : (assignEach es X.env).length = n) (hst : (assignEach es X.env).findIdx? (·.1) = none) : PG X (.Tuple es k pos) (gTL X.K n t) := by
  refine ⟨fun pins s σ H v u Q I r hw => ?_⟩
  obtain ⟨a, xs, e1, hq | hq, hl, hw⟩ := hw
  · exact (pg_tup hc h hn hst).run pins s σ H v u Q I r ⟨a, xs, e1, hq, hl, hw⟩
  · exact (pg_lst hc h hn hst).run pins s σ H v u Q I r ⟨a, xs, e1, hq, hl, hw⟩
theorem dg_tup (hK : X.K = T.K) {es : List Expr} {k : Nat} {ts : List Tg} (hc : X.calm = true) (h : DGs T X es ts) (hn : (assignEach es X.env).length = ts.length) (hst : (assignEach es X.env).findIdx? (·.1) = none) : DG T X (.Tuple es k pos) (.tup ts) := by
  refine (pg_tl hc h hn hst).imp fun v σ H Q ⟨G, w, st, d, st', r, q, e, k⟩ => ?_
  have fin : ∀ l, itemsD d = some l → asgs ts l st = some st' → gTL X.K ts.length (TGsd T ts) v σ H Q := fun l hl he => by
    obtain ⟨a, vs, rfl, h1, h2⟩ := items_at hK r.sub q hl
    exact ⟨a, vs, rfl, h1, by rw [← h2.length]; exact asgs_len ts l _ _ he, G, w, st, l, st', r, h2, he, fun σ' r' a' => k σ' r' (by simpa only [Tg.slots] using a')⟩
  cases d <;> first | (simp [asg] at e; done) | skip
  all_goals exact fin _ rfl (by simpa only [asg] using e)
/-! ### assignments -/
def cAsg (t : Tg) (c : State → R D) : State → R Fl := fun st => (c st).bind fun d s => match asg t d s with
  | some s' => .ok .nx s'
  | none => .bad
theorem tAsg_of {t : Tg} {Z : Ends} {σ : L2.St} {H : Hp} (h : TSd T W (cAsg t ca) Z σ H) : tAsg (TEd T W ca) (TGd T t) Z σ H := by
  obtain ⟨G, w, st, r, p⟩ := h
  refine ⟨G, w, st, r, (Post.seqS p).mono fun v H1 ⟨w1, d, s, le, r1, q, p1⟩ => ?_⟩
  cases e : asg t d s with
  | none => rw [e] at p1; exact p1.elim
  | some s' =>
    rw [e] at p1
    exact ⟨G, w1, s, d, s', r1, q, e, fun σ' r' _ => p1 w1 σ' H1 (.refl _) r'⟩
theorem ds_asg {tg : Expr} {t : Tg} (he : DE T W X e ca) (hg : DG T X tg t) (hs : swapsWithSole [tg] e pos.line X.env = pure false) (hw : swappedStores [tg] e X.env = pure none) (h1 : (assignEach [tg] X.env).map (·.2) = [assign tg X.env]) :
    DS T W X (.Assign [tg] e pos) (cAsg t ca) := (ps_asg he hg hs hw h1).imp fun Z σ H h => tAsg_of h
theorem tAsgN_of {i : Nat} {Z : Ends} {σ : L2.St} {H : Hp} {te : TE} (hn : ∀ Q, TEd T W ca σ H Q → te σ H Q) (h : TSd T W (cAsg (.nm i) ca) Z σ H) : tAsg te (gName i) Z σ H := by
  obtain ⟨G, w, st, r, p⟩ := h
  refine hn _ ⟨G, w, st, r, (Post.seqS p).mono fun v H1 ⟨w1, d, s, le, r1, q, p1⟩ => ?_⟩
  exact p1 w1 _ H1 (.refl _) (r1.setVal q)
theorem ds_set {i : Nat} {x : Str} (hN : X.N.Nodup) (hi : X.N[i]? = some x) (hx : Loc X.env.scope x) (he : DE T W X e ca) (hs : swapsWith e (some (.Name x p)) pos.line X.env = pure false) (hf : X.fn x = true ∨ X.env.scope.names.lookup x = some .local) :
    DS T W X (.Assign [.Name x p] e pos) (cAsg (.nm i) ca) := (ps_set hN hi hx he hs hf).imp fun Z σ H h => tAsgN_of (fun _ h => h) h
/-- a list that the slot owns from now on -/
def cOwn (i : Nat) (c : State → R (List D)) : State → R Fl := fun st => (c st).bind fun l s => .ok .nx ⟨s.env.set i (.own l), s.sto⟩
theorem tOwn_of {i : Nat} {Z : Ends} {σ : L2.St} {H : Hp} {te : TE} {cl : State → R (List D)} (hn : ∀ Q, TFd T W cl σ H Q → te σ H Q) (h : TSd T W (cOwn i cl) Z σ H) : tAsg te (gName i) Z σ H := by
  obtain ⟨G, w, st, r, p⟩ := h
  refine hn _ ⟨G, w, st, r, ?_⟩
  have p' := PostF.seqS (σ := σ) p
  revert p'
  generalize cl st = rr
  intro p'
  cases rr with
  | ok l s =>
    intro w' a H' le r' f
    obtain ⟨w1, d, s1, a1, e1, le1, r1, f1, p1⟩ := p' w' a H' le r' f
    cases e1
    exact p1 w1 _ H' (.refl _) (r1.setOwn f1)
  | exc x s => exact p'
  | bad => exact p'
theorem ds_own {i : Nat} {x : Str} {cl : State → R (List D)} (hN : X.N.Nodup) (hi : X.N[i]? = some x) (hx : Loc X.env.scope x) (he : DF T W X e cl) (hs : swapsWith e (some (.Name x p)) pos.line X.env = pure false) (hf : X.fn x = true ∨ X.env.scope.names.lookup x = some .local) :
    DS T W X (.Assign [.Name x p] e pos) (cOwn i cl) := (ps_set hN hi hx he hs hf).imp fun Z σ H h => tOwn_of (fun _ h => h) h
/-! ### two or three at once -/
/-- what stands at the right: a value, or a list that its slot will own -/
inductive Rt where
  | val (d : D) | own (l : List D)
def Rt.slot : Rt → Slot
  | .val d => .val d
  | .own l => .own l
inductive Pt where
  | v (c : State → R D) | f (c : State → R (List D))
def R.back {α : Type} (E : FW.Env) : R α → R α
  | .ok a s => .ok a ⟨E, s.sto⟩
  | .exc x s => .exc x ⟨E, s.sto⟩
  | .bad => .bad
@[simp] theorem R.back_ok {α : Type} (E : FW.Env) (a : α) (s : State) : R.back E (.ok a s) = .ok a ⟨E, s.sto⟩ := rfl
@[simp] theorem R.back_exc {α : Type} (E : FW.Env) (a : D) (s : State) : R.back E (.exc a s : R α) = .exc a ⟨E, s.sto⟩ := rfl
@[simp] theorem R.back_bad {α : Type} (E : FW.Env) : R.back E (.bad : R α) = .bad := rfl
def parGo : List Pt → State → R (List Rt)
  | [], st => .ok [] st
  | .v c :: ps, st => (c st).bind fun d s => (parGo ps s).bind fun rs s2 => .ok (.val d :: rs) s2
  | .f c :: ps, st => (c st).bind fun l s => ((parGo ps ⟨hideFrom 0 [] s.env, s.sto⟩).back s.env).bind fun rs s2 => .ok (.own l :: rs) s2
def setAll : List Nat → List Rt → FW.Env → FW.Env
  | i :: is, r :: rs, E => setAll is rs (E.set i r.slot)
  | _, _, E => E
def cPar (is : List Nat) (ps : List Pt) : State → R Fl := fun st => (parGo ps st).bind fun rs s => if rs.length = is.length then .ok .nx ⟨setAll is rs s.env, s.sto⟩ else .bad
def RtR (T : Txt) (G : Ent) (w : Wd) (st : State) (σ : L2.St) (H : Hp) : Rt → V → Prop
  | .val d, v => RepV T w d v
  | .own l, v => ∃ a, v = .ref a ∧ Fresh T G w st σ H a l
def ARs (T : Txt) (G : Ent) (w : Wd) (st : State) (σ : L2.St) (H : Hp) : List Rt → List V → Prop
  | [], vs => vs = []
  | r :: rs, vs => ∃ v t, vs = v :: t ∧ RtR T G w st σ H r v ∧ (∀ l a, r = .own l → v = .ref a → ∀ (k : Nat) l', rs[k]? = some (.own l') → t[k]? ≠ some (V.ref a)) ∧ ARs T G w st σ H rs t
def setσ : List Nat → List V → L2.St → L2.St
  | i :: is, v :: vs, σ => setσ is vs (σ.set i (some v))
  | _, _, σ => σ
theorem Fresh.afterVal {a : Addr} {l : List D} {i : Nat} {d : D} {v : V} (f : Fresh T G w st σ H a l) : Fresh T G w ⟨st.env.set i (.val d), st.sto⟩ (σ.set i (some v)) H a l := by
  refine ⟨f.at_, f.hf, f.m, f.g, fun j s z o q => ?_⟩
  rcases set_env z with ⟨rfl, rfl, _⟩ | ⟨ne, z⟩
  · cases o
  · rw [List.getElem?_set_ne ne] at q; exact f.own j s z o q
theorem Fresh.afterOwn {a b : Addr} {l l' : List D} {i : Nat} (f : Fresh T G w st σ H a l) (ne : b ≠ a) : Fresh T G w ⟨st.env.set i (.own l'), st.sto⟩ (σ.set i (some (.ref b))) H a l := by
  refine ⟨f.at_, f.hf, f.m, f.g, fun j s z o q => ?_⟩
  rcases set_env z with ⟨rfl, rfl, _⟩ | ⟨ne', z⟩
  · by_cases hl : i < σ.length
    · rw [List.getElem?_set_self hl] at q
      cases q; exact ne rfl
    · rw [List.getElem?_eq_none (by simpa using hl)] at q; cases q
  · rw [List.getElem?_set_ne ne'] at q; exact f.own j s z o q
theorem ARs.after {st' : State} {σ' : L2.St} : ∀ {rs : List Rt} {vs : List V}, ARs T G w st σ H rs vs → (∀ (k : Nat) l a, rs[k]? = some (.own l) → vs[k]? = some (.ref a) → Fresh T G w st σ H a l → Fresh T G w st' σ' H a l) → ARs T G w st' σ' H rs vs
  | [], _, h, _ => h
  | r :: rs, _, ⟨v, t, e, h1, h2, h3⟩, k => by
    subst e
    refine ⟨v, t, rfl, ?_, h2, ARs.after h3 fun i l a e1 e2 f => k (i + 1) l a (by simpa using e1) (by simpa using e2) f⟩
    cases r with
    | val d => exact h1
    | own l =>
      obtain ⟨a, rfl, f⟩ := h1
      exact ⟨a, rfl, k 0 l a (by simp) (by simp) f⟩
theorem RS.setAll : ∀ {is : List Nat} {rs : List Rt} {vs : List V} {st : State} {σ : L2.St}, RS T G w st σ H → ARs T G w st σ H rs vs → RS T G w ⟨FW.setAll is rs st.env, st.sto⟩ (setσ is vs σ) H
  | [], rs, vs, st, σ, r, h => by cases rs <;> exact r
  | i :: is, [], vs, st, σ, r, h => by
    have h : vs = [] := h
    subst h; exact r
  | i :: is, x :: rs, _, st, σ, r, ⟨v, t, e, h1, h2, h3⟩ => by
    subst e
    cases x with
    | val d =>
      have q := RS.setAll (is := is) (r.setVal (i := i) h1) (h3.after fun _ _ _ _ _ f => f.afterVal)
      exact q
    | own l =>
      obtain ⟨a, rfl, f⟩ := h1
      have q := RS.setAll (is := is) (r.setOwn (i := i) f) (h3.after fun k l' b e1 e2 f' => f'.afterOwn fun z => h2 l a rfl rfl k l' e1 (by rw [z]; exact e2))
      exact q
def PostP (T : Txt) (W : WX) (G : Ent) (w : Wd) (σ : L2.St) (r : R (List Rt)) (Q : List V → Hp → Prop) : Prop := match r with
  | .ok rs st' => ∀ w' vs H', w.le w' → RS T G w' st' σ H' → ARs T G w' st' σ H' rs vs → Q vs H'
  | .exc e st' => ∀ w' cls dx H', w.le w' → RS T G w' st' σ H' → RepX T w' e cls dx → W cls dx σ H'
  | .bad => False
def TPd (T : Txt) (W : WX) (ps : List Pt) : TA := fun σ H Q => ∃ G w st, RS T G w st σ H ∧ PostP T W G w σ (parGo ps st) Q
abbrev DP (T : Txt) (W : WX) (X : Cx) (es : List Expr) (ps : List Pt) : Prop := PA X es (TPd T W ps)
theorem dp_nil : DP T W X [] [] := pa_nil.imp fun σ H Q ⟨G, w, st, r, p⟩ => p w [] H (.refl w) r rfl
theorem PostP.up {r : R (List Rt)} {Q : List V → Hp → Prop} (le : w.le w') (h : PostP T W G w σ r Q) : PostP T W G w' σ r Q := by
  cases r with
  | ok d s => exact fun w1 v H' a b c => h w1 v H' (le.trans a) b c
  | exc e s => exact fun w1 v H' a b c => h w1 v H' a (le.trans b) c
  | bad => exact h
theorem dp_val {es : List Expr} {ps : List Pt} (ha : DE T W X a ca) (hr : DP T W X es ps) (hs : starEach (a :: es) X.env = (false, eval a X.env) :: starEach es X.env) : DP T W X (a :: es) (.v ca :: ps) := by
  refine (pa_cons ha hr hs).imp fun σ H Q ⟨G, w, st, r, p⟩ => ⟨G, w, st, r, ?_⟩
  unfold parGo at p
  cases e : ca st with
  | ok d s =>
    rw [e] at p
    intro w1 v H1 le r1 q1
    refine ⟨G, w1, s, r1, ?_⟩
    have p := PostP.up le p
    simp only [R.bind_ok] at p
    cases e2 : parGo ps s with
    | ok rs s2 =>
      rw [e2] at p
      intro w2 vs H2 le2 r2 q2
      exact p w2 (v :: vs) H2 le2 r2 ⟨v, vs, rfl, q1.up le2, fun l a (z : Rt.val d = Rt.own l) => (nomatch z), q2⟩
    | exc x s2 => rw [e2] at p; exact p
    | bad => rw [e2] at p; exact p
  | exc x s => rw [e] at p; exact p
  | bad => rw [e] at p; exact p
theorem Fresh.out {st2 : State} {H1 : Hp} {w1 : Wd} {b : Addr} {l : List D} {s : State} (r : RS T G w1 s σ H1) (f : Fresh T ⟨w1, H1⟩ w' st2 σ H' b l) {S : Store} : Fresh T G w' ⟨s.env, S⟩ σ H' b l :=
  ⟨f.at_, f.hf, f.m, r.absent f.g, fun j t z o q => by
    cases t <;> first | (cases o; done) | skip
    obtain ⟨a, vs, e1, e2, _⟩ := r.ownAt z
    rw [e1] at q; cases q
    have g : H1 b = none := f.g
    rw [e2] at g; cases g⟩
theorem Fresh.kept {H1 : Hp} {w1 : Wd} {a : Addr} {l : List D} {s : State} (f : Fresh T G w1 s σ H1 a l) (fr : Fra w1 H1 w' H') {S : Store} : Fresh T G w' ⟨s.env, S⟩ σ H' a l := by
  obtain ⟨vs, e, q⟩ := f.at_
  have ne : H1 a ≠ none := by rw [e]; simp
  exact ⟨⟨vs, fr.kp a _ e f.m, q.up fr.le⟩, fr.ff a ne f.hf, fun z => f.m (fr.fm a ne z), f.g, f.own⟩
theorem ARs.out {st2 : State} {H1 : Hp} {w1 : Wd} {s : State} (r : RS T G w1 s σ H1) {S : Store} : ∀ {rs : List Rt} {vs : List V}, ARs T ⟨w1, H1⟩ w' st2 σ H' rs vs → ARs T G w' ⟨s.env, S⟩ σ H' rs vs
  | [], _, h => h
  | x :: rs, _, ⟨v, t, e, h1, h2, h3⟩ => ⟨v, t, e, by
    cases x with
    | val d => exact h1
    | own l =>
      obtain ⟨a, rfl, f⟩ := h1
      exact ⟨a, rfl, f.out r⟩, h2, ARs.out r h3⟩
theorem ARs.new {H1 : Hp} {w1 : Wd} {st2 : State} : ∀ {rs : List Rt} {vs : List V} {k : Nat} {l : List D} {a : Addr}, ARs T ⟨w1, H1⟩ w' st2 σ H' rs vs → rs[k]? = some (.own l) → vs[k]? = some (.ref a) → H1 a = none
  | [], _, _, _, _, _, e, _ => by simp at e
  | x :: rs, _, 0, l, a, ⟨v, t, ev, h1, h2, h3⟩, e, e' => by
    subst ev
    simp at e e'
    subst e e'
    obtain ⟨b, z, f⟩ := h1
    cases z; exact f.g
  | x :: rs, _, k + 1, l, a, ⟨v, t, ev, h1, h2, h3⟩, e, e' => by
    subst ev
    exact ARs.new h3 (by simpa using e) (by simpa using e')
theorem dp_own {es : List Expr} {ps : List Pt} {cl : State → R (List D)} (ha : DF T W X a cl) (hr : DP T W X es ps) (hs : starEach (a :: es) X.env = (false, eval a X.env) :: starEach es X.env) : DP T W X (a :: es) (.f cl :: ps) := by
  refine (pa_cons ha hr hs).imp fun σ H Q ⟨G, w, st, r, p⟩ => ⟨G, w, st, r, ?_⟩
  unfold parGo at p
  cases e : cl st with
  | ok l s =>
    rw [e] at p
    intro w1 a H1 le r1 f1
    refine ⟨⟨w1, H1⟩, w1, ⟨hideFrom 0 [] s.env, s.sto⟩, r1.rec0, ?_⟩
    have p := PostP.up le p
    simp only [R.bind_ok] at p
    cases e2 : parGo ps ⟨hideFrom 0 [] s.env, s.sto⟩ with
    | ok rs s2 =>
      rw [e2] at p
      intro w2 vs H2 le2 r2 q2
      refine p w2 (.ref a :: vs) H2 le2 (r1.call r2.fra r2.rc) ⟨.ref a, vs, rfl, ⟨a, rfl, f1.kept r2.fra⟩, fun l' b z z2 k l2 e3 e4 => ?_, q2.out r1⟩
      cases z2
      have g := q2.new e3 e4
      obtain ⟨us, e5, _⟩ := f1.at_
      rw [e5] at g; cases g
    | exc x s2 =>
      rw [e2] at p
      intro w2 cls dx H2 le2 r2 q2
      exact p w2 cls dx H2 le2 (r1.call r2.fra r2.rc) q2
    | bad => rw [e2] at p; exact p
  | exc x s => rw [e] at p; exact p
  | bad => rw [e] at p; exact p
theorem PostP.seqS {r : R (List Rt)} {f : List Rt → State → R Fl} {Z : Ends} (h : PostS T W G w (r.bind f) Z) :
    PostP T W G w σ r fun vs H1 => ∃ w1 rs s, w.le w1 ∧ RS T G w1 s σ H1 ∧ ARs T G w1 s σ H1 rs vs ∧ PostS T W G w1 (f rs s) Z := by
  cases r with
  | ok d s => exact fun w' v H' a b c => ⟨w', d, s, a, b, c, PostS.up a h⟩
  | exc x s => exact fun w' cls dx H' a b c => h w' cls dx σ H' a b c
  | bad => exact h
theorem ARs.len : ∀ {rs : List Rt} {vs : List V}, ARs T G w st σ H rs vs → vs.length = rs.length
  | [], _, h => by
    have h : _ = [] := h
    rw [h]; rfl
  | x :: rs, _, ⟨v, t, ev, h1, h2, h3⟩ => by rw [ev]; simp [ARs.len h3]
theorem ds_par2 {i j : Nat} {x y : Str} {ps : List Pt} {px py pt pos : Pos} {kt k2 pt2} (hc : X.calm = true) (hN : X.N.Nodup) (hi : X.N[i]? = some x) (hj : X.N[j]? = some y) (hij : i ≠ j)
    (hx : X.env.scope.names.lookup x = some .local) (hy : X.env.scope.names.lookup y = some .local) (ha : DP T W X [a, b] ps)
    (hw : swappedStores [.Tuple [.Name x px, .Name y py] kt pt] (.Tuple [a, b] k2 pt2) X.env = pure (some [x, y]))
    (hs : swapsWithSole [.Tuple [.Name x px, .Name y py] kt pt] (.Tuple [a, b] k2 pt2) pos.line X.env = pure false) :
    DS T W X (.Assign [.Tuple [.Name x px, .Name y py] kt pt] (.Tuple [a, b] k2 pt2) pos) (cPar [i, j] ps) := by
  refine (ps_par hc hN hi hj hij hx hy ha hw hs).imp fun Z σ H ⟨G, w, st, r, p⟩ => ⟨G, w, st, r, ?_⟩
  have p' := PostP.seqS (σ := σ) p
  revert p'
  cases parGo ps st with
  | ok rs s =>
    intro p' w' vs H' le r' q'
    obtain ⟨w1, rs1, s1, le1, r1, q1, p1⟩ := p' w' vs H' le r' q'
    by_cases hl : rs1.length = [i, j].length
    · rw [if_pos hl] at p1
      have hv := q1.len
      obtain ⟨v, u, rfl⟩ : ∃ v u, vs = [v, u] := by
        rw [hl] at hv
        rcases vs with _ | ⟨v, _ | ⟨u, _ | ⟨t, r⟩⟩⟩ <;> first | (simp at hv; done) | exact ⟨_, _, rfl⟩
      exact ⟨v, u, rfl, p1 w1 _ H' (.refl _) (RS.setAll (is := [i, j]) r1 q1)⟩
    · rw [if_neg hl] at p1; exact p1.elim
  | exc x s => exact fun p' => p'
  | bad => exact fun p' => p'
theorem ds_par3 {i j l : Nat} {x y z : Str} {ps : List Pt} {px py pz pt pos : Pos} {kt k2 pt2} (hc : X.calm = true) (hN : X.N.Nodup) (hi : X.N[i]? = some x) (hj : X.N[j]? = some y) (hl : X.N[l]? = some z) (hij : i ≠ j) (hil : i ≠ l) (hjl : j ≠ l)
    (hx : X.env.scope.names.lookup x = some .local) (hy : X.env.scope.names.lookup y = some .local) (hz : X.env.scope.names.lookup z = some .local) (ha : DP T W X [a, b, c] ps)
    (hw : swappedStores [.Tuple [.Name x px, .Name y py, .Name z pz] kt pt] (.Tuple [a, b, c] k2 pt2) X.env = pure (some [x, y, z]))
    (hs : swapsWithSole [.Tuple [.Name x px, .Name y py, .Name z pz] kt pt] (.Tuple [a, b, c] k2 pt2) pos.line X.env = pure false) :
    DS T W X (.Assign [.Tuple [.Name x px, .Name y py, .Name z pz] kt pt] (.Tuple [a, b, c] k2 pt2) pos) (cPar [i, j, l] ps) := by
  refine (ps_par3 hc hN hi hj hl hij hil hjl hx hy hz ha hw hs).imp fun Z σ H ⟨G, w, st, r, p⟩ => ⟨G, w, st, r, ?_⟩
  have p' := PostP.seqS (σ := σ) p
  revert p'
  cases parGo ps st with
  | ok rs s =>
    intro p' w' vs H' le r' q'
    obtain ⟨w1, rs1, s1, le1, r1, q1, p1⟩ := p' w' vs H' le r' q'
    by_cases hl : rs1.length = [i, j, l].length
    · rw [if_pos hl] at p1
      have hv := q1.len
      obtain ⟨v, u, t, rfl⟩ : ∃ v u t, vs = [v, u, t] := by
        rw [hl] at hv
        rcases vs with _ | ⟨v, _ | ⟨u, _ | ⟨t, _ | ⟨t2, r⟩⟩⟩⟩ <;> first | (simp at hv; done) | exact ⟨_, _, _, rfl⟩
      exact ⟨v, u, t, rfl, p1 w1 _ H' (.refl _) (RS.setAll (is := [i, j, l]) r1 q1)⟩
    · rw [if_neg hl] at p1; exact p1.elim
  | exc x s => exact fun p' => p'
  | bad => exact fun p' => p'
end
end FW

/-! FwJ: writes into lists, loops, comprehensions. -/
namespace FW
open PySem PySem.Spec PyProof.Rows L2
section
variable {T : Txt} {W : WX} {X : Cx} {G : Ent} {w w' : Wd} {st : State} {σ : L2.St} {H H' : Hp} {Z : Ends} {a b c e i : Expr} {ca cb ci : State → R D} {cx : State → R Bor} {pos p p2 apos cpos tpos : Pos} {cs cr : State → R Fl} {s : Stmt} {rest : List Stmt} {ba : State → R Bool}
/-! ### x += e -/
def cAug (i : Nat) (g : Int → Int → Int) (c : State → R D) : State → R Fl := fun st => match st.env[i]? with
  | some (.val (.int k)) => (c st).bind fun d s => match d with
    | .int j => .ok .nx ⟨s.env.set i (.val (.int (g k j))), s.sto⟩
    | _ => .bad
  | _ => .bad
theorem ds_aug {i : Nat} {x : Str} {op : Operator} {g : Int → Int → Int} (ho : PIp X op (ipI g)) (hN : X.N.Nodup) (hi : X.N[i]? = some x) (hx : Loc X.env.scope x) (he : DE T W X e ca) (hf : X.fn x = true ∨ X.env.scope.names.lookup x = some .local) :
    DS T W X (.AugAssign (.Name x p) op e pos) (cAug i g ca) := by
  refine (ps_aug hN hi hx he ho hf).imp fun Z σ H ⟨G, w, st, r, p⟩ => ?_
  unfold cAug at p
  split at p
  · rename_i k ek
    obtain ⟨v, e1, q⟩ := r.valAt ek
    refine ⟨v, e1, G, w, st, r, (Post.seqS p).mono fun y H1 ⟨w1, d, s, le, r1, q1, p1⟩ => ?_⟩
    cases d <;> first | exact p1.elim | skip
    exact ⟨k, _, q.int_eq, q1.int_eq, p1 w1 _ H1 (.refl _) (r1.setVal .int_)⟩
  · exact p.elim
/-! ### o[i] = v -/
def cSetB (e : State → R D) (o : State → R Bor) (i : State → R D) : State → R Fl := fun st => (e st).bind fun v s1 => (o s1).bind fun b s2 => (i s2).bind fun k s3 => match content s3 b, k with
  | some l, .int j => (match ixN l.length j with
    | some n => .ok .nx (wrContent s3 (l.set n v) b)
    | none => .bad)
  | _, _ => .bad
theorem ds_setB (ho : DB T W X a cx) (hi : DE T W X i ci) (he : DE T W X e ca) (hs : swapsWithSole [.Subscript a i tpos] e pos.line X.env = pure false) (hw : swappedStores [.Subscript a i tpos] e X.env = pure none)
    (h1 : (assignEach [.Subscript a i tpos] X.env).map (·.2) = [assign (.Subscript a i tpos) X.env])
    (ha : ∀ v, assign (.Subscript a i tpos) X.env v = (do
      let ov ← holding [v] (eval a X.env)
      let iv ← holding [v, ov] (eval i X.env)
      standAt tpos
      holding [v, ov, iv] (setItem ov iv v)
      release [v, ov, iv] [])) : DS T W X (.Assign [.Subscript a i tpos] e pos) (cSetB ca cx ci) := by
  refine (ps_asg he (pg_sub ho hi set_list ha) hs hw h1).imp fun Z σ H ⟨G, w, st, r, p⟩ => ⟨G, w, st, r, (Post.seqS p).mono fun x H1 ⟨w1, d, s1, le1, r1, q1, p1⟩ => ?_⟩
  refine ⟨G, w1, s1, r1, (Post.seqS p1).mono fun o H2 ⟨w2, b, s2, le2, r2, q2, p2⟩ => ?_⟩
  refine ⟨G, w2, s2, r2, (Post.seqS p2).mono fun y H3 ⟨w3, k, s3, le3, r3, q3, p3⟩ => ?_⟩
  cases ec : content s3 b with
  | none => rw [ec] at p3; exact p3.elim
  | some l =>
    rw [ec] at p3
    cases k <;> first | exact p3.elim | skip
    rename_i j
    have p3 : PostS T W G w3 (match ixN l.length j with
      | some n => .ok .nx (wrContent s3 (l.set n d) b)
      | none => .bad) Z := p3
    cases en : ixN l.length j with
    | none => rw [en] at p3; exact p3.elim
    | some n =>
      rw [en] at p3
      obtain ⟨a', vs, e1, h1', h2⟩ := r3.content (q2.up le3) ec
      subst e1
      refine ⟨a', vs, j, n, rfl, q3.int_eq, h1', by rw [← h2.length]; exact en, ?_⟩
      exact p3 w3 σ _ (.refl _) (r3.wrBor (q2.up le3) ec (h2.set ((q1.up le2).up le3) n))
/-! ### o[i] op= v -/
def cAugB (g : Int → Int → Int) (o : State → R Bor) (i : State → R D) (e : State → R D) : State → R Fl := fun st => (o st).bind fun b s1 => (i s1).bind fun k s2 => match content s2 b, k with
  | some l, .int j => (match atI l j with
    | some (.int x) => (e s2).bind fun y s3 => (match y, content s3 b with
      | .int z, some l' => (match ixN l'.length j with
        | some n => .ok .nx (wrContent s3 (l'.set n (.int (g x z))) b)
        | none => .bad)
      | _, _ => .bad)
    | _ => .bad)
  | _, _ => .bad
/-! ### o.append(v), o.extend(l) -/
def cApp (o : State → R Bor) (e : State → R D) : State → R Fl := fun st => (o st).bind fun b s1 => match content s1 b with
  | none => .bad
  | some _ => (e s1).bind fun v s2 => match content s2 b with
    | some l => if decide (l.length < 16777216) then .ok .nx (wrContent s2 (l ++ [v]) b) else .bad
    | none => .bad
def cExt (o : State → R Bor) (e : State → R D) : State → R Fl := fun st => (o st).bind fun b s1 => match content s1 b with
  | none => .bad
  | some _ => (e s1).bind fun v s2 => match v, content s2 b with
    | .lst l', some l => if szOk (l.length + l'.length) then .ok .nx (wrContent s2 (l ++ l') b) else .bad
    | _, _ => .bad
def cPopS (o : State → R Bor) (i : State → R D) : State → R Fl := cDrop (cPopB o i)
theorem ds_app (hK : X.K = T.K) (ho : DB T W X a cx) (he : DE T W X e ca)
    (hbase : attributeBase a "append" X.env (eval a X.env) = eval a X.env)
    (hfew : ((backTo cpos (starEach [e] X.env)).all (fun x => !x.1) && (backToKw cpos (keywordEach [] X.env)).all (fun x => x.1.isSome)
      && decide ([e].length + ([] : List Keyword).length + (if ([] : List Keyword).isEmpty then 0 else 1) < 30)) = true)
    (hline : (apos.endLine == cpos.line) = true) (hs : starEach [e] X.env = (false, eval e X.env) :: starEach [] X.env) :
    DS T W X (.Expr (.Call (.Attribute a "append" apos) [e] [] cpos) pos) (cApp cx ca) := by
  refine (ps_expr (pe_bm PySem.F.plainAttrs_list PySem.F.slot_list_append PySem.F.type_list_append mt_append ho (pa_cons he pa_nil hs) hbase hfew hline hs rfl)).imp fun Z σ H ⟨G, w, st, r, p⟩ => ?_
  refine ⟨G, w, st, r, (Post.seqS p).mono fun x H1 ⟨w1, d1, s1, le1, r1, q1, p1⟩ => ?_⟩
  cases ec : content s1 d1 with
  | none => rw [ec] at p1; exact p1.elim
  | some l =>
    rw [ec] at p1
    obtain ⟨a', vs, e1, h1, h2⟩ := r1.content q1 ec
    subst e1
    refine ⟨.inl ⟨rfl, vs, SqL.of h1⟩, G, w1, s1, r1, (Post.seqS p1).mono fun y H2 ⟨w2, d2, s2, le2, r2, q2, p2⟩ => ?_⟩
    cases ec2 : content s2 d1 with
    | none => rw [ec2] at p2; exact p2.elim
    | some l' =>
      rw [ec2] at p2
      by_cases hz : decide (l'.length < 16777216) = true
      · have p2 : PostS T W G w2 (if decide (l'.length < 16777216) = true then .ok .nx (wrContent s2 (l' ++ [d2]) d1) else .bad) Z := p2
        rw [if_pos hz] at p2
        have hz := of_decide_eq_true hz
        obtain ⟨a2, vs2, e2, h3, h4⟩ := r2.content (q1.up le2) ec2
        cases e2
        refine ⟨a', vs2, y, rfl, rfl, h3, by rw [sizeLine_eq, ← h4.length]; exact hz, ?_⟩
        exact p2 w2 σ _ (.refl _) (r2.wrBor (q1.up le2) ec2 (h4.append (.cons q2 .nil)))
      · have p2 : PostS T W G w2 (if decide (l'.length < 16777216) = true then .ok .nx (wrContent s2 (l' ++ [d2]) d1) else .bad) Z := p2
        rw [if_neg hz] at p2; exact p2.elim
theorem ds_ext (hK : X.K = T.K) (ho : DB T W X a cx) (he : DE T W X e ca)
    (hbase : attributeBase a "extend" X.env (eval a X.env) = eval a X.env)
    (hfew : ((backTo cpos (starEach [e] X.env)).all (fun x => !x.1) && (backToKw cpos (keywordEach [] X.env)).all (fun x => x.1.isSome)
      && decide ([e].length + ([] : List Keyword).length + (if ([] : List Keyword).isEmpty then 0 else 1) < 30)) = true)
    (hline : (apos.endLine == cpos.line) = true) (hs : starEach [e] X.env = (false, eval e X.env) :: starEach [] X.env) :
    DS T W X (.Expr (.Call (.Attribute a "extend" apos) [e] [] cpos) pos) (cExt cx ca) := by
  refine (ps_expr (pe_bm PySem.F.plainAttrs_list PySem.F.slot_list_extend PySem.F.type_list_extend mt_extend ho (pa_cons he pa_nil hs) hbase hfew hline hs rfl)).imp fun Z σ H ⟨G, w, st, r, p⟩ => ?_
  refine ⟨G, w, st, r, (Post.seqS p).mono fun x H1 ⟨w1, d1, s1, le1, r1, q1, p1⟩ => ?_⟩
  cases ec : content s1 d1 with
  | none => rw [ec] at p1; exact p1.elim
  | some l =>
    rw [ec] at p1
    obtain ⟨a', vs, e1, h1, h2⟩ := r1.content q1 ec
    subst e1
    refine ⟨.inl ⟨rfl, vs, SqL.of h1⟩, G, w1, s1, r1, (Post.seqS p1).mono fun y H2 ⟨w2, d2, s2, le2, r2, q2, p2⟩ => ?_⟩
    cases d2 <;> first | exact p2.elim | skip
    rename_i l2
    cases ec2 : content s2 d1 with
    | none => rw [ec2] at p2; exact p2.elim
    | some l' =>
      rw [ec2] at p2
      have p2 : PostS T W G w2 (if szOk (l'.length + l2.length) = true then .ok .nx (wrContent s2 (l' ++ l2) d1) else .bad) Z := p2
      by_cases hz : szOk (l'.length + l2.length) = true
      · rw [if_pos hz] at p2
        obtain ⟨a2, vs2, e2, h3, h4⟩ := r2.content (q1.up le2) ec2
        cases e2
        obtain ⟨a3, vs3, rfl, h5, h6⟩ := q2.lst_at r2.sub
        refine ⟨a', a3, vs2, vs3, rfl, rfl, h3, h5, by rw [← h4.length, ← h6.length]; exact szOk_line hz, ?_⟩
        exact p2 w2 σ _ (.refl _) (r2.wrBor (q1.up le2) ec2 (h4.append h6))
      · rw [if_neg hz] at p2; exact p2.elim
theorem de_popB (hK : X.K = T.K) (ho : DB T W X a cx) (he : DE T W X e ca)
    (hbase : attributeBase a "pop" X.env (eval a X.env) = eval a X.env)
    (hfew : ((backTo cpos (starEach [e] X.env)).all (fun x => !x.1) && (backToKw cpos (keywordEach [] X.env)).all (fun x => x.1.isSome)
      && decide ([e].length + ([] : List Keyword).length + (if ([] : List Keyword).isEmpty then 0 else 1) < 30)) = true)
    (hline : (apos.endLine == cpos.line) = true) (hs : starEach [e] X.env = (false, eval e X.env) :: starEach [] X.env) :
    DE T W X (.Call (.Attribute a "pop" apos) [e] [] cpos) (cPopB cx ca) :=
  (pe_bm PySem.F.plainAttrs_list PySem.F.slot_list_pop PySem.F.type_list_pop mt_popAt ho (pa_cons he pa_nil hs) hbase hfew hline hs rfl).imp fun σ H Q h => popB_of hK h
/-! ### while -/
def cWhile (c : State → R Bool) (body : State → R Fl) : Nat → State → R Fl
  | 0, _ => .bad
  | n + 1, st => (c st).bind fun k s => if k then (match body s with
    | .ok .nx s2 => cWhile c body n s2
    | .ok .ct s2 => cWhile c body n s2
    | .ok .bk s2 => .ok .nx s2
    | .ok (.rt d) s2 => .ok (.rt d) s2
    | .exc x s2 => .exc x s2
    | .bad => .bad) else .ok .nx s
theorem tWhile_of {n : Nat} (h : TSd T W (cWhile ba cs n) Z σ H) : tWhile (TTd T W ba) (TSd T W cs) Z σ H := by
  obtain ⟨G, w, st, r, p⟩ := h
  refine ⟨fun m σ H => ∃ w1 st1, RS T G w1 st1 σ H ∧ PostS T W G w1 (cWhile ba cs m st1) Z, ⟨n, w, st, r, p⟩, ?_⟩
  rintro m σ1 H1 ⟨w1, st1, r1, p1⟩
  cases m with
  | zero => exact p1.elim
  | succ m =>
    refine ⟨G, w1, st1, r1, (Post.seqS p1).mono fun k H2 ⟨w2, d, s2, le2, r2, q2, p2⟩ => ?_⟩
    have q2 : k = d := q2
    subst q2
    cases k with
    | false => rw [if_neg (by decide)]; exact p2 w2 _ H2 (.refl _) r2
    | true =>
      rw [if_pos rfl]
      refine ⟨fun σ H => ∃ w3 st3, RS T G w3 st3 σ H ∧ PostS T W G w3 (cWhile ba cs m st3) Z, fun σ' H' q => ⟨m, Nat.lt_succ_self m, q⟩, G, w2, s2, r2, ?_⟩
      have p2 : PostS T W G w2 (match cs s2 with
        | .ok .nx s2 => cWhile ba cs m s2
        | .ok .ct s2 => cWhile ba cs m s2
        | .ok .bk s2 => .ok .nx s2
        | .ok (.rt d) s2 => .ok (.rt d) s2
        | .exc x s2 => .exc x s2
        | .bad => .bad) Z := p2
      cases eb : cs s2 with
      | ok f s3 =>
        rw [eb] at p2
        cases f with
        | nx => exact fun w3 σ3 H3 le r3 => ⟨w3, s3, r3, PostS.up le p2⟩
        | ct => exact fun w3 σ3 H3 le r3 => ⟨w3, s3, r3, PostS.up le p2⟩
        | bk => exact p2
        | rt d => exact p2
      | exc x s3 => rw [eb] at p2; exact p2
      | bad => rw [eb] at p2; exact p2
theorem ds_while {body : List Stmt} (n : Nat) (hp : PassesOwn (model X.prog X.w) X.A X.env X.xe) (hc : DT T W X c ba) (hb : DSs T W X body cs) : DS T W X (.While c body [] pos) (cWhile ba cs n) :=
  (ps_while hp hc hb).imp fun Z σ H h => tWhile_of h
/-! ### what a loop walks: frozen items -/
def JOk (T : Txt) (J : It) (w : Wd) (l : List D) : Prop := ∀ w1 H1, w.le w1 → Sub w1 H1 → ∀ i, (∀ d, l[i]? = some d → J.go i H1 ∧ ∀ x H', J.yld i H1 x H' → ∃ w2, Gr w1 H1 w2 H' ∧ RepV T w2 d x) ∧ (l.length = i → J.stop i H1)
def PostI (T : Txt) (W : WX) (G : Ent) (w : Wd) (σ : L2.St) (r : R (List D)) (Q : It → Hp → Prop) : Prop := match r with
  | .ok l st' => ∀ w' J H', w.le w' → RS T G w' st' σ H' → JOk T J w' l → Q J H'
  | .exc e st' => ∀ w' cls dx H', w.le w' → RS T G w' st' σ H' → RepX T w' e cls dx → W cls dx σ H'
  | .bad => False
def TId (T : Txt) (W : WX) (c : State → R (List D)) : TI := fun σ H Q => ∃ G w st, RS T G w st σ H ∧ PostI T W G w σ (c st) Q
abbrev DI (T : Txt) (W : WX) (X : Cx) (tg e : Expr) (c : State → R (List D)) : Prop := PI X tg e (TId T W c)
theorem _root_.L2.PI.imp {X : Cx} {tg e : Expr} {t t' : TI} (h : PI X tg e t) (k : ∀ σ H Q, t' σ H Q → t σ H Q) : PI X tg e t' := ⟨fun pins s σ H R I q => h.run pins s σ H R I (k σ H R q)⟩
theorem PostI.seqS {r : R (List D)} {f : List D → State → R Fl} {Z : Ends} (h : PostS T W G w (r.bind f) Z) :
    PostI T W G w σ r fun J H1 => ∃ w1 l s, w.le w1 ∧ RS T G w1 s σ H1 ∧ JOk T J w1 l ∧ PostS T W G w1 (f l s) Z := by
  cases r with
  | ok d s => exact fun w' v H' a b c => ⟨w', d, s, a, b, c, PostS.up a h⟩
  | exc x s => exact fun w' cls dx H' a b c => h w' cls dx σ H' a b c
  | bad => exact h
theorem PostI.seqF {r : R (List D)} {f : List D → State → R (List D)} {Q : VK} (h : PostF T W G w σ (r.bind f) Q) :
    PostI T W G w σ r fun J H1 => ∃ w1 l s, w.le w1 ∧ RS T G w1 s σ H1 ∧ JOk T J w1 l ∧ PostF T W G w1 σ (f l s) Q := by
  cases r with
  | ok d s => exact fun w' v H' a b c => ⟨w', d, s, a, b, c, PostF.up a h⟩
  | exc x s => exact h
  | bad => exact h
theorem Post.seqI {α β : Type} {Rep : Wd → α → β → Prop} {r : R α} {f : α → State → R (List D)} {Q : It → Hp → Prop} (h : PostI T W G w σ (r.bind f) Q) :
    Post T W G w σ Rep r fun v H1 => ∃ w1 d s, w.le w1 ∧ RS T G w1 s σ H1 ∧ Rep w1 d v ∧ PostI T W G w1 σ (f d s) Q := by
  have up : ∀ {w w' : Wd} {r : R (List D)}, w.le w' → PostI T W G w σ r Q → PostI T W G w' σ r Q := fun {w w' r} le h => by
    cases r with
    | ok d s => exact fun w1 J H' a b c => h w1 J H' (le.trans a) b c
    | exc e s => exact fun w1 cls dx H' a b c => h w1 cls dx H' (le.trans a) b c
    | bad => exact h
  cases r with
  | ok d s => exact fun w' v H' a b c => ⟨w', d, s, a, b, c, up a h⟩
  | exc x s => exact h
  | bad => exact h
/-! a tuple or a list -/
def cItS (c : State → R D) : State → R (List D) := fun st => (c st).bind fun d s => R.lift (itemsD d) s
def iSeq (K : PySem.W.Frag) (tl : TE) : TI := fun σ H R => tl σ H fun x H1 => ∃ a, x = .ref a ∧ (((∃ xs, SqL K H1 a xs) ∧ R (Itl K a) H1) ∨ ((∃ xs, SqT K H1 a xs) ∧ R (Itt K a) H1))
theorem pi_seq {tg l : Expr} {tl : TE} (hl : PE X l tl) : PI X tg l (iSeq X.K tl) := by
  refine ⟨fun pins s σ H R I h => ?_⟩
  refine thn (hl.run pins s σ H _ I h) fun v s1 ⟨x, H1, I1, r1, q1⟩ => ?_
  obtain ⟨a, e, ⟨⟨xs, hq⟩, q⟩ | ⟨⟨xs, hq⟩, q⟩⟩ := q1
  · subst e
    cases r1
    obtain ⟨its, rv, p, hz⟩ := I1.list hq
    refine wpAny_pyIter_list p.isList ?_
    refine ⟨s1.heap.objs.size, [s1.heap.objs.size], _, _, H1, rfl, I1.kept (t' := s1.toks) fun b o e => Heap.get?_push_of_some _ e, turn_list a _, ⟨_, Heap.get?_push_size _ rfl, rfl, rfl⟩, fun b hb => ?_, q⟩
    have e : b = s1.heap.objs.size := by simpa using hb
    subst e
    exact I1.fpOk (Nat.le_refl _) (I1.hok.fresh (Nat.le_refl _))
  · subst e
    cases r1
    obtain ⟨its, rv, p, hz⟩ := I1.tuple hq
    refine wpAny_pyIter_tuple (show s1.heap.IsTuple a its.toArray from p) ?_
    refine ⟨s1.heap.objs.size, [s1.heap.objs.size], _, _, H1, rfl, I1.kept (t' := s1.toks) fun b o e => Heap.get?_push_of_some _ e, turn_tuple a _, ⟨_, Heap.get?_push_size _ rfl, rfl, rfl⟩, fun b hb => ?_, q⟩
    have e : b = s1.heap.objs.size := by simpa using hb
    subst e
    exact I1.fpOk (Nat.le_refl _) (I1.hok.fresh (Nat.le_refl _))
theorem Gr.refl' {w1 : Wd} {H1 : Hp} (h : Sub w1 H1) : Gr w1 H1 w1 H1 := Gr.refl h
theorem RepVs.getE {w : Wd} {l : List D} {vs : List V} {i : Nat} {d : D} (h : RepVs T w l vs) (e : l[i]? = some d) : ∃ v, vs[i]? = some v ∧ RepV T w d v := h.get e
/-- a sequence whose items are known at every later time -/
theorem seq_walk (hK : X.K = T.K) {w : Wd} {H : Hp} {d : D} {v : V} {l : List D} (s : Sub w H) (h : RepV T w d v) (e : itemsD d = some l) :
    ∃ a, v = .ref a ∧ (((∃ xs, SqL X.K H a xs) ∧ JOk T (Itl X.K a) w l) ∨ ((∃ xs, SqT X.K H a xs) ∧ JOk T (Itt X.K a) w l)) := by
  have lst : ∀ a vs, SqL X.K w.HF a vs → RepVs T w l vs → (∃ xs, SqL X.K H a xs) ∧ JOk T (Itl X.K a) w l := fun a vs q r =>
    ⟨⟨vs, SqL.up s q⟩, fun w1 H1 le sb i => by
      have q1 : SqL X.K H1 a vs := SqL.up (fun b o z => sb b o (le.hf b o z)) q
      refine ⟨fun d hd => ?_, fun hi => ⟨vs, q1, by rw [← r.length]; exact Nat.le_of_eq hi⟩⟩
      obtain ⟨x, e1, e2⟩ := r.get hd
      refine ⟨⟨vs, x, q1, e1⟩, fun y H' ⟨z1, z2⟩ => ?_⟩
      subst z1
      have := z2 vs q1
      rw [e1] at this; cases this
      exact ⟨w1, Gr.refl sb, e2.up le⟩⟩
  have tup : ∀ a vs, SqT X.K w.HF a vs → RepVs T w l vs → (∃ xs, SqT X.K H a xs) ∧ JOk T (Itt X.K a) w l := fun a vs q r =>
    ⟨⟨vs, SqT.up s q⟩, fun w1 H1 le sb i => by
      have q1 : SqT X.K H1 a vs := SqT.up (fun b o z => sb b o (le.hf b o z)) q
      refine ⟨fun d hd => ?_, fun hi => ⟨vs, q1, by rw [← r.length]; exact Nat.le_of_eq hi⟩⟩
      obtain ⟨x, e1, e2⟩ := r.get hd
      refine ⟨⟨vs, x, q1, e1⟩, fun y H' ⟨z1, z2⟩ => ?_⟩
      subst z1
      have := z2 vs q1
      rw [e1] at this; cases this
      exact ⟨w1, Gr.refl sb, e2.up le⟩⟩
  cases d <;> first | (cases e; done) | skip
  · cases e
    obtain ⟨a, vs, rfl, q, r⟩ := (by simpa only [RepV] using h)
    exact ⟨a, rfl, .inr (tup a vs (hK ▸ q) r)⟩
  · cases e
    obtain ⟨a, vs, rfl, q, r⟩ := (by simpa only [RepV] using h)
    exact ⟨a, rfl, .inl (lst a vs (SqL.of q) r)⟩
  · cases e
    obtain ⟨a, vs, rfl, q, r⟩ := (by simpa only [RepV] using h)
    exact ⟨a, rfl, .inl (lst a vs (hK ▸ q) r)⟩
theorem PostI.lift {o : Option (List D)} {s : State} {Q : It → Hp → Prop} (h : PostI T W G w σ (R.lift o s) Q) : ∃ l, o = some l ∧ PostI T W G w σ (.ok l s) Q := by
  cases o with
  | none => exact h.elim
  | some l => exact ⟨l, rfl, h⟩
theorem di_seq (hK : X.K = T.K) {tg : Expr} (he : DE T W X e ca) : DI T W X tg e (cItS ca) := by
  refine (pi_seq he).imp fun σ H R ⟨G, w, st, r, p⟩ => ⟨G, w, st, r, (Post.seqI p).mono fun v H1 ⟨w1, d, s, le, r1, q, p1⟩ => ?_⟩
  obtain ⟨l, e, p2⟩ := PostI.lift p1
  obtain ⟨a, rfl, ⟨h1, h2⟩ | ⟨h1, h2⟩⟩ := seq_walk hK r1.sub q e
  · exact ⟨a, rfl, .inl ⟨h1, p2 w1 _ H1 (.refl _) r1 h2⟩⟩
  · exact ⟨a, rfl, .inr ⟨h1, p2 w1 _ H1 (.refl _) r1 h2⟩⟩
/-! ranges -/
def rangeL (a : Int) : Nat → List D
  | 0 => []
  | n + 1 => .int a :: rangeL (a + 1) n
theorem rangeL_len (a : Int) : ∀ n, (rangeL a n).length = n
  | 0 => rfl
  | n + 1 => by simp [rangeL, rangeL_len (a + 1) n]
theorem rangeL_get : ∀ (a : Int) (n i : Nat), i < n → (rangeL a n)[i]? = some (.int (a + i))
  | a, 0, i, h => by omega
  | a, n + 1, 0, _ => by simp [rangeL]
  | a, n + 1, i + 1, h => by
    simp only [rangeL, List.getElem?_cons_succ]
    rw [rangeL_get (a + 1) n i (by omega)]
    congr 2 <;> omega
theorem range_walk (lo : Int) (n : Nat) (w : Wd) : JOk T (Itr lo n) w (rangeL lo n) := fun w1 H1 le sb i => by
  refine ⟨fun d hd => ?_, fun hi => by rw [rangeL_len] at hi; exact Nat.le_of_eq hi⟩
  have hi : i < n := by
    have := (List.getElem?_eq_some_iff.mp hd).1
    rw [rangeL_len] at this; exact this
  rw [rangeL_get lo n i hi] at hd
  cases hd
  exact ⟨hi, fun x H' ⟨z1, z2⟩ => by subst z1 z2; exact ⟨w1, Gr.refl sb, .int_⟩⟩
def inR (i : Int) : Bool := decide (i.natAbs < 2 ^ 62)
theorem inR_ok {i : Int} (h : inR i = true) : -(2 ^ 62) ≤ i ∧ i < 2 ^ 62 := by
  have h := of_decide_eq_true h
  omega
def rng1 : List D → Option (List D)
  | [.int j] => if inR j then some (rangeL 0 j.toNat) else none
  | _ => none
def rng2 : List D → Option (List D)
  | [.int i, .int j] => if inR i && inR j then some (rangeL i (j - i).toNat) else none
  | _ => none
def cItA (g : List D → Option (List D)) (c : State → R (List D)) : State → R (List D) := fun st => (c st).bind fun ds s => R.lift (g ds) s
theorem di_range1 {tg a : Expr} {ct : State → R (List D)} (hg : Gl X "range") (hm : X.mg "range" = none) (ha : DA T W X [a] ct) (hs : starEach [a] X.env = [(false, eval a X.env)]) : DI T W X tg (.Call (.Name "range" p) [a] [] pos) (cItA rng1 ct) := by
  refine (pi_range1 hg hm ha hs).imp fun σ H R ⟨G, w, st, r, p⟩ => ⟨G, w, st, r, (Post.seqI p).mono fun v H1 ⟨w1, d, s, le, r1, q, p1⟩ => ?_⟩
  obtain ⟨l, e, p2⟩ := PostI.lift p1
  unfold rng1 at e
  split at e
  · rename_i j
    obtain ⟨u, rfl, hu⟩ := q.one
    by_cases hz : inR j = true
    · rw [if_pos hz] at e; cases e
      obtain ⟨h1, h2⟩ := inR_ok hz
      exact ⟨j, by rw [hu.int_eq], h1, h2, p2 w1 _ H1 (.refl _) r1 (range_walk _ _ _)⟩
    · rw [if_neg hz] at e; cases e
  · cases e
theorem di_range2 {tg a b : Expr} {ct : State → R (List D)} (hg : Gl X "range") (hm : X.mg "range" = none) (ha : DA T W X [a, b] ct) (hs : starEach [a, b] X.env = [(false, eval a X.env), (false, eval b X.env)]) (hs2 : starEach [b] X.env = [(false, eval b X.env)]) : DI T W X tg (.Call (.Name "range" p) [a, b] [] pos) (cItA rng2 ct) := by
  refine (pi_range2 hg hm ha hs hs2).imp fun σ H R ⟨G, w, st, r, p⟩ => ⟨G, w, st, r, (Post.seqI p).mono fun v H1 ⟨w1, d, s, le, r1, q, p1⟩ => ?_⟩
  obtain ⟨l, e, p2⟩ := PostI.lift p1
  unfold rng2 at e
  split at e
  · rename_i i j
    obtain ⟨u, u2, rfl, hu, hu2⟩ := q.two
    by_cases hz : (inR i && inR j) = true
    · rw [if_pos hz] at e; cases e
      obtain ⟨h1, h2⟩ := band hz
      obtain ⟨h3, h4⟩ := inR_ok h1
      obtain ⟨h5, h6⟩ := inR_ok h2
      exact ⟨i, j, by rw [hu.int_eq, hu2.int_eq], ⟨h3, h4, h5, h6⟩, p2 w1 _ H1 (.refl _) r1 (range_walk _ _ _)⟩
    · rw [if_neg hz] at e; cases e
  · cases e
/-! zip, enumerate -/
def zipL : List D → List D → List D
  | a :: as, b :: bs => .tup [a, b] :: zipL as bs
  | _, _ => []
theorem zipL_len : ∀ l m : List D, (zipL l m).length = min l.length m.length
  | [], _ => by simp [zipL]
  | _ :: _, [] => by simp [zipL]
  | a :: l, b :: m => by simp [zipL, zipL_len l m]
theorem zipL_get : ∀ (l m : List D) (i : Nat) (d : D), (zipL l m)[i]? = some d → ∃ a b, l[i]? = some a ∧ m[i]? = some b ∧ d = .tup [a, b]
  | [], _, _, _, h => by simp [zipL] at h
  | _ :: _, [], _, _, h => by simp [zipL] at h
  | a :: l, b :: m, 0, d, h => by
    simp [zipL] at h
    exact ⟨a, b, by simp, by simp, h.symm⟩
  | a :: l, b :: m, i + 1, d, h => by
    obtain ⟨x, y, h1, h2, h3⟩ := zipL_get l m i d (by simpa [zipL] using h)
    exact ⟨x, y, by simpa using h1, by simpa using h2, h3⟩
/-! ### for -/
def forL (t : Tg) (body els : State → R Fl) : List D → State → R Fl
  | [], st => els st
  | d :: l, st => match asg t d st with
    | none => .bad
    | some s1 => match body s1 with
      | .ok .nx s2 => forL t body els l s2
      | .ok .ct s2 => forL t body els l s2
      | .ok .bk s2 => .ok .nx s2
      | .ok (.rt d) s2 => .ok (.rt d) s2
      | .exc x s2 => .exc x s2
      | .bad => .bad
def cFor (it : State → R (List D)) (t : Tg) (body els : State → R Fl) : State → R Fl := fun st => (it st).bind fun l s => forL t body els l s
theorem drop_cons {l : List D} {i : Nat} {d : D} (e : l[i]? = some d) : l.drop i = d :: l.drop (i + 1) := by
  obtain ⟨h, e⟩ := List.getElem?_eq_some_iff.mp e
  rw [List.drop_eq_getElem_cons h, e]
theorem ds_for {tg iter : Expr} {body orelse : List Stmt} {ct : State → R (List D)} {t : Tg} {ce : State → R Fl} (hp : PassesOwn (model X.prog X.w) X.A X.env X.xe) (hc : X.calm = true) (hi : DI T W X tg iter ct) (hg : DG T X tg t) (hb : DSs T W X body cs) (ho : DSs T W X orelse ce)
    (hs : ∀ x, foldedSetIterable iter X.env x = pure x) : DS T W X (.For tg iter body orelse pos) (cFor ct t cs ce) := by
  refine (ps_forE hp hc hi hg hb ho hs).imp fun Z σ H ⟨G, w, st, r, p⟩ => ⟨G, w, st, r, ?_⟩
  have p' := PostI.seqS (σ := σ) p
  revert p'
  generalize ct st = rr
  intro p'
  cases rr with
  | exc x s => exact p'
  | bad => exact p'
  | ok l0 s =>
    intro w' J H' le r' j'
    obtain ⟨w1, l, s1, le1, r1, j1, p1⟩ := p' w' J H' le r' j'
    refine ⟨fun i m σ H => ∃ w2 st2, w1.le w2 ∧ (m = l.length - i ∧ i ≤ l.length) ∧ RS T G w2 st2 σ H ∧ PostS T W G w2 (forL t cs ce (l.drop i) st2) Z, ⟨_, w1, s1, .refl _, ⟨rfl, Nat.zero_le _⟩, r1, by simpa using p1⟩, ?_⟩
    rintro i m σ2 H2 ⟨w2, st2, le2, ⟨rfl, hil⟩, r2, p2⟩
    obtain ⟨go, stop⟩ := j1 w2 H2 le2 r2.sub i
    cases ed : l[i]? with
    | none =>
      have hi := List.getElem?_eq_none_iff.mp ed
      rw [List.drop_eq_nil_of_le hi] at p2
      exact .inl ⟨stop (Nat.le_antisymm hi hil), G, w2, st2, r2, p2⟩
    | some d =>
      have hi := (List.getElem?_eq_some_iff.mp ed).1
      obtain ⟨g1, g2⟩ := go d ed
      rw [drop_cons ed] at p2
      refine .inr ⟨g1, fun σ H => ∃ w2 st2, w1.le w2 ∧ RS T G w2 st2 σ H ∧ PostS T W G w2 (forL t cs ce (l.drop (i + 1)) st2) Z, fun σ' H' ⟨w3, st3, a1, a2, a3⟩ => ⟨l.length - (i + 1), by omega, w3, st3, a1, ⟨rfl, hi⟩, a2, a3⟩, fun x H3 hy => ?_⟩
      obtain ⟨w3, gr, qx⟩ := g2 x H3 hy
      have r3 := r2.gr gr
      have p3 := PostS.up gr.le p2
      simp only [forL] at p3
      cases ea : asg t d st2 with
      | none => rw [ea] at p3; exact p3.elim
      | some st4 =>
        rw [ea] at p3
        dsimp only at p3
        refine ⟨G, w3, st2, d, st4, r3, qx, ea, fun σ4 r4 _ => ⟨G, w3, st4, r4, ?_⟩⟩
        cases eb : cs st4 with
        | ok f s5 =>
          rw [eb] at p3
          cases f with
          | nx => exact fun w5 σ5 H5 le5 r5 => ⟨w5, s5, (le2.trans gr.le).trans le5, r5, PostS.up le5 p3⟩
          | ct => exact fun w5 σ5 H5 le5 r5 => ⟨w5, s5, (le2.trans gr.le).trans le5, r5, PostS.up le5 p3⟩
          | bk => exact p3
          | rt d => exact p3
        | exc x s5 => rw [eb] at p3; exact p3
        | bad => rw [eb] at p3; exact p3
end
end FW

/-! FwK: comprehensions. -/
namespace FW
open PySem PySem.Spec PyProof.Rows L2
def Wno : WX := fun _ _ _ _ => False
section
variable {T : Txt} {W : WX} {X : Cx} {G : Ent} {w w' : Wd} {st : State} {σ : L2.St} {H H' : Hp} {Z : Ends}
theorem wipe_in {σ : L2.St} {i : Nat} : ∀ {vs : List Nat}, i ∈ vs → (wipe σ vs)[i]? = if i < σ.length then some none else none
  | [], h => by cases h
  | v :: vs, h => by
    unfold wipe
    by_cases e : v = i
    · subst e
      by_cases l : v < σ.length
      · rw [List.getElem?_set_self (by rw [wipe_length]; exact l), if_pos l]
      · rw [List.getElem?_eq_none (by simpa [wipe_length] using l), if_neg l]
    · rw [List.getElem?_set_ne e]
      exact wipe_in (by rcases List.mem_cons.mp h with z | z; exact absurd z.symm e; exact z)
theorem Agree.wipe {vs us : List Nat} {σ σ' : L2.St} (h : Agree us σ σ') (s : ∀ i ∈ us, i ∈ vs) : L2.wipe σ' vs = L2.wipe σ vs := List.ext_getElem? fun i => by
  by_cases hi : i ∈ vs
  · rw [wipe_in hi, wipe_in hi, h.1]
  · rw [wipe_get hi, wipe_get hi, h.2 i fun z => hi (s i z)]
theorem Agree.wiped {vs : List Nat} {σ : L2.St} : Agree vs σ (L2.wipe σ vs) := ⟨wipe_length _ _, fun i hi => wipe_get hi⟩
def lcGo (t : Tg) (tt : State → R Bool) (ce : State → R D) (E0 : FW.Env) : List D → Store → Option (List D × Store)
  | [], S => some ([], S)
  | d :: l, S => match asg t d ⟨E0, S⟩ with
    | none => none
    | some s1 => match tt s1 with
      | .ok true s2 => match ce s2 with
        | .ok y s3 => match lcGo t tt ce E0 l s3.sto with
          | some (ys, S') => some (y :: ys, S')
          | none => none
        | _ => none
      | .ok false s2 => lcGo t tt ce E0 l s2.sto
      | _ => none
def cLc (it : State → R (List D)) (t : Tg) (tt : State → R Bool) (ce : State → R D) (vs : List Nat) : State → R (List D) := fun st => (it st).bind fun l s =>
  match lcGo t tt ce (hideFrom 0 vs s.env) l s.sto with
  | some (ys, S) => if decide (ys.length < 16777216) then .ok ys ⟨s.env, S⟩ else .bad
  | none => .bad
/-- the new list stands aside -/
theorem RC.aside {S : Store} (r : RC T w S H) {a : Addr} (h : w.HF a = none) (hm : a ∉ w.m) (o : HO) : RC T w S (upd H a o) := by
  refine ⟨fun b u z => ?_, r.nd, r.len, fun n b z => ?_⟩
  · rw [upd_ne fun y => by rw [y, h] at z; cases z]; exact r.hf _ _ z
  · obtain ⟨g1, c, g2, g3⟩ := r.cell n b z
    exact ⟨g1, c, g2, g3.up (.refl w) (upd_ne fun y => hm (y ▸ List.mem_of_getElem? z))⟩
theorem Fra.aside (f : Fra w H w' H') {a : Addr} (h : H a = none) (o : HO) : Fra w H w' (upd H' a o) :=
  ⟨f.le, fun b u z q => by rw [upd_ne fun y => by rw [y, h] at z; cases z]; exact f.kp b u z q, f.ff, f.fm⟩
def noOwn (E : FW.Env) : Prop := ∀ s ∈ E, s.isOwn = false
theorem noOwn_hide {vs : List Nat} {k : Nat} {E : FW.Env} : noOwn (hideFrom k vs E) := fun s hs => by
  obtain ⟨i, e⟩ := List.getElem?_of_mem hs
  rcases hide_get k E i s e with rfl | ⟨d, rfl, _⟩ <;> rfl
theorem hide_noOwn : ∀ {k : Nat} {E : FW.Env}, noOwn E → hideFrom k [] E = E
  | _, [], _ => rfl
  | k, t :: r, h => by
    have h1 := h t (by simp)
    have h2 := hide_noOwn (k := k + 1) (E := r) fun s hs => h s (by simp [hs])
    unfold hideFrom
    rw [h2, if_neg (by simp)]
    cases t <;> first | (cases h1; done) | rfl
mutual
theorem asg_noOwn : ∀ (t : Tg) (d : D) (st st' : State), asg t d st = some st' → noOwn st.env → noOwn st'.env
  | .nm i, d, st, st', h, n => by
    simp only [asg, Option.some.injEq] at h
    subst h
    intro s hs
    rcases List.mem_or_eq_of_mem_set hs with h | h
    · exact n s h
    · rw [h]; rfl
  | .tup ts, d, st, st', h, n => by
    cases d <;> first | (simp [asg] at h; done) | skip
    all_goals exact asgs_noOwn ts _ st st' (by simpa only [asg] using h) n
theorem asgs_noOwn : ∀ (ts : List Tg) (ds : List D) (st st' : State), asgs ts ds st = some st' → noOwn st.env → noOwn st'.env
  | [], [], st, st', h, n => by
    simp only [asgs, Option.some.injEq] at h
    subst h; exact n
  | [], _ :: _, _, _, h, _ => by simp [asgs] at h
  | _ :: _, [], _, _, h, _ => by simp [asgs] at h
  | t :: ts, d :: ds, st, st', h, n => by
    simp only [asgs] at h
    cases e : asg t d st with
    | none => rw [e] at h; cases h
    | some s1 =>
      rw [e] at h
      exact asgs_noOwn ts ds s1 st' h (asg_noOwn t d st s1 e n)
end
theorem tLc_of {wi : TI} {ci : State → R (List D)} {t : Tg} {tt : State → R Bool} {ce : State → R D} {vs : List Nat} {Q : VK} (hv : ∀ i ∈ t.slots, i ∈ vs) (hwi : ∀ R, TId T W ci σ H R → wi σ H R) (h : TFd T W (cLc ci t tt ce vs) σ H Q) :
    tLc wi (TGd T t) (TTd T Wno tt) (TEd T Wno ce) vs σ H Q := by
  obtain ⟨G, w, st, r, p⟩ := h
  refine hwi _ ⟨G, w, st, r, ?_⟩
  have p' := PostI.seqF p
  revert p'
  generalize ci st = rr
  intro p'
  cases rr with
  | exc x s => exact p'
  | bad => exact p'
  | ok l0 s0 =>
    intro w' J H0 le' r' j' A hA
    obtain ⟨w0, l, s, le0, r0, j0, p0⟩ := p' w' J H0 le' r' j'
    -- the block's view
    have rb := r0.hide vs
    have hAF : w0.HF A = none := r0.rc.hfn hA
    have hAm : A ∉ w0.m := fun z => (r0.rc.mem z).2 hA
    have back : ∀ {w1 : Wd} {S : Store} {H1 : Hp}, Fra w0 H0 w1 H1 → RC T w1 S H1 → RS T ⟨w0, H0⟩ w1 ⟨hideFrom 0 vs s.env, S⟩ (wipe σ vs) H1 := fun f c => rb.call f c
    -- the turns
    let Go := lcGo t tt ce (hideFrom 0 vs s.env)
    let INV : Nat → Hp → Prop := fun i H => ∃ w1 S acc avs, Fra w0 H0 w1 H ∧ RC T w1 S H ∧ H A = some (.lst avs) ∧ RepVs T w1 acc avs ∧ w1.HF A = none ∧ A ∉ w1.m ∧
      PostF T W G w0 σ (match Go (l.drop i) S with
        | some (ys, S) => if decide ((acc ++ ys).length < 16777216) then .ok (acc ++ ys) ⟨s.env, S⟩ else .bad
        | none => .bad) Q
    refine ⟨fun i m H => (m = l.length - i ∧ i ≤ l.length) ∧ INV i H, ⟨_, ⟨rfl, Nat.zero_le _⟩, w0, s.sto, [], [], (Fra.refl w0 H0).aside hA _, r0.rc.aside hAF hAm _, upd_same, .nil, hAF, hAm, ?_⟩, ?_⟩
    · simpa using p0
    rintro i m H ⟨⟨rfl, hil⟩, w1, S, acc, avs, f1, c1, h1, h2, h3, h4, p1⟩
    have r1 := back f1 c1
    obtain ⟨go, stop⟩ := j0 w1 H f1.le r1.sub i
    cases ed : l[i]? with
    | none =>
      have hi := List.getElem?_eq_none_iff.mp ed
      rw [List.drop_eq_nil_of_le hi] at p1
      have p1 : PostF T W G w0 σ (if decide ((acc ++ []).length < 16777216) then .ok (acc ++ []) ⟨s.env, S⟩ else .bad) Q := p1
      rw [List.append_nil] at p1
      refine .inl ⟨stop (Nat.le_antisymm hi hil), ?_⟩
      by_cases hz : decide (acc.length < 16777216) = true
      · rw [if_pos hz] at p1
        exact p1 w1 A H f1.le (r0.call f1 c1) ⟨⟨avs, h1, h2⟩, h3, h4, r0.absent hA, fun j u z o q => by
          cases u <;> first | (cases o; done) | skip
          obtain ⟨b, us, e1, e2, _⟩ := r0.ownAt z
          rw [e1] at q; cases q
          rw [hA] at e2; cases e2⟩
      · rw [if_neg hz] at p1; exact p1.elim
    | some d =>
      have hi := (List.getElem?_eq_some_iff.mp ed).1
      obtain ⟨g1, g2⟩ := go d ed
      rw [drop_cons ed] at p1
      refine .inr ⟨g1, fun H => INV (i + 1) H, fun H' q => ⟨l.length - (i + 1), by omega, ⟨rfl, hi⟩, q⟩, fun x H3 hy => ?_⟩
      obtain ⟨w3, gr, qx⟩ := g2 x H3 hy
      have r3 := r1.gr gr
      have p1 : PostF T W G w0 σ (match lcGo t tt ce (hideFrom 0 vs s.env) (d :: l.drop (i + 1)) S with
        | some (ys, S) => if decide ((acc ++ ys).length < 16777216) then .ok (acc ++ ys) ⟨s.env, S⟩ else .bad
        | none => .bad) Q := p1
      simp only [lcGo] at p1
      have hA3 : H3 A = some (.lst avs) := gr.k _ _ h1
      have hF3 : w3.HF A = none := gr.n A (by rw [h1]; simp) h3
      have hM3 : A ∉ w3.m := by rw [gr.m]; exact h4
      have av3 := h2.up gr.le
      cases ea : asg t d ⟨hideFrom 0 vs s.env, S⟩ with
      | none => rw [ea] at p1; exact p1.elim
      | some s1 =>
        rw [ea] at p1
        dsimp only at p1
        refine ⟨⟨w0, H0⟩, w3, _, d, s1, r3, qx, ea, fun σ4 r4 a4 => ⟨(a4.wipe hv).trans (Agree.wiped.wipe fun i hi => hi), ?_⟩⟩
        -- the new list under what the tests and the element do
        have ne3 : H3 A ≠ none := by rw [hA3]; simp
        have keep : ∀ {w5 : Wd} {s5 : State} {H5 : Hp}, RS T ⟨w3, H3⟩ w5 s5 σ4 H5 → H5 A = some (.lst avs) ∧ w5.HF A = none ∧ A ∉ w5.m := fun r5 =>
          ⟨r5.fra.kp A _ hA3 hM3, r5.fra.ff A ne3 hF3, fun z => hM3 (r5.fra.fm A ne3 z)⟩
        have r4' : RS T ⟨w3, H3⟩ w3 s1 σ4 H3 := by
          have q := r4.rec0
          rw [hide_noOwn (asg_noOwn _ _ _ _ ea noOwn_hide)] at q
          exact q
        refine ⟨⟨w3, H3⟩, w3, s1, r4', ?_⟩
        cases et : tt s1 with
        | exc x s5 => rw [et] at p1; exact p1.elim
        | bad => rw [et] at p1; exact p1.elim
        | ok b s5 =>
          rw [et] at p1
          intro w5 b' H5 le5 r5 qb
          have qb : b' = b := qb
          subst qb
          obtain ⟨k1, k2, k3⟩ := keep r5
          cases b' with
          | false =>
            rw [if_neg (by decide)]
            exact ⟨w5, s5.sto, acc, avs, (r3.call r5.fra r5.rc).fra, r5.rc, k1, av3.up le5, k2, k3, p1⟩
          | true =>
            rw [if_pos rfl]
            dsimp only at p1
            refine ⟨⟨w3, H3⟩, w5, s5, r5, ?_⟩
            cases ec : ce s5 with
            | exc x s6 => rw [ec] at p1; exact p1.elim
            | bad => rw [ec] at p1; exact p1.elim
            | ok y s6 =>
              rw [ec] at p1
              dsimp only at p1
              intro w6 v H6 le6 r6 q6
              obtain ⟨k4, k5, k6⟩ := keep r6
              have p2 : PostF T W G w0 σ (match Go (l.drop (i + 1)) s6.sto with
                | some (ys, S) => if decide (((acc ++ [y]) ++ ys).length < 16777216) then .ok ((acc ++ [y]) ++ ys) ⟨s.env, S⟩ else .bad
                | none => .bad) Q ∧ acc.length < 16777216 := by
                revert p1
                show PostF T W G w0 σ (match (match Go (l.drop (i + 1)) s6.sto with
                  | some (ys, S') => some (y :: ys, S')
                  | none => none) with
                  | some (ys, S) => if decide ((acc ++ ys).length < 16777216) then .ok (acc ++ ys) ⟨s.env, S⟩ else .bad
                  | none => .bad) Q → _
                cases Go (l.drop (i + 1)) s6.sto with
                | none => exact fun p => p.elim
                | some q =>
                  obtain ⟨ys, S'⟩ := q
                  intro p
                  have e : acc ++ [y] ++ ys = acc ++ y :: ys := by simp
                  dsimp only at p ⊢
                  rw [e]
                  refine ⟨p, ?_⟩
                  by_cases hz : decide ((acc ++ y :: ys).length < 16777216) = true
                  · have hz := of_decide_eq_true hz
                    rw [List.length_append] at hz
                    omega
                  · rw [if_neg hz] at p; exact p.elim
              have avl := h2.length
              refine ⟨avs, k4, by rw [sizeLine_eq, ← avl]; exact p2.2, ?_⟩
              exact ⟨w6, s6.sto, acc ++ [y], avs ++ [v], (r3.call r6.fra r6.rc).fra.aside hA _, r6.rc.aside k5 k6 _, upd_same, ((av3.up le5).up le6).append (.cons q6 .nil), k5, k6, p2.1⟩
/-- the block's context, whatever is made for it -/
def Blk (X : Cx) (scope : Scope) (Pr : Cx → Prop) : Prop := ∀ (s : Shared) (H : Hp) (C : Addr) (cl : List (Str × Addr)) (fp : List Addr), Pr (X.blk s H scope (compEnvC scope cl C X.env) fp)
theorem df_lc {elt tg iter : Expr} {ifs : List Expr} {scope : Scope} {own : List (Str × Nat)} {pos : Pos} {ci : State → R (List D)} {t : Tg} {tt : State → R Bool} {ce : State → R D} (hc : X.calm = true) (hN : X.N.Nodup) (hi : DI T W X tg iter ci) (ok : BlkOk X.N X.env.scope scope own) (hv : ∀ i ∈ t.slots, i ∈ own.map (·.2))
    (hg : Blk X scope fun X => DG T X tg t) (ht : Blk X scope fun X => PTs X ifs (TTd T Wno tt)) (he : Blk X scope fun X => DE T Wno X elt ce) (hs : ∀ x, foldedSetIterable iter X.env x = pure x) :
    DF T W X (.ListComp elt [⟨tg, iter, ifs, 0⟩] scope pos) (cLc ci t tt ce (own.map (·.2))) :=
  (pe_lc hc hN hi ok hg ht he hs).imp fun σ H Q h => tLc_of hv (fun R h => h) h
/-- name = [..] on one line -/
theorem ds_lcSet {i : Nat} {y : Str} {py : Pos} {elt tg iter : Expr} {ifs : List Expr} {scope : Scope} {own : List (Str × Nat)} {pos spos : Pos} {ci : State → R (List D)} {t : Tg} {tt : State → R Bool} {ce : State → R D} (hc : X.calm = true) (hN : X.N.Nodup) (hy : X.N[i]? = some y) (hyl : X.env.scope.names.lookup y = some .local)
    (hsw : swapsWith (.ListComp elt [⟨tg, iter, ifs, 0⟩] scope pos) (some (.Name y py)) spos.line X.env = pure true) (hi : DI T W X tg iter ci) (ok : BlkOk X.N X.env.scope scope own) (hv : ∀ i ∈ t.slots, i ∈ own.map (·.2))
    (hg : Blk X scope fun X => DG T X tg t) (ht : Blk X scope fun X => PTs X ifs (TTd T Wno tt)) (he : Blk X scope fun X => DE T Wno X elt ce) (hs : ∀ x, foldedSetIterable iter X.env x = pure x) :
    PS X (.Assign [.Name y py] (.ListComp elt [⟨tg, iter, ifs, 0⟩] scope pos) spos) (tAsg (TFd T W (cLc ci t tt ce (own.map (·.2)))) (gName i)) :=
  (ps_setLc hc hN hy hyl hsw hi ok hg ht he hs).imp fun D σ H h => tLc_of hv (fun R h => h) h
theorem ds_lcOwn {i : Nat} {s : Stmt} {cl : State → R (List D)} (h : PS X s (tAsg (TFd T W cl) (gName i))) : DS T W X s (cOwn i cl) := h.imp fun D σ H h => tOwn_of (fun _ h => h) h
theorem ds_lcVal {i : Nat} {s : Stmt} {cl : State → R (List D)} (h : PS X s (tAsg (TFd T W cl) (gName i))) : DS T W X s (cAsg (.nm i) (cFz cl)) := by
  refine h.imp fun D σ H h => tAsgN_of (te := TFd T W cl) (fun Q ⟨G, w, st, r, p⟩ => ⟨G, w, st, r, ?_⟩) h
  unfold cFz at p
  cases e : cl st with
  | ok l s =>
    rw [e] at p
    intro w' v H' le r' f
    obtain ⟨w2, le2, r2, q2⟩ := r'.freezeL f
    exact p w2 _ H' (le.trans le2) r2 q2
  | exc x s => rw [e] at p; exact p
  | bad => rw [e] at p; exact p
theorem ds_lcNew {i : Nat} {s : Stmt} {cl : State → R (List D)} (h : PS X s (tAsg (TFd T W cl) (gName i))) : DS T W X s (cAsg (.nm i) (cNew cl)) := by
  refine h.imp fun D σ H h => tAsgN_of (te := TFd T W cl) (fun Q ⟨G, w, st, r, p⟩ => ⟨G, w, st, r, ?_⟩) h
  unfold cNew at p
  cases e : cl st with
  | ok l s =>
    rw [e] at p
    intro w' v H' le r' f
    obtain ⟨w2, le2, r2, q2⟩ := r'.newCell f
    exact p w2 _ H' (le.trans le2) r2 q2
  | exc x s => rw [e] at p; exact p
  | bad => rw [e] at p; exact p
def cYes : State → R Bool := fun st => .ok true st
theorem dts_nil : PTs X [] (TTd T W cYes) := ⟨fun pins s σ H Q I ⟨G, w, st, r, p⟩ => pts_nil.run pins s σ H Q I (p w true H (.refl _) r rfl)⟩
end
end FW

/-! FwL: reading the literal syntax. -/
namespace FW
open PySem PySem.Spec PyProof.Rows L2
/-! ### forms of expressions -/
def exName : Expr → (Str → Bool) → Bool
  | .Name x _, k => k x
  | _, _ => false
def exInt : Expr → (Int → Bool) → Bool
  | .Constant (.int i) _ _, k => k i
  | _, _ => false
def exBool : Expr → (Bool → Bool) → Bool
  | .Constant (.bool i) _ _, k => k i
  | _, _ => false
def exStr : Expr → (Str → Bool) → Bool
  | .Constant (.str i) _ _, k => k i
  | _, _ => false
def exNone : Expr → Bool
  | .Constant .none _ _ => true
  | _ => false
def exBin : Expr → (Expr → Operator → Expr → Bool) → Bool
  | .BinOp a o b _, k => k a o b
  | _, _ => false
def exUn : Expr → (UnaryOp → Expr → Bool) → Bool
  | .UnaryOp o a _, k => k o a
  | _, _ => false
def exBoolOp : Expr → (BoolOp → List Expr → Pos → Bool) → Bool
  | .BoolOp o as p, k => k o as p
  | _, _ => false
def exCmp : Expr → (Expr → List CmpOp → List Expr → Bool) → Bool
  | .Compare a os bs _, k => k a os bs
  | _, _ => false
def exIf : Expr → (Expr → Expr → Expr → Bool) → Bool
  | .IfExp c a b _, k => k c a b
  | _, _ => false
def exTup : Expr → (List Expr → Bool) → Bool
  | .Tuple es _ _, k => k es
  | _, _ => false
def exLst : Expr → (List Expr → Bool) → Bool
  | .List es _, k => k es
  | _, _ => false
def exSub : Expr → (Expr → Expr → Bool) → Bool
  | .Subscript a i _, k => k a i
  | _, _ => false
def exSlice : Expr → (Option Expr → Option Expr → Bool) → Bool
  | .Slice a b none _, k => k a b
  | _, _ => false
/-- name(args) without keywords -/
def exCall : Expr → (Str → List Expr → Bool) → Bool
  | .Call (.Name x _) as [] _, k => k x as
  | _, _ => false
/-- o.m(args) on one line -/
def exMeth : Expr → (Expr → Str → List Expr → Bool) → Bool
  | .Call (.Attribute o m ap) as [] cp, k => (ap.endLine == cp.line) && k o m as
  | _, _ => false
def exAttr : Expr → (Expr → Str → Bool) → Bool
  | .Attribute o m _, k => k o m
  | _, _ => false
def exLC : Expr → (Expr → Expr → Expr → List Expr → Scope → Bool) → Bool
  | .ListComp elt [⟨tg, it, ifs, 0⟩] sc _, k => k elt tg it ifs sc
  | _, _ => false
def exDic : Expr → (List (Str × Int) → Bool) → Bool
  | .Dict [] [] _, k => k []
  | .Dict [some (.Constant (.str x) _ _)] [.Constant (.int i) _ _] _, k => k [(x, i)]
  | _, _ => false
def exRev : Expr → (Expr → Bool) → Bool
  | .Subscript a (.Slice none none (some (.UnaryOp .USub (.Constant (.int i) _ _) _)) _) _, k => decide (i = 1) && k a
  | _, _ => false
/-- f(g(a)) -/
def exCall2 : Expr → (Str → Str → Expr → Bool) → Bool
  | .Call (.Name x _) [.Call (.Name y _) [a] [] _] [] _, k => k x y a
  | _, _ => false
def exCall3 : Expr → (Str → Str → Expr → Expr → Bool) → Bool
  | .Call (.Name x _) [.Call (.Name y _) [a, b] [] _] [] _, k => k x y a b
  | _, _ => false
/-- f(a, x) -/
def exIsc : Expr → (Str → Expr → Str → Bool) → Bool
  | .Call (.Name x _) [a, .Name y _] [] _, k => k x a y
  | _, _ => false
theorem exRev_t {e : Expr} {k} (h : exRev e k = true) : ∃ a j p1 p2 p3 p, e = .Subscript a (.Slice none none (some (.UnaryOp .USub (.Constant (.int 1) j p1) p2)) p3) p ∧ k a = true := by
  unfold exRev at h
  split at h
  · obtain ⟨h1, h2⟩ := Bool.and_eq_true_iff.mp h
    obtain rfl := of_decide_eq_true h1
    exact ⟨_, _, _, _, _, _, rfl, h2⟩
  · cases h
theorem exCall2_t {e : Expr} {k} (h : exCall2 e k = true) : ∃ x p y p2 a p3 pos, e = .Call (.Name x p) [.Call (.Name y p2) [a] [] p3] [] pos ∧ k x y a = true := by
  unfold exCall2 at h
  split at h
  · exact ⟨_, _, _, _, _, _, _, rfl, h⟩
  · cases h
theorem exCall3_t {e : Expr} {k} (h : exCall3 e k = true) : ∃ x p y p2 a b p3 pos, e = .Call (.Name x p) [.Call (.Name y p2) [a, b] [] p3] [] pos ∧ k x y a b = true := by
  unfold exCall3 at h
  split at h
  · exact ⟨_, _, _, _, _, _, _, _, rfl, h⟩
  · cases h
theorem exIsc_t {e : Expr} {k} (h : exIsc e k = true) : ∃ x p a y p2 pos, e = .Call (.Name x p) [a, .Name y p2] [] pos ∧ k x a y = true := by
  unfold exIsc at h
  split at h
  · exact ⟨_, _, _, _, _, _, rfl, h⟩
  · cases h
theorem exAttr_t {e : Expr} {k} (h : exAttr e k = true) : ∃ o m p, e = .Attribute o m p ∧ k o m = true := by
  unfold exAttr at h; split at h <;> first | exact ⟨_, _, _, rfl, h⟩ | cases h
theorem exName_t {e : Expr} {k} (h : exName e k = true) : ∃ x p, e = .Name x p ∧ k x = true := by
  unfold exName at h; split at h <;> first | exact ⟨_, _, rfl, h⟩ | cases h
theorem exInt_t {e : Expr} {k} (h : exInt e k = true) : ∃ x j p, e = .Constant (.int x) j p ∧ k x = true := by
  unfold exInt at h; split at h <;> first | exact ⟨_, _, _, rfl, h⟩ | cases h
theorem exBool_t {e : Expr} {k} (h : exBool e k = true) : ∃ x j p, e = .Constant (.bool x) j p ∧ k x = true := by
  unfold exBool at h; split at h <;> first | exact ⟨_, _, _, rfl, h⟩ | cases h
theorem exStr_t {e : Expr} {k} (h : exStr e k = true) : ∃ x j p, e = .Constant (.str x) j p ∧ k x = true := by
  unfold exStr at h; split at h <;> first | exact ⟨_, _, _, rfl, h⟩ | cases h
theorem exNone_t {e : Expr} (h : exNone e = true) : ∃ j p, e = .Constant .none j p := by
  unfold exNone at h; split at h <;> first | exact ⟨_, _, rfl⟩ | cases h
theorem exBin_t {e : Expr} {k} (h : exBin e k = true) : ∃ a o b p, e = .BinOp a o b p ∧ k a o b = true := by
  unfold exBin at h; split at h <;> first | exact ⟨_, _, _, _, rfl, h⟩ | cases h
theorem exUn_t {e : Expr} {k} (h : exUn e k = true) : ∃ o a p, e = .UnaryOp o a p ∧ k o a = true := by
  unfold exUn at h; split at h <;> first | exact ⟨_, _, _, rfl, h⟩ | cases h
theorem exBoolOp_t {e : Expr} {k} (h : exBoolOp e k = true) : ∃ o as p, e = .BoolOp o as p ∧ k o as p = true := by
  unfold exBoolOp at h; split at h <;> first | exact ⟨_, _, _, rfl, h⟩ | cases h
theorem exCmp_t {e : Expr} {k} (h : exCmp e k = true) : ∃ a os bs p, e = .Compare a os bs p ∧ k a os bs = true := by
  unfold exCmp at h; split at h <;> first | exact ⟨_, _, _, _, rfl, h⟩ | cases h
theorem exIf_t {e : Expr} {k} (h : exIf e k = true) : ∃ c a b p, e = .IfExp c a b p ∧ k c a b = true := by
  unfold exIf at h; split at h <;> first | exact ⟨_, _, _, _, rfl, h⟩ | cases h
theorem exTup_t {e : Expr} {k} (h : exTup e k = true) : ∃ es j p, e = .Tuple es j p ∧ k es = true := by
  unfold exTup at h; split at h <;> first | exact ⟨_, _, _, rfl, h⟩ | cases h
theorem exLst_t {e : Expr} {k} (h : exLst e k = true) : ∃ es p, e = .List es p ∧ k es = true := by
  unfold exLst at h; split at h <;> first | exact ⟨_, _, rfl, h⟩ | cases h
theorem exSub_t {e : Expr} {k} (h : exSub e k = true) : ∃ a i p, e = .Subscript a i p ∧ k a i = true := by
  unfold exSub at h; split at h <;> first | exact ⟨_, _, _, rfl, h⟩ | cases h
theorem exSlice_t {e : Expr} {k} (h : exSlice e k = true) : ∃ a b p, e = .Slice a b none p ∧ k a b = true := by
  unfold exSlice at h; split at h <;> first | exact ⟨_, _, _, rfl, h⟩ | cases h
theorem exCall_t {e : Expr} {k} (h : exCall e k = true) : ∃ x p as cp, e = .Call (.Name x p) as [] cp ∧ k x as = true := by
  unfold exCall at h; split at h <;> first | exact ⟨_, _, _, _, rfl, h⟩ | cases h
theorem exMeth_t {e : Expr} {k} (h : exMeth e k = true) : ∃ o m ap as cp, e = .Call (.Attribute o m ap) as [] cp ∧ (ap.endLine == cp.line) = true ∧ k o m as = true := by
  unfold exMeth at h
  split at h
  · obtain ⟨h1, h2⟩ := band h; exact ⟨_, _, _, _, _, rfl, h1, h2⟩
  · cases h
theorem exLC_t {e : Expr} {k} (h : exLC e k = true) : ∃ elt tg it ifs sc p, e = .ListComp elt [⟨tg, it, ifs, 0⟩] sc p ∧ k elt tg it ifs sc = true := by
  unfold exLC at h; split at h <;> first | exact ⟨_, _, _, _, _, _, rfl, h⟩ | cases h
/-! ### stars -/
def noSt : Expr → Bool
  | .Starred .. => false
  | _ => true
theorem star_one {a : Expr} {es : List Expr} {env : PySem.Env} (h : noSt a = true) : starEach (a :: es) env = (false, eval a env) :: starEach es env := by
  cases a <;> first | (cases h; done) | rfl
theorem star_starred {a : Expr} {p : Pos} {es : List Expr} {env : PySem.Env} : starEach (.Starred a p :: es) env = (true, eval a env) :: starEach es env := rfl
theorem asg_one {a : Expr} {es : List Expr} {env : PySem.Env} (h : noSt a = true) : assignEach (a :: es) env = (false, assign a env) :: assignEach es env := by
  cases a <;> first | (cases h; done) | rfl
theorem asg_ones {env : PySem.Env} : ∀ {es : List Expr}, es.all noSt = true → (assignEach es env).length = es.length ∧ (assignEach es env).findIdx? (·.1) = none
  | [], _ => ⟨rfl, rfl⟩
  | a :: es, h => by
    rw [List.all_cons] at h
    obtain ⟨h1, h2⟩ := band h
    obtain ⟨i1, i2⟩ := asg_ones (env := env) h2
    rw [asg_one h1]
    refine ⟨by simp [i1], ?_⟩
    rw [List.findIdx?_cons, i2]; rfl
theorem back_plain {pos : Pos} {env : PySem.Env} : ∀ {es : List Expr}, es.all noSt = true → (backTo pos (starEach es env)).any (·.1) = false
  | [], _ => rfl
  | a :: es, h => by
    rw [List.all_cons] at h
    obtain ⟨h1, h2⟩ := band h
    have ih := back_plain (pos := pos) (env := env) h2
    unfold backTo at ih ⊢
    rw [star_one h1, List.map_cons, List.any_cons, ih]; rfl
/-! ### truth tests -/
def plT : Expr → Bool
  | .UnaryOp .Not _ _ => false
  | .BoolOp .. => false
  | .IfExp .. => false
  | .Compare .. => false
  | _ => true
theorem plT_ok {e : Expr} {env : PySem.Env} (h : plT e = true) : ∀ whole, isTrue e env whole = (do let v ← whole; standAt e.pos; holding [v] (truthy v)) := by
  intro whole
  cases e <;> first | (cases h; done) | rfl | skip
  rename_i op _ _
  cases op <;> first | (cases h; done) | rfl
/-! ### other looks -/
def noSet : Expr → Bool
  | .Set .. => false
  | _ => true
theorem marks_ok {op : CmpOp} {e : Expr} (h : noSet e = true) : behindInMarks op e = false := by
  cases e <;> first | (cases h; done) | rfl
def noSlice : Expr → Bool
  | .Slice .. => false
  | _ => true
theorem plainIx_ok {e : Expr} (h : noSlice e = true) : PlainIx e := by
  intro o i
  cases e <;> first | (cases h; done) | rfl
theorem asg_sub {a i : Expr} {p : Pos} {env : PySem.Env} (h : noSlice i = true) : ∀ v, assign (.Subscript a i p) env v = (do
      let ov ← holding [v] (eval a env)
      let iv ← holding [v, ov] (eval i env)
      standAt p
      holding [v, ov, iv] (setItem ov iv v)
      release [v, ov, iv] []) := by
  intro v
  cases i <;> first | (cases h; done) | rfl
def noCall : Expr → Bool
  | .Call .. => false
  | _ => true
theorem base_ok {a : Expr} {m : Str} {env : PySem.Env} {whole : Sem Value} (h : noCall a = true) : attributeBase a m env whole = whole := by
  cases a <;> first | (cases h; done) | rfl
theorem fold_ok {e : Expr} {env : PySem.Env} (h : noSet e = true) : ∀ x, foldedSetIterable e env x = pure x := by
  intro x
  cases e <;> first | (cases h; done) | rfl
def noComp : Expr → Bool
  | .ListComp .. => false
  | .SetComp .. => false
  | .DictComp .. => false
  | _ => true
theorem sw_noComp {e : Expr} {t : Option Expr} {l : Nat} {env : PySem.Env} (h : noComp e = true) : swapsWith e t l env = pure false := by
  cases e <;> first | (cases h; done) | rfl
theorem sws_noComp {e t : Expr} {l : Nat} {env : PySem.Env} (h : noComp e = true) : swapsWithSole [t] e l env = pure false := sw_noComp h
/-- whether a comprehension's list is stored at once -/
def swB (s : Scope) (y : Str) (py pos : Pos) (scope : Scope) : Bool :=
  decide (s.names.lookup y = some .local) && (py.line == pos.line) && !(scope.names.any fun (n, k) => n == y && (k == .local || k == .cell))
theorem sw_comp {elt : Expr} {gs : List Comprehension} {scope : Scope} {pos py : Pos} {y : Str} {l : Nat} {env : PySem.Env} (hk : env.scope.kind = .function) : swapsWith (.ListComp elt gs scope pos) (some (.Name y py)) l env = pure (swB env.scope y py pos scope) := by
  have hb : env.blockKind = .function := by unfold Env.blockKind; rw [hk]; rfl
  unfold swapsWith swB
  simp only [hb, Expr.pos]
  congr 1
  have e : (env.kindOf y == some .local) = decide (env.scope.names.lookup y = some .local) := by
    show (env.scope.names.lookup y == some NameKind.local) = _
    cases h : env.scope.names.lookup y with
    | none => rfl
    | some k => cases k <;> rfl
  rw [e]
  simp
/-- two or three names stored from the right -/
def isNm : Expr → Bool
  | .Name .. => true
  | _ => false
def noTT : Expr → Expr → Bool
  | .Tuple .., .Tuple .. => false
  | .List .., _ => false
  | _, _ => true
theorem sst_noTT {t e : Expr} {env : PySem.Env} (h : noTT t e = true) : swappedStores [t] e env = pure none := by
  cases t <;> cases e <;> first | (cases h; done) | rfl
theorem sst_const {ts vs : List Expr} {k k2 : Nat} {p p2 : Pos} {env : PySem.Env} (h : vs.all (foldedForSure 8) = true) (hs : vs.all noSt = true) : swappedStores [.Tuple ts k p] (.Tuple vs k2 p2) env = pure none := by
  have hv : (vs.any fun | .Starred .. => true | _ => false) = false := by
    rw [List.any_eq_false]
    intro x hx
    have := List.all_eq_true.mp hs x hx
    cases x <;> first | (cases this; done) | simp
  unfold swappedStores
  dsimp only
  split
  · rfl
  split
  · rfl
  split
  · rfl
  first | rfl | (rw [if_pos h])
theorem sst_len {ts vs : List Expr} {k k2 : Nat} {p p2 : Pos} {env : PySem.Env} (h : (!(ts.length == 2 || ts.length == 3) || vs.length != ts.length) = true) : swappedStores [.Tuple ts k p] (.Tuple vs k2 p2) env = pure none := by
  unfold swappedStores
  simp only [h, Bool.true_or, if_true]
def notLoc (s : Scope) : Expr → Bool
  | .Name x _ => !decide (s.names.lookup x = some .local)
  | _ => true
theorem fm_lt {α β : Type} {f : α → Option β} : ∀ {l : List α} {g : α → Bool}, (∀ x, g x = true → f x = none) → l.any g = true → (l.filterMap f).length < l.length
  | [], _, _, h => by cases h
  | x :: l, g, hg, h => by
    have le := List.length_filterMap_le f l
    rw [List.filterMap_cons]
    cases e : g x with
    | true => rw [hg x e]; exact Nat.lt_succ_of_le le
    | false =>
      rw [List.any_cons, e, Bool.false_or] at h
      have ih := fm_lt hg h
      cases f x with
      | none => exact Nat.lt_succ_of_lt ih
      | some y => exact Nat.succ_lt_succ ih
theorem sst_cell {ts vs : List Expr} {k k2 : Nat} {p p2 : Pos} {env : PySem.Env} (h : ts.any (notLoc env.scope) = true) : swappedStores [.Tuple ts k p] (.Tuple vs k2 p2) env = pure none := by
  unfold swappedStores
  dsimp only
  split
  · rfl
  split
  · rfl
  rw [if_pos]
  rw [Bool.or_eq_true]
  refine .inl ?_
  rw [bne_iff_ne]
  refine Nat.ne_of_lt (fm_lt (g := notLoc env.scope) (fun x hx => ?_) h)
  cases x <;> first | rfl | skip
  rename_i id pos
  have : ¬ env.scope.names.lookup id = some .local := by simpa [notLoc] using hx
  have e : (env.kindOf id == some NameKind.local) = false := beq_eq_false_iff_ne.mpr this
  simp [e]
def sw2 (s : Scope) (x y : Str) (px py : Pos) (vs : List Expr) : Bool :=
  decide (vs.length = 2) && decide (s.names.lookup x = some .local) && decide (s.names.lookup y = some .local) && (py.line == px.line) && !(decide (x = y)) && vs.all noSt && !(vs.all (foldedForSure 8)) && !(vs.all (constantsAlone 8))
def sw3 (s : Scope) (x y z : Str) (px py pz : Pos) (vs : List Expr) : Bool :=
  decide (vs.length = 3) && decide (s.names.lookup x = some .local) && decide (s.names.lookup y = some .local) && decide (s.names.lookup z = some .local) && (py.line == px.line) && (pz.line == px.line) && !(decide (x = y)) && !(decide (x = z)) && !(decide (y = z)) && vs.all noSt && !(vs.all (foldedForSure 8)) && !(vs.all (constantsAlone 8))
theorem sst_two {x y : Str} {px py p p2 : Pos} {k k2 : Nat} {vs : List Expr} {env : PySem.Env} (hk : env.scope.kind = .function) (h : sw2 env.scope x y px py vs = true) : swappedStores [.Tuple [.Name x px, .Name y py] k p] (.Tuple vs k2 p2) env = pure (some [x, y]) := by
  have hb : env.blockKind = .function := by unfold Env.blockKind; rw [hk]; rfl
  unfold sw2 at h
  simp only [Bool.and_eq_true, Bool.not_eq_true', decide_eq_true_eq, decide_eq_false_iff_not] at h
  obtain ⟨⟨⟨⟨⟨⟨⟨h1, h2⟩, h3⟩, h4⟩, h5⟩, h6⟩, h7⟩, h8⟩ := h
  have hv : ∀ q ∈ vs, noSt q = true := fun q hq => List.all_eq_true.mp h6 q hq
  have kx : env.kindOf x = some .local := h2
  have ky : env.kindOf y = some .local := h3
  have hl : (py.line == px.line) = true := h4
  have hd : ([x, y].eraseDups).length = 2 := by
    have : (y == x) = false := beq_eq_false_iff_ne.mpr fun z => h5 z.symm
    simp [List.eraseDups, List.eraseDupsBy, List.eraseDupsBy.loop, List.any_cons, this]
  unfold swappedStores
  dsimp only
  rw [if_neg (by simp [hb, h1]), if_neg (fun hh => by
    obtain ⟨q, hq, hm⟩ := List.any_eq_true.mp hh
    have := hv q hq
    cases q <;> first | (cases this; done) | (cases hm; done)), if_neg (by simp [List.filterMap_cons, kx, ky, beq_iff_eq.mp hl, hd, Expr.pos]), h7, h8]
  simp [List.filterMap_cons, kx, ky, beq_iff_eq.mp hl, Expr.pos]
theorem sst_three {x y z : Str} {px py pz p p2 : Pos} {k k2 : Nat} {vs : List Expr} {env : PySem.Env} (hk : env.scope.kind = .function) (h : sw3 env.scope x y z px py pz vs = true) : swappedStores [.Tuple [.Name x px, .Name y py, .Name z pz] k p] (.Tuple vs k2 p2) env = pure (some [x, y, z]) := by
  have hb : env.blockKind = .function := by unfold Env.blockKind; rw [hk]; rfl
  unfold sw3 at h
  simp only [Bool.and_eq_true, Bool.not_eq_true', decide_eq_true_eq, decide_eq_false_iff_not] at h
  obtain ⟨⟨⟨⟨⟨⟨⟨⟨⟨⟨⟨h1, h2⟩, h3⟩, h3z⟩, h4⟩, h4z⟩, h5⟩, h5z⟩, h5y⟩, h6⟩, h7⟩, h8⟩ := h
  have hv : ∀ q ∈ vs, noSt q = true := fun q hq => List.all_eq_true.mp h6 q hq
  have kx : env.kindOf x = some .local := h2
  have ky : env.kindOf y = some .local := h3
  have kz : env.kindOf z = some .local := h3z
  have hl : (py.line == px.line) = true := h4
  have hlz : (pz.line == px.line) = true := h4z
  have hd : ([x, y, z].eraseDups).length = 3 := by
    have e1 : (y == x) = false := beq_eq_false_iff_ne.mpr fun q => h5 q.symm
    have e2 : (z == x) = false := beq_eq_false_iff_ne.mpr fun q => h5z q.symm
    have e3 : (z == y) = false := beq_eq_false_iff_ne.mpr fun q => h5y q.symm
    simp [List.eraseDups, List.eraseDupsBy, List.eraseDupsBy.loop, List.any_cons, e1, e2, e3]
  unfold swappedStores
  dsimp only
  rw [if_neg (by simp [hb, h1]), if_neg (fun hh => by
    obtain ⟨q, hq, hm⟩ := List.any_eq_true.mp hh
    have := hv q hq
    cases q <;> first | (cases this; done) | (cases hm; done)), if_neg (by simp [List.filterMap_cons, kx, ky, kz, beq_iff_eq.mp hl, beq_iff_eq.mp hlz, hd, Expr.pos]), h7, h8]
  simp [List.filterMap_cons, kx, ky, kz, beq_iff_eq.mp hl, beq_iff_eq.mp hlz, Expr.pos]
end FW

/-! FwS: objects of own classes. -/
namespace FW
open PySem PySem.Spec PyProof.Rows L2
def CalleeAt (T : Txt) (X : Cx) (g : Addr) (n : Nat) (c : Call) : Prop :=
  ∃ (k : Nat) (fd : FuncData) (ps : List Str), FnG X.prog X.w X.K X.mg X.base k g fd ps (spD T n c) ∧ RoomG (k + 1) X.A ∧ PySem.W.keepIn X.K (.ref g) = true ∧ Binds X.K fd ps [] ∧ ps.length = n ∧ ∀ ds S, c ds S ≠ .bad → ds.length = n
section
variable {T : Txt} {W : WX} {X : Cx} {G : Ent} {w w' : Wd} {st : State} {σ : L2.St} {H H' : Hp} {a b e o : Expr} {es : List Expr} {ca cb : State → R D} {cs : State → R (List D)} {pos p p2 apos : Pos} {f m : Str}
theorem RoomG.in1 {k : Nat} {A : Around} (r : RoomG (k + 1) A) : RoomG k A.in1 := ⟨r.toRoom.in1, r.gu⟩
theorem make_guards {A : Around} {C : Addr} {us : List Value} {kw : List (Str × Value)} : (A.under (.builtin "type.__call__" ⟨.ref C :: us, kw⟩)).guards = A.guards := by
  first | rfl | simp [Around.under, Code.weight, Code.isCreation, Code.isGuard, Code.isCaller, Code.frames, Code.isFrame, guardIds]
theorem RoomG.make {k : Nat} {A : Around} (r : RoomG (k + 1) A) (C : Addr) (us : List Value) (kw : List (Str × Value)) : RoomG k (A.under (.builtin "type.__call__" ⟨.ref C :: us, kw⟩)) := ⟨r.toRoom.make C us kw, by rw [make_guards]; exact r.gu⟩
/-- the data of an argument list, for a promise -/
theorem spD_of {c : Call} {n : Nat} {ds : List D} {vs : List V} {Q : VK} (r : RS T G w st σ H) (q : RepVs T w ds vs) (hn : c ds st.sto ≠ .bad → ds.length = n)
    (h : Post T W G w σ (RepV T) (match c ds st.sto with
      | .ok d s' => .ok d ⟨st.env, s'.sto⟩
      | .exc e s' => .exc e ⟨st.env, s'.sto⟩
      | .bad => .bad) Q) : spD T n c vs H Q (WE W σ) := by
  have nb : c ds st.sto ≠ .bad := fun z => by rw [z] at h; exact h
  refine ⟨w, st.sto, ds, hn nb, r.rc, q, ?_⟩
  cases e : c ds st.sto with
  | ok d s =>
    rw [e] at h
    exact fun w' v H' f rc q => h w' v H' f.le (r.call f rc) q
  | exc x s =>
    rw [e] at h
    exact fun w' cls dx H' f rc q => h w' cls dx H' f.le (r.call f rc) q
  | bad => exact nb e
/-- a def at its address runs -/
theorem run_at {pins : List (Addr × Obj)} {s : Shared} {Q : VK} {us : List Value} {vs : List V} {g : Addr} {n : Nat} {c : Call} {E : L2.St → XK} (F : CalleeAt T X g n c) (hx : PassesAt (L2.CX X.prog X.w) X σ (E σ))
    (I : Inv X pins σ H s) (r : Vals vs us) (h : spD T n c vs H Q (E σ)) : wpAny (model X.prog X.w) X.A (call (.ref g) us) (EP X pins σ Q) X.xe s := by
  obtain ⟨k, fd, ps, F, hr, hk, hb, hl, _⟩ := F
  exact run_fnG F (hr.mono (Nat.le_succ _)) hb hx I r h
/-! ### attributes -/
inductive Acc where
  | fld (j : Nat) | prp (i : Nat)
/-- what stands behind a name of a class -/
def AccOk (T : Txt) (X : Cx) (F : Nat → Call) (f : Str) (c : Nat) : Acc → Prop
  | .fld j => Cls X.K (T.cA c) ∧ NoAttr X.K (T.cA c) f ∧ (T.fl c)[j]? = some f ∧ (T.fl c).Nodup
  | .prp i => Cls X.K (T.cA c) ∧ ∃ p g, PropOf X.K (T.cA c) f p g ∧ CalleeAt T X g 1 (F i)
def noX (r : R D) : R D := match r with
  | .ok d s => .ok d s
  | _ => .bad
def cAtt (F : Nat → Call) (acc : Nat → Option Acc) (f : Str) (a : State → R D) : State → R D := fun st => (a st).bind fun d s => match d with
  | .obj c l => (match acc c with
    | some (.fld j) => R.lift l[j]? s
    | some (.prp i) => noX ((F i [d] s.sto).back s.env)
    | none => .bad)
  | .ref n => (match s.sto[n]? with
    | some (.ins c fs) => (match acc c with
      | some (.fld _) => R.lift (fs.lookup f) s
      | _ => .bad)
    | _ => .bad)
  | _ => .bad
theorem lookup_at : ∀ {ns : List Str} {fs : List (Str × V)} {j : Nat} {f : Str} {v : V}, fs.map (·.1) = ns → ns.Nodup → ns[j]? = some f → (fs.map (·.2))[j]? = some v → fs.lookup f = some v
  | _, [], j, f, v, h, _, e, _ => by
    subst h; simp at e
  | _, (g, u) :: fs, 0, f, v, h, nd, e, e' => by
    subst h
    simp at e e'
    subst e e'
    simp [List.lookup_cons]
  | _, (g, u) :: fs, j + 1, f, v, h, nd, e, e' => by
    subst h
    have nd' := List.nodup_cons.mp nd
    have e : (fs.map (·.1))[j]? = some f := by simpa using e
    have ne : f ≠ g := fun z => nd'.1 (z ▸ List.mem_of_getElem? e)
    rw [List.lookup_cons, beq_eq_false_iff_ne.mpr ne]
    exact lookup_at rfl nd'.2 e (by simpa using e')
theorem RepFs.look : ∀ {fs : List (Str × D)} {fv : List (Str × V)} {f : Str} {d : D}, RepFs T w fs fv → fs.lookup f = some d → ∃ v, fv.lookup f = some v ∧ RepV T w d v
  | [], _, _, _, _, e => by cases e
  | (g, x) :: fs, _, f, d, ⟨v, r, ev, q, h⟩, e => by
    subst ev
    rw [List.lookup_cons] at e ⊢
    cases z : f == g with
    | true =>
      rw [z] at e
      cases e
      exact ⟨v, rfl, q⟩
    | false =>
      rw [z] at e
      exact RepFs.look h e
theorem getprop_G {pins : List (Addr × Obj)} {s : Shared} {Q : VK} {b : Bool} {E' : Value → Shared → Prop} {a C p g dx : Addr} {fs : List (Str × V)} {c : Call} (I : Inv X pins σ H s) (ea : H a = some (.ins C dx fs)) (k : Cls X.K C) (hp : PropOf X.K C f p g)
    (F : CalleeAt T X g 1 c) (h : spD T 1 c [.ref a] H Q fun _ _ _ => False) : wpAny (model X.prog X.w) X.A (getAttr (.ref a) f b) (EP X pins σ Q) E' s := by
  obtain ⟨n, fd, ps, F, hr, hk, hb, hl, _⟩ := F
  obtain ⟨mA, O, _, _, _, _⟩ := ins_get I.hok ea
  obtain ⟨od, J, _⟩ := O.look
  obtain ⟨rest, hrec⟩ := hp.rec_
  have I1 := I.tok (s.toks + 1)
  have hc : (PySem.W.clsIn X.K C).isSome = true := by
    obtain ⟨cd, hc, _⟩ := PySem.W.any_some k.hd
    rw [hc]; rfl
  have bt : BindsTo { s with toks := s.toks + 1 } fd ⟨[.ref a], []⟩ (ps.zip [.ref a]) := by
    have := hb { s with toks := s.toks + 1 } [.ref a] I1.kIn (by rw [List.append_nil]; exact hl.symm)
    rwa [List.append_nil] at this
  refine PySem.W.get_bind I.kIn J (PySem.W.plainGet_of (k.get f)).1 (PySem.W.findObj_data hc hp.at_ hp.get hp.tak) (PySem.W.plainGet_of (k.get f)).2 (wpAny_call (PySem.W.prop_get (s := { s with toks := s.toks + 1 }) I.kIn hrec ?_))
  refine codeAny_mono (F.run X.A.in1 X.stack { s with toks := s.toks + 1 } H ⟨[.ref a], []⟩ [.ref a] [.ref a] Q (fun _ _ _ => False) hr.in1 I1.env0.in1 bt (.cons rfl .nil) h) fun r s' hq => ?_
  cases r with
  | error er => obtain ⟨_, _, _, _, _, _, _, _, _, _, _, _, z⟩ := hq; exact z.elim
  | ok fl =>
    cases fl with
    | ret u =>
      obtain ⟨v, H', I3, rv, q3⟩ := I1.after hq
      show wpAny _ _ (handedOut u) _ _ _
      rw [PySem.W.handedOut_of (handed_of rv)]
      exact wpAny_pure ⟨v, H', I3, rv, q3⟩
    | next => exact False.elim hq
    | brk => exact False.elim hq
    | cont => exact False.elim hq
theorem de_att {F : Nat → Call} {acc : Nat → Option Acc} (hacc : ∀ c x, acc c = some x → AccOk T X F f c x) (hab : attributeBase e f X.env (eval e X.env) = eval e X.env) (ha : DE T W X e ca) : DE T W X (.Attribute e f pos) (cAtt F acc f ca) := by
  refine ⟨fun pins s σ H Q I ⟨G, w, st, r, q⟩ => ?_⟩
  refine attr_of hab (thn (ha.run pins s σ H _ I (seqE r q)) fun u s1 ⟨x, H1, I1, rx, w1, d, s', le, r1, q1, p1⟩ => ?_)
  cases d <;> first | exact p1.elim | skip
  · rename_i c l
    obtain ⟨a, dx, fs, rfl, ea, en, rl⟩ := (by simpa only [RepV] using q1)
    have ea := r1.rc.hf _ _ ea
    obtain rfl : u = Value.ref a := rx
    have p1 : Post T W G w1 σ (RepV T) (match acc c with
      | some (.fld j) => R.lift l[j]? s'
      | some (.prp i) => noX ((F i [.obj c l] s'.sto).back s'.env)
      | none => .bad) Q := p1
    cases eac : acc c with
    | none => rw [eac] at p1; exact p1.elim
    | some y =>
      rw [eac] at p1
      have ok := hacc c y eac
      cases y with
      | fld j =>
        obtain ⟨k1, k2, k3, k4⟩ := ok
        obtain ⟨d, e1, p2⟩ := Post.lift p1
        obtain ⟨v, e2, rv⟩ := rl.get e1
        exact getattr_ok I1 ea k1 k2 (lookup_at en k4 k3 e2) fun u2 s2 I2 ru => ⟨v, H1, I2, ru, p2 w1 v H1 (.refl _) r1 rv⟩
      | prp i =>
        obtain ⟨k1, p0, g, k2, k3⟩ := ok
        refine getprop_G I1 ea k1 k2 k3 ?_
        have p1 : Post T W G w1 σ (RepV T) (noX ((F i [.obj c l] s'.sto).back s'.env)) Q := p1
        refine ⟨w1, s'.sto, [.obj c l], rfl, r1.rc, .cons q1 .nil, ?_⟩
        cases ef : F i [.obj c l] s'.sto with
        | ok d2 s2 =>
          rw [ef] at p1
          exact fun w' v H' f rc qv => p1 w' v H' f.le (r1.call f rc) qv
        | exc _ _ => rw [ef] at p1; exact p1.elim
        | bad => rw [ef] at p1; exact p1.elim
  · rename_i n
    obtain ⟨a, rfl, em⟩ := (by simpa only [RepV] using q1)
    obtain rfl : u = Value.ref a := rx
    have p1 : Post T W G w1 σ (RepV T) (match s'.sto[n]? with
      | some (.ins c fs) => (match acc c with
        | some (.fld _) => R.lift (fs.lookup f) s'
        | _ => .bad)
      | _ => .bad) Q := p1
    obtain ⟨hf, c0, es, cr⟩ := r1.rc.cell n a em
    rw [es] at p1
    cases c0 with
    | lst l => exact p1.elim
    | ins c fs =>
      obtain ⟨dx, fv, eh, rf⟩ := cr
      have p1 : Post T W G w1 σ (RepV T) (match acc c with
        | some (.fld _) => R.lift (fs.lookup f) s'
        | _ => .bad) Q := p1
      cases eac : acc c with
      | none => rw [eac] at p1; exact p1.elim
      | some y =>
        rw [eac] at p1
        cases y with
        | prp i => exact p1.elim
        | fld j =>
          obtain ⟨k1, k2, _, _⟩ := hacc c _ eac
          obtain ⟨d, e1, p2⟩ := Post.lift p1
          obtain ⟨v, e2, rv⟩ := rf.look e1
          exact getattr_ok I1 eh k1 k2 e2 fun u2 s2 I2 ru => ⟨v, H1, I2, ru, p2 w1 v H1 (.refl _) r1 rv⟩
/-! ### methods -/
theorem few_ok {pos : Pos} {env : PySem.Env} {n : Nat} {es : List Expr} (h : es.all noSt = true) (hn : n < 30) : methodCallForm n (backTo pos (starEach es env)) (backToKw pos (keywordEach [] env)) = true := by
  have e : (backTo pos (starEach es env)).all (!·.1) = true := by
    have := back_plain (pos := pos) (env := env) h
    rw [List.all_eq_not_any_not]
    simp only [Bool.not_not]
    rw [this]; rfl
  unfold methodCallForm
  rw [e]
  have : (backToKw pos (keywordEach [] env)) = [] := rfl
  rw [this]
  simp; omega
theorem meth_eval {env : PySem.Env} (h0 : noCall o = true) (hs : es.all noSt = true) (hn : es.length < 30) (hl : (apos.endLine == pos.line) = true) :
    eval (.Call (.Attribute o m apos) es [] pos) env = (do
      let ov ← eval o env
      standAt apos.atName
      let (f, first) ← holding [ov] (getMethod ov m (do return (← importBound o env).getD true))
      callWith pos f first (backTo pos (starEach es env)) (backToKw pos (keywordEach [] env))) := by
  have hf := few_ok (pos := pos) (env := env) (n := es.length + 0) hs (by omega)
  show (do
    let ov ← attributeBase o m env (eval o env)
    standAt apos.atName
    methodCall o m apos pos env ov (es.length + 0) (backTo pos (starEach es env)) (backToKw pos (keywordEach [] env))) = _
  rw [base_ok h0]
  unfold methodCall calleeOf methodCallPos
  simp only [hf, hl, Bool.not_true, Bool.false_or, if_true, pure_bind]
def MethOk (T : Txt) (X : Cx) (F : Nat → Call) (m : Str) (c : Nat) (i : Nat) : Prop := Cls X.K (T.cA c) ∧ m ∉ T.fl c ∧ ∃ g n, Meth X.K (T.cA c) m g ∧ CalleeAt T X g n (F i)
def clsOf (st : State) : D → Option Nat
  | .obj c _ => some c
  | .ref n => match st.sto[n]? with
    | some (.ins c _) => some c
    | _ => none
  | _ => none
def hasF (st : State) (m : Str) : D → Bool
  | .ref n => match st.sto[n]? with
    | some (.ins _ fs) => (fs.lookup m).isSome
    | _ => true
  | _ => false
def cMeth (F : Nat → Call) (mt : Nat → Option Nat) (m : Str) (a : State → R D) (cs : State → R (List D)) : State → R D := fun st => (a st).bind fun d s => match clsOf s d with
  | some c => (match mt c with
    | some i => if hasF s m d then .bad else (cs s).bind fun ds s2 => (F i (d :: ds) s2.sto).back s2.env
    | none => .bad)
  | none => .bad
theorem back_eq {r : R D} {E : FW.Env} : r.back E = (match r with
      | .ok d s' => .ok d ⟨E, s'.sto⟩
      | .exc e s' => .exc e ⟨E, s'.sto⟩
      | .bad => .bad) := by cases r <;> rfl
theorem RepFs.names : ∀ {fs : List (Str × D)} {fv : List (Str × V)}, RepFs T w fs fv → ∀ m, fs.lookup m = none → fv.lookup m = none
  | [], fv, h, m, e => by
    have h : fv = [] := h
    subst h; rfl
  | (g, x) :: fs, _, ⟨v, r, ev, q, h⟩, m, e => by
    subst ev
    rw [List.lookup_cons] at e ⊢
    cases z : m == g with
    | true => rw [z] at e; cases e
    | false =>
      rw [z] at e
      exact RepFs.names h m e
theorem lookup_none : ∀ {fs : List (Str × V)} {m : Str}, m ∉ fs.map (·.1) → fs.lookup m = none
  | [], _, _ => rfl
  | (g, u) :: fs, m, h => by
    simp only [List.map_cons, List.mem_cons, not_or] at h
    rw [List.lookup_cons, beq_eq_false_iff_ne.mpr h.1]
    exact lookup_none h.2
/-- the object as it stands -/
theorem cls_at {F : Nat → Call} {s : State} {d : D} {v : V} {c i : Nat} (r : RS T G w s σ H) (q : RepV T w d v) (e : clsOf s d = some c) (hf : hasF s m d = false) (ok : MethOk T X F m c i) : ∃ a dx fs, v = .ref a ∧ H a = some (.ins (T.cA c) dx fs) ∧ fs.lookup m = none := by
  cases d <;> first | (cases e; done) | skip
  · cases e
    obtain ⟨a, dx, fs, rfl, ea, en, rl⟩ := (by simpa only [RepV] using q)
    exact ⟨a, dx, fs, rfl, r.rc.hf _ _ ea, lookup_none (by rw [en]; exact ok.2.1)⟩
  · rename_i n
    obtain ⟨a, rfl, em⟩ := (by simpa only [RepV] using q)
    obtain ⟨_, c0, es, cr⟩ := r.rc.cell n a em
    have e : (match s.sto[n]? with
      | some (.ins c _) => some c
      | _ => none) = some c := e
    have hf : (match s.sto[n]? with
      | some (.ins _ fs) => (fs.lookup m).isSome
      | _ => true) = false := hf
    rw [es] at e hf
    cases c0 with
    | lst l => cases e
    | ins c1 fs =>
      cases e
      obtain ⟨dx, fv, eh, rf⟩ := cr
      exact ⟨a, dx, fv, rfl, eh, rf.names m (by simpa using hf)⟩
theorem de_meth {F : Nat → Call} {mt : Nat → Option Nat} (hmt : ∀ c i, mt c = some i → MethOk T X F m c i) (tk : Takes X W) (h0 : noCall o = true) (hs : (e :: es).all noSt = true) (hn : (e :: es).length < 30) (hl : (apos.endLine == pos.line) = true)
    (ho : DE T W X o ca) (ha : DA T W X (e :: es) cs) : DE T W X (.Call (.Attribute o m apos) (e :: es) [] pos) (cMeth F mt m ca cs) := by
  rw [List.all_cons] at hs
  obtain ⟨hs1, hs2⟩ := band hs
  refine ⟨fun pins s σ H Q I ⟨G, w, st, r, q⟩ => ?_⟩
  refine PySem.W.methodCall_KW (thn (ho.run pins s σ H _ I (seqE r q)) fun u s1 ⟨x, H1, I1, rx, w1, d, s', le, r1, q1, p1⟩ => ?_) (meth_eval h0 hs hn hl)
  cases ec : clsOf s' d with
  | none => rw [ec] at p1; exact p1.elim
  | some c =>
    rw [ec] at p1
    have p1 : Post T W G w1 σ (RepV T) (match mt c with
      | some i => if hasF s' m d then .bad else (cs s').bind fun ds s2 => (F i (d :: ds) s2.sto).back s2.env
      | none => .bad) Q := p1
    cases em : mt c with
    | none => rw [em] at p1; exact p1.elim
    | some i =>
      rw [em] at p1
      have ok := hmt c i em
      cases hf : hasF s' m d with
      | true =>
        have p1 : Post T W G w1 σ (RepV T) (if hasF s' m d then .bad else (cs s').bind fun ds s2 => (F i (d :: ds) s2.sto).back s2.env) Q := p1
        rw [hf] at p1; exact p1.elim
      | false =>
        have p1 : Post T W G w1 σ (RepV T) (if hasF s' m d then .bad else (cs s').bind fun ds s2 => (F i (d :: ds) s2.sto).back s2.env) Q := p1
        rw [hf, if_neg (by decide)] at p1
        obtain ⟨a, dx, fs, rfl, ea, lk⟩ := cls_at r1 q1 ec hf ok
        obtain ⟨k1, k2, g, n, k3, k4⟩ := ok
        obtain rfl : u = Value.ref a := rx
        refine getmeth_ok I1 ea k1 k3 lk ?_
        refine PySem.W.callWith_K (first := [.ref a]) (h₀ := X.base) I.ok.mod.kin k3.kp (thn (ha.run pos pins s1 σ H1 _ I1 (seqA r1 p1)) fun us s2 ⟨vs, H2, I2, rv, w2, ds, s3, le2, r2, q2, p2⟩ => ⟨I2.kIn, ?_⟩) (star_one hs1) (back_plain hs2)
        have hlen := k4
        obtain ⟨_, _, _, _, _, _, _, _, hlen⟩ := hlen
        exact run_at (us := .ref a :: us) (vs := .ref a :: vs) (E := WE W) k4 (passAt tk σ) I2 (.cons rfl rv) (spD_of (n := n) r2 (.cons (q1.up le2) q2) (hlen _ _) (by rw [← back_eq]; exact p2))
theorem de_meth0 {F : Nat → Call} {mt : Nat → Option Nat} (hmt : ∀ c i, mt c = some i → MethOk T X F m c i) (tk : Takes X W) (h0 : noCall o = true) (hl : (apos.endLine == pos.line) = true)
    (ho : DE T W X o ca) : DE T W X (.Call (.Attribute o m apos) [] [] pos) (cMeth F mt m ca cNil) := by
  refine ⟨fun pins s σ H Q I ⟨G, w, st, r, q⟩ => ?_⟩
  refine PySem.W.methodCall_KW (thn (ho.run pins s σ H _ I (seqE r q)) fun u s1 ⟨x, H1, I1, rx, w1, d, s', le, r1, q1, p1⟩ => ?_) (meth_eval h0 rfl (by decide) hl)
  cases ec : clsOf s' d with
  | none => rw [ec] at p1; exact p1.elim
  | some c =>
    rw [ec] at p1
    have p1 : Post T W G w1 σ (RepV T) (match mt c with
      | some i => if hasF s' m d then .bad else (cNil s').bind fun ds s2 => (F i (d :: ds) s2.sto).back s2.env
      | none => .bad) Q := p1
    cases em : mt c with
    | none => rw [em] at p1; exact p1.elim
    | some i =>
      rw [em] at p1
      have ok := hmt c i em
      cases hf : hasF s' m d with
      | true =>
        have p1 : Post T W G w1 σ (RepV T) (if hasF s' m d then .bad else (cNil s').bind fun ds s2 => (F i (d :: ds) s2.sto).back s2.env) Q := p1
        rw [hf] at p1; exact p1.elim
      | false =>
        have p1 : Post T W G w1 σ (RepV T) (if hasF s' m d then .bad else (cNil s').bind fun ds s2 => (F i (d :: ds) s2.sto).back s2.env) Q := p1
        rw [hf, if_neg (by decide)] at p1
        have p1 : Post T W G w1 σ (RepV T) ((F i [d] s'.sto).back s'.env) Q := p1
        obtain ⟨a, dx, fs, rfl, ea, lk⟩ := cls_at r1 q1 ec hf ok
        obtain ⟨k1, k2, g, n, k3, k4⟩ := ok
        obtain rfl : u = Value.ref a := rx
        refine getmeth_ok I1 ea k1 k3 lk ?_
        have hlen := k4
        obtain ⟨_, _, _, _, _, _, _, _, hlen⟩ := hlen
        exact PySem.W.callWith_K0 (first := [.ref a]) I1.kIn k3.kp (run_at (us := [.ref a]) (vs := [.ref a]) (E := WE W) k4 (passAt tk σ) I1 (.cons rfl .nil) (spD_of (n := n) r1 (.cons q1 .nil) (hlen _ _) (by rw [← back_eq]; exact p1)))
end
end FW

/-! FwT: objects made, attributes set. -/
namespace FW
open PySem PySem.Spec PyProof.Rows L2
mutual
/-- every cell that it names is among the first n -/
def D.rf (n : Nat) : D → Bool
  | .ref i => decide (i < n)
  | .tup l => D.rfs n l
  | .lst l => D.rfs n l
  | .scr l => D.rfs n l
  | .obj _ l => D.rfs n l
  | _ => true
def D.rfs (n : Nat) : List D → Bool
  | [] => true
  | d :: r => D.rf n d && D.rfs n r
end
section
variable {T : Txt} {W : WX} {X : Cx} {G : Ent} {w w' w3 : Wd} {st : State} {σ : L2.St} {H H' : Hp} {a b e o : Expr} {es : List Expr} {ca cb : State → R D} {cs : State → R (List D)} {pos p p2 apos : Pos} {f m : Str}
mutual
theorem RepV.rf : ∀ (d : D) (v : V), RepV T w d v → D.rf w.m.length d = true
  | .non, _, _ => rfl
  | .bl _, _, _ => rfl
  | .int _, _, _ => rfl
  | .str _, _, _ => rfl
  | .tup l, _, q => by
    obtain ⟨a, vs, e, s, r⟩ := (by simpa only [RepV] using q)
    simpa only [D.rf] using RepVs.rf l vs r
  | .lst l, _, q => by
    obtain ⟨a, vs, e, s, r⟩ := (by simpa only [RepV] using q)
    simpa only [D.rf] using RepVs.rf l vs r
  | .scr l, _, q => by
    obtain ⟨a, vs, e, s, r⟩ := (by simpa only [RepV] using q)
    simpa only [D.rf] using RepVs.rf l vs r
  | .obj c l, _, q => by
    obtain ⟨a, dx, fs, e, s, n, r⟩ := (by simpa only [RepV] using q)
    simpa only [D.rf] using RepVs.rf l _ r
  | .ref n, _, q => by
    obtain ⟨a, e, s⟩ := (by simpa only [RepV] using q)
    simp only [D.rf]
    exact decide_eq_true (List.getElem?_eq_some_iff.mp s).1
  | .dic _, _, _ => rfl
theorem RepVs.rf : ∀ (ds : List D) (vs : List V), RepVs T w ds vs → D.rfs w.m.length ds = true
  | [], _, _ => rfl
  | d :: ds, _, q => by
    obtain ⟨v, r, e, a, b⟩ := (by simpa only [RepVs] using q)
    simp only [D.rfs, RepV.rf d v a, RepVs.rf ds r b, Bool.and_self]
end
mutual
theorem RepV.cut {n : Nat} (hf : ∀ a o, w.HF a = some o → w3.HF a = some o) (hm : ∀ i, i < n → w.m[i]? = w3.m[i]?) : ∀ (d : D) (v : V), D.rf n d = true → RepV T w d v → RepV T w3 d v
  | .non, _, _, q => by simpa [RepV] using q
  | .bl _, _, _, q => by simpa [RepV] using q
  | .int _, _, _, q => by simpa [RepV] using q
  | .str _, _, _, q => by simpa [RepV] using q
  | .tup l, _, h, q => by
    obtain ⟨a, vs, e, s, r⟩ := (by simpa only [RepV] using q)
    simp only [RepV]
    exact ⟨a, vs, e, SqT.up hf s, RepVs.cut hf hm l vs (by simpa only [D.rf] using h) r⟩
  | .lst l, _, h, q => by
    obtain ⟨a, vs, e, s, r⟩ := (by simpa only [RepV] using q)
    simp only [RepV]
    exact ⟨a, vs, e, hf _ _ s, RepVs.cut hf hm l vs (by simpa only [D.rf] using h) r⟩
  | .scr l, _, h, q => by
    obtain ⟨a, vs, e, s, r⟩ := (by simpa only [RepV] using q)
    simp only [RepV]
    exact ⟨a, vs, e, SqL.up hf s, RepVs.cut hf hm l vs (by simpa only [D.rf] using h) r⟩
  | .obj c l, _, h, q => by
    obtain ⟨a, dx, fs, e, s, n, r⟩ := (by simpa only [RepV] using q)
    simp only [RepV]
    exact ⟨a, dx, fs, e, hf _ _ s, n, RepVs.cut hf hm l _ (by simpa only [D.rf] using h) r⟩
  | .ref i, _, h, q => by
    obtain ⟨a, e, s⟩ := (by simpa only [RepV] using q)
    simp only [RepV]
    exact ⟨a, e, by rw [← hm i (of_decide_eq_true (by simpa only [D.rf] using h))]; exact s⟩
  | .dic l, _, _, q => by
    obtain ⟨a, e, s⟩ := (by simpa only [RepV] using q)
    simp only [RepV]
    exact ⟨a, e, hf _ _ s⟩
theorem RepVs.cut {n : Nat} (hf : ∀ a o, w.HF a = some o → w3.HF a = some o) (hm : ∀ i, i < n → w.m[i]? = w3.m[i]?) : ∀ (ds : List D) (vs : List V), D.rfs n ds = true → RepVs T w ds vs → RepVs T w3 ds vs
  | [], _, _, q => by simpa [RepVs] using q
  | d :: ds, _, h, q => by
    obtain ⟨v, r, e, a, b⟩ := (by simpa only [RepVs] using q)
    obtain ⟨h1, h2⟩ := band (show (D.rf n d && D.rfs n ds) = true from by simpa only [D.rfs] using h)
    simp only [RepVs]
    exact ⟨v, r, e, RepV.cut hf hm d v h1 a, RepVs.cut hf hm ds r h2 b⟩
end
def Cell.rf (n : Nat) : Cell → Bool
  | .lst l => D.rfs n l
  | .ins _ fs => D.rfs n (fs.map (·.2))
theorem RepFs.snd : ∀ {fs : List (Str × D)} {fv : List (Str × V)}, RepFs T w fs fv → RepVs T w (fs.map (·.2)) (fv.map (·.2)) ∧ fs.map (·.1) = fv.map (·.1)
  | [], fv, h => by
    have h : fv = [] := h
    subst h; exact ⟨.nil, rfl⟩
  | (g, x) :: fs, _, ⟨v, r, ev, q, h⟩ => by
    subst ev
    obtain ⟨h1, h2⟩ := RepFs.snd h
    exact ⟨.cons q h1, by simp [h2]⟩
theorem RepFs.cut {n : Nat} (hf : ∀ a o, w.HF a = some o → w3.HF a = some o) (hm : ∀ i, i < n → w.m[i]? = w3.m[i]?) : ∀ {fs : List (Str × D)} {fv : List (Str × V)}, D.rfs n (fs.map (·.2)) = true → RepFs T w fs fv → RepFs T w3 fs fv
  | [], _, _, h => h
  | (g, x) :: fs, _, k, ⟨v, r, ev, q, h⟩ => by
    obtain ⟨h1, h2⟩ := band (show (D.rf n x && D.rfs n (fs.map (·.2))) = true from by simpa only [List.map_cons, D.rfs] using k)
    exact ⟨v, r, ev, RepV.cut hf hm x v h1 q, RepFs.cut hf hm h2 h⟩
theorem CellR.rf {a : Addr} {c : Cell} (h : CellR T w H a c) : c.rf w.m.length = true := by
  cases c with
  | lst ds => obtain ⟨vs, _, h2⟩ := h; exact RepVs.rf ds vs h2
  | ins c fs => obtain ⟨dx, fv, _, h2⟩ := h; exact RepVs.rf _ _ (RepFs.snd h2).1
theorem CellR.cut {n : Nat} {a : Addr} {c : Cell} (hf : ∀ a o, w.HF a = Option.some o → w3.HF a = Option.some o) (hm : ∀ i, i < n → w.m[i]? = w3.m[i]?) (k : c.rf n = true) (h : CellR T w H a c) : CellR T w3 H a c := by
  cases c with
  | lst ds => obtain ⟨vs, h1, h2⟩ := h; exact ⟨vs, h1, RepVs.cut hf hm ds vs k h2⟩
  | ins c fs => obtain ⟨dx, fv, h1, h2⟩ := h; exact ⟨dx, fv, h1, RepFs.cut hf hm k h2⟩
/-- a fresh instance laid into the store -/
theorem RC.make {S : Store} (r : RC T w S H) {x dx C : Addr} {c : Nat} (hC : T.cA c = C) (h1 : H x = none) (h2 : H dx = none) (ne : dx ≠ x) : RC T ⟨w.HF, w.m ++ [x]⟩ (S ++ [.ins c []]) (upd (upd H dx (.own x)) x (.ins C dx [])) := by
  have keep : ∀ {b}, H b ≠ none → upd (upd H dx (.own x)) x (.ins C dx []) b = H b := fun {b} z => by
    rw [upd_ne fun y => z (by rw [y]; exact h1), upd_ne fun y => z (by rw [y]; exact h2)]
  have hx : x ∉ w.m := fun z => (r.mem z).2 h1
  have le : w.le ⟨w.HF, w.m ++ [x]⟩ := ⟨fun _ _ h => h, List.prefix_append _ _⟩
  refine ⟨fun b u z => ?_, ?_, by simp [r.len], fun i b z => ?_⟩
  · have := r.hf b u z
    rw [keep (by rw [this]; simp)]; exact this
  · exact List.nodup_append.mpr ⟨r.nd, List.nodup_cons.mpr ⟨by simp, List.nodup_nil⟩, fun y hy z hz e => by
      have : z = x := by simpa using hz
      subst this e; exact hx hy⟩
  · have z : (w.m ++ [x])[i]? = some b := z
    by_cases l : i < w.m.length
    · rw [List.getElem?_append_left l] at z
      obtain ⟨g1, c0, g2, g3⟩ := r.cell i b z
      exact ⟨g1, c0, by rw [List.getElem?_append_left (by rw [← r.len]; exact l)]; exact g2, g3.up le (keep g3.some)⟩
    · rw [List.getElem?_append_right (by omega)] at z
      have hi : i - w.m.length = 0 := by
        have := (List.getElem?_eq_some_iff.mp z).1
        simp at this; omega
      rw [hi] at z
      have : x = b := by simpa using z
      subst this
      refine ⟨r.hfn h1, .ins c [], ?_, dx, [], by rw [upd_same, hC], rfl⟩
      have : i = S.length := by rw [← r.len]; omega
      rw [this]; simp
open Classical in
/-- C(..), an object that stays as __init__ leaves it -/
noncomputable def cMake (F : Nat → Call) (c i : Nat) (ns : List Str) (cs : State → R (List D)) : State → R D := fun st => (cs st).bind fun ds s =>
  match F i (.ref s.sto.length :: ds) (s.sto ++ [.ins c []]) with
  | .ok .non s' => (match s'.sto[s.sto.length]? with
    | some (.ins c' fs) => if s'.sto.take s.sto.length = s.sto ∧ s'.sto.length = s.sto.length + 1 ∧ c' = c ∧ fs.map (·.1) = ns ∧ D.rfs s.sto.length (fs.map (·.2)) = true then .ok (.obj c (fs.map (·.2))) ⟨s.env, s.sto⟩ else .bad
    | _ => .bad)
  | .exc x s' => if s'.sto.take s.sto.length = s.sto ∧ s'.sto.length = s.sto.length + 1 ∧ D.rf s.sto.length x = true then .exc x ⟨s.env, s.sto⟩ else .bad
  | _ => .bad
theorem RepX.cut {n : Nat} {x : D} {cls : Value} {dx : Option Addr} (hf : ∀ a o, w.HF a = some o → w3.HF a = some o) (hm : ∀ i, i < n → w.m[i]? = w3.m[i]?) (k : x.rf n = true) (h : RepX T w x cls dx) : RepX T w3 x cls dx := by
  obtain ⟨c, e1, q⟩ := h
  refine ⟨c, e1, q.imp_right fun ⟨d, p, v, a, b, z, y⟩ => ⟨d, p, v, a, b, hf _ _ z, ?_⟩⟩
  subst a
  have k2 : (D.rf n d && true) = true := by simpa only [D.rf, D.rfs] using k
  exact RepV.cut hf hm d v (band k2).1 y
/-- behind __init__ -/
theorem RC.unmake {S S' : Store} (r : RC T w S H) {x : Addr} {H2 : Hp} (r' : RC T w' S' H') (hx : H x = none) (le : (⟨w.HF, w.m ++ [x]⟩ : Wd).le w') (f : Fra ⟨w.HF, w.m ++ [x]⟩ H2 w' H') (k2 : ∀ b, H b ≠ none → H2 b = H b) (h1 : S'.take S.length = S) (h2 : S'.length = S.length + 1) (HF3 : Hp) (hh : ∀ a o, w'.HF a = some o → HF3 a = some o)
    (h3 : ∀ a o, HF3 a = some o → H' a = some o) (h4 : ∀ a, a ≠ x → HF3 a = w'.HF a) : RC T ⟨HF3, w.m⟩ S H' ∧ Fra w H ⟨HF3, w.m⟩ H' ∧ w'.m = w.m ++ [x] := by
  have em : w'.m = w.m ++ [x] := by
    have p := le.m
    have hl : w'.m.length = (w.m ++ [x]).length := by rw [r'.len, h2, List.length_append, r.len]; rfl
    exact (List.IsPrefix.eq_of_length p hl.symm).symm
  have hxm : x ∉ w.m := fun z => (r.mem z).2 hx
  refine ⟨⟨h3, r.nd, r.len, fun i b z => ?_⟩, ⟨⟨fun a o e => hh _ _ (le.hf _ _ e), List.prefix_refl _⟩, fun a o e q => ?_, fun a e q => ?_, fun a e q => q⟩, em⟩
  · have hb : b ≠ x := fun q => hxm (q ▸ List.mem_of_getElem? z)
    have il : i < w.m.length := (List.getElem?_eq_some_iff.mp z).1
    obtain ⟨g1, c, g2, g3⟩ := r'.cell i b (by rw [em, List.getElem?_append_left il]; exact z)
    obtain ⟨_, c0, e2, e3⟩ := r.cell i b z
    have ec : c = c0 := by
      have : (S'.take S.length)[i]? = S'[i]? := by rw [List.getElem?_take, if_pos (by rw [← r.len]; exact il)]
      rw [h1, e2, g2] at this
      exact (Option.some.inj this).symm
    subst ec
    exact ⟨(h4 b hb).trans g1, c, e2, CellR.cut (n := w.m.length) hh (fun j hj => by rw [em, List.getElem?_append_left hj]) e3.rf g3⟩
  · refine f.kp a o (by rw [k2 a (by rw [e]; simp)]; exact e) fun z => ?_
    rcases List.mem_append.mp z with z | z
    · exact q z
    · have : a = x := by simpa using z
      subst this; rw [hx] at e; cases e
  · have ne : a ≠ x := fun z => by subst z; exact e hx
    exact (h4 a ne).trans (f.ff a (by rw [k2 a e]; exact e) q)
theorem run_makeG {pins : List (Addr × Obj)} {s : Shared} {Q : VK} {us : List Value} {vs : List V} {C g : Addr} {n : Nat} {c : Call} {E : L2.St → XK} (M : Mk X.K C g) (F : CalleeAt T X g n c) (hx : PassesAt (L2.CX X.prog X.w) X σ (E σ))
    (I : Inv X pins σ H s) (r : Vals vs us) (h : ∀ x dx, H x = none → H dx = none → dx ≠ x → spD T n c (.ref x :: vs) (upd (upd H dx (.own x)) x (.ins C dx [])) (fun v H2 => v = .non ∧ Q (.ref x) H2) (E σ)) :
    wpAny (model X.prog X.w) X.A (call (.ref C) us) (EP X pins σ Q) X.xe s := by
  obtain ⟨k, fd, ps, F, hr, hk, hb, hl, _⟩ := F
  have hq := h (s.heap.objs.size + 1) s.heap.objs.size (I.hok.fresh (Nat.le_succ _)) (I.hok.fresh (Nat.le_refl _)) (Nat.ne_of_lt (Nat.lt_succ_self _))
  have I2 := Inv.made (C := C) I
  have r2 : Vals (V.ref (s.heap.objs.size + 1) :: vs) (Value.ref (s.heap.objs.size + 1) :: us) := .cons rfl r
  have hlen : (Value.ref (s.heap.objs.size + 1) :: us).length = ps.length := by
    rw [← r2.length]; exact F.len _ _ _ _ hq
  have bt := hb _ (Value.ref (s.heap.objs.size + 1) :: us) I2.kIn (by rw [List.append_nil]; exact hlen)
  rw [List.append_nil] at bt
  refine wpAny_call (make_map (f := g) I.kIn M.makes M.init (beq_iff_eq.mp M.fn) (codeAny_mono (F.run _ X.stack _ _ ⟨Value.ref (s.heap.objs.size + 1) :: us, []⟩ (Value.ref (s.heap.objs.size + 1) :: us) _ _ (E σ) (hr.make C us [])
    (I2.env0.make C us []) bt r2 hq) fun r s' hq' => ?_))
  cases r with
  | error e => exact hx pins _ _ e s' I2 hq'
  | ok fl =>
    cases fl with
    | ret u =>
      obtain ⟨v, H', I3, rv, ev, q3⟩ := I2.after hq'
      subst ev
      exact ⟨rv, ⟨V.ref (s.heap.objs.size + 1), H', I3, rfl, q3⟩⟩
    | next => exact False.elim hq'
    | brk => exact False.elim hq'
    | cont => exact False.elim hq'
open Classical in
theorem tMake_of {F : Nat → Call} {c i n : Nat} {ns : List Str} {vs : List V} {ds : List D} {Q : VK} (hn : ns = T.fl c) (hlen : ∀ ds S, F i ds S ≠ .bad → ds.length = n) (r : RS T G w st σ H) (q : RepVs T w ds vs)
    (h : Post T W G w σ (RepV T) (cMake F c i ns (fun s => .ok ds s) st) Q) (x dx : Addr) (h1 : H x = none) (h2 : H dx = none) (ne : dx ≠ x) :
    spD T n (F i) (.ref x :: vs) (upd (upd H dx (.own x)) x (.ins (T.cA c) dx [])) (fun v H2 => v = .non ∧ Q (.ref x) H2) (WE W σ) := by
  have h : Post T W G w σ (RepV T) (match F i (.ref st.sto.length :: ds) (st.sto ++ [.ins c []]) with
    | .ok .non s' => (match s'.sto[st.sto.length]? with
      | some (.ins c' fs) => if s'.sto.take st.sto.length = st.sto ∧ s'.sto.length = st.sto.length + 1 ∧ c' = c ∧ fs.map (·.1) = ns ∧ D.rfs st.sto.length (fs.map (·.2)) = true then .ok (.obj c (fs.map (·.2))) ⟨st.env, st.sto⟩ else .bad
      | _ => .bad)
    | .exc x s' => if s'.sto.take st.sto.length = st.sto ∧ s'.sto.length = st.sto.length + 1 ∧ D.rf st.sto.length x = true then .exc x ⟨st.env, st.sto⟩ else .bad
    | _ => .bad) Q := h
  have rc2 := r.rc.make (T := T) (c := c) rfl h1 h2 ne
  have hml : st.sto.length = w.m.length := r.rc.len.symm
  have wle : w.le ⟨w.HF, w.m ++ [x]⟩ := ⟨fun _ _ h => h, List.prefix_append _ _⟩
  have nb : F i (.ref st.sto.length :: ds) (st.sto ++ [.ins c []]) ≠ .bad := fun z => by rw [z] at h; exact h
  have keep : ∀ b, H b ≠ none → upd (upd H dx (.own x)) x (.ins (T.cA c) dx []) b = H b := fun b z => by
    rw [upd_ne fun y => z (by rw [y]; exact h1), upd_ne fun y => z (by rw [y]; exact h2)]
  refine ⟨⟨w.HF, w.m ++ [x]⟩, st.sto ++ [.ins c []], .ref st.sto.length :: ds, hlen _ _ nb, rc2, .cons (by simp only [RepV]; exact ⟨x, rfl, by rw [hml]; simp⟩) (q.up wle), ?_⟩
  cases e : F i (.ref st.sto.length :: ds) (st.sto ++ [.ins c []]) with
  | bad => exact nb e
  | exc y s' =>
    rw [e] at h
    have h : Post T W G w σ (RepV T) (if s'.sto.take st.sto.length = st.sto ∧ s'.sto.length = st.sto.length + 1 ∧ D.rf st.sto.length y = true then .exc y ⟨st.env, st.sto⟩ else .bad) Q := h
    by_cases hc : s'.sto.take st.sto.length = st.sto ∧ s'.sto.length = st.sto.length + 1 ∧ D.rf st.sto.length y = true
    · rw [if_pos hc] at h
      intro w' cls dx' H' f rc rx
      obtain ⟨u1, u2, em⟩ := r.rc.unmake rc h1 f.le f keep hc.1 hc.2.1 w'.HF (fun _ _ z => z) rc.hf fun _ _ => rfl
      exact h ⟨w'.HF, w.m⟩ cls dx' H' u2.le (r.call u2 u1) (RepX.cut (w := w') (w3 := ⟨w'.HF, w.m⟩) (n := w.m.length) (fun _ _ z => z) (fun j hj => by rw [em, List.getElem?_append_left hj]) (hml ▸ hc.2.2) rx)
    · rw [if_neg hc] at h; exact h.elim
  | ok d s' =>
    rw [e] at h
    cases d <;> first | exact h.elim | skip
    have h : Post T W G w σ (RepV T) (match s'.sto[st.sto.length]? with
      | some (.ins c' fs) => if s'.sto.take st.sto.length = st.sto ∧ s'.sto.length = st.sto.length + 1 ∧ c' = c ∧ fs.map (·.1) = ns ∧ D.rfs st.sto.length (fs.map (·.2)) = true then .ok (.obj c (fs.map (·.2))) ⟨st.env, st.sto⟩ else .bad
      | _ => .bad) Q := h
    cases ec : s'.sto[st.sto.length]? with
    | none => rw [ec] at h; exact h.elim
    | some c0 =>
      rw [ec] at h
      cases c0 with
      | lst l => exact h.elim
      | ins c' fs =>
        have h : Post T W G w σ (RepV T) (if s'.sto.take st.sto.length = st.sto ∧ s'.sto.length = st.sto.length + 1 ∧ c' = c ∧ fs.map (·.1) = ns ∧ D.rfs st.sto.length (fs.map (·.2)) = true then .ok (.obj c (fs.map (·.2))) ⟨st.env, st.sto⟩ else .bad) Q := h
        by_cases hc : s'.sto.take st.sto.length = st.sto ∧ s'.sto.length = st.sto.length + 1 ∧ c' = c ∧ fs.map (·.1) = ns ∧ D.rfs st.sto.length (fs.map (·.2)) = true
        · rw [if_pos hc] at h
          obtain ⟨c1, c2, c3, c4, c5⟩ := hc
          subst c3
          intro w' v H' f rc rv
          refine ⟨rv.non_eq, ?_⟩
          obtain ⟨u0, _, em⟩ := r.rc.unmake rc h1 f.le f keep c1 c2 w'.HF (fun _ _ z => z) rc.hf fun _ _ => rfl
          have ex : w'.m[st.sto.length]? = some x := by rw [em, hml]; simp
          obtain ⟨g1, cc, g2, g3⟩ := rc.cell _ _ ex
          rw [ec] at g2
          cases g2
          obtain ⟨dx', fv, g4, g5⟩ := g3
          have hxw : w'.HF x = none := g1
          obtain ⟨u1, u2, _⟩ := r.rc.unmake rc h1 f.le f keep c1 c2 (upd w'.HF x (.ins (T.cA c') dx' fv)) (fun a o z => by
            rw [upd_ne fun y => by rw [y, hxw] at z; cases z]; exact z) (fun a o z => by
            by_cases y : a = x
            · subst y; rw [upd_same] at z; rw [g4]; exact z
            · rw [upd_ne y] at z; exact rc.hf _ _ z) fun a y => upd_ne y
          obtain ⟨s1, s2⟩ := RepFs.snd g5
          refine h _ (.ref x) H' u2.le (r.call u2 u1) ?_
          simp only [RepV]
          refine ⟨x, dx', fv, rfl, upd_same, ?_, ?_⟩
          · rw [← s2, c4, hn]
          · exact RepVs.cut (w := w') (n := w.m.length) (fun a o z => by
              show upd w'.HF x _ a = _
              rw [upd_ne fun y => by rw [y, hxw] at z; cases z]; exact z) (fun j hj => by rw [em, List.getElem?_append_left hj]) _ _ (hml ▸ c5) s1
        · rw [if_neg hc] at h; exact h.elim
def MakeOk (T : Txt) (X : Cx) (F : Nat → Call) (x : Str) (c i : Nat) : Prop := X.mg x = some (.ref (T.cA c)) ∧ ∃ g n, Mk X.K (T.cA c) g ∧ CalleeAt T X g n (F i)
theorem de_make {F : Nat → Call} {x : Str} {c i : Nat} (ok : MakeOk T X F x c i) (tk : Takes X W) (hg : Gl X x) (hd : (x == ("__debug__" : Str)) = false) (hs : (e :: es).all noSt = true) (ha : DA T W X (e :: es) cs) :
    DE T W X (.Call (.Name x p) (e :: es) [] pos) (cMake F c i (T.fl c) cs) := by
  obtain ⟨hm, g, n, M, K⟩ := ok
  rw [List.all_cons] at hs
  obtain ⟨hs1, hs2⟩ := band hs
  refine ⟨fun pins s σ H Q I ⟨G, w, st, r, q⟩ => ?_⟩
  refine wpAny_Call_Name_kw (ld_glob I hg hm ?_ hd)
  refine PySem.W.callWith_K (h₀ := X.base) I.ok.mod.kin M.kp (thn (ha.run pos pins s σ H _ I (seqA r q)) fun us s1 ⟨vs, H1, I1, rv, w1, ds, s', le, r1, q1, p1⟩ => ⟨I1.kIn, ?_⟩) (star_one hs1) (back_plain hs2)
  have hlen := K
  obtain ⟨_, _, _, _, _, _, _, _, hlen⟩ := hlen
  exact run_makeG (E := WE W) M K (passAt tk σ) I1 rv (tMake_of rfl hlen r1 q1 p1)
/-! ### o.f = v -/
def putD (f : Str) (d : D) : List (Str × D) → List (Str × D)
  | [] => [(f, d)]
  | (g, x) :: r => if g = f then (g, d) :: r else (g, x) :: putD f d r
def cSetA (f : Str) (o : State → R D) (a : State → R D) : State → R Fl := fun st => (a st).bind fun v s1 => (o s1).bind fun d s2 => match d with
  | .ref n => (match s2.sto[n]? with
    | some (.ins c fs) => if decide (fs.length < 1000) then .ok .nx ⟨s2.env, s2.sto.set n (.ins c (putD f v fs))⟩ else .bad
    | _ => .bad)
  | _ => .bad
theorem RepFs.put {d : D} {v : V} (q : RepV T w d v) : ∀ {fs : List (Str × D)} {fv : List (Str × V)}, RepFs T w fs fv → RepFs T w (putD f d fs) (putF f v fv)
  | [], fv, h => by
    have h : fv = [] := h
    subst h; exact ⟨v, [], rfl, q, rfl⟩
  | (g, x) :: fs, _, ⟨u, r, ev, q', h⟩ => by
    subst ev
    show RepFs T w (if g = f then (g, d) :: fs else (g, x) :: putD f d fs) (if g = f then (g, v) :: r else (g, u) :: putF f v r)
    by_cases z : g = f
    · rw [if_pos z, if_pos z]; exact ⟨v, r, rfl, q, h⟩
    · rw [if_neg z, if_neg z]; exact ⟨u, _, rfl, q', RepFs.put q h⟩
theorem RepFs.len : ∀ {fs : List (Str × D)} {fv : List (Str × V)}, RepFs T w fs fv → fs.length = fv.length
  | [], fv, h => by
    have h : fv = [] := h
    subst h; rfl
  | (g, x) :: fs, _, ⟨u, r, ev, q', h⟩ => by subst ev; simp [RepFs.len h]
/-- the names of a class that are attributes of its objects -/
def FldOk (T : Txt) (X : Cx) (f : Str) (c : Nat) : Prop := Cls X.K (T.cA c) ∧ NoAttr X.K (T.cA c) f
def cSetAC (ok : Nat → Bool) (f : Str) (o : State → R D) (a : State → R D) : State → R Fl := fun st => (a st).bind fun v s1 => (o s1).bind fun d s2 => match d with
  | .ref n => (match s2.sto[n]? with
    | some (.ins c fs) => if ok c && decide (fs.length < 1000) then .ok .nx ⟨s2.env, s2.sto.set n (.ins c (putD f v fs))⟩ else .bad
    | _ => .bad)
  | _ => .bad
theorem ds_setA {ok : Nat → Bool} (hok : ∀ c, ok c = true → FldOk T X f c) (ho : DE T W X o ca) (he : DE T W X e cb) (hs : swapsWith e (some (.Attribute o f p)) pos.line X.env = pure false) : DS T W X (.Assign [.Attribute o f p] e pos) (cSetAC ok f ca cb) := by
  refine ⟨fun pins s σ H Z I ⟨G, w, st, r, q⟩ => ?_⟩
  have q' := Post.seqS (Rep := RepV T) (σ := σ) q
  refine plainObj_wpAny_Assign_Attribute (thn (he.run pins s σ H _ I ⟨G, w, st, r, q'⟩) fun u s1 ⟨y, H1, I1, ry, w1, v, s', le1, r1, q1, p1⟩ => thn (ho.run pins s1 σ H1 _ I1 ⟨G, w1, s', r1, Post.seqS p1⟩) fun ov s2 ⟨x, H2, I2, rx, w2, d, s3, le2, r2, q2, p2⟩ => ?_) hs
  cases d <;> first | exact p2.elim | skip
  rename_i n
  obtain ⟨a, rfl, em⟩ := (by simpa only [RepV] using q2)
  obtain rfl : ov = Value.ref a := rx
  obtain ⟨hf, c0, es, cr⟩ := r2.rc.cell n a em
  have p2 : PostS T W G w2 (match s3.sto[n]? with
    | some (.ins c fs) => if ok c && decide (fs.length < 1000) then .ok .nx ⟨s3.env, s3.sto.set n (.ins c (putD f v fs))⟩ else .bad
    | _ => .bad) Z := p2
  rw [es] at p2
  cases c0 with
  | lst l => exact p2.elim
  | ins c fs =>
    obtain ⟨dx, fv, eh, rf⟩ := cr
    have p2 : PostS T W G w2 (if (ok c && decide (fs.length < 1000)) = true then .ok .nx ⟨s3.env, s3.sto.set n (.ins c (putD f v fs))⟩ else .bad) Z := p2
    by_cases hc : (ok c && decide (fs.length < 1000)) = true
    · rw [if_pos hc] at p2
      obtain ⟨k1, k2⟩ := band hc
      obtain ⟨k3, k4⟩ := hok c k1
      refine setattr_ok I2 eh k3 k4 (by rw [← rf.len]; exact of_decide_eq_true k2) ry fun s4 I4 => ⟨σ, _, I4, ?_⟩
      exact p2 w2 σ _ (.refl _) (r2.wrCell em ⟨dx, _, upd_same, rf.put (q1.up le2)⟩)
    · rw [if_neg hc] at p2; exact p2.elim
end
end FW

/-! FwU: own operators. -/
namespace FW
open PySem PySem.Spec PyProof.Rows L2
section
variable {prog : Program} {w : World} {A : Around} {E : Value → Shared → Prop} {s : Shared} {K : PySem.W.Frag} {x C f : Addr} {ox : Obj} {od : Option Obj} {nm : String} {b : Value} {Q : Value → Shared → Prop}
theorem first_at (hc : PySem.W.selfFirst K C = true) : ∃ cd rest, PySem.W.clsIn K C = some cd ∧ cd.mro = Value.ref C :: rest := by
  obtain ⟨cd, hcd, hm⟩ := PySem.W.any_some hc
  refine ⟨cd, ?_⟩
  cases q : cd.mro with
  | nil => rw [q] at hm; cases hm
  | cons y r =>
    rw [q, List.head?_cons] at hm
    exact ⟨r, hcd, by cases (beq_iff_eq.mp hm); rfl⟩
/-- the class's slot goes by name -/
theorem inPython {M : Model} {h : Heap} (X : K.In h) (hs : PySem.W.findIn K (.ref C) (PySem.dunder nm) = some (some (.ref f))) (hr : PySem.W.findIn K (.ref C) (dunderR nm) = some none) : PySem.W.Looks M h (numberSlotInPython (.ref C) nm) true := by
  intro A Q E s k q
  unfold numberSlotInPython
  refine wpAny_bind (PySem.W.looks_findIn X hs A _ E s k ?_)
  refine wpAny_bind (wpAny_pure ?_)
  refine wpAny_bind (PySem.W.looks_findIn X hr A _ E s k ?_)
  refine wpAny_bind (wpAny_pure ?_)
  exact wpAny_pure q
variable {Q1 : Option Value → Shared → Prop}
/-- the method at the left answers -/
theorem try_left {nm : Str} (X : K.In s.heap) (I : PySem.W.InstAt s.heap x ox C od) (hs : PySem.W.findIn K (.ref C) nm = some (some (.ref f))) (hf : PySem.W.isFn K (.ref f) = true) (h : wpAny (model prog w) A (PySem.call (.ref f) [.ref x, b]) (PySem.W.CmpBack fun v => Q1 (some v)) E s) :
    wpAny (model prog w) A (tryMethod (.ref x) nm b) (fun o s' => ∃ v, o = some v ∧ Q1 (some v) s') E s := by
  unfold tryMethod
  refine wpAny_bind (PySem.W.special_fn X I hs (beq_iff_eq.mp hf) (wpAny_mono h (fun v s' hv => ?_) fun _ _ e => e))
  cases v <;> first | exact hv.elim | exact wpAny_pure ⟨_, rfl, hv⟩
/-- another own class at the right, not below the left one -/
theorem binop1_two {D f' : Addr} (X : K.In s.heap) (I : PySem.W.InstAt s.heap x ox C od) (hb : PySem.W.Looks (model prog w) s.heap (typeOf b) (.ref D)) (ne : C ≠ D) (hc : PySem.W.selfFirst K C = true) (hd : PySem.W.selfFirst K D = true)
    (hs : PySem.W.findIn K (.ref C) (PySem.dunder nm) = some (some (.ref f))) (hs' : PySem.W.findIn K (.ref D) (PySem.dunder nm) = some (some (.ref f')))
    (hr : PySem.W.findIn K (.ref C) (dunderR nm) = some none) (hr' : PySem.W.findIn K (.ref D) (dunderR nm) = some none) (hn : PySem.W.subIn K (.ref D) (.ref C) = some false) (hf : PySem.W.isFn K (.ref f) = true)
    (h : wpAny (model prog w) A (PySem.call (.ref f) [.ref x, b]) (PySem.W.CmpBack fun v => Q1 (some v)) E s) : wpAny (model prog w) A (binaryOp1 nm (.ref x) b) Q1 E s := by
  obtain ⟨cd, rest, hcd, hm⟩ := first_at hc
  obtain ⟨cd', rest', hcd', hm'⟩ := first_at hd
  have hne : (Value.ref C == Value.ref D) = false := beq_eq_false_iff_ne.mpr fun z => ne (by cases z; rfl)
  unfold binaryOp1
  refine wpAny_bind (I.type.here (wpAny_bind (hb.here (wpAny_bind ((PySem.W.fills_K X hcd hm hs).here ?_)))))
  simp only [hne, if_false, Bool.false_eq_true]
  refine wpAny_bind ((PySem.W.fills_K X hcd' hm' hs').here ?_)
  simp only [Bool.and_self, if_true]
  refine wpAny_bind ((PySem.W.looks_subIn X hn).here ?_)
  simp only [if_false, Bool.false_eq_true, Bool.not_false, Bool.and_self, Bool.and_true, Bool.true_and, if_true]
  refine wpAny_bind ((inPython X hs hr).here ?_)
  simp only [if_true]
  refine wpAny_bind ((inPython X hs' hr').here ?_)
  simp only [Bool.not_true, if_false, Bool.false_eq_true]
  refine wpAny_bind (wpAny_mono (try_left X I hs hf h) (fun o s' ⟨v, e, q⟩ => ?_) fun _ _ e => e)
  subst e
  exact wpAny_pure q
/-- a built-in at the right whose slot is a C function -/
theorem binop1_blt {T : String} {m : Value} (X : K.In s.heap) (I : PySem.W.InstAt s.heap x ox C od) (hb : PySem.W.Looks (model prog w) s.heap (typeOf b) (.type T)) (hc : PySem.W.selfFirst K C = true)
    (hs : PySem.W.findIn K (.ref C) (PySem.dunder nm) = some (some (.ref f))) (hr : PySem.W.findIn K (.ref C) (dunderR nm) = some none) (ht : fillsNumberSlot (.type T) nm = pure true) (hl : typeLookup (.type T) (dunderR nm) = pure (some m))
    (hn : PySem.W.subIn K (.type T) (.ref C) = some false) (hf : PySem.W.isFn K (.ref f) = true)
    (h : wpAny (model prog w) A (PySem.call (.ref f) [.ref x, b]) (PySem.W.CmpBack fun v => Q1 (some v)) E s) : wpAny (model prog w) A (binaryOp1 nm (.ref x) b) Q1 E s := by
  obtain ⟨cd, rest, hcd, hm⟩ := first_at hc
  have hne : (Value.ref C == Value.type T) = false := beq_eq_false_iff_ne.mpr fun z => nomatch z
  have hp : numberSlotInPython (.type T) nm = pure false := rfl
  unfold binaryOp1
  refine wpAny_bind (I.type.here (wpAny_bind (hb.here (wpAny_bind ((PySem.W.fills_K X hcd hm hs).here ?_)))))
  simp only [hne, if_false, Bool.false_eq_true, ht, pure_bind, Bool.and_self, if_true]
  refine wpAny_bind ((PySem.W.looks_subIn X hn).here ?_)
  simp only [if_false, Bool.false_eq_true, Bool.not_false, Bool.and_self, Bool.and_true, Bool.true_and, if_true]
  refine wpAny_bind ((inPython X hs hr).here ?_)
  simp only [if_true, hp, pure_bind, Bool.not_false, hl]
  refine wpAny_bind (wpAny_mono (try_left X I hs hf h) (fun o s' ⟨v, e, q⟩ => ?_) fun _ _ e => e)
  subst e
  exact wpAny_pure q
/-- the same class at the right -/
theorem binop1_one (X : K.In s.heap) (I : PySem.W.InstAt s.heap x ox C od) (hb : PySem.W.Looks (model prog w) s.heap (typeOf b) (.ref C)) (hc : PySem.W.selfFirst K C = true)
    (hs : PySem.W.findIn K (.ref C) (PySem.dunder nm) = some (some (.ref f))) (hf : PySem.W.isFn K (.ref f) = true)
    (h : wpAny (model prog w) A (PySem.call (.ref f) [.ref x, b]) (PySem.W.CmpBack fun v => Q1 (some v)) E s) : wpAny (model prog w) A (binaryOp1 nm (.ref x) b) Q1 E s := by
  obtain ⟨cd, rest, hcd, hm⟩ := first_at hc
  unfold binaryOp1
  refine wpAny_bind (I.type.here (wpAny_bind (hb.here (wpAny_bind ((PySem.W.fills_K X hcd hm hs).here ?_)))))
  simp only [beq_self_eq_true, if_true, pure_bind, Bool.and_false, if_false, Bool.false_eq_true, Bool.false_and]
  refine wpAny_bind (wpAny_mono (try_left X I hs hf h) (fun o s' ⟨v, e, q⟩ => ?_) fun _ _ e => e)
  subst e
  exact wpAny_pure q
theorem binop_of {op : Operator} {a : Value} (h : wpAny (model prog w) A (binaryOp1 op.info.2 a b) (fun o s' => ∃ v, o = some v ∧ Q v s') E s) : wpAny (model prog w) A (binaryOp op a b) Q E s := by
  unfold binaryOp
  refine wpAny_holding (wpAny_bind ?_)
  refine wpAny_mono h (fun o s' ⟨v, e, q⟩ => ?_) fun _ _ e => e
  subst e
  exact wpAny_pure q
end
/-- the operators that own classes take -/
inductive Om where
  | add | or | mul | rsh | lsh
def Om.op : Om → Operator
  | .add => .Add
  | .or => .BitOr
  | .mul => .Mult
  | .rsh => .RShift
  | .lsh => .LShift
def Om.nm (o : Om) : String := o.op.info.2
theorem om_fills (o : Om) : fillsNumberSlot (.type "int") o.nm = pure true := by
  cases o
  · exact F.fills_int_add
  · exact F.fills_int_or
  · exact F.fills_int_mul
  · exact F.fills_int_rshift
  · exact F.fills_int_lshift
theorem om_back (o : Om) : ∃ m, typeLookup (.type "int") (dunderR o.nm) = pure (some m) := by
  cases o
  · exact ⟨_, F.slot_int_radd.lookup⟩
  · exact ⟨_, F.slot_int_ror.lookup⟩
  · exact ⟨_, F.slot_int_rmul.lookup⟩
  · exact ⟨_, F.slot_int_rrshift.lookup⟩
  · exact ⟨_, F.slot_int_rlshift.lookup⟩
/-- what must hold of a class for an operator -/
structure OmOk (T : Txt) (X : Cx) (F : Nat → Call) (o : Om) (c i : Nat) : Prop where
  first : PySem.W.selfFirst X.K (T.cA c) = true
  cls : Cls X.K (T.cA c)
  run : ∃ g, Meth X.K (T.cA c) (PySem.dunder o.nm) g ∧ CalleeAt T X g 2 (F i)
  back : PySem.W.findIn X.K (.ref (T.cA c)) (dunderR o.nm) = some none
  int : PySem.W.subIn X.K (.type "int") (.ref (T.cA c)) = some false
/-- one class is not below another -/
def NbOk (T : Txt) (X : Cx) (c c2 : Nat) : Prop := T.cA c ≠ T.cA c2 ∧ PySem.W.subIn X.K (.ref (T.cA c2)) (.ref (T.cA c)) = some false
theorem no_ni {v : V} {u : Value} (r : RelV v u) {Q : Value → Shared → Prop} {s : Shared} (q : Q u s) : PySem.W.CmpBack Q u s := by
  cases u <;> first | exact q | skip
  cases v <;> first | (cases r; done) | (obtain ⟨_, z⟩ := r; cases z)
section
variable {T : Txt} {W : WX} {X : Cx} {G : Ent} {w w' : Wd} {st : State} {σ : L2.St} {H H' : Hp} {a b e o : Expr} {ca cb : State → R D} {pos : Pos}
/-- an object as it stands -/
theorem obj_at {s : State} {d : D} {v : V} {c : Nat} (r : RS T G w s σ H) (q : RepV T w d v) (e : clsOf s d = some c) : ∃ a dx fs, v = .ref a ∧ H a = some (.ins (T.cA c) dx fs) := by
  cases d <;> first | (cases e; done) | skip
  · cases e
    obtain ⟨a, dx, fs, rfl, ea, en, rl⟩ := (by simpa only [RepV] using q)
    exact ⟨a, dx, fs, rfl, r.rc.hf _ _ ea⟩
  · rename_i n
    obtain ⟨a, rfl, em⟩ := (by simpa only [RepV] using q)
    obtain ⟨_, c0, es, cr⟩ := r.rc.cell n a em
    have e : (match s.sto[n]? with
      | some (.ins c _) => some c
      | _ => none) = some c := e
    rw [es] at e
    cases c0 with
    | lst l => cases e
    | ins c1 fs =>
      cases e
      obtain ⟨dx, fv, eh, rf⟩ := cr
      exact ⟨a, dx, fv, rfl, eh⟩
theorem inst_at {pins : List (Addr × Obj)} {s : Shared} {a C dx : Addr} {fs : List (Str × V)} (I : Inv X pins σ H s) (e : H a = some (.ins C dx fs)) : ∃ od, PySem.W.InstAt s.heap a (PySem.W.instObj C dx) C (some od) := by
  obtain ⟨mA, O, _⟩ := ins_get I.hok e
  obtain ⟨od, J, _⟩ := O.look
  exact ⟨od, J⟩
/-- -a -/
def cUm (F : Nat → Call) (mt : Nat → Option Nat) (a : State → R D) : State → R D := fun st => (a st).bind fun d s => match clsOf s d with
  | some c => (match mt c with
    | some i => (F i [d] s.sto).back s.env
    | none => .bad)
  | none => .bad
theorem de_um {F : Nat → Call} {mt : Nat → Option Nat} (hmt : ∀ c i, mt c = some i → MethOk T X F "__neg__" c i) (tk : Takes X W) (ha : DE T W X a ca) : DE T W X (.UnaryOp .USub a pos) (cUm F mt ca) := by
  refine ⟨fun pins s σ H Q I ⟨G, w, st, r, q⟩ => ?_⟩
  refine UnaryOp_ (thn (ha.run pins s σ H _ I (seqE r q)) fun u s1 ⟨x, H1, I1, rx, w1, d, s', le1, r1, q1, p1⟩ => ?_)
  cases ec : clsOf s' d with
  | none => rw [ec] at p1; exact p1.elim
  | some c =>
    rw [ec] at p1
    have p1 : Post T W G w1 σ (RepV T) (match mt c with
      | some i => (F i [d] s'.sto).back s'.env
      | none => .bad) Q := p1
    cases em : mt c with
    | none => rw [em] at p1; exact p1.elim
    | some i =>
      rw [em] at p1
      obtain ⟨a1, dx, fs, rfl, ea⟩ := obj_at r1 q1 ec
      obtain rfl : u = Value.ref a1 := rx
      obtain ⟨od, J⟩ := inst_at I1 ea
      obtain ⟨_, _, g, n, k3, k4⟩ := hmt c i em
      have hlen := k4
      obtain ⟨_, _, _, _, _, _, _, _, hlen⟩ := hlen
      have run := run_at (us := [.ref a1]) (vs := [.ref a1]) (E := WE W) k4 (passAt tk σ) I1 (.cons rfl .nil) (spD_of (n := n) r1 (.cons q1 .nil) (hlen _ _) (by rw [← back_eq]; exact p1))
      unfold unaryOp
      refine wpAny_holding ?_
      dsimp only
      rw [if_neg (by decide)]
      exact wpAny_bind (PySem.W.special_fn I1.kIn J k3.at_ (beq_iff_eq.mp k3.fn) (wpAny_mono run (fun v s' q => wpAny_pure q) fun _ _ e => e))
end
end FW

/-! FwV: sorted. -/
namespace FW
open PySem PySem.Spec PyProof.Rows L2
theorem perm_uniq {α : Type} {r : α → α → Prop} (anti : ∀ a b, r a b → r b a → a = b) : ∀ {l m : List α}, l.Pairwise r → m.Pairwise r → l.Perm m → l = m
  | [], m, _, _, h => h.nil_eq
  | a :: l, [], _, _, h => absurd h.length_eq (by simp)
  | a :: l, b :: m, hl, hm, h => by
    obtain ⟨l1, l2⟩ := List.pairwise_cons.mp hl
    obtain ⟨m1, m2⟩ := List.pairwise_cons.mp hm
    have e : a = b := by
      rcases List.mem_cons.mp (h.mem_iff.mp (List.mem_cons_self (a := a) (l := l))) with e | ha
      · exact e
      rcases List.mem_cons.mp (h.mem_iff.mpr (List.mem_cons_self (a := b) (l := m))) with e | hb
      · exact e.symm
      exact anti a b (l1 b hb) (m1 a ha)
    subst e
    rw [perm_uniq anti l2 m2 h.cons_inv]
def leP (a b : Int × Int) : Bool := decide (a.1 < b.1 ∨ (a.1 = b.1 ∧ a.2 ≤ b.2))
def isortI (l : List Int) : List Int := l.mergeSort fun a b => decide (a ≤ b)
def isortP (l : List (Int × Int)) : List (Int × Int) := l.mergeSort leP
theorem isortI_perm (l : List Int) : (isortI l).Perm l := List.mergeSort_perm _ _
theorem isortP_perm (l : List (Int × Int)) : (isortP l).Perm l := List.mergeSort_perm _ _
theorem isortI_le (l : List Int) : (isortI l).Pairwise (· ≤ ·) := by
  have h := List.pairwise_mergeSort (le := fun a b : Int => decide (a ≤ b)) (fun a b c h1 h2 => by simp at *; omega) (fun a b => by simp; omega) l
  exact h.imp fun x => of_decide_eq_true x
theorem isortP_le (l : List (Int × Int)) : (isortP l).Pairwise fun a b => leP a b = true :=
  List.pairwise_mergeSort (fun a b c h1 h2 => by simp [leP] at *; omega) (fun a b => by simp [leP]; omega) l
theorem leP_anti (a b : Int × Int) (h1 : leP a b = true) (h2 : leP b a = true) : a = b := by
  simp [leP] at h1 h2
  exact Prod.ext (by omega) (by omega)
def pairD : D → Option (Int × Int)
  | .tup [.int i, .int j] => some (i, j)
  | _ => none
def pairsD : List D → Option (List (Int × Int))
  | [] => some []
  | d :: r => (pairD d).bind fun p => (pairsD r).map (p :: ·)
def prD (p : Int × Int) : D := .tup [.int p.1, .int p.2]
theorem pairD_eq {d : D} {p : Int × Int} (h : pairD d = some p) : d = prD p := by
  unfold pairD at h
  split at h <;> cases h
  rfl
theorem pairsD_eq : ∀ {l : List D} {ps : List (Int × Int)}, pairsD l = some ps → l = ps.map prD
  | [], _, h => by cases h; rfl
  | d :: r, _, h => by
    obtain ⟨p, h1, h2⟩ := Option.bind_eq_some_iff.mp (show (pairD d).bind (fun p => (pairsD r).map (p :: ·)) = _ from h)
    obtain ⟨ps, h3, rfl⟩ := Option.map_eq_some_iff.mp h2
    rw [pairD_eq h1, pairsD_eq h3]; rfl
def sortD (l : List D) : Option (List D) := match intsD l with
  | some ns => some ((isortI ns).map .int)
  | none => (pairsD l).map fun ps => (isortP ps).map prD
/-- a list's items -/
def listD : D → Option (List D)
  | .lst l => some l
  | .scr l => some l
  | _ => none
section
variable {T : Txt} {W : WX} {X : Cx} {G : Ent} {w w' : Wd} {st : State} {σ : L2.St} {H H' : Hp} {a b e o : Expr} {es : List Expr} {ca cb : State → R D} {p pos : Pos}
theorem listD_at (hK : X.K = T.K) (s : Sub w H) {d : D} {v : V} {l : List D} (h : RepV T w d v) (e : listD d = some l) : ∃ a vs, v = .ref a ∧ SqL X.K H a vs ∧ RepVs T w l vs := by
  cases d <;> first | (cases e; done) | skip
  · cases e
    obtain ⟨a, vs, rfl, q, r⟩ := h.lst_at s
    exact ⟨a, vs, rfl, SqL.of q, r⟩
  · cases e
    obtain ⟨a, vs, rfl, q, r⟩ := h.scr_at s
    exact ⟨a, vs, rfl, hK ▸ q, r⟩
def rSrt (T : Txt) : List V → Hp → VK → Prop := fun vs H Q => ∃ w d l l' v, vs = [v] ∧ Sub w H ∧ RepV T w d v ∧ listD d = some l ∧ sortD l = some l' ∧ ∀ ys p, RepVs T w l' ys → H p = none → Q (.ref p) (upd H p (.lst ys))
theorem rep_ints {w : Wd} : ∀ ns : List Int, RepVs T w (ns.map .int) (ns.map V.int)
  | [] => .nil
  | n :: ns => .cons .int_ (rep_ints ns)
/-- sorted(list of pairs), the pairs wherever they stand -/
def rSortedQ (K : PySem.W.Frag) : List V → Hp → VK → Prop := fun vs H Q => ∃ (a : Addr) (xs : List V) (k : V → Int × Int), vs = [V.ref a] ∧ SqL K H a xs ∧ (∀ x ∈ xs, ∃ t, x = V.ref t ∧ SqT K H t [.int (k x).1, .int (k x).2]) ∧
  ∀ ys p, SrtO.Srtd (ltP k) ys → SrtO.Stb (ltP k) ys xs → H p = none → Q (.ref p) (upd H p (.lst ys))
theorem cr_sortedQ : CallR X (.builtin "sorted") (rSortedQ X.K) := by
  intro pins s σ H vs us Q I r h
  obtain ⟨la, xs, key, rfl, hs, hx, q⟩ := h
  obtain ⟨its, rv, hl, hz⟩ := I.list hs
  obtain ⟨u, rfl, ru⟩ := vals1 r
  obtain rfl : u = Value.ref la := ru
  obtain ⟨e1, e2⟩ := refs_back rv fun x m => (hx x m).imp fun t z => z.1
  refine SrtO.sorted_pairsO (k := fun u => key (backV u)) hl.isList (by rw [← rv.length]; exact hz) (fun v hv => ?_) fun h' d out h1 h2 kp hd hn => ?_
  · obtain ⟨t, rfl⟩ := e2 v hv
    obtain ⟨t', e, ht⟩ := hx _ (show V.ref t ∈ xs by rw [e1]; exact List.mem_map.mpr ⟨_, hv, rfl⟩)
    cases e
    obtain ⟨its2, r2, ⟨ob, ho, hc, n, hd⟩, _⟩ := I.tuple ht
    obtain ⟨u1, u2, rfl, ⟨t1, rfl⟩, ⟨t2, rfl⟩⟩ := vals2 r2
    exact ⟨t, ob, t1, t2, n, rfl, ho, hc, hd⟩
  · obtain ⟨n, hn⟩ := hn
    have hb : SrtO.Stb (ltP key) (out.map backV) xs := e1 ▸ SrtO.Stb.map (ltP_swo key) backV h2
    exact ⟨.ref d, upd H d (.lst (out.map backV)), I.laid (t' := s.toks) kp hd ⟨hb.len ▸ hz, out, n, vals_back fun u hu => e2 u (h2.perm.mem_iff.mp hu), hn⟩, rfl, q _ d (SrtO.srtd_map h1) hb (I.hok.fresh hd)⟩
open Classical in
theorem call_srt (hK : X.K = T.K) : CallR X (.builtin "sorted") (rSrt T) := by
  intro pins s σ H vs us Q I r h
  obtain ⟨w, d, l, l', v, rfl, sb, rv, el, es, q⟩ := h
  obtain ⟨la, xs, rfl, hl, rl⟩ := listD_at hK sb rv el
  unfold sortD at es
  cases ei : intsD l with
  | some ns =>
    rw [ei] at es
    cases es
    rw [ints_rep rl ei] at hl
    refine cr_sortedI pins s σ H _ us Q I r ⟨la, ns, rfl, hl, fun ns' p h1 h2 h3 => ?_⟩
    have e : ns' = isortI ns := perm_uniq (r := (· ≤ ·)) (fun a b h h' => by omega) h2 (isortI_le ns) (h1.trans (isortI_perm ns).symm)
    subst e
    exact q _ p (rep_ints _) h3
  | none =>
    rw [ei] at es
    obtain ⟨ps, ep, rfl⟩ := Option.map_eq_some_iff.mp es
    have ed := pairsD_eq ep
    let key : V → Int × Int := fun x => if h : ∃ p : Int × Int, ∃ t, x = V.ref t ∧ SqT X.K H t [.int p.1, .int p.2] then Classical.choose h else (0, 0)
    have hkey : ∀ (p : Int × Int) t, SqT X.K H t [.int p.1, .int p.2] → key (.ref t) = p := fun p t ht => by
      have ex : ∃ p : Int × Int, ∃ t', V.ref t = V.ref t' ∧ SqT X.K H t' [.int p.1, .int p.2] := ⟨p, t, rfl, ht⟩
      have e : key (.ref t) = Classical.choose ex := dif_pos ex
      obtain ⟨t', e2, h2⟩ := Classical.choose_spec ex
      cases e2
      have e3 := I.tuple_inj h2 ht
      simp only [List.cons.injEq, L2.V.int.injEq, and_true] at e3
      rw [e]
      exact Prod.ext e3.1 e3.2
    have hrep : ∀ (qs : List (Int × Int)) (zs : List V), RepVs T w (qs.map prD) zs → zs.map key = qs ∧ ∀ x ∈ zs, RepV T w (prD (key x)) x ∧ ∃ t, x = V.ref t ∧ SqT X.K H t [.int (key x).1, .int (key x).2] := fun qs => by
      induction qs with
      | nil => intro zs h; rw [h.nil_eq]; exact ⟨rfl, fun x hx => by cases hx⟩
      | cons p qs ih =>
        intro zs h
        obtain ⟨z, zs, rfl, h1, h2⟩ := h.uncons
        obtain ⟨i1, i2⟩ := ih zs h2
        obtain ⟨t, ws, rfl, k1, k2⟩ := h1.tup_at sb
        obtain ⟨x1, r1, rfl, y1, y2⟩ := k2.uncons
        obtain ⟨x2, r2, rfl, y3, y4⟩ := y2.uncons
        rw [y1.int_eq, y3.int_eq, y4.nil_eq] at k1
        have k1 := hK ▸ k1
        have ek := hkey p t k1
        refine ⟨by rw [List.map_cons, ek, i1], fun x hx => ?_⟩
        rcases List.mem_cons.mp hx with rfl | hx
        · rw [ek]; exact ⟨h1, t, rfl, k1⟩
        · exact i2 x hx
    obtain ⟨g1, g2⟩ := hrep ps xs (ed ▸ rl)
    refine cr_sortedQ pins s σ H _ us Q I r ⟨la, xs, key, rfl, hl, fun x hx => (g2 x hx).2, fun ys p h1 h2 h3 => ?_⟩
    have em : ys.map key = isortP ps := by
      refine perm_uniq (r := fun a b => leP a b = true) leP_anti ?_ (isortP_le ps) (((h2.perm.map key).trans (by rw [g1])).trans (isortP_perm ps).symm)
      refine List.pairwise_map.mpr (List.Pairwise.imp (fun {x y} h => ?_) h1)
      have := SrtO.lexB_no.mp h
      simp [leP]
      omega
    refine q ys p ?_ h3
    rw [← em]
    have : ∀ zs : List V, (∀ z ∈ zs, RepV T w (prD (key z)) z) → RepVs T w ((zs.map key).map prD) zs := fun zs => by
      induction zs with
      | nil => exact fun _ => .nil
      | cons z zs ih => exact fun h => .cons (h z (List.mem_cons_self ..)) (ih fun y hy => h y (List.mem_cons_of_mem _ hy))
    exact this ys fun z hz => (g2 z (h2.perm.mem_iff.mp hz)).1
def cSrt (c : State → R D) : State → R (List D) := fun st => (c st).bind fun d s => R.lift ((listD d).bind sortD) s
theorem df_srt (hK : X.K = T.K) (hg : Gl X "sorted") (hm : X.mg "sorted" = none) (ha : DE T W X a ca) (h1 : starEach [a] X.env = (false, eval a X.env) :: starEach [] X.env) : DF T W X (.Call (.Name "sorted" p) [a] [] pos) (cSrt ca) := by
  refine (pe_callB (call_srt hK) hg hm (by decide +kernel) (pa_cons ha pa_nil h1) (he := h1) (hpl := rfl)).imp fun σ H Q ⟨G, w, st, r, q⟩ => ?_
  refine (df_seqE r q).imp fun x H1 ⟨w1, d1, s1, l1, r1, q1, p1⟩ => ?_
  cases e : (listD d1).bind sortD with
  | none => rw [e] at p1; exact p1.elim
  | some l' =>
    rw [e] at p1
    obtain ⟨l, e1, e2⟩ := Option.bind_eq_some_iff.mp e
    exact ⟨w1, d1, l, l', x, rfl, r1.sub, q1, e1, e2, fun ys p ry hp => PostF.new r1 p1 ry p hp⟩
/-! ### o.pop(), list(o) -/
def cPop0 (a : State → R Bor) : State → R D := fun st => (a st).bind fun x s => match content s x with
  | some l => (match l[l.length - 1]? with
    | some d => .ok d (wrContent s l.dropLast x)
    | none => .bad)
  | none => .bad
theorem de_pop0 {cx : State → R Bor} {apos cpos : Pos} (ho : DB T W X a cx) (hbase : attributeBase a "pop" X.env (eval a X.env) = eval a X.env) (hline : (apos.endLine == cpos.line) = true) :
    DE T W X (.Call (.Attribute a "pop" apos) [] [] cpos) (cPop0 cx) := by
  refine (pe_bm0 PySem.F.plainAttrs_list PySem.F.slot_list_pop PySem.F.type_list_pop mt_pop ho hbase hline).imp fun σ H Q ⟨G, w, st, r, p⟩ => ?_
  refine (seqB r p).imp fun x H1 ⟨w1, d1, s1, l1, r1, q1, p1⟩ => ?_
  cases e : content s1 d1 with
  | none => rw [e] at p1; exact p1.elim
  | some l =>
    rw [e] at p1
    have p1 : Post T W G w1 σ (RepV T) (match l[l.length - 1]? with
      | some d => .ok d (wrContent s1 l.dropLast d1)
      | none => .bad) Q := p1
    cases e2 : l[l.length - 1]? with
    | none => rw [e2] at p1; exact p1.elim
    | some d =>
      rw [e2] at p1
      obtain ⟨a', vs, rfl, h1, h2⟩ := r1.content q1 e
      obtain ⟨v, e3, q3⟩ := h2.get e2
      have hd : RepVs T w1 l.dropLast vs.dropLast := by
        rw [List.dropLast_eq_take, List.dropLast_eq_take, ← h2.length]
        exact h2.take _
      refine ⟨.inl ⟨rfl, vs, SqL.of h1⟩, a', vs, v, rfl, rfl, h1, by rw [← h2.length]; exact e3, ?_⟩
      exact p1 w1 v _ (.refl _) (r1.wrBor q1 e hd) q3
def cListOf (c : State → R D) : State → R (List D) := fun st => (c st).bind fun d s => R.lift (itemsD d) s
theorem df_list (hK : X.K = T.K) (hg : Gl X "list") (hm : X.mg "list" = none) (ha : DE T W X a ca) (h1 : starEach [a] X.env = (false, eval a X.env) :: starEach [] X.env) : DF T W X (.Call (.Name "list" p) [a] [] pos) (cListOf ca) := by
  refine (pe_callTy call_list_of hg hm (by decide +kernel) (pa_cons ha pa_nil h1) (he := h1) (hpl := rfl)).imp fun σ H Q ⟨G, w, st, r, q⟩ => ?_
  refine (df_seqE r q).imp fun x H1 ⟨w1, d1, s1, l1, r1, q1, p1⟩ => ?_
  cases e : itemsD d1 with
  | none => rw [e] at p1; exact p1.elim
  | some l =>
    rw [e] at p1
    cases d1 <;> first | (cases e; done) | skip
    · cases e
      obtain ⟨a', vs, rfl, k1, k2⟩ := q1.tup_at r1.sub
      exact ⟨a', vs, rfl, .inr (hK ▸ k1), PostF.new r1 p1 k2⟩
    · cases e
      obtain ⟨a', vs, rfl, k1, k2⟩ := q1.lst_at r1.sub
      exact ⟨a', vs, rfl, .inl (SqL.of k1), PostF.new r1 p1 k2⟩
    · cases e
      obtain ⟨a', vs, rfl, k1, k2⟩ := q1.scr_at r1.sub
      exact ⟨a', vs, rfl, .inl (hK ▸ k1), PostF.new r1 p1 k2⟩
end
end FW

/-! FwW: enumerate, zip of two and of three sequences of any kinds, range with a step. -/
namespace FW
open PySem PySem.Spec PyProof.Rows L2
/-! ### sources: lists (false) and tuples (true) -/
def SqS (b : Bool) (K : PySem.W.Frag) (H : Hp) (a : Addr) (xs : List V) : Prop := match b with
  | true => SqT K H a xs
  | false => SqL K H a xs
def SrcA (b : Bool) (h : Heap) (a : Addr) (its : Array Value) : Prop := match b with
  | true => h.IsTuple a its
  | false => h.IsList a its
def ItA (b : Bool) (h : Heap) (i a : Addr) (n : Nat) : Prop := match b with
  | true => h.IsTupleIter i a n
  | false => h.IsListIter i a n
def itO (b : Bool) (a : Addr) : Obj := match b with
  | true => { cls := .type "tuple_iterator", data := .fields #[.ref a, .int 0 0] }
  | false => { cls := .type "list_iterator", data := .fields #[.ref a, .int 0 0] }
section
variable {X : Cx} {pins : List (Addr × Obj)} {σ : L2.St} {H : Hp} {s : Shared} {a i : Addr} {xs ys : List V} {its : Array Value} {h h' : Heap} {n : Nat} {prog : Program} {w : World} {A : Around}
theorem SrcA.of (b : Bool) (I : Inv X pins σ H s) (q : SqS b X.K H a xs) : ∃ us : List Value, Vals xs us ∧ SrcA b s.heap a us.toArray ∧ xs.length ≤ sizeLine := by
  cases b with
  | true =>
    obtain ⟨us, r, p, z⟩ := I.tuple q
    exact ⟨us, r, p, z⟩
  | false =>
    obtain ⟨us, r, p, z⟩ := I.list q
    exact ⟨us, r, p.isList, z⟩
theorem SqS.inj (b : Bool) (I : Inv X pins σ H s) (q : SqS b X.K H a xs) (q' : SqS b X.K H a ys) : xs = ys := by
  cases b with
  | true => exact I.tuple_inj q q'
  | false => exact I.list_inj q q'
theorem begins_src (b : Bool) (a : Addr) (its : Array Value) : Begins (.ref a) (itO b a) (fun h => SrcA b h a its) := by
  cases b with
  | true => exact begins_tuple a its
  | false => exact begins_list a its
theorem ItA.new (b : Bool) (e : h.get? i = some (itO b a)) : ItA b h i a 0 := by
  cases b with
  | true => exact ⟨_, e, rfl, rfl⟩
  | false => exact ⟨_, e, rfl, rfl⟩
theorem ItA.keep (b : Bool) (x : ItA b h i a n) (k : ∀ o, h.get? i = some o → h'.get? i = some o) : ItA b h' i a n := by
  cases b with
  | true => obtain ⟨o, e, c, d⟩ := x; exact ⟨o, k o e, c, d⟩
  | false => obtain ⟨o, e, c, d⟩ := x; exact ⟨o, k o e, c, d⟩
theorem ItA.ob (b : Bool) (x : ItA b h i a n) : ∃ o, h.get? i = some o ∧ ∀ v, o.data ≠ .cell v := by
  cases b with
  | true => obtain ⟨o, e, c, d⟩ := x; exact ⟨o, e, fun v q => by rw [d] at q; cases q⟩
  | false => obtain ⟨o, e, c, d⟩ := x; exact ⟨o, e, fun v q => by rw [d] at q; cases q⟩
theorem SrcA.lt (b : Bool) (x : SrcA b h a its) : a < h.objs.size := by
  cases b with
  | true => obtain ⟨o, e, _⟩ := x; exact Heap.lt_size e
  | false => obtain ⟨o, e, _⟩ := x; exact Heap.lt_size e
theorem draws_src (b : Bool) (hh : A.handled = none) (i a : Addr) (ne : a ≠ i) (its : Array Value) : Draws prog w A i [i, a] its.size (fun j v => its[j]? = some v) (fun j h => ItA b h i a j ∧ SrcA b h a its) := by
  cases b with
  | true => exact Draws.tuple hh i a ne its
  | false => exact Draws.list hh i a ne its
end
/-! ### turns by what an iterator of tuples does over the heap -/
theorem turn_of {P : Program} {w : World} {K : PySem.W.Frag} {tg : Expr} {J : It} {fp : List Addr} {it : Addr} {tn : Nat → Heap → Prop} (mem : it ∈ fp)
    (obj : ∀ i h, tn i h → ∀ b ∈ fp, ∃ o, h.get? b = some o ∧ ∀ v, o.data ≠ .cell v)
    (keep : ∀ i h h', tn i h → (∀ b ∈ fp, ∀ o, h.get? b = some o → h'.get? b = some o) → tn i h')
    (self : ∀ (A : Around) (i : Nat) (s : Shared) (Q : Value → Shared → Prop) (E : Value → Shared → Prop), tn i s.heap → Q (.ref it) s → wpAny (model P w) A (pyIter (.ref it)) Q E s)
    (go : ∀ (X : Cx) (pins : List (Addr × Obj)) (s : Shared) (σ : L2.St) (H : Hp) (i : Nat), X.prog = P → X.w = w → X.K = K → X.A.handled = none → Inv X pins σ H s → tn i s.heap → J.go i H →
      ∃ fa wr n Y St, GoesN P w X.A tg it fa wr n Y St ∧ (∀ b ∈ wr, b ∈ fp) ∧ i < n ∧ St i s.heap ∧ (∀ h, St (i + 1) h → tn (i + 1) h) ∧
        ∀ v h, Y i s.heap v h → ∃ T xs us, v = .ref T ∧ s.heap.objs.size ≤ T ∧ Vals xs us ∧ xs.length ≤ sizeLine ∧ IsTup h T us.toArray ∧ (H T = none → J.yld i H (.ref T) (upd H T (.tup xs))))
    (stop : ∀ (X : Cx) (pins : List (Addr × Obj)) (s : Shared) (σ : L2.St) (H : Hp) (i : Nat), X.prog = P → X.w = w → X.K = K → X.A.handled = none → Inv X pins σ H s → tn i s.heap → J.stop i H →
      ∃ fa wr Y St, GoesN P w X.A tg it fa wr i Y St ∧ (∀ b ∈ wr, b ∈ fp) ∧ St i s.heap) : Turn P w K tg J fp it tn where
  mem := mem
  obj := obj
  keep := keep
  self := self
  item := by
    intro X hP hw hK hc i pins s σ H E I hf st hg
    have hd := I.ok.hd hc
    obtain ⟨fa, wr, n, Y, St, W, hwr, hi, hst, hnx, hy⟩ := go X pins s σ H i hP hw hK hd I st hg
    refine W.goes i s (fun u s2 => ∃ x H', Inv X pins σ H' s2 ∧ RelV x u ∧ J.yld i H x H' ∧ tn (i + 1) s2.heap ∧ ∀ b ∈ fp, H' b = none) E hi hst fun v h' tk hY st' hk htk => ?_
    obtain ⟨T, xs, us, rfl, hT, rv, hz, ht, yl⟩ := hy v h' hY
    have hn : H T = none := I.hok.fresh hT
    have nw : ObjOk X.prog X.w (upd H T (.tup xs)) h' T (.tup xs) := ⟨hz, us, rv, ht⟩
    have I1 : Inv X pins σ (upd H T (.tup xs)) { s with heap := h', toks := tk } := I.turnedNew (ch := wr) (fun b o hb e => hk b o hb e) (fun b hb => hf b (hwr b hb)) hT nw
    refine ⟨.ref T, _, I1, rfl, yl hn, hnx h' st', fun b hb => ?_⟩
    obtain ⟨o, e, _⟩ := obj i s.heap st b hb
    have hlt := Heap.lt_size e
    rw [upd_ne (Nat.ne_of_lt (Nat.lt_of_lt_of_le hlt hT))]
    exact (hf b hb).1
  done := by
    intro X hP hw hK hc i pins s σ H E I hf st hg
    have hd := I.ok.hd hc
    obtain ⟨fa, wr, Y, St, W, hwr, hst⟩ := stop X pins s σ H i hP hw hK hd I st hg
    exact W.stops s (fun s1 => Inv X pins σ H s1) E hst fun h' tk hk htk => I.turnedL (ch := wr) (fun b o hb e => hk b o hb e) fun b hb => hf b (hwr b hb)
/-! ### enumerate -/
def IteS (b : Bool) (K : PySem.W.Frag) (a : Addr) : It :=
  ⟨fun i H => ∃ xs x, SqS b K H a xs ∧ xs[i]? = some x, fun i H v H' => ∃ T x, v = .ref T ∧ H T = none ∧ H' = upd H T (.tup [.int (i : Nat), x]) ∧ ∀ xs, SqS b K H a xs → xs[i]? = some x, fun i H => ∃ xs, SqS b K H a xs ∧ xs.length = i⟩
theorem size_vals {xs : List V} {us : List Value} (r : Vals xs us) : us.toArray.size = xs.length := by rw [List.size_toArray]; exact r.length.symm
theorem turn_enumS {P : Program} {w : World} {K : PySem.W.Frag} {elts : List Expr} {kk : Nat} {tpos : Pos} (b : Bool) (a e it : Addr) (hei : e ≠ it) (hea : e ≠ a) (hai : a ≠ it) :
    Turn P w K (.Tuple elts kk tpos) (IteS b K a) [e, it] e (fun i h => (∃ old, IsEnum h e it (0 + ((i : Nat) : Int)) old) ∧ ItA b h it a i) := by
  have hef : e ∉ [it, a] := by simp [hei, hea]
  refine turn_of (by simp) (fun i h st c hc => ?_) (fun i h h' st k => ?_) (fun A i s Q E st h => let ⟨⟨_, he⟩, _⟩ := st; wpAny_pyIter_enum he h) ?_ ?_
  · obtain ⟨⟨old, he⟩, hi⟩ := st
    have e' : c = e ∨ c = it := by simpa using hc
    rcases e' with z | z
    · rw [z]; exact ⟨_, he, fun v q => nomatch q⟩
    · rw [z]; exact hi.ob b
  · obtain ⟨⟨old, he⟩, hi⟩ := st
    exact ⟨⟨old, k e (by simp) _ he⟩, hi.keep b fun o q => k it (by simp) o q⟩
  · intro X pins s σ H i hP hw hK hd I st hg
    subst hP hw hK
    obtain ⟨xs, x, q, hx⟩ := hg
    obtain ⟨us, rv, src, hz⟩ := SrcA.of b I q
    have W := GoesN.enumFrom (prog := X.prog) (w := X.w) (elts := elts) (x1 := kk) (pos := tpos) 0 (draws_src b (A := X.A.in1) (prog := X.prog) (w := X.w) (by simp [hd]) it a hai us.toArray) e hei hef (by simp)
    refine ⟨_, _, _, _, _, W, fun c hc => hc, ?_, ⟨st.1, st.2, src⟩, fun h' st' => ⟨st'.1, st'.2.1⟩, fun v h' hY => ?_⟩
    · rw [size_vals rv]; exact (List.getElem?_eq_some_iff.mp hx).1
    · obtain ⟨T, t, u, rfl, hT, hu, ht⟩ := hY
      obtain ⟨u', hu', ru⟩ := rv.get hx
      have eu : u' = u := by
        have hu : us.toArray[i]? = some u := hu
        rw [List.getElem?_toArray, hu'] at hu
        exact Option.some.inj hu
      subst eu
      have e0 : (0 : Int) + ((i : Nat) : Int) = ((i : Nat) : Int) := Int.zero_add _
      rw [e0] at ht
      exact ⟨T, [.int (i : Nat), x], [.int i t, u'], rfl, hT, .cons ⟨_, rfl⟩ (.cons ru .nil), by rw [sizeLine_eq]; simp, ht, fun hn => ⟨T, x, rfl, hn, rfl, fun ys hy => by rw [SqS.inj b I hy q]; exact hx⟩⟩
  · intro X pins s σ H i hP hw hK hd I st hg
    subst hP hw hK
    obtain ⟨xs, q, hx⟩ := hg
    obtain ⟨us, rv, src, hz⟩ := SrcA.of b I q
    have W := GoesN.enumFrom (prog := X.prog) (w := X.w) (elts := elts) (x1 := kk) (pos := tpos) 0 (draws_src b (A := X.A.in1) (prog := X.prog) (w := X.w) (by simp [hd]) it a hai us.toArray) e hei hef (by simp)
    rw [size_vals rv, hx] at W
    exact ⟨_, _, _, _, W, fun c hc => hc, st.1, st.2, src⟩
set_option maxHeartbeats 1000000 in
theorem meets_enum1 {v : Value} {o : Obj} {Hq : Heap → Prop} (B : Begins v o Hq) :
    Meets (Builtin.«enumerate.__new__» ⟨[.type "enumerate", v], []⟩) (fun _ R s => Hq s.heap ∧
      R (.ok (.ret (.ref (s.heap.push o).objs.size))) { s with heap := (s.heap.push o).push { cls := .type "enumerate", data := .fields #[.none, .bool false, .ref s.heap.objs.size, rawInt 0, .none, .none] } }) :=
  .of_wp fun prog w A R s h => by
    obtain ⟨hp, g, d, tk, os⟩ := s
    obtain ⟨h1, h⟩ := h
    have hsub := sub_enumerate
    have q1 : ∀ {A2 : Around} {E2 : Value → Shared → Prop} {Q2 : Value → Shared → Prop}, Q2 (.ref hp.objs.size) ⟨hp.push o, g, d, tk, os⟩ → wpAny (model prog w) A2 (pyIter v) Q2 E2 ⟨hp, g, d, tk, os⟩ :=
      fun z => B.iter prog w _ _ ⟨hp, g, d, tk, os⟩ _ h1 z
    wp_walk using q1
    refine wpAny_stack_any fun st2 => wpAny_pure ?_
    split
    · rename_i c2 _ _ _ _ _
      cases (c2 == Value.type "enumerate")
      · wp_walk using q1
        exact ⟨_, rfl, h⟩
      · wp_walk using q1
        exact ⟨_, rfl, h⟩
    · wp_walk using q1
      exact ⟨_, rfl, h⟩
theorem call_enum1 {prog : Program} {w : World} {A : Around} {E : Value → Shared → Prop} {s : Shared} {v : Value} {o : Obj} {Hq : Heap → Prop} {Q : Value → Shared → Prop} (B : Begins v o Hq) (h1 : Hq s.heap)
    (h : ∀ h2, IsEnum h2 (s.heap.objs.size + 1) s.heap.objs.size 0 .none → h2.get? s.heap.objs.size = some o → h2.objs.size = s.heap.objs.size + 2 →
      (∀ b u, s.heap.get? b = some u → h2.get? b = some u) → Q (.ref (s.heap.objs.size + 1)) { s with heap := h2 }) :
    wpAny (model prog w) A (PySem.call (.type "enumerate") [v]) Q E s := by
  refine callType_new F.called_enumerate (by decide) (F.typeCall_enumerate_1 _) (F.newCall_enumerate_1 _) (fun ob => F.args_object_init_2 ob _) F.entry_enumerate_new (meets_enum1 B) ⟨h1, ?_⟩
  have hz2 : (s.heap.push o).objs.size = s.heap.objs.size + 1 := Heap.size_push ..
  show _ ∧ _
  rw [hz2]
  have hen : IsEnum ((s.heap.push o).push { cls := .type "enumerate", data := .fields #[.none, .bool false, .ref s.heap.objs.size, rawInt 0, .none, .none] }) (s.heap.objs.size + 1) s.heap.objs.size 0 .none := by
    have z := Heap.get?_push_size (s.heap.push o) (o := { cls := .type "enumerate", data := .fields #[.none, .bool false, .ref s.heap.objs.size, rawInt 0, .none, .none] }) rfl
    rw [hz2] at z
    exact z
  exact ⟨⟨_, hen, rfl⟩, h _ hen (Heap.get?_push_of_some _ (Heap.get?_push_size _ B.free)) (by rw [Heap.size_push, hz2]) fun b u x => Heap.get?_push_of_some _ (Heap.get?_push_of_some _ x)⟩
def iEnumS (K : PySem.W.Frag) (ta : TA) : TI := fun σ H R => ta σ H fun vs H1 => ∃ b a xs, vs = [.ref a] ∧ SqS b K H1 a xs ∧ R (IteS b K a) H1
theorem pi_enumS {X : Cx} {e : Expr} {ta : TA} {p pos tpos : Pos} {elts : List Expr} {kk : Nat} (hg : Gl X "enumerate") (hm : X.mg "enumerate" = none) (ha : PA X [e] ta) (hs : starEach [e] X.env = [(false, eval e X.env)]) :
    PI X (.Tuple elts kk tpos) (.Call (.Name "enumerate" p) [e] [] pos) (iEnumS X.K ta) := by
  refine ⟨fun pins s σ H R I h => ?_⟩
  refine Call_ (ld_blt I hg hm boot_enumerate (PyProof.Rows.callWith_type1 (thn (ha.run pos pins s σ H _ I h) fun us s1 ⟨vs, H1, I1, r1, q1⟩ => ?_) hs rfl))
  obtain ⟨b, a, xs, rfl, hq, q⟩ := q1
  obtain ⟨u, rfl, ru⟩ := vals1 r1
  obtain rfl : u = Value.ref a := ru
  obtain ⟨its, rv, src, hz⟩ := SrcA.of b I1 hq
  have hlt := src.lt b
  refine call_enum1 (begins_src b a its.toArray) src fun h2 he hi hsz hk => wpAny_pyIter_enum he ?_
  have I2 : Inv X pins σ H1 { s1 with heap := h2 } := I1.kept (t' := s1.toks) hk
  refine ⟨s1.heap.objs.size + 1, [s1.heap.objs.size + 1, s1.heap.objs.size], _, _, H1, rfl, I2, turn_enumS b a (s1.heap.objs.size + 1) s1.heap.objs.size (Nat.succ_ne_self _) (Nat.ne_of_gt (Nat.lt_succ_of_lt hlt)) (Nat.ne_of_lt hlt), ⟨⟨.none, he⟩, ItA.new b hi⟩, fun c hc => ?_, q⟩
  have e' : c = s1.heap.objs.size + 1 ∨ c = s1.heap.objs.size := by simpa using hc
  have hle : s1.heap.objs.size ≤ c := by
    rcases e' with z | z
    · rw [z]; exact Nat.le_succ _
    · rw [z]; exact Nat.le_refl _
  exact I1.fpOk hle (I1.hok.fresh hle)
/-! ### zip of two, of three -/
def Itz2 (b1 b2 : Bool) (K : PySem.W.Frag) (a1 a2 : Addr) : It :=
  ⟨fun i H => ∃ xs ys x y, SqS b1 K H a1 xs ∧ SqS b2 K H a2 ys ∧ xs[i]? = some x ∧ ys[i]? = some y,
    fun i H v H' => ∃ T x y, v = .ref T ∧ H T = none ∧ H' = upd H T (.tup [x, y]) ∧ (∀ xs, SqS b1 K H a1 xs → xs[i]? = some x) ∧ ∀ ys, SqS b2 K H a2 ys → ys[i]? = some y,
    fun i H => ∃ xs ys, SqS b1 K H a1 xs ∧ SqS b2 K H a2 ys ∧ min xs.length ys.length = i⟩
def Itz3 (b1 b2 b3 : Bool) (K : PySem.W.Frag) (a1 a2 a3 : Addr) : It :=
  ⟨fun i H => ∃ xs ys zs x y z, SqS b1 K H a1 xs ∧ SqS b2 K H a2 ys ∧ SqS b3 K H a3 zs ∧ xs[i]? = some x ∧ ys[i]? = some y ∧ zs[i]? = some z,
    fun i H v H' => ∃ T x y z, v = .ref T ∧ H T = none ∧ H' = upd H T (.tup [x, y, z]) ∧ (∀ xs, SqS b1 K H a1 xs → xs[i]? = some x) ∧ (∀ ys, SqS b2 K H a2 ys → ys[i]? = some y) ∧ ∀ zs, SqS b3 K H a3 zs → zs[i]? = some z,
    fun i H => ∃ xs ys zs, SqS b1 K H a1 xs ∧ SqS b2 K H a2 ys ∧ SqS b3 K H a3 zs ∧ min (min xs.length ys.length) zs.length = i⟩
theorem val_at {xs : List V} {us : List Value} {i : Nat} {x : V} {u : Value} (r : Vals xs us) (hx : xs[i]? = some x) (hu : us.toArray[i]? = some u) : RelV x u := by
  obtain ⟨u', e, ru⟩ := r.get hx
  rw [List.getElem?_toArray, e] at hu
  cases hu; exact ru
theorem turn_zipS2 {P : Program} {w : World} {K : PySem.W.Frag} {elts : List Expr} {kk : Nat} {tpos : Pos} (b1 b2 : Bool) {a1 a2 z TI TO i1 i2 : Addr} (S : ZipSep2 z TI TO i1 i2 [i1, a1] [i2, a2]) (n1 : a1 ≠ i1) (n2 : a2 ≠ i2) :
    Turn P w K (.Tuple elts kk tpos) (Itz2 b1 b2 K a1 a2) [z, TI, TO, i1, i2] z (fun i h => IsZip h z TI TO .none ∧ IsTupOf2 h TI (.ref i1) (.ref i2) ∧ (∃ x y, IsTupOf2 h TO x y) ∧ ItA b1 h i1 a1 i ∧ ItA b2 h i2 a2 i) := by
  have wr : ∀ c ∈ [z, TO, i1, i2], c ∈ [z, TI, TO, i1, i2] := fun c hc => by
    simp only [List.mem_cons, List.not_mem_nil, or_false] at hc ⊢
    rcases hc with q | q | q | q <;> simp [q]
  refine turn_of (by simp) (fun i h st c hc => ?_) (fun i h h' st k => ?_) (fun A i s Q E st h => wpAny_pyIter_zip st.1 h) ?_ ?_
  · obtain ⟨hz, hTI, ⟨x, y, hTO⟩, h1, h2⟩ := st
    have e' : c = z ∨ c = TI ∨ c = TO ∨ c = i1 ∨ c = i2 := by simpa using hc
    rcases e' with q | q | q | q | q
    · rw [q]; exact ⟨_, hz, fun v q => nomatch q⟩
    · rw [q]; exact ⟨_, hTI, fun v q => nomatch q⟩
    · rw [q]; exact ⟨_, hTO, fun v q => nomatch q⟩
    · rw [q]; exact h1.ob b1
    · rw [q]; exact h2.ob b2
  · obtain ⟨hz, hTI, ⟨x, y, hTO⟩, h1, h2⟩ := st
    exact ⟨k z (by simp) _ hz, k TI (by simp) _ hTI, ⟨x, y, k TO (by simp) _ hTO⟩, h1.keep b1 fun o q => k i1 (by simp) o q, h2.keep b2 fun o q => k i2 (by simp) o q⟩
  · intro X pins s σ H i hP hw hK hd I st hg
    subst hP hw hK
    obtain ⟨xs, ys, x, y, q1, q2, hx, hy⟩ := hg
    obtain ⟨us, rv, src, _⟩ := SrcA.of b1 I q1
    obtain ⟨us2, rv2, src2, _⟩ := SrcA.of b2 I q2
    have W := GoesN.zip2 (prog := X.prog) (w := X.w) (A := X.A) (elts := elts) (x1 := kk) (pos := tpos) S (draws_src b1 (by simp [hd]) i1 a1 n1 us.toArray) (draws_src b2 (by simp [hd]) i2 a2 n2 us2.toArray)
    refine ⟨_, _, _, _, _, W, wr, ?_, ⟨st.1, st.2.1, st.2.2.1, ⟨st.2.2.2.1, src⟩, st.2.2.2.2, src2⟩, fun h' st' => ⟨st'.1, st'.2.1, st'.2.2.1, st'.2.2.2.1.1, st'.2.2.2.2.1⟩, fun v h' hY => ?_⟩
    · rw [size_vals rv, size_vals rv2]
      have := (List.getElem?_eq_some_iff.mp hx).1
      have := (List.getElem?_eq_some_iff.mp hy).1
      omega
    · obtain ⟨T, u1, u2, rfl, hT, hu1, hu2, ht⟩ := hY
      exact ⟨T, [x, y], [u1, u2], rfl, hT, .cons (val_at rv hx hu1) (.cons (val_at rv2 hy hu2) .nil), by rw [sizeLine_eq]; simp, ht, fun hn => ⟨T, x, y, rfl, hn, rfl, fun l hl => by rw [SqS.inj b1 I hl q1]; exact hx, fun l hl => by rw [SqS.inj b2 I hl q2]; exact hy⟩⟩
  · intro X pins s σ H i hP hw hK hd I st hg
    subst hP hw hK
    obtain ⟨xs, ys, q1, q2, hx⟩ := hg
    obtain ⟨us, rv, src, _⟩ := SrcA.of b1 I q1
    obtain ⟨us2, rv2, src2, _⟩ := SrcA.of b2 I q2
    have W := GoesN.zip2 (prog := X.prog) (w := X.w) (A := X.A) (elts := elts) (x1 := kk) (pos := tpos) S (draws_src b1 (by simp [hd]) i1 a1 n1 us.toArray) (draws_src b2 (by simp [hd]) i2 a2 n2 us2.toArray)
    rw [size_vals rv, size_vals rv2, hx] at W
    exact ⟨_, _, _, _, W, wr, ⟨st.1, st.2.1, st.2.2.1, ⟨st.2.2.2.1, src⟩, st.2.2.2.2, src2⟩⟩
theorem turn_zipS3 {P : Program} {w : World} {K : PySem.W.Frag} {elts : List Expr} {kk : Nat} {tpos : Pos} (b1 b2 b3 : Bool) {a1 a2 a3 z TI TO i1 i2 i3 : Addr} (S : ZipSep3 z TI TO i1 i2 i3 [i1, a1] [i2, a2] [i3, a3]) (n1 : a1 ≠ i1) (n2 : a2 ≠ i2) (n3 : a3 ≠ i3) :
    Turn P w K (.Tuple elts kk tpos) (Itz3 b1 b2 b3 K a1 a2 a3) [z, TI, TO, i1, i2, i3] z
      (fun i h => IsZip h z TI TO .none ∧ IsTupOf3 h TI (.ref i1) (.ref i2) (.ref i3) ∧ (∃ x y u, IsTupOf3 h TO x y u) ∧ ItA b1 h i1 a1 i ∧ ItA b2 h i2 a2 i ∧ ItA b3 h i3 a3 i) := by
  have wr : ∀ c ∈ [z, TO, i1, i2, i3], c ∈ [z, TI, TO, i1, i2, i3] := fun c hc => by
    simp only [List.mem_cons, List.not_mem_nil, or_false] at hc ⊢
    rcases hc with q | q | q | q | q <;> simp [q]
  refine turn_of (by simp) (fun i h st c hc => ?_) (fun i h h' st k => ?_) (fun A i s Q E st h => wpAny_pyIter_zip st.1 h) ?_ ?_
  · obtain ⟨hz, hTI, ⟨x, y, u, hTO⟩, h1, h2, h3⟩ := st
    have e' : c = z ∨ c = TI ∨ c = TO ∨ c = i1 ∨ c = i2 ∨ c = i3 := by simpa using hc
    rcases e' with q | q | q | q | q | q
    · rw [q]; exact ⟨_, hz, fun v q => nomatch q⟩
    · rw [q]; exact ⟨_, hTI, fun v q => nomatch q⟩
    · rw [q]; exact ⟨_, hTO, fun v q => nomatch q⟩
    · rw [q]; exact h1.ob b1
    · rw [q]; exact h2.ob b2
    · rw [q]; exact h3.ob b3
  · obtain ⟨hz, hTI, ⟨x, y, u, hTO⟩, h1, h2, h3⟩ := st
    exact ⟨k z (by simp) _ hz, k TI (by simp) _ hTI, ⟨x, y, u, k TO (by simp) _ hTO⟩, h1.keep b1 fun o q => k i1 (by simp) o q, h2.keep b2 fun o q => k i2 (by simp) o q, h3.keep b3 fun o q => k i3 (by simp) o q⟩
  · intro X pins s σ H i hP hw hK hd I st hg
    subst hP hw hK
    obtain ⟨xs, ys, zs, x, y, v3, q1, q2, q3, hx, hy, hv3⟩ := hg
    obtain ⟨us, rv, src, _⟩ := SrcA.of b1 I q1
    obtain ⟨us2, rv2, src2, _⟩ := SrcA.of b2 I q2
    obtain ⟨us3, rv3, src3, _⟩ := SrcA.of b3 I q3
    have W := GoesN.zip3 (prog := X.prog) (w := X.w) (A := X.A) (elts := elts) (x1 := kk) (pos := tpos) S (draws_src b1 (by simp [hd]) i1 a1 n1 us.toArray) (draws_src b2 (by simp [hd]) i2 a2 n2 us2.toArray) (draws_src b3 (by simp [hd]) i3 a3 n3 us3.toArray)
    refine ⟨_, _, _, _, _, W, wr, ?_, ⟨st.1, st.2.1, st.2.2.1, ⟨st.2.2.2.1, src⟩, ⟨st.2.2.2.2.1, src2⟩, st.2.2.2.2.2, src3⟩, fun h' st' => ⟨st'.1, st'.2.1, st'.2.2.1, st'.2.2.2.1.1, st'.2.2.2.2.1.1, st'.2.2.2.2.2.1⟩, fun v h' hY => ?_⟩
    · rw [size_vals rv, size_vals rv2, size_vals rv3]
      have := (List.getElem?_eq_some_iff.mp hx).1
      have := (List.getElem?_eq_some_iff.mp hy).1
      have := (List.getElem?_eq_some_iff.mp hv3).1
      omega
    · obtain ⟨T, u1, u2, u3, rfl, hT, hu1, hu2, hu3, ht⟩ := hY
      exact ⟨T, [x, y, v3], [u1, u2, u3], rfl, hT, .cons (val_at rv hx hu1) (.cons (val_at rv2 hy hu2) (.cons (val_at rv3 hv3 hu3) .nil)), by rw [sizeLine_eq]; simp, ht,
        fun hn => ⟨T, x, y, v3, rfl, hn, rfl, fun l hl => by rw [SqS.inj b1 I hl q1]; exact hx, fun l hl => by rw [SqS.inj b2 I hl q2]; exact hy, fun l hl => by rw [SqS.inj b3 I hl q3]; exact hv3⟩⟩
  · intro X pins s σ H i hP hw hK hd I st hg
    subst hP hw hK
    obtain ⟨xs, ys, zs, q1, q2, q3, hx⟩ := hg
    obtain ⟨us, rv, src, _⟩ := SrcA.of b1 I q1
    obtain ⟨us2, rv2, src2, _⟩ := SrcA.of b2 I q2
    obtain ⟨us3, rv3, src3, _⟩ := SrcA.of b3 I q3
    have W := GoesN.zip3 (prog := X.prog) (w := X.w) (A := X.A) (elts := elts) (x1 := kk) (pos := tpos) S (draws_src b1 (by simp [hd]) i1 a1 n1 us.toArray) (draws_src b2 (by simp [hd]) i2 a2 n2 us2.toArray) (draws_src b3 (by simp [hd]) i3 a3 n3 us3.toArray)
    rw [size_vals rv, size_vals rv2, size_vals rv3, hx] at W
    exact ⟨_, _, _, _, W, wr, ⟨st.1, st.2.1, st.2.2.1, ⟨st.2.2.2.1, src⟩, ⟨st.2.2.2.2.1, src2⟩, st.2.2.2.2.2, src3⟩⟩
def iZipS2 (K : PySem.W.Frag) (ta : TA) : TI := fun σ H R => ta σ H fun vs H1 => ∃ b1 b2 a1 a2 xs ys, vs = [.ref a1, .ref a2] ∧ SqS b1 K H1 a1 xs ∧ SqS b2 K H1 a2 ys ∧ R (Itz2 b1 b2 K a1 a2) H1
def iZipS3 (K : PySem.W.Frag) (ta : TA) : TI := fun σ H R => ta σ H fun vs H1 => ∃ b1 b2 b3 a1 a2 a3 xs ys zs, vs = [.ref a1, .ref a2, .ref a3] ∧ SqS b1 K H1 a1 xs ∧ SqS b2 K H1 a2 ys ∧ SqS b3 K H1 a3 zs ∧ R (Itz3 b1 b2 b3 K a1 a2 a3) H1
theorem vals3 {a b c : V} {us : List Value} (r : Vals [a, b, c] us) : ∃ u1 u2 u3, us = [u1, u2, u3] ∧ RelV a u1 ∧ RelV b u2 ∧ RelV c u3 := by
  cases r with
  | cons p q =>
    cases q with
    | cons p' q' =>
      cases q' with
      | cons p'' q'' =>
        cases q''
        exact ⟨_, _, _, rfl, p, p', p''⟩
theorem one_lt {a n : Nat} (h : a < n) : ∀ b ∈ [a], b < n := fun b hb => by rw [List.mem_singleton.mp hb]; exact h
section
variable {X : Cx} {e e2 e3 : Expr} {ta : TA} {p pos tpos : Pos} {elts : List Expr} {kk : Nat}
theorem pi_zipS2 (hg : Gl X "zip") (hm : X.mg "zip" = none) (ha : PA X [e, e2] ta) (hs : starEach [e, e2] X.env = (false, eval e X.env) :: starEach [e2] X.env) (hpl : (backTo pos (starEach [e2] X.env)).any (·.1) = false) :
    PI X (.Tuple elts kk tpos) (.Call (.Name "zip" p) [e, e2] [] pos) (iZipS2 X.K ta) := by
  refine ⟨fun pins s σ H R I h => ?_⟩
  refine Call_ (ld_blt I hg hm PyProof.Rows.boot_zip (PyProof.Rows.callWith_type1 (thn (ha.run pos pins s σ H _ I h) fun us s1 ⟨vs, H1, I1, r1, q1⟩ => ?_) hs hpl))
  obtain ⟨b1, b2, a1, a2, xs, ys, rfl, hq1, hq2, q⟩ := q1
  obtain ⟨u1, u2, rfl, ru1, ru2⟩ := vals2 r1
  obtain rfl : u1 = Value.ref a1 := ru1
  obtain rfl : u2 = Value.ref a2 := ru2
  obtain ⟨w1, rv1, src1, _⟩ := SrcA.of b1 I1 hq1
  obtain ⟨w2, rv2, src2, _⟩ := SrcA.of b2 I1 hq2
  have l1 := src1.lt b1
  have l2 := src2.lt b2
  refine zip_begins2 (begins_src b1 a1 w1.toArray) (begins_src b2 a2 w2.toArray) src1 src2 fun h2 hz hTI hTO hi1 hi2 hsz hk => wpAny_pyIter_zip hz ?_
  have I2 : Inv X pins σ H1 { s1 with heap := h2 } := I1.kept (t' := s1.toks) hk
  refine ⟨_, [s1.heap.objs.size + 4, s1.heap.objs.size + 2, s1.heap.objs.size + 3, s1.heap.objs.size, s1.heap.objs.size + 1], _, _, H1, rfl, I2, turn_zipS2 b1 b2 (zip_sep2 (one_lt l1) (one_lt l2)) (Nat.ne_of_lt l1) (Nat.ne_of_lt (Nat.lt_succ_of_lt l2)), ⟨hz, hTI, ⟨_, _, hTO⟩, ItA.new b1 hi1, ItA.new b2 hi2⟩, fun c hc => ?_, q⟩
  have hle : s1.heap.objs.size ≤ c := by
    have e' : c = s1.heap.objs.size + 4 ∨ c = s1.heap.objs.size + 2 ∨ c = s1.heap.objs.size + 3 ∨ c = s1.heap.objs.size ∨ c = s1.heap.objs.size + 1 := by simpa using hc
    rcases e' with z | z | z | z | z <;> rw [z]
    · exact Nat.le_add_right _ _
    · exact Nat.le_add_right _ _
    · exact Nat.le_add_right _ _
    · exact Nat.le_refl _
    · exact Nat.le_add_right _ _
  exact I1.fpOk hle (I1.hok.fresh hle)
theorem pi_zipS3 (hg : Gl X "zip") (hm : X.mg "zip" = none) (ha : PA X [e, e2, e3] ta) (hs : starEach [e, e2, e3] X.env = (false, eval e X.env) :: starEach [e2, e3] X.env) (hpl : (backTo pos (starEach [e2, e3] X.env)).any (·.1) = false) :
    PI X (.Tuple elts kk tpos) (.Call (.Name "zip" p) [e, e2, e3] [] pos) (iZipS3 X.K ta) := by
  refine ⟨fun pins s σ H R I h => ?_⟩
  refine Call_ (ld_blt I hg hm PyProof.Rows.boot_zip (PyProof.Rows.callWith_type1 (thn (ha.run pos pins s σ H _ I h) fun us s1 ⟨vs, H1, I1, r1, q1⟩ => ?_) hs hpl))
  obtain ⟨b1, b2, b3, a1, a2, a3, xs, ys, zs, rfl, hq1, hq2, hq3, q⟩ := q1
  obtain ⟨u1, u2, u3, rfl, ru1, ru2, ru3⟩ := vals3 r1
  obtain rfl : u1 = Value.ref a1 := ru1
  obtain rfl : u2 = Value.ref a2 := ru2
  obtain rfl : u3 = Value.ref a3 := ru3
  obtain ⟨w1, rv1, src1, _⟩ := SrcA.of b1 I1 hq1
  obtain ⟨w2, rv2, src2, _⟩ := SrcA.of b2 I1 hq2
  obtain ⟨w3, rv3, src3, _⟩ := SrcA.of b3 I1 hq3
  have l1 := src1.lt b1
  have l2 := src2.lt b2
  have l3 := src3.lt b3
  refine zip_begins3 (begins_src b1 a1 w1.toArray) (begins_src b2 a2 w2.toArray) (begins_src b3 a3 w3.toArray) src1 src2 src3 fun h2 hz hTI hTO hi1 hi2 hi3 hsz hk => wpAny_pyIter_zip hz ?_
  have I2 : Inv X pins σ H1 { s1 with heap := h2 } := I1.kept (t' := s1.toks) hk
  refine ⟨_, [s1.heap.objs.size + 5, s1.heap.objs.size + 3, s1.heap.objs.size + 4, s1.heap.objs.size, s1.heap.objs.size + 1, s1.heap.objs.size + 2], _, _, H1, rfl, I2,
    turn_zipS3 b1 b2 b3 (zip_sep3 (one_lt l1) (one_lt l2) (one_lt l3)) (Nat.ne_of_lt l1) (Nat.ne_of_lt (Nat.lt_succ_of_lt l2)) (Nat.ne_of_lt (Nat.lt_of_lt_of_le l3 (Nat.le_add_right _ 2))), ⟨hz, hTI, ⟨_, _, _, hTO⟩, ItA.new b1 hi1, ItA.new b2 hi2, ItA.new b3 hi3⟩, fun c hc => ?_, q⟩
  have hle : s1.heap.objs.size ≤ c := by
    have e' : c = s1.heap.objs.size + 5 ∨ c = s1.heap.objs.size + 3 ∨ c = s1.heap.objs.size + 4 ∨ c = s1.heap.objs.size ∨ c = s1.heap.objs.size + 1 ∨ c = s1.heap.objs.size + 2 := by simpa using hc
    rcases e' with z | z | z | z | z | z <;> rw [z]
    · exact Nat.le_add_right _ _
    · exact Nat.le_add_right _ _
    · exact Nat.le_add_right _ _
    · exact Nat.le_refl _
    · exact Nat.le_add_right _ _
    · exact Nat.le_add_right _ _
  exact I1.fpOk hle (I1.hok.fresh hle)
end
end FW

/-! FwX: what loops walk, further; x[::-1]; sorted(set(..)); a + b of lists as a new list; if (x := e) is None. -/
namespace FW
open PySem PySem.Spec PyProof.Rows L2
/-! ### walks -/
def srcD : D → Option (Bool × List D)
  | .tup l => some (true, l)
  | .lst l => some (false, l)
  | .scr l => some (false, l)
  | _ => none
theorem SqS.up {b : Bool} {K : PySem.W.Frag} {H H' : Hp} {a : Addr} {xs : List V} (h : ∀ a o, H a = some o → H' a = some o) (q : SqS b K H a xs) : SqS b K H' a xs := by
  cases b with
  | true => exact SqT.up h q
  | false => exact SqL.up h q
def enumL : Nat → List D → List D
  | _, [] => []
  | i, d :: r => .tup [.int (i : Nat), d] :: enumL (i + 1) r
theorem enumL_len : ∀ (i : Nat) (l : List D), (enumL i l).length = l.length
  | _, [] => rfl
  | i, d :: r => by simp [enumL, enumL_len (i + 1) r]
theorem enumL_get : ∀ (j : Nat) (l : List D) (i : Nat) (d : D), (enumL j l)[i]? = some d → ∃ a, l[i]? = some a ∧ d = .tup [.int ((j + i : Nat) : Int), a]
  | _, [], _, _, h => by simp [enumL] at h
  | j, a :: r, 0, d, h => by
    simp [enumL] at h
    exact ⟨a, by simp, by simpa using h.symm⟩
  | j, a :: r, i + 1, d, h => by
    obtain ⟨x, h1, h2⟩ := enumL_get (j + 1) r i d (by simpa [enumL] using h)
    refine ⟨x, by simpa using h1, ?_⟩
    rw [h2, show j + 1 + i = j + (i + 1) by omega]
def zipL3 : List D → List D → List D → List D
  | a :: as, b :: bs, c :: cs => .tup [a, b, c] :: zipL3 as bs cs
  | _, _, _ => []
theorem zipL3_len : ∀ l m n : List D, (zipL3 l m n).length = min (min l.length m.length) n.length
  | [], _, _ => by simp [zipL3]
  | _ :: _, [], _ => by simp [zipL3]
  | _ :: _, _ :: _, [] => by simp [zipL3]
  | a :: l, b :: m, c :: n => by simp [zipL3, zipL3_len l m n]
theorem zipL3_get : ∀ (l m n : List D) (i : Nat) (d : D), (zipL3 l m n)[i]? = some d → ∃ a b c, l[i]? = some a ∧ m[i]? = some b ∧ n[i]? = some c ∧ d = .tup [a, b, c]
  | [], _, _, _, _, h => by simp [zipL3] at h
  | _ :: _, [], _, _, _, h => by simp [zipL3] at h
  | _ :: _, _ :: _, [], _, _, h => by simp [zipL3] at h
  | a :: l, b :: m, c :: n, 0, d, h => by
    simp [zipL3] at h
    exact ⟨a, b, c, by simp, by simp, by simp, h.symm⟩
  | a :: l, b :: m, c :: n, i + 1, d, h => by
    obtain ⟨x, y, z, h1, h2, h3, h4⟩ := zipL3_get l m n i d (by simpa [zipL3] using h)
    exact ⟨x, y, z, by simpa using h1, by simpa using h2, by simpa using h3, h4⟩
def enumD : List D → Option (List D)
  | [d] => (srcD d).map fun p => enumL 0 p.2
  | _ => none
def zipD : List D → Option (List D)
  | [d, e] => (srcD d).bind fun p => (srcD e).map fun q => zipL p.2 q.2
  | _ => none
def zipD3 : List D → Option (List D)
  | [d, e, f] => (srcD d).bind fun p => (srcD e).bind fun q => (srcD f).map fun r => zipL3 p.2 q.2 r.2
  | _ => none
section
variable {T : Txt} {W : WX} {X : Cx} {G : Ent} {w w' : Wd} {st : State} {σ : L2.St} {H H' : Hp} {a b c e : Expr} {es : List Expr} {ca cb : State → R D} {cs : State → R (List D)} {p p2 p3 pos tpos : Pos}
theorem src_rep (hK : X.K = T.K) {d : D} {v : V} {k : Bool} {l : List D} (h : RepV T w d v) (e : srcD d = some (k, l)) : ∃ a vs, v = .ref a ∧ SqS k X.K w.HF a vs ∧ RepVs T w l vs := by
  cases d <;> first | (cases e; done) | skip
  · cases e
    obtain ⟨a, vs, rfl, q, r⟩ := (by simpa only [RepV] using h)
    exact ⟨a, vs, rfl, hK ▸ q, r⟩
  · cases e
    obtain ⟨a, vs, rfl, q, r⟩ := (by simpa only [RepV] using h)
    exact ⟨a, vs, rfl, SqL.of q, r⟩
  · cases e
    obtain ⟨a, vs, rfl, q, r⟩ := (by simpa only [RepV] using h)
    exact ⟨a, vs, rfl, hK ▸ q, r⟩
theorem enum_walk {k : Bool} {a : Addr} {l : List D} {vs : List V} {K : PySem.W.Frag} (q : SqS k K w.HF a vs) (r : RepVs T w l vs) : JOk T (IteS k K a) w (enumL 0 l) := fun w1 H1 le sb i => by
  have k1 : SqS k K H1 a vs := SqS.up (fun b o z => sb b o (le.hf b o z)) q
  refine ⟨fun d hd => ?_, fun hi => ⟨vs, k1, by rw [enumL_len] at hi; rw [← r.length]; exact hi⟩⟩
  obtain ⟨x, h1, rfl⟩ := enumL_get 0 l i d hd
  obtain ⟨u, e1, e2⟩ := r.get h1
  refine ⟨⟨vs, u, k1, e1⟩, fun z H' ⟨t, x', hz, ht, hH, hx⟩ => ?_⟩
  have := hx vs k1
  rw [e1] at this; cases this
  subst hz hH
  have e0 : ((0 + i : Nat) : Int) = ((i : Nat) : Int) := by rw [Nat.zero_add]
  rw [e0]
  exact ⟨w1.add t _, Gr.add sb ht _, RepV.newT (sb.none ht) (.cons .int_ (.cons (e2.up le) .nil))⟩
theorem zip_walk2 {k1 k2 : Bool} {a1 a2 : Addr} {l m : List D} {vs us : List V} {K : PySem.W.Frag} (q1 : SqS k1 K w.HF a1 vs) (q2 : SqS k2 K w.HF a2 us) (r1 : RepVs T w l vs) (r2 : RepVs T w m us) : JOk T (Itz2 k1 k2 K a1 a2) w (zipL l m) := fun w1 H1 le sb i => by
  have g1 : SqS k1 K H1 a1 vs := SqS.up (fun b o z => sb b o (le.hf b o z)) q1
  have g2 : SqS k2 K H1 a2 us := SqS.up (fun b o z => sb b o (le.hf b o z)) q2
  refine ⟨fun d hd => ?_, fun hi => ⟨vs, us, g1, g2, by rw [zipL_len] at hi; rw [← r1.length, ← r2.length]; exact hi⟩⟩
  obtain ⟨x, y, h1, h2, rfl⟩ := zipL_get l m i d hd
  obtain ⟨u, e1, e2⟩ := r1.get h1
  obtain ⟨v, e3, e4⟩ := r2.get h2
  refine ⟨⟨vs, us, u, v, g1, g2, e1, e3⟩, fun z H' ⟨t, x', y', hz, ht, hH, hx, hy⟩ => ?_⟩
  have := hx vs g1
  rw [e1] at this; cases this
  have := hy us g2
  rw [e3] at this; cases this
  subst hz hH
  exact ⟨w1.add t _, Gr.add sb ht _, RepV.newT (sb.none ht) (.cons (e2.up le) (.cons (e4.up le) .nil))⟩
theorem zip_walk3 {k1 k2 k3 : Bool} {a1 a2 a3 : Addr} {l m n : List D} {vs us ws : List V} {K : PySem.W.Frag} (q1 : SqS k1 K w.HF a1 vs) (q2 : SqS k2 K w.HF a2 us) (q3 : SqS k3 K w.HF a3 ws) (r1 : RepVs T w l vs) (r2 : RepVs T w m us) (r3 : RepVs T w n ws) :
    JOk T (Itz3 k1 k2 k3 K a1 a2 a3) w (zipL3 l m n) := fun w1 H1 le sb i => by
  have g1 : SqS k1 K H1 a1 vs := SqS.up (fun b o z => sb b o (le.hf b o z)) q1
  have g2 : SqS k2 K H1 a2 us := SqS.up (fun b o z => sb b o (le.hf b o z)) q2
  have g3 : SqS k3 K H1 a3 ws := SqS.up (fun b o z => sb b o (le.hf b o z)) q3
  refine ⟨fun d hd => ?_, fun hi => ⟨vs, us, ws, g1, g2, g3, by rw [zipL3_len] at hi; rw [← r1.length, ← r2.length, ← r3.length]; exact hi⟩⟩
  obtain ⟨x, y, z, h1, h2, h3, rfl⟩ := zipL3_get l m n i d hd
  obtain ⟨u, e1, e2⟩ := r1.get h1
  obtain ⟨v, e3, e4⟩ := r2.get h2
  obtain ⟨v', e5, e6⟩ := r3.get h3
  refine ⟨⟨vs, us, ws, u, v, v', g1, g2, g3, e1, e3, e5⟩, fun z H' ⟨t, x', y', z', hz, ht, hH, hx, hy, hz2⟩ => ?_⟩
  have := hx vs g1
  rw [e1] at this; cases this
  have := hy us g2
  rw [e3] at this; cases this
  have := hz2 ws g3
  rw [e5] at this; cases this
  subst hz hH
  exact ⟨w1.add t _, Gr.add sb ht _, RepV.newT (sb.none ht) (.cons (e2.up le) (.cons (e4.up le) (.cons (e6.up le) .nil)))⟩
theorem RepVs.three {d e f : D} {vs : List V} (h : RepVs T w [d, e, f] vs) : ∃ v u t, vs = [v, u, t] ∧ RepV T w d v ∧ RepV T w e u ∧ RepV T w f t := by
  obtain ⟨v, r, rfl, h1, h2⟩ := h.uncons
  obtain ⟨u, t, rfl, h3, h4⟩ := h2.two
  exact ⟨v, u, t, rfl, h1, h3, h4⟩
theorem di_enum (hK : X.K = T.K) {elts : List Expr} {kk : Nat} (hg : Gl X "enumerate") (hm : X.mg "enumerate" = none) (ha : DA T W X [a] cs) (hs : starEach [a] X.env = [(false, eval a X.env)]) :
    DI T W X (.Tuple elts kk tpos) (.Call (.Name "enumerate" p) [a] [] pos) (cItA enumD cs) := by
  refine (pi_enumS hg hm ha hs).imp fun σ H R ⟨G, w, st, r, q⟩ => ⟨G, w, st, r, (Post.seqI q).mono fun v H1 ⟨w1, d, s, le, r1, q, p1⟩ => ?_⟩
  obtain ⟨l, e, p2⟩ := PostI.lift p1
  unfold enumD at e
  split at e
  · rename_i d0
    obtain ⟨⟨k, l0⟩, e1, rfl⟩ := Option.map_eq_some_iff.mp e
    obtain ⟨u, rfl, hu⟩ := q.one
    obtain ⟨a1, vs, rfl, k1, k2⟩ := src_rep hK hu e1
    exact ⟨k, a1, vs, rfl, SqS.up r1.sub k1, p2 w1 _ H1 (.refl _) r1 (enum_walk k1 k2)⟩
  · cases e
theorem di_zip (hK : X.K = T.K) {elts : List Expr} {kk : Nat} (hg : Gl X "zip") (hm : X.mg "zip" = none) (ha : DA T W X [a, b] cs)
    (hs : starEach [a, b] X.env = (false, eval a X.env) :: starEach [b] X.env) (hpl : (backTo pos (starEach [b] X.env)).any (·.1) = false) : DI T W X (.Tuple elts kk tpos) (.Call (.Name "zip" p) [a, b] [] pos) (cItA zipD cs) := by
  refine (pi_zipS2 hg hm ha hs hpl).imp fun σ H R ⟨G, w, st, r, q⟩ => ⟨G, w, st, r, (Post.seqI q).mono fun v H1 ⟨w1, d, s, le, r1, q, p1⟩ => ?_⟩
  obtain ⟨l, e, p2⟩ := PostI.lift p1
  unfold zipD at e
  split at e
  · obtain ⟨⟨k, l0⟩, e1, e⟩ := Option.bind_eq_some_iff.mp e
    obtain ⟨⟨k', l1⟩, e2, rfl⟩ := Option.map_eq_some_iff.mp e
    obtain ⟨u, u2, rfl, hu, hu2⟩ := q.two
    obtain ⟨a1, vs, rfl, k1, k2⟩ := src_rep hK hu e1
    obtain ⟨a2, us, rfl, k3, k4⟩ := src_rep hK hu2 e2
    exact ⟨k, k', a1, a2, vs, us, rfl, SqS.up r1.sub k1, SqS.up r1.sub k3, p2 w1 _ H1 (.refl _) r1 (zip_walk2 k1 k3 k2 k4)⟩
  · cases e
theorem di_zip3 (hK : X.K = T.K) {elts : List Expr} {kk : Nat} (hg : Gl X "zip") (hm : X.mg "zip" = none) (ha : DA T W X [a, b, c] cs)
    (hs : starEach [a, b, c] X.env = (false, eval a X.env) :: starEach [b, c] X.env) (hpl : (backTo pos (starEach [b, c] X.env)).any (·.1) = false) : DI T W X (.Tuple elts kk tpos) (.Call (.Name "zip" p) [a, b, c] [] pos) (cItA zipD3 cs) := by
  refine (pi_zipS3 hg hm ha hs hpl).imp fun σ H R ⟨G, w, st, r, q⟩ => ⟨G, w, st, r, (Post.seqI q).mono fun v H1 ⟨w1, d, s, le, r1, q, p1⟩ => ?_⟩
  obtain ⟨l, e, p2⟩ := PostI.lift p1
  unfold zipD3 at e
  split at e
  · obtain ⟨⟨k, l0⟩, e1, e⟩ := Option.bind_eq_some_iff.mp e
    obtain ⟨⟨k', l1⟩, e2, e⟩ := Option.bind_eq_some_iff.mp e
    obtain ⟨⟨k'', l2⟩, e3, rfl⟩ := Option.map_eq_some_iff.mp e
    obtain ⟨u, u2, u3, rfl, hu, hu2, hu3⟩ := q.three
    obtain ⟨a1, vs, rfl, k1, k2⟩ := src_rep hK hu e1
    obtain ⟨a2, us, rfl, k3, k4⟩ := src_rep hK hu2 e2
    obtain ⟨a3, ws, rfl, k5, k6⟩ := src_rep hK hu3 e3
    exact ⟨k, k', k'', a1, a2, a3, vs, us, ws, rfl, SqS.up r1.sub k1, SqS.up r1.sub k3, SqS.up r1.sub k5, p2 w1 _ H1 (.refl _) r1 (zip_walk3 k1 k3 k5 k2 k4 k6)⟩
  · cases e
/-! ranges with a step -/
def rngL (a c : Int) (n : Nat) : List D := (List.range n).map fun (k : Nat) => .int (a + (k : Int) * c)
theorem rngL_len (a c : Int) (n : Nat) : (rngL a c n).length = n := by simp [rngL]
theorem rngC_walk (lo c : Int) (n : Nat) (w : Wd) : JOk T (Itc lo c n) w (rngL lo c n) := fun w1 H1 le sb i => by
  refine ⟨fun d hd => ?_, fun hi => by rw [rngL_len] at hi; exact Nat.le_of_eq hi⟩
  have hi : i < n := by
    have := (List.getElem?_eq_some_iff.mp hd).1
    rw [rngL_len] at this; exact this
  unfold rngL at hd
  rw [List.getElem?_map, List.getElem?_range hi] at hd
  cases hd
  exact ⟨hi, fun x H' ⟨z1, z2⟩ => by subst z1 z2; exact ⟨w1, Gr.refl sb, .int_⟩⟩
def rng3 : List D → Option (List D)
  | [.int i, .int j, .int c] => if c = -1 then (if inR i && inR j then some (rngL i (-1) (i - j).toNat) else none)
    else if decide (c ≠ 0) && (decide (c.natAbs < 1073741824) && (Builtin.Range.small i j c && decide (0 ≤ Builtin.Range.rangeSize i j c))) then some (rngL i c (Builtin.Range.rangeSize i j c).toNat) else none
  | _ => none
theorem di_range3 {tg : Expr} (hg : Gl X "range") (hm : X.mg "range" = none) (ha : DA T W X [a, b, c] cs) (hs : starEach [a, b, c] X.env = (false, eval a X.env) :: starEach [b, c] X.env) (hpl : (backTo pos (starEach [b, c] X.env)).any (·.1) = false) : DI T W X tg (.Call (.Name "range" p) [a, b, c] [] pos) (cItA rng3 cs) := by
  refine (pi_range3 hg hm ha hs hpl).imp fun σ H R ⟨G, w, st, r, q⟩ => ⟨G, w, st, r, (Post.seqI q).mono fun v H1 ⟨w1, d, s, le, r1, q, p1⟩ => ?_⟩
  obtain ⟨l, e, p2⟩ := PostI.lift p1
  unfold rng3 at e
  split at e
  · rename_i i j k
    obtain ⟨u, u2, u3, rfl, hu, hu2, hu3⟩ := q.three
    rw [hu.int_eq, hu2.int_eq, hu3.int_eq]
    by_cases hc : k = -1
    · subst hc
      rw [if_pos rfl] at e
      by_cases hz : (inR i && inR j) = true
      · rw [if_pos hz] at e
        cases e
        obtain ⟨z1, z2⟩ := band hz
        obtain ⟨z3, z4⟩ := inR_ok z1
        obtain ⟨z5, z6⟩ := inR_ok z2
        exact ⟨i, j, -1, _, rfl, RgC.neg z3 z4 z5 z6, p2 w1 _ H1 (.refl _) r1 (rngC_walk _ _ _ _)⟩
      · rw [if_neg hz] at e; cases e
    · rw [if_neg hc] at e
      split at e
      · rename_i hz
        cases e
        obtain ⟨z1, z2⟩ := band hz
        obtain ⟨z2, z3⟩ := band z2
        obtain ⟨z3, z4⟩ := band z3
        exact ⟨i, j, k, _, rfl, ⟨of_decide_eq_true z1, of_decide_eq_true z2, z3, (Int.toNat_of_nonneg (of_decide_eq_true z4)).symm⟩, p2 w1 _ H1 (.refl _) r1 (rngC_walk _ _ _ _)⟩
      · cases e
  · cases e
/-! ### x[::-1] -/
def revD : D → Option D
  | .tup l => some (.tup l.reverse)
  | .lst l => some (.lst l.reverse)
  | .scr l => some (.lst l.reverse)
  | _ => none
theorem fm_congr {α β : Type} {f g : α → Option β} : ∀ {l : List α}, (∀ x ∈ l, f x = g x) → l.filterMap f = l.filterMap g
  | [], _ => rfl
  | a :: l, h => by
    rw [List.filterMap_cons, List.filterMap_cons, h a (List.mem_cons_self ..), fm_congr fun x hx => h x (List.mem_cons_of_mem _ hx)]
theorem pick_rev (xs : Array Value) (n : Nat) (hn : xs.size = n) : ((List.range n).filterMap fun (k : Nat) => xs[(((n : Int) - 1) + (k : Int) * (-1)).toNat]?).toArray = xs.toList.reverse.toArray := by
  subst hn
  have e : (List.range xs.size).filterMap (fun (k : Nat) => xs[(((xs.size : Int) - 1) + (k : Int) * (-1)).toNat]?) = ((List.range xs.size).map fun k => xs.size - 1 - k).filterMap (xs[·]?) := by
    rw [List.filterMap_map]
    refine fm_congr fun k hk => ?_
    have := List.mem_range.mp hk
    have e2 : (((xs.size : Int) - 1) + (k : Int) * (-1)).toNat = xs.size - 1 - k := by omega
    rw [e2]; rfl
  rw [e, PySem.W.krv_range, List.filterMap_reverse, PySem.W.krv_all]
theorem places_rev (n : Nat) : Builtin.Slice.slicePlaces ((n : Int) - 1) (-1) (-1) = n := by
  unfold Builtin.Slice.slicePlaces
  have h1 : ¬ ((-1 : Int) > 0) := by omega
  simp only [h1, if_false]
  split
  · rename_i h
    have : ((n : Int) - 1 - -1 - 1) / (- -1) + 1 = (n : Int) := by
      rw [show (- -1 : Int) = 1 by decide, Int.ediv_one]; omega
    rw [this]; rfl
  · rename_i h
    omega
theorem applied_rev {prog : Program} {wd : World} {A : Around} {E : Value → Shared → Prop} {s : Shared} {sl : Addr} {vs : Value} {n : Nat} {Q : Int × Int × Nat → Shared → Prop} (hs : s.heap.IsSliceOf sl .none .none vs) (ps : IsPart vs (some (-1))) (h : Q ((n : Int) - 1, -1, n) s) :
    wpAny (model prog wd) A (Builtin.Slice.sliceApplied (.ref sl) (pure (n : Int))) Q E s := by
  obtain ⟨ob, hob, hcl, hdt⟩ := id hs
  unfold Builtin.Slice.sliceApplied Builtin.Slice.sliceFields
  refine wpAny_bind (wpAny_bind (wpAny_field hob hdt (x := .none) rfl (wpAny_bind (wpAny_field hob hdt (x := .none) rfl (wpAny_bind (wpAny_field hob hdt (x := vs) rfl (wpAny_pure ?_)))))))
  refine wpAny_bind (HT.slicePart_ ps ?_)
  show wpAny _ _ (if ((-1 : Int) == 0) = true then _ else _) _ _ s
  rw [if_neg (by decide)]
  refine wpAny_bind (HT.slicePart_ .none (wpAny_bind (HT.slicePart_ .none (wpAny_bind (wpAny_pure ?_)))))
  show wpAny _ _ (match Builtin.Slice.sliceAdjust none none (-1) (n : Int) with | (lo, hi) => pure (lo, (-1 : Int), Builtin.Slice.slicePlaces lo hi (-1))) _ _ s
  have ea : Builtin.Slice.sliceAdjust none none (-1) (n : Int) = ((n : Int) - 1, -1) := by
    unfold Builtin.Slice.sliceAdjust
    simp
  rw [ea]
  show wpAny _ _ (pure ((n : Int) - 1, (-1 : Int), Builtin.Slice.slicePlaces ((n : Int) - 1) (-1) (-1))) _ _ s
  rw [places_rev]
  exact wpAny_pure h
theorem getItem_tupRev {prog : Program} {wd : World} {A : Around} {E : Value → Shared → Prop} {s : Shared} {t sl : Addr} {items : Array Value} {vs : Value} {Q : Value → Shared → Prop} (ht : IsTup s.heap t items) (hs : s.heap.IsSliceOf sl .none .none vs) (ps : IsPart vs (some (-1)))
    (h : Q (.ref s.heap.objs.size) { s with heap := s.heap.push { cls := .type "tuple", data := .seq items.toList.reverse.toArray } }) (hsz : items.size ≤ sizeLine) : wpAny (model prog wd) A (getItem (.ref t) (.ref sl)) Q E s := by
  have hok : sizeOk (.seq items.toList.reverse.toArray) := by
    show items.toList.reverse.toArray.size ≤ sizeLine
    rw [List.size_toArray, List.length_reverse, Array.length_toList]
    exact hsz
  obtain ⟨ob, hob, hcl, hdt⟩ := id hs
  have hTy : s.TypeIs (.ref sl) "slice" := ⟨ob, hob, hcl⟩
  unfold getItem
  try with_reducible refine wpAny_holding ?_
  first | refine wpAny_bind (wpAny_pure ?_) | skip
  refine wpAny_bind (wpAny_sequenceKey ht.typeIs (by decide) ?_)
  refine wpAny_bind (wpAny_callSpecial?_slot (name := Str.ofString "__getitem__") ht.typeIs PyProof.Rows.slot_tuple_getitem
    (wpAny_call_entry PyProof.Rows.slot_tuple_getitem ht.typeIs entry_tuple_getitem ?_ (args_tuple_getitem _ _)))
  show wpAny _ _ (Builtin.Tuple.tupleItemsOf (.ref t) >>= _) _ _ s
  refine wpAny_bind (tupleItemsOf_ ht ?_)
  refine wpAny_bind (wpAny_typeOf hTy ?_)
  rw [if_pos (by decide)]
  refine wpAny_bind (applied_rev hs ps ?_)
  show wpAny _ _ (if (((items.size : Int) - 1) == 0 && (-1 : Int) == 1 && items.size == items.size) = true then _ else _) _ _ s
  rw [if_neg (by simp), pick_rev items items.size rfl]
  first
    | exact wpAny_bind (m := Builtin.Tuple.tupleExact _) (wpAny_newObj_type (wpAny_pure ⟨_, rfl, wpAny_pure h⟩) hok)
    | exact wpAny_bind (m := Builtin.Tuple.tupleExact _) (wpAny_newObj_type (wpAny_bind (wpAny_pure (wpAny_pure ⟨_, rfl, wpAny_pure h⟩))) hok)
    | exact wpAny_bind (wpAny_bind (m := Builtin.Tuple.tupleExact _) (wpAny_newObj_type (wpAny_pure (wpAny_pure ⟨_, rfl, wpAny_pure h⟩)) hok))
    | exact wpAny_bind (wpAny_bind (m := Builtin.Tuple.tupleExact _) (wpAny_newObj_type (wpAny_pure ⟨_, rfl, wpAny_pure h⟩) hok))
def tRevS (K : PySem.W.Frag) (te : TE) : TE := fun σ H Q => te σ H fun x H1 => ∃ b a xs, x = .ref a ∧ SqS b K H1 a xs ∧ ∀ p, H1 p = none → Q (.ref p) (upd H1 p (match b with
  | true => .tup xs.reverse
  | false => .lst xs.reverse))
theorem pe_revS {te : TE} {k : Nat} (he : PE X e te) : PE X (.Subscript e (.Slice none none (some (.UnaryOp .USub (.Constant (.int 1) k p) p2)) p3) pos) (tRevS X.K te) := by
  refine ⟨fun pins s σ H Q I h => ?_⟩
  refine Subscript_ (thn (he.run pins s σ H _ I h) fun v s1 ⟨x, H1, I1, r1, q1⟩ => ?_)
  obtain ⟨b, a, xs, ex, hx, q⟩ := q1
  subst ex
  obtain rfl : v = Value.ref a := r1
  have hst : PO X (some (.UnaryOp .USub (.Constant (.int 1) k p) p2)) (tPart (tUn (rU fun i => .int (-i)) (tC (.int 1)))) := po_some (pe_un un_neg pe_int)
  refine wpAny_Slice (thn (po_none.run pins s1 σ H1 (fun o H2 => o = none ∧ H2 = H1) I1 ⟨rfl, rfl⟩) fun vl s2 ⟨l, H2, I2, pl, el, e2⟩ => ?_)
  subst el e2
  refine thn (po_none.run pins s2 σ H2 (fun o H3 => o = none ∧ H3 = H2) I2 ⟨rfl, rfl⟩) fun vu s3 ⟨u, H3, I3, pu, eu, e3⟩ => ?_
  subst eu e3
  refine thn (hst.run pins s3 σ H3 (fun o H4 => o = some (-1) ∧ H4 = H3) I3 ⟨1, rfl, -1, rfl, rfl, rfl⟩) fun vs s4 ⟨o, H4, I4, ps, eo, e4⟩ => ?_
  subst eo e4
  have I5 : Inv X pins σ H4 { s4 with heap := s4.heap.push { cls := .type "slice", data := .fields #[vl, vu, vs] } } := I4.kept (t' := s4.toks) fun c ob z => Heap.get?_push_of_some _ z
  cases pl
  cases pu
  show wpAny (model X.prog X.w) X.A (subscriptTail e (.Slice none none (some (.UnaryOp .USub (.Constant (.int 1) k p) p2)) p3) (.ref a) (.ref s4.heap.objs.size)) (EP X pins σ Q) X.xe { s4 with heap := s4.heap.push { cls := .type "slice", data := .fields #[.none, .none, vs] } }
  cases b with
  | false =>
    obtain ⟨its, r, ht, hz⟩ := I5.list hx
    refine tail_any (ops := [.ref a, .ref s4.heap.objs.size]) ht.isList.typeIs (PySem.slot_list_getitem.lookup) ?_ (by with_unfolding_all rfl)
    refine wpAny_getItem_list_slice ht.isList (Heap.IsSliceOf.new _ .none .none vs) .none .none ps (by decide) ?_ (by rw [List.size_toArray, ← r.length]; exact hz)
    rw [PySem.W.krv_pick]
    exact ⟨.ref _, _, I5.laid (t' := s4.toks) (o := .lst xs.reverse) (fun c ob z => Heap.get?_push_of_some _ z) (Nat.le_refl _) ⟨by rw [List.length_reverse]; exact hz, _, 0, r.reverse, Heap.get?_push_size _ rfl⟩, rfl, q _ (I5.hok.fresh (Nat.le_refl _))⟩
  | true =>
    obtain ⟨its, r, ht, hz⟩ := I5.tuple hx
    refine tail_any (ops := [.ref a, .ref s4.heap.objs.size]) ht.typeIs (PyProof.Rows.slot_tuple_getitem.lookup) ?_ (by with_unfolding_all rfl)
    refine getItem_tupRev ht (Heap.IsSliceOf.new _ .none .none vs) ps ?_ (by rw [List.size_toArray, ← r.length]; exact hz)
    exact ⟨.ref _, _, I5.laid (t' := s4.toks) (o := .tup xs.reverse) (fun c ob z => Heap.get?_push_of_some _ z) (Nat.le_refl _) ⟨by rw [List.length_reverse]; exact hz, _, r.reverse, _, Heap.get?_push_size _ rfl, rfl, 0, rfl⟩, rfl, q _ (I5.hok.fresh (Nat.le_refl _))⟩
theorem de_rev (hK : X.K = T.K) {k : Nat} (ha : DE T W X a ca) : DE T W X (.Subscript a (.Slice none none (some (.UnaryOp .USub (.Constant (.int 1) k p) p2)) p3) pos) (cUn revD ca) := by
  refine (pe_revS ha).imp fun σ H Q ⟨G, w, st, r, q⟩ => ?_
  refine (seqE r q).imp fun x H1 ⟨w1, d1, s1, l1, r1, q1, p1⟩ => ?_
  obtain ⟨d, e, p2⟩ := Post.lift p1
  have gr := Post.grown r1 p2
  cases d1 <;> first | (cases e; done) | skip
  · cases e
    obtain ⟨a1, vs, rfl, k1, k2⟩ := q1.tup_at r1.sub
    exact ⟨true, a1, vs, rfl, hK ▸ k1, gr.tup r1.sub k2.reverse⟩
  · cases e
    obtain ⟨a1, vs, rfl, k1, k2⟩ := q1.lst_at r1.sub
    exact ⟨false, a1, vs, rfl, SqL.of k1, gr.lst r1.sub k2.reverse⟩
  · cases e
    obtain ⟨a1, vs, rfl, k1, k2⟩ := q1.scr_at r1.sub
    exact ⟨false, a1, vs, rfl, hK ▸ k1, gr.lst r1.sub k2.reverse⟩
/-! ### a + b of lists, a new list -/
def cCat (a b : State → R D) : State → R (List D) := fun st => (a st).bind fun x s1 => (b s1).bind fun y s2 => match x, y with
  | .lst l, .lst r => if szOk (l.length + r.length) then .ok (l ++ r) s2 else .bad
  | _, _ => .bad
theorem df_cat (ha : DE T W X a ca) (hb : DE T W X b cb) : DF T W X (.BinOp a .Add b pos) (cCat ca cb) := by
  refine (pe_op op_cat ha hb).imp fun σ H Q ⟨G, w, st, r, q⟩ => ?_
  refine (df_seqE r q).imp fun x H1 ⟨w1, d1, s1, l1, r1, q1, p1⟩ => ?_
  refine (df_seqE r1 p1).imp fun y H2 ⟨w2, d2, s2, l2, r2, q2, p2⟩ => ?_
  obtain ⟨l, m, rfl, rfl⟩ : ∃ l m, d1 = .lst l ∧ d2 = .lst m := by
    cases d1 <;> first | exact p2.elim | skip
    cases d2 <;> first | exact p2.elim | skip
    exact ⟨_, _, rfl, rfl⟩
  have p2 : PostF T W G w2 σ (if szOk (l.length + m.length) then .ok (l ++ m) s2 else .bad) Q := p2
  by_cases hz : szOk (l.length + m.length) = true
  · rw [if_pos hz] at p2
    obtain ⟨a1, vs, rfl, k1, k2⟩ := (q1.up l2).lst_at r2.sub
    obtain ⟨a2, us, rfl, k3, k4⟩ := q2.lst_at r2.sub
    exact ⟨a1, a2, vs, us, rfl, rfl, k1, k3, by rw [← k2.length, ← k4.length]; exact szOk_line hz, PostF.new r2 p2 (k2.append k4)⟩
  · rw [if_neg hz] at p2; exact p2.elim
/-! ### if (x := e) is None, is not None -/
def cIfw (i : Nat) (isn : Bool) (a : State → R D) (cx cy : State → R Fl) : State → R Fl := fun st => (a st).bind fun d s => if (d.isN == isn) = true then cx ⟨s.env.set i (.val d), s.sto⟩ else cy ⟨s.env.set i (.val d), s.sto⟩
def isnOp (isn : Bool) : CmpOp := if isn then .Is else .IsNot
theorem ds_ifw {i : Nat} {x : Str} {isn : Bool} {j : Nat} {cx cy : State → R Fl} {xs ys : List Stmt} (hN : X.N.Nodup) (hi : X.N[i]? = some x) (hx : L2.Loc X.env.scope x) (hf : X.fn x = true ∨ X.env.scope.names.lookup x = some .local) (ha : DE T W X a ca) (h1 : DSs T W X xs cx) (h2 : DSs T W X ys cy) :
    DS T W X (.If (.Compare (.NamedExpr (.Name x p) a p2) [isnOp isn] [.Constant .none j p3] tpos) xs ys pos) (cIfw i isn ca cx cy) := by
  have fin : ∀ {σ : L2.St} {H : Hp} {Z : Ends}, TSd T W (cIfw i isn ca cx cy) Z σ H → TEd T W ca σ H fun v H1 => ∃ k, decide (v = .non) = k ∧ (if ((k : Bool) == isn) = true then TSd T W cx Z (σ.set i (some v)) H1 else TSd T W cy Z (σ.set i (some v)) H1) := fun {σ H Z} ⟨G, w, st, r, q⟩ => by
    refine ⟨G, w, st, r, ?_⟩
    have q' := Post.seqS (Rep := RepV T) (σ := σ) q
    refine q'.mono fun v H1 ⟨w1, d, s1, l1, r1, q1, p1⟩ => ⟨_, rfl, ?_⟩
    rw [isN_ok (w := w1) (H := H1) (.inl q1)]
    have r2 := r1.setVal (i := i) q1
    by_cases hk : (d.isN == isn) = true
    · rw [if_pos hk] at p1 ⊢
      exact ⟨G, w1, _, r2, p1⟩
    · rw [if_neg hk] at p1 ⊢
      exact ⟨G, w1, _, r2, p1⟩
  cases isn with
  | true =>
    refine (ps_ifW (ptw_cmp op_isN (pew_named hN hi hx (pew_of ha) hf) (pe_non (j := j)) rfl) h1 h2).imp fun Z σ H h => ?_
    refine (fin h).imp fun v H1 ⟨k, ek, q⟩ => ⟨rfl, _, rfl, ?_⟩
    rw [ek]
    cases k <;> exact q
  | false =>
    refine (ps_ifW (ptw_cmp op_notN (pew_named hN hi hx (pew_of ha) hf) (pe_non (j := j)) rfl) h1 h2).imp fun Z σ H h => ?_
    refine (fin h).imp fun v H1 ⟨k, ek, q⟩ => ⟨rfl, _, rfl, ?_⟩
    rw [ek]
    cases k <;> exact q
end
end FW

/-! FwY: sorted(set(..)). -/
namespace FW
open PySem PySem.Spec PyProof.Rows L2
section
variable {T : Txt} {W : WX} {X : Cx} {G : Ent} {w w' : Wd} {st : State} {σ : L2.St} {H H' : Hp} {a b c e : Expr} {es : List Expr} {ca cb : State → R D} {cs : State → R (List D)} {p p2 p3 pos tpos : Pos}
/-! ### sorted(set(list of ints)) -/
def insU (x : Int) : List Int → List Int
  | [] => [x]
  | y :: r => if x < y then x :: y :: r else if x = y then y :: r else y :: insU x r
def ssrtI : List Int → List Int
  | [] => []
  | x :: r => insU x (ssrtI r)
theorem insU_mem {x k : Int} : ∀ {l : List Int}, k ∈ insU x l ↔ k = x ∨ k ∈ l
  | [] => by simp [insU]
  | y :: r => by
    unfold insU
    split
    · simp
    · split
      · rename_i h; subst h; simp
      · rw [List.mem_cons, insU_mem, List.mem_cons]
        constructor <;> (intro h; rcases h with h | h | h <;> simp [h])
theorem insU_lt {x : Int} : ∀ {l : List Int}, l.Pairwise (· < ·) → (insU x l).Pairwise (· < ·)
  | [], _ => List.pairwise_singleton ..
  | y :: r, h => by
    obtain ⟨h1, h2⟩ := List.pairwise_cons.mp h
    unfold insU
    split
    · rename_i g
      refine List.pairwise_cons.mpr ⟨fun z hz => ?_, h⟩
      rcases List.mem_cons.mp hz with rfl | hz
      · exact g
      · exact Int.lt_trans g (h1 z hz)
    · split
      · exact h
      · refine List.pairwise_cons.mpr ⟨fun z hz => ?_, insU_lt h2⟩
        rcases insU_mem.mp hz with rfl | hz
        · omega
        · exact h1 z hz
theorem ssrtI_mem {k : Int} : ∀ {l : List Int}, k ∈ ssrtI l ↔ k ∈ l
  | [] => by simp [ssrtI]
  | x :: r => by rw [ssrtI, insU_mem, ssrtI_mem, List.mem_cons]
theorem ssrtI_lt : ∀ l : List Int, (ssrtI l).Pairwise (· < ·)
  | [] => List.Pairwise.nil
  | x :: r => insU_lt (ssrtI_lt r)
theorem lt_uniq : ∀ {l m : List Int}, l.Pairwise (· < ·) → m.Pairwise (· < ·) → (∀ k, k ∈ l ↔ k ∈ m) → l = m
  | [], [], _, _, _ => rfl
  | [], b :: m, _, _, h => by simpa using (h b).mpr (List.mem_cons_self ..)
  | a :: l, [], _, _, h => by simpa using (h a).mp (List.mem_cons_self ..)
  | a :: l, b :: m, hl, hm, h => by
    obtain ⟨l1, l2⟩ := List.pairwise_cons.mp hl
    obtain ⟨m1, m2⟩ := List.pairwise_cons.mp hm
    have e : a = b := by
      rcases List.mem_cons.mp ((h a).mp (List.mem_cons_self ..)) with e | ha
      · exact e
      rcases List.mem_cons.mp ((h b).mpr (List.mem_cons_self ..)) with e | hb
      · exact e.symm
      exact absurd (Int.lt_trans (l1 b hb) (m1 a ha)) (Int.lt_irrefl _)
    subst e
    rw [lt_uniq l2 m2 fun k => ?_]
    constructor
    · intro hk
      rcases List.mem_cons.mp ((h k).mp (List.mem_cons_of_mem _ hk)) with e | q
      · subst e; exact absurd (l1 k hk) (Int.lt_irrefl _)
      · exact q
    · intro hk
      rcases List.mem_cons.mp ((h k).mpr (List.mem_cons_of_mem _ hk)) with e | q
      · subst e; exact absurd (m1 k hk) (Int.lt_irrefl _)
      · exact q
set_option maxHeartbeats 8000000 in
theorem call_setL {P : Program} {wd : World} {A : Around} {E : Value → Shared → Prop} {s : Shared} {l : Addr} {its : Array Value} (ks : List Int) {Q : Value → Shared → Prop} (hq : A.handled = none) (hl : s.heap.IsList l its) (hit : IntsAre its.toList ks) (hb : ks.length + 1 < scanBound)
    (h : ∀ (h2 : Heap) (tk c : Nat), SetR wd h2 s.heap.objs.size (fun j => decide (j ∈ ks)) c → c ≤ ks.length → (∀ b o, s.heap.get? b = some o → h2.get? b = some o) → Q (.ref s.heap.objs.size) { s with heap := h2, toks := tk }) :
    wpAny (model P wd) A (PySem.call (.type "set") [.ref l]) Q E s := by
  have hsz : its.size = ks.length := by
    have z := IntsAre.length hit
    rw [Array.length_toList] at z
    exact z
  obtain ⟨c0, tl0, hm0⟩ := F.called_set.mro
  have hmd := F.called_set.made
  have hsb := F.called_set.sub
  refine wpAny_call (codeAny_of_tree ?_)
  show wpAny _ _ (callAny (.type "set") _) _ _ _
  refine wpAny_pure ⟨Code.quiet_builtin _ (by decide +kernel), codeAny_builtin F.entry_type_call ?_⟩
  rw [Around.under_plain (weight_type_call_type "set" [.ref l] []) rfl]
  have g1 := F.called_set.notType
  have g2 := F.called_set.canCreate
  have g3 := F.typeCall_set_1 (.ref l)
  repeat (any_goals (first | assumption | wp_step))
  refine codeAny_mono (code_set_led1 (.ref l) (E := E) (Q₁ := fun ob s₁ => ob = .ref s.heap.objs.size ∧ s₁ = { s with heap := s.heap.push { cls := .type "set", dict := none, data := .set #[] 0 (.fresh 0 0 (!wd.params.followText "set-order")) } }) ⟨rfl, rfl⟩) fun r s₁ hr => ?_
  cases r with
  | error e => exact hr
  | ok fl =>
    cases fl with
    | ret ob =>
      obtain ⟨rfl, rfl⟩ := hr
      have hS : (s.heap.push { cls := .type "set", dict := none, data := .set #[] 0 (.fresh 0 0 (!wd.params.followText "set-order")) }).get? s.heap.objs.size = some { cls := .type "set", dict := none, data := .set #[] 0 (.fresh 0 0 (!wd.params.followText "set-order")) } := Heap.get?_push_size _ rfl
      have hT : Shared.TypeIs { s with heap := s.heap.push { cls := .type "set", dict := none, data := .set #[] 0 (.fresh 0 0 (!wd.params.followText "set-order")) } } (.ref s.heap.objs.size) "set" := ⟨_, hS, rfl⟩
      have g4 := F.called_set.init.lookup
      have g5 := F.called_set.init.bind (.ref s.heap.objs.size)
      repeat (any_goals (first | assumption | wp_step))
      refine codeAny_mono (codeAny_call_builtin (R := wants (fun r s₂ => r = .none ∧ ∃ h2 tk c, s₂ = { s with heap := h2, toks := tk } ∧ SetR wd h2 s.heap.objs.size (fun j => decide (j ∈ ks)) c ∧ c ≤ ks.length ∧
          (∀ b o, s.heap.get? b = some o → h2.get? b = some o)) E) F.called_set.init.plain F.entry_set_init (check_set_init_1 hT ?_)) fun r₂ s₂ hr₂ => ?_
      · obtain ⟨ol, hol, hcl, nl, hdl⟩ := hl
        obtain ⟨oc, od, odt, osl⟩ := ol
        simp only at hcl hdl
        subst hcl; subst hdl
        have hol2 : (s.heap.push { cls := .type "set", dict := none, data := .set #[] 0 (.fresh 0 0 (!wd.params.followText "set-order")) }).get? l = some { cls := .type "list", dict := od, data := .seq its nl, slots := osl } := Heap.get?_push_of_some _ hol
        have g6 := F.sub_list_set
        have g7 := F.sub_list_frozenset
        have g8 : (Value.type "list" == Value.type "dict") = false := by decide
        have hl1 : (s.heap.push { cls := .type "set", dict := none, data := .set #[] 0 (.fresh 0 0 (!wd.params.followText "set-order")) }).IsList l its := ⟨_, hol2, rfl, nl, rfl⟩
        unfold Builtin.«set.__init__» noKeywords Builtin.Frozenset.updateFrom
        generalize hPI : pyIter = PI2
        wp_walk
        subst hPI
        refine wpAny_pyIter_list hl1 ?_
        refine wpAny_bind (wpAny_runValue ?_)
        have hlS : l < s.heap.objs.size := Heap.lt_size hol
        have hh3 : A.in1.in1.in1.handled = none := by simp [hq]
        have hneI : l ≠ (s.heap.push { cls := .type "set", dict := none, data := .set #[] 0 (.fresh 0 0 (!wd.params.followText "set-order")) }).objs.size := by
          rw [Heap.size_push]; exact Nat.ne_of_lt (Nat.lt_succ_of_lt hlS)
        have hSf : s.heap.objs.size ∉ [(s.heap.push { cls := .type "set", dict := none, data := .set #[] 0 (.fresh 0 0 (!wd.params.followText "set-order")) }).objs.size, l] := by
          rw [Heap.size_push]; simp only [List.mem_cons, List.mem_singleton, List.not_mem_nil, or_false, not_or]
          exact ⟨Nat.ne_of_lt (Nat.lt_succ_self _), Nat.ne_of_gt hlS⟩
        have hval : ∀ (i : Nat) (v : Value), its[i]? = some v → ∃ k t, ks[i]? = some k ∧ v = .int k t := fun i v hv => by
          have hi : i < ks.length := by rw [← hsz]; exact (Array.getElem?_eq_some_iff.mp hv).1
          obtain ⟨t, e⟩ := PyProof.Rows.IntsAre.int_at hit i v (by rw [Array.getElem?_toList]; exact hv)
          refine ⟨ks[i], t, List.getElem?_eq_getElem hi, ?_⟩
          rw [e, List.getD_eq_getElem?_getD, List.getElem?_eq_getElem hi] <;> rfl
        refine set_update_ints ((Walks.list hh3 _ l hneI its).toS) s.heap.objs.size
          hSf ks hsz hb hval (its.size - 0) 0 _ (by omega) (Nat.zero_le _)
          ⟨⟨_, Heap.get?_push_size _ rfl, rfl, rfl⟩, (hl1.push _)⟩ ?hS0 ?hR
        case hS0 =>
          have hget : ((s.heap.push { cls := .type "set", dict := none, data := .set #[] 0 (.fresh 0 0 (!wd.params.followText "set-order")) }).push { cls := .type "list_iterator", data := .fields #[.ref l, .int 0 0] }).get? s.heap.objs.size
              = some { cls := .type "set", dict := none, data := .set #[] 0 (.fresh 0 0 (!wd.params.followText "set-order")) } := Heap.get?_push_of_some _ hS
          exact ⟨0, Nat.le_refl 0, setR_new_at hget⟩
        case hR =>
          intro s' c' hm hc' hS'
          obtain ⟨h2, gg, d2, tk2, os2⟩ := s'
          have eg : gg = s.gens := hm.gens
          have ed : d2 = s.drawn := hm.drawn
          have eo : os2 = s.os := hm.os
          subst eg; subst ed; subst eo
          show wpAny _ _ _ _ _ _
          refine wpAny_pure ?_
          show wpAny _ _ (ret Value.none) _ _ _
          rw [hsz] at hc'
          refine wpAny_pure ⟨rfl, h2, tk2, c', rfl, hS', hc', fun b o e => ?_⟩
          have hb0 : b < s.heap.objs.size := Heap.lt_size e
          have hb2 : b ≠ (s.heap.push { cls := .type "set", dict := none, data := .set #[] 0 (.fresh 0 0 (!wd.params.followText "set-order")) }).objs.size := by
            rw [Heap.size_push]; exact Nat.ne_of_lt (Nat.lt_succ_of_lt hb0)
          exact hm.heap b o (by simp only [List.mem_cons, List.mem_singleton, List.not_mem_nil, or_false, not_or]; exact ⟨Nat.ne_of_lt hb0, hb2⟩) (Heap.get?_push_of_some _ (Heap.get?_push_of_some _ e))
      · cases r₂ with
        | error e => exact hr₂
        | ok fl₂ =>
          cases fl₂ with
          | ret r =>
            obtain ⟨rfl, h2, tk2, c', rfl, hS', hc', hk'⟩ := hr₂
            repeat (any_goals (first | assumption | wp_step))
            exact h _ _ _ hS' hc' hk'
          | _ => exact hr₂.elim
    | _ => exact hr.elim
def rSetL (K : PySem.W.Frag) (wd : World) : List V → Hp → VK → Prop := fun vs H Q => ∃ (l : Addr) (ks : List Int), vs = [V.ref l] ∧ SqL K H l (ks.map V.int) ∧ ks.length < 64 ∧ ∀ p c, H p = none → c ≤ ks.length → Q (.ref p) (upd H p (SetO wd p (fun j => decide (j ∈ ks)) c))
theorem cr_setL (hc : X.calm = true) : CallR X (.type "set") (rSetL X.K X.w) := by
  intro pins s σ H vs us Q I r h
  obtain ⟨l, ks, rfl, hl, hz, q⟩ := h
  obtain ⟨its, rv, pl, hz2⟩ := I.list hl
  obtain ⟨u, rfl, ru⟩ := vals1 r
  obtain rfl : u = Value.ref l := ru
  refine call_setL ks (I.ok.hd hc) pl.isList (by simpa using intsAre_of rv) (by unfold scanBound; omega) fun h2 tk c R hcn k => ?_
  have hn : H s.heap.objs.size = none := I.hok.fresh (Nat.le_refl _)
  exact ⟨.ref s.heap.objs.size, _, I.laid (t' := tk) k (Nat.le_refl _) (setO_new R), rfl, q _ c hn hcn⟩
def cSsrt (c : State → R D) : State → R (List D) := fun st => (c st).bind fun d s => R.lift ((listD d).bind fun l => (intsD l).bind fun ks => if decide (ks.length < 64) then some ((ssrtI ks).map .int) else none) s
theorem df_ssrt (hK : X.K = T.K) (hc : X.calm = true) (hg : Gl X "sorted") (hm : X.mg "sorted" = none) (hg2 : Gl X "set") (hm2 : X.mg "set" = none) (ha : DE T W X a ca) (h1 : noSt a = true) : DF T W X (.Call (.Name "sorted" p) [.Call (.Name "set" p2) [a] [] p3] [] pos) (cSsrt ca) := by
  have hs := star_one (es := []) (env := X.env) h1
  refine (pe_callB (cr_sortedSet hc) hg hm (by decide +kernel) (pa_cons (pe_callTy (cr_setL hc) hg2 hm2 (by decide +kernel) (pa_cons ha pa_nil hs) (he := hs) (hpl := rfl)) pa_nil rfl) (he := rfl) (hpl := rfl)).imp fun σ H Q ⟨G, w, st, r, q⟩ => ?_
  refine (df_seqE r q).imp fun x H1 ⟨w1, d1, s1, l1, r1, q1, p1⟩ => ?_
  cases e : (listD d1).bind fun l => (intsD l).bind fun ks => if decide (ks.length < 64) then some ((ssrtI ks).map D.int) else none with
  | none => rw [e] at p1; exact p1.elim
  | some l' =>
    rw [e] at p1
    obtain ⟨l, e1, e2⟩ := Option.bind_eq_some_iff.mp e
    obtain ⟨ks, e3, e4⟩ := Option.bind_eq_some_iff.mp e2
    by_cases hz : decide (ks.length < 64) = true
    · rw [if_pos hz] at e4
      cases e4
      obtain ⟨a1, vs, rfl, k1, k2⟩ := listD_at hK r1.sub q1 e1
      rw [ints_rep k2 e3] at k1
      refine ⟨a1, ks, rfl, k1, of_decide_eq_true hz, fun p0 c0 hp0 hc0 => ⟨p0, _, c0, rfl, upd_same, by have := of_decide_eq_true hz; omega, fun ns p hlt hmem hlen hp => ?_⟩⟩
      have ens : ns = ssrtI ks := lt_uniq hlt (ssrtI_lt ks) fun k => by rw [hmem k, ssrtI_mem, decide_eq_true_eq]
      subst ens
      have r2 := r1.newU hp0 (SetO X.w p0 (fun j => decide (j ∈ ks)) c0)
      exact PostF.new r2 p1 (rep_ints _) p hp
    · rw [if_neg hz] at e4; cases e4
end
end FW

/-! FwZ: small dicts made; repr of data with dicts; C.m(..) of a staticmethod; o(..). -/
namespace FW
open PySem PySem.Spec PyProof.Rows L2
section
variable {T : Txt} {W : WX} {X : Cx} {G : Ent} {w w' : Wd} {st : State} {σ : L2.St} {H H' : Hp} {a b c e o : Expr} {es : List Expr} {ca cb : State → R D} {cs : State → R (List D)} {p p2 p3 pos tpos apos : Pos} {m : Str}
/-! ### dicts made -/
theorem de_dic0 : DE T W X (.Dict [] [] pos) (cPure (.dic [])) := by
  refine pe_dnewK.imp fun σ H Q ⟨G, w, st, r, q⟩ p hp => ?_
  exact q _ (.ref p) _ (Wd.le_add (r.rc.hfn hp)) (r.newF hp (.dK [])) (by simp only [RepV]; exact ⟨p, rfl, upd_same⟩)
theorem de_dic1 {k : Str} {i : Int} {j j' : Nat} : DE T W X (.Dict [some (.Constant (.str k) j p)] [.Constant (.int i) j' p2] pos) (cPure (.dic [(k, i)])) := by
  refine (pe_disp (pps_cons (pe_str (j := j)) (pe_int (j := j')) pps_nil) (by rfl) (by rfl) (fun z => by cases z) (by simp)).imp fun σ H Q ⟨G, w, st, r, q⟩ d hd => ?_
  have e : (Sum.inr k : Key) = Sum.inr k := rfl
  refine ⟨upd_same, [(Sum.inr k, .int i)], rfl, by simp, ?_⟩
  have hm : mergeK [] [((Sum.inr k : Key), V.int i)] = [(Sum.inr k, V.int i)] := rfl
  rw [hm, upd_upd]
  exact q _ (.ref d) _ (Wd.le_add (r.rc.hfn hd)) (r.newF hd (.dK [(Sum.inr k, V.int i)])) (by simp only [RepV]; exact ⟨d, rfl, upd_same⟩)
/-! ### C.m(..), m a staticmethod -/
def StatOk (T : Txt) (X : Cx) (F : Nat → Call) (m : Str) (c i : Nat) : Prop :=
  ∃ p g n, PySem.W.readsIn X.K (T.cA c) (.type "type") = true ∧ PySem.W.specialIn X.K (.ref (T.cA c)) "__getattribute__" = some (some (.builtin "type.__getattribute__")) ∧
    PySem.W.findCls X.K (.ref (T.cA c)) (.type "type") m = some (.get (.builtin "staticmethod.__get__") (.ref p) .none (.ref (T.cA c))) ∧ (∃ rest, PySem.W.recIn X.K p "staticmethod" = some (.ref g :: rest)) ∧ CalleeAt T X g n (F i)
theorem de_stat {F : Nat → Call} {x : Str} {c i : Nat} (hg : Gl X x) (hd : (x == ("__debug__" : Str)) = false) (hm : X.mg x = some (.ref (T.cA c))) (ok : StatOk T X F m c i) (tk : Takes X W) (hs : (e :: es).all noSt = true) (hn : (e :: es).length < 30) (hl : (apos.endLine == pos.line) = true)
    (ha : DA T W X (e :: es) cs) : DE T W X (.Call (.Attribute (.Name x p) m apos) (e :: es) [] pos) (cCall (F i) cs) := by
  have hs0 := hs
  rw [List.all_cons] at hs
  obtain ⟨hs1, hs2⟩ := band hs
  obtain ⟨p0, g, n, k1, k2, k3, ⟨rest, k4⟩, k5⟩ := ok
  have hlen := k5
  obtain ⟨_, _, _, _, _, kp, _, _, hlen⟩ := hlen
  refine ⟨fun pins s σ H Q I ⟨G, w, st, r, q⟩ => ?_⟩
  refine PySem.W.methodCall_KW (ld_glob I hg hm ?_ hd) (meth_eval rfl hs0 hn hl)
  refine PySem.W.method_cls I.kIn k2 (PySem.W.cls_bind I.kIn k1 k3 (wpAny_call (PySem.W.sm_get (s := { s with toks := s.toks + 1 }) I.kIn k4 (PySem.W.handed_on rfl ?_))))
  have I1 : Inv X pins σ H { s with toks := s.toks + 1 } := I.tok _
  refine PySem.W.callWith_K (first := []) (h₀ := X.base) I.ok.mod.kin kp (thn (ha.run pos pins _ σ H _ I1 (seqA r (f := fun ds s => match F i ds s.sto with
    | .ok d s' => .ok d ⟨s.env, s'.sto⟩
    | .exc e s' => .exc e ⟨s.env, s'.sto⟩
    | .bad => .bad) q)) fun us s2 ⟨vs, H2, I2, rv, w2, ds, s3, le2, r2, q2, p2⟩ => ⟨I2.kIn, ?_⟩) (star_one hs1) (back_plain hs2)
  exact run_at (us := us) (vs := vs) (E := WE W) k5 (passAt tk σ) I2 rv (spD_of (n := n) r2 q2 (hlen _ _) p2)
/-! ### o(..) -/
def CalOk (T : Txt) (X : Cx) (F : Nat → Call) (c i : Nat) : Prop := ∃ g n, Meth X.K (T.cA c) "__call__" g ∧ PySem.W.fnIn X.K g = true ∧ CalleeAt T X g n (F i)
/-- the run of a def's code -/
theorem code_at {pins : List (Addr × Obj)} {s : Shared} {Q : VK} {us : List Value} {vs : List V} {g : Addr} {n : Nat} {c : Call} {E : L2.St → XK} (F : CalleeAt T X g n c) (hx : PassesAt (L2.CX X.prog X.w) X σ (E σ))
    (I : Inv X pins σ H s) (r : Vals vs us) (h : spD T n c vs H Q (E σ)) : codeAny (model X.prog X.w) X.A (.call (.ref g) ⟨us, []⟩) (wants (EP X pins σ Q) X.xe) s := by
  obtain ⟨k, fd, ps, F, hr, hk, hb, hl, _⟩ := F
  have hl : us.length = ps.length := by rw [← r.length]; exact F.len _ _ _ _ h
  have b := hb s us I.kIn (by rw [List.append_nil]; exact hl)
  rw [List.append_nil] at b
  refine codeAny_mono (F.run X.A X.stack s H ⟨us, []⟩ us vs Q (E σ) (hr.mono (Nat.le_succ _)) I.env0 b r h) fun r s' hq => ?_
  cases r with
  | error e => exact hx pins H s e s' I hq
  | ok fl =>
    cases fl with
    | ret u => exact I.after hq
    | next => exact False.elim hq
    | brk => exact False.elim hq
    | cont => exact False.elim hq
def cOcall (F : Nat → Call) (mt : Nat → Option Nat) (a : State → R D) (cs : State → R (List D)) : State → R D := fun st => (a st).bind fun d s => if (clsOf s d).isSome then (cs s).bind fun ds s2 => match clsOf s2 d with
  | some c => (match mt c with
    | some i => (F i (d :: ds) s2.sto).back s2.env
    | none => .bad)
  | none => .bad else .bad
theorem de_ocall {F : Nat → Call} {mt : Nat → Option Nat} {x : Str} (hmt : ∀ c i, mt c = some i → CalOk T X F c i) (tk : Takes X W) (hs : (e :: es).all noSt = true) (ho : DE T W X (.Name x p) ca) (ha : DA T W X (e :: es) cs) : DE T W X (.Call (.Name x p) (e :: es) [] pos) (cOcall F mt ca cs) := by
  rw [List.all_cons] at hs
  obtain ⟨hs1, hs2⟩ := band hs
  refine ⟨fun pins s σ H Q I ⟨G, w, st, r, q⟩ => ?_⟩
  refine wpAny_Call_Name_kw (thn (ho.run pins s σ H _ I (seqE r q)) fun u s1 ⟨x1, H1, I1, rx, w1, d, s', le, r1, q1, p1⟩ => ?_)
  cases ec0 : clsOf s' d with
  | none => rw [ec0] at p1; exact p1.elim
  | some c0 =>
    rw [ec0] at p1
    have p1 : Post T W G w1 σ (RepV T) ((cs s').bind fun ds s2 => match clsOf s2 d with
      | some c => (match mt c with
        | some i => (F i (d :: ds) s2.sto).back s2.env
        | none => .bad)
      | none => .bad) Q := p1
    obtain ⟨a1, _, _, rfl, _⟩ := obj_at r1 q1 ec0
    obtain rfl : u = Value.ref a1 := rx
    refine StX.callO_with (thn (ha.run pos pins s1 σ H1 _ I1 (seqA r1 p1)) fun us s2 ⟨vs, H2, I2, rv, w2, ds, s3, le2, r2, q2, p2⟩ => ?_) (star_one hs1) (back_plain hs2)
    cases ec : clsOf s3 d with
    | none => rw [ec] at p2; exact p2.elim
    | some c =>
      rw [ec] at p2
      have p2 : Post T W G w2 σ (RepV T) (match mt c with
        | some i => (F i (d :: ds) s3.sto).back s3.env
        | none => .bad) Q := p2
      cases em : mt c with
      | none => rw [em] at p2; exact p2.elim
      | some i =>
        rw [em] at p2
        obtain ⟨g, n, k1, k2, k3⟩ := hmt c i em
        have q1' := q1.up le2
        obtain ⟨a2, dx, fs, e2, ea⟩ := obj_at r2 q1' ec
        cases e2
        obtain ⟨od, J⟩ := inst_at I2 ea
        have hlen := k3
        obtain ⟨_, _, _, _, _, _, _, _, hlen⟩ := hlen
        refine ⟨⟨_, _, _, J, rfl⟩, ?_⟩
        have run := code_at (us := .ref a1 :: us) (vs := .ref a1 :: vs) (E := WE W) k3 (passAt tk σ) I2 (.cons rfl rv) (spD_of (n := n) r2 (.cons q1' q2) (hlen _ _) (by rw [← back_eq]; exact p2))
        exact wpAny_call (PySem.W.kco_code I2.kIn J rfl k1.at_ k1.fn k2 run)
end
end FW

/-! FwZb: isinstance of objects, and with own classes. -/
namespace FW
open PySem PySem.Spec PyProof.Rows L2
/-- what must hold of a class whose objects are asked -/
structure IsCls (T : Txt) (X : Cx) (c : Nat) : Prop where
  cls : Cls X.K (T.cA c)
  ha : PySem.W.findIn X.K (.ref (T.cA c)) "__class__" = some (some (.builtin "object.__class__"))
  hn : PySem.W.specialIn X.K (.builtin "object.__class__") "__get__" = some (some (.builtin "getset_descriptor.__get__"))
  ht : PySem.W.takesIn X.K (.builtin "object.__class__") = some true
  hm : PySem.W.mroIn X.K (T.cA c) (.type "object") = some true
  no : ∀ t : Ty, PySem.W.kitOne X.K (.ref (T.cA c)) (.type t.nm) = some false
def isiO (ok : Nat → Bool) (s : State) (d : D) (ts : List Ty) : Option D := match clsOf s d with
  | some c => if ok c then some (.bl false) else none
  | none => isiD d ts
section
variable {T : Txt} {W : WX} {X : Cx} {G : Ent} {w w' : Wd} {st : State} {σ : L2.St} {H H' : Hp} {a b c e o : Expr} {es : List Expr} {ca cb : State → R D} {cs : State → R (List D)} {p p2 p3 pos : Pos}
theorem tyX_own {s : State} {d : D} {v : V} {c : Nat} (r : RS T G w s σ H) (q : RepV T w d v) (e : clsOf s d = some c) (k : IsCls T X c) : TyX X.K H v (.ref (T.cA c)) := by
  obtain ⟨a, dx, fs, rfl, ea⟩ := obj_at r q e
  exact .base (.ins ea k.cls k.ha k.hn k.ht k.hm)
theorem kit_false {c : Nat} (k : IsCls T X c) : ∀ ts : List Ty, PySem.W.kitAny X.K (.ref (T.cA c)) (ts.map fun t => Value.type t.nm) = some false
  | [] => rfl
  | t :: ts => by
    rw [List.map_cons]
    unfold PySem.W.kitAny
    rw [k.no t]
    exact kit_false k ts
def cIso (ok : Nat → Bool) (c : State → R D) (ts : List Ty) : State → R D := fun st => (c st).bind fun d s => R.lift (isiO ok s d ts) s
/-- the two ways -/
theorem iso_two (hK : X.K = T.K) {ok : Nat → Bool} (hok : ∀ c, ok c = true → IsCls T X c) {s : State} {d e : D} {v : V} {ts : List Ty} (r : RS T G w s σ H) (q : RepV T w d v) (h : isiO ok s d ts = some e) :
    ∃ t k, e = .bl k ∧ TyX X.K H v t ∧ PySem.W.kitAny X.K t (ts.map fun t => Value.type t.nm) = some k := by
  unfold isiO at h
  cases ec : clsOf s d with
  | some c =>
    rw [ec] at h
    have h : (if ok c = true then some (D.bl false) else none) = some e := h
    by_cases hc : ok c = true
    · rw [if_pos hc] at h
      cases h
      exact ⟨_, false, rfl, tyX_own r q ec (hok c hc), kit_false (hok c hc) ts⟩
    · rw [if_neg hc] at h; cases h
  | none =>
    rw [ec] at h
    obtain ⟨n, hn, rfl⟩ := isiD_some h
    exact ⟨_, _, rfl, hK ▸ tyX_D r.sub q hn, kit_any hn ts⟩
theorem any_one {K : PySem.W.Frag} {t u : Value} {k : Bool} (h : PySem.W.kitAny K t [u] = some k) : PySem.W.kitOne K t u = some k := by
  unfold PySem.W.kitAny at h
  cases e : PySem.W.kitOne K t u with
  | none => rw [e] at h; cases h
  | some b =>
    rw [e] at h
    cases b with
    | true => exact h
    | false => exact h
theorem de_iso1 (hK : X.K = T.K) {ok : Nat → Bool} (hok : ∀ c, ok c = true → IsCls T X c) (t : Ty) (hg : Gl X "isinstance") (hm : X.mg "isinstance" = none) (ha : DE T W X a ca) (hb : PE X b (tC (.ty t.nm))) (h1 : starEach [a, b] X.env = (false, eval a X.env) :: starEach [b] X.env) (h2 : starEach [b] X.env = (false, eval b X.env) :: starEach [] X.env)
    (hpl : (backTo pos (starEach [b] X.env)).any (·.1) = false) : DE T W X (.Call (.Name "isinstance" p) [a, b] [] pos) (cIso ok ca [t]) := by
  refine (pe_callB call_isi hg hm (by decide +kernel) (pa_cons ha (pa_cons hb pa_nil h2) h1) (he := h1) (hpl := hpl)).imp fun σ H Q ⟨G, w, st, r, q⟩ => ?_
  refine (seqE r q).imp fun x H1 ⟨w1, d1, s1, l1, r1, q1, p1⟩ => ?_
  obtain ⟨e, he, p2⟩ := Post.lift p1
  obtain ⟨u, k, rfl, z1, z2⟩ := iso_two hK hok r1 q1 he
  exact ⟨x, .ty t.nm, _, _, _, rfl, .ty _, z1, any_one z2, p2.here r1 .bl_⟩
theorem de_isoN (hK : X.K = T.K) {ok : Nat → Bool} (hok : ∀ c, ok c = true → IsCls T X c) (ts : List Ty) {k : Nat} (hg : Gl X "isinstance") (hm : X.mg "isinstance" = none) (ha : DE T W X a ca) (hb : PA X es (fun σ H Q => Q (ts.map fun t => V.ty t.nm) H)) (hz : ts.length ≤ 100)
    (h1 : starEach [a, .Tuple es k p2] X.env = (false, eval a X.env) :: starEach [.Tuple es k p2] X.env) (hpl : (backTo pos (starEach [.Tuple es k p2] X.env)).any (·.1) = false) : DE T W X (.Call (.Name "isinstance" p) [a, .Tuple es k p2] [] pos) (cIso ok ca ts) := by
  refine (pe_callB call_isiT hg hm (by decide +kernel) (pa_cons ha (pa_cons (pe_tup hb) pa_nil rfl) h1) (he := h1) (hpl := hpl)).imp fun σ H Q ⟨G, w, st, r, q⟩ => ?_
  refine (seqE r q).imp fun x H1 ⟨w1, d1, s1, l1, r1, q1, p1⟩ => ?_
  refine ⟨by rw [List.length_map, sizeLine_eq]; omega, fun t ht => ?_⟩
  obtain ⟨e, he, p2⟩ := Post.lift p1
  have r2 := r1.newU ht (.tup (ts.map fun t => V.ty t.nm))
  obtain ⟨u, k, rfl, z1, z2⟩ := iso_two hK hok r2 q1 he
  exact ⟨x, t, _, u, ts.map fun t => Value.type t.nm, _, rfl, upd_same, tys_cls ts, z1, z2, p2.here r2 .bl_⟩
/-! ### one own class asked for -/
structure IsTgt (T : Txt) (X : Cx) (known : Nat → Bool) (sub : Nat → Bool) (c2 : Nat) : Prop where
  blt : ∀ n ∈ ["NoneType", "bool", "int", "str", "tuple", "list", "dict"], PySem.W.kitOne X.K (.type n) (.ref (T.cA c2)) = some false
  own : ∀ c, known c = true → PySem.W.kitOne X.K (.ref (T.cA c)) (.ref (T.cA c2)) = some (sub c)
def iscD (ok sub : Nat → Bool) (s : State) (d : D) : Option D := match clsOf s d with
  | some c => if ok c then some (.bl (sub c)) else none
  | none => if d.tn.isSome then some (.bl false) else none
def cIsc (ok sub : Nat → Bool) (c : State → R D) : State → R D := fun st => (c st).bind fun d s => R.lift (iscD ok sub s d) s
theorem tn_mem {d : D} {n : String} (h : d.tn = some n) : n ∈ ["NoneType", "bool", "int", "str", "tuple", "list", "dict"] := by
  cases d <;> first | (cases h; done) | (cases h; simp)
theorem de_isc (hK : X.K = T.K) {ok sub : Nat → Bool} {x : Str} {c2 : Nat} (hok : ∀ c, ok c = true → IsCls T X c) (ht : IsTgt T X ok sub c2) (hg : Gl X "isinstance") (hm : X.mg "isinstance" = none) (ha : DE T W X a ca) (hgx : Gl X x) (hmx : X.mg x = some (.ref (T.cA c2))) (hd : (x == ("__debug__" : Str)) = false) (hn : noSt a = true) :
    DE T W X (.Call (.Name "isinstance" p) [a, .Name x p2] [] pos) (cIsc ok sub ca) := by
  have hb : PE X (.Name x p2) (tC (.ref (T.cA c2))) := pe_glob hgx hmx rfl hd
  refine (pe_callB call_isi hg hm (by decide +kernel) (pa_cons ha (pa_cons hb pa_nil rfl) (star_one hn)) (he := star_one hn) (hpl := rfl)).imp fun σ H Q ⟨G, w, st, r, q⟩ => ?_
  refine (seqE r q).imp fun y H1 ⟨w1, d1, s1, l1, r1, q1, p1⟩ => ?_
  obtain ⟨e, he, p3⟩ := Post.lift p1
  unfold iscD at he
  cases ec : clsOf s1 d1 with
  | some c =>
    rw [ec] at he
    have he : (if ok c = true then some (D.bl (sub c)) else none) = some e := he
    by_cases hc : ok c = true
    · rw [if_pos hc] at he
      cases he
      exact ⟨y, .ref (T.cA c2), _, _, _, rfl, .own _, tyX_own r1 q1 ec (hok c hc), ht.own c hc, p3.here r1 .bl_⟩
    · rw [if_neg hc] at he; cases he
  | none =>
    rw [ec] at he
    have he : (if d1.tn.isSome = true then some (D.bl false) else none) = some e := he
    cases et : d1.tn with
    | none => rw [et] at he; cases he
    | some n =>
      rw [et] at he
      cases he
      exact ⟨y, .ref (T.cA c2), _, _, _, rfl, .own _, hK ▸ tyX_D r1.sub q1 et, ht.blt n (tn_mem et), p3.here r1 .bl_⟩
end
end FW

/-! FwZc: a in o, o an object with an own __contains__. -/
namespace FW
open PySem PySem.Spec PyProof.Rows L2
section
variable {M : Model} {A : Around} {E : Value → Shared → Prop} {s : Shared} {K : PySem.W.Frag} {x C f : Addr} {ox : Obj} {od : Option Obj} {v : Value}
theorem in_here {Q : Value → Shared → Prop} (X : K.In s.heap) (I : PySem.W.InstAt s.heap x ox C od) (hs : PySem.W.findIn K (.ref C) "__contains__" = some (some (.ref f))) (hf : PySem.W.isFn K (.ref f) = true)
    (h : wpAny M A (PySem.call (.ref f) [.ref x, v]) (fun r s' => wpAny M A (truthy r) (fun b => Q (.bool b)) E s') E s) : wpAny M A (compareOp .In v (.ref x)) Q E s := by
  refine wpAny_bind ?_
  unfold contains
  refine wpAny_holding (wpAny_bind (wpAny_bind (I.type.here ((PySem.W.looks_findIn X hs).here ?_))))
  rw [if_neg (by simp)]
  exact wpAny_bind (PySem.W.unlessNone_K X I hs hf (wpAny_mono h (fun _ _ z => wpAny_mono z (fun _ _ z => wpAny_pure z) fun _ _ z => z) fun _ _ z => z))
end
def cInO (F : Nat → Call) (mt : Nat → Option Nat) (a b : State → R D) : State → R D := fun st => (a st).bind fun d s1 => (b s1).bind fun e s2 => match clsOf s2 e with
  | some c => (match mt c with
    | some i => ((F i [e, d] s2.sto).back s2.env).bind fun r s3 => match r with
      | .bl k => .ok (.bl k) s3
      | _ => .bad
    | none => .bad)
  | none => .bad
section
variable {T : Txt} {W : WX} {X : Cx} {G : Ent} {w w' : Wd} {st : State} {σ : L2.St} {H H' : Hp} {a b e o : Expr} {ca cb : State → R D} {pos : Pos}
theorem Post.seqP {r : R D} {f : D → State → R D} {Q : VK} (h : Post T W G w σ (RepV T) (r.bind f) Q) :
    Post T W G w σ (RepV T) r fun v H1 => ∃ w1 d s, w.le w1 ∧ RS T G w1 s σ H1 ∧ RepV T w1 d v ∧ Post T W G w1 σ (RepV T) (f d s) Q := by
  cases r with
  | ok d s => exact fun w' v H' a b c => ⟨w', d, s, a, b, c, Post.up a h⟩
  | exc x s => exact h
  | bad => exact h
theorem inO_core {F : Nat → Call} {mt : Nat → Option Nat} (hmt : ∀ c i, mt c = some i → MethOk T X F "__contains__" c i) (tk : Takes X W) {pins : List (Addr × Obj)} {s2 : Shared} {s'' : State} {w2 : Wd} {H2 : Hp} {d e : D} {x y : V} {u u2 : Value} {Q : VK} (I2 : Inv X pins σ H2 s2)
    (rx : RelV x u) (ry : RelV y u2) (r2 : RS T G w2 s'' σ H2) (q1 : RepV T w2 d x) (q2 : RepV T w2 e y) (p2 : Post T W G w2 σ (RepV T) (match clsOf s'' e with
      | some c => (match mt c with
        | some i => ((F i [e, d] s''.sto).back s''.env).bind fun r s3 => match r with
          | .bl k => .ok (.bl k) s3
          | _ => .bad
        | none => .bad)
      | none => .bad) Q) : wpAny (model X.prog X.w) X.A (compareOp .In u u2) (fun v s' => ∃ k, v = .bool k ∧ ∃ H', Inv X pins σ H' s' ∧ Q (.bl k) H') X.xe s2 := by
  cases ec : clsOf s'' e with
  | none => rw [ec] at p2; exact p2.elim
  | some c =>
    rw [ec] at p2
    have p2 : Post T W G w2 σ (RepV T) (match mt c with
      | some i => ((F i [e, d] s''.sto).back s''.env).bind fun r s3 => match r with
        | .bl k => .ok (.bl k) s3
        | _ => .bad
      | none => .bad) Q := p2
    cases em : mt c with
    | none => rw [em] at p2; exact p2.elim
    | some i =>
      rw [em] at p2
      have p3 := Post.seqP p2
      obtain ⟨a1, dx, fs, rfl, ea⟩ := obj_at r2 q2 ec
      obtain rfl : u2 = Value.ref a1 := ry
      obtain ⟨od, J⟩ := inst_at I2 ea
      obtain ⟨_, _, g, n, k3, k4⟩ := hmt c i em
      have hlen := k4
      obtain ⟨_, _, _, _, _, _, _, _, hlen⟩ := hlen
      have run := run_at (us := [.ref a1, u]) (vs := [.ref a1, x]) (E := WE W) k4 (passAt tk σ) I2 (.cons rfl (.cons rx .nil)) (spD_of (n := n) r2 (.cons q2 (.cons q1 .nil)) (hlen _ _) (by rw [← back_eq]; exact p3))
      refine in_here I2.kIn J k3.at_ k3.fn (wpAny_mono run (fun v s' ⟨z, H', I', rz, w3, d3, s3, le, r3, q3, p4⟩ => ?_) fun _ _ e => e)
      cases d3 <;> first | exact p4.elim | skip
      rename_i kb
      have e1 := q3.bl_eq
      subst e1
      obtain rfl : v = Value.bool kb := rz
      unfold truthy
      exact wpAny_pure ⟨kb, rfl, H', I', p4.here r3 .bl_⟩
theorem de_inO {F : Nat → Call} {mt : Nat → Option Nat} (hmt : ∀ c i, mt c = some i → MethOk T X F "__contains__" c i) (tk : Takes X W) (ha : DE T W X a ca) (hb : DE T W X b cb) (hm : behindInMarks .In b = false) :
    DE T W X (.Compare a [.In] [b] pos) (cInO F mt ca cb) := by
  refine ⟨fun pins s σ H Q I ⟨G, w, st, r, q⟩ => ?_⟩
  refine wpAny_Compare1 (thn (ha.run pins s σ H _ I (seqE r q)) fun u s1 ⟨x, H1, I1, rx, w1, d, s', le1, r1, q1, p1⟩ => thn (hb.run pins s1 σ H1 _ I1 (seqE r1 p1)) fun u2 s2 ⟨y, H2, I2, ry, w2, e, s'', le2, r2, q2, p2⟩ => ?_) hm
  exact wpAny_mono (inO_core hmt tk I2 rx ry r2 (q1.up le2) q2 p2) (fun v s' ⟨k, e, H', I', q⟩ => ⟨.bl k, H', I', e, q⟩) fun _ _ e => e
/-- the same as a test -/
theorem dt_inO {F : Nat → Call} {mt : Nat → Option Nat} (hmt : ∀ c i, mt c = some i → MethOk T X F "__contains__" c i) (tk : Takes X W) (ha : DE T W X a ca) (hb : DE T W X b cb) (hm : behindInMarks .In b = false) :
    DT T W X (.Compare a [.In] [b] pos) (toB (cInO F mt ca cb)) := by
  have h : PT X (.Compare a [.In] [b] pos) (tTest (TEd T W (cInO F mt ca cb))) := by
    refine ⟨fun pins s σ H Q I ⟨G, w, st, r, q⟩ => ?_⟩
    refine wpAny_isTrue_Compare1 (thn (ha.run pins s σ H _ I (seqE r q)) fun u s1 ⟨x, H1, I1, rx, w1, d, s', le1, r1, q1, p1⟩ => thn (hb.run pins s1 σ H1 _ I1 (seqE r1 p1)) fun u2 s2 ⟨y, H2, I2, ry, w2, e, s'', le2, r2, q2, p2⟩ => ?_) hm
    refine wpAny_mono (inO_core hmt tk I2 rx ry r2 (q1.up le2) q2 p2) (fun v s' ⟨k, e, H', I', q⟩ => ?_) fun _ _ e => e
    subst e
    obtain ⟨k', e2, q⟩ := q
    injection e2 with e2
    subst e2
    exact wpAny_truthy_bool ⟨H', I', q⟩
  exact h.imp fun σ H Q h => dt_bool h
end
end FW

/-! FwZd: a == b by an own __eq__. -/
namespace FW
open PySem PySem.Spec PyProof.Rows L2
section
variable {prog : Program} {w : World} {A : Around} {E : Value → Shared → Prop} {s : Shared} {K : PySem.W.Frag} {x y C D f : Addr} {ox oy : Obj} {od od' : Option Obj} {Q : Value → Shared → Prop}
theorem try_eq {b : Value} (X : K.In s.heap) (I : PySem.W.InstAt s.heap x ox C od) (hs : PySem.W.findIn K (.ref C) "__eq__" = some (some (.ref f))) (hf : PySem.W.isFn K (.ref f) = true)
    (h : wpAny (model prog w) A (PySem.call (.ref f) [.ref x, b]) (PySem.W.CmpBack Q) E s) : wpAny (model prog w) A (tryCompare (.ref x) "__eq__" b) (fun r s' => ∃ v, r = some v ∧ Q v s') E s := by
  unfold tryCompare
  refine wpAny_bind (PySem.W.ifBound_K X I hs hf (wpAny_mono h (fun v s' hv => ?_) fun _ _ e => e))
  cases v <;> first | exact hv.elim | exact wpAny_pure ⟨_, rfl, hv⟩
/-- the left one answers -/
theorem eq_left {b tb : Value} (hu : A.units < cLine) (X : K.In s.heap) (I : PySem.W.InstAt s.heap x ox C od) (hb : PySem.W.Looks (model prog w) s.heap (typeOf b) tb) (hn : PySem.W.notFirst K C tb = true)
    (hs : PySem.W.findIn K (.ref C) "__eq__" = some (some (.ref f))) (hf : PySem.W.isFn K (.ref f) = true)
    (h : wpAny (model prog w) A (PySem.call (.ref f) [.ref x, b]) (PySem.W.CmpBack Q) E s) : wpAny (model prog w) A (richCompare .Eq (.ref x) b) Q E s := by
  have one := try_eq (b := b) X I hs hf h
  unfold richCompare
  simp only [oneThing_ref]
  refine wpAny_holding (wpAny_bind (wpAny_cRoomFor hu ?_))
  refine wpAny_bind (I.type.here (wpAny_bind (hb.here ?_)))
  split
  · rename_i q
    have e : PySem.W.subIn K tb (.ref C) = some false := by
      rcases Bool.or_eq_true_iff.mp hn with e | e
      · rw [beq_iff_eq.mp e] at q; simp at q
      · exact beq_iff_eq.mp e
    refine wpAny_bind ((PySem.W.looks_subIn X e).here ?_)
    simp only [Bool.false_eq_true, if_false]
    refine wpAny_bind (wpAny_mono one (fun r s' z => ?_) fun _ _ e => e)
    obtain ⟨v, rfl, hq⟩ := z
    exact wpAny_pure hq
  · refine wpAny_bind (wpAny_pure ?_)
    simp only [Bool.false_eq_true, if_false]
    refine wpAny_bind (wpAny_mono one (fun r s' z => ?_) fun _ _ e => e)
    obtain ⟨v, rfl, hq⟩ := z
    exact wpAny_pure hq
/-- the right one's class is below the left one's: it is asked first -/
theorem eq_right (hu : A.units < cLine) (X : K.In s.heap) (I : PySem.W.InstAt s.heap x ox C od) (J : PySem.W.InstAt s.heap y oy D od') (ne : C ≠ D) (hn : PySem.W.subIn K (.ref D) (.ref C) = some true)
    (hs : PySem.W.findIn K (.ref D) "__eq__" = some (some (.ref f))) (hf : PySem.W.isFn K (.ref f) = true)
    (h : wpAny (model prog w) A (PySem.call (.ref f) [.ref y, .ref x]) (PySem.W.CmpBack Q) E s) : wpAny (model prog w) A (richCompare .Eq (.ref x) (.ref y)) Q E s := by
  have one := try_eq (b := .ref x) X J hs hf h
  have hne : (Value.ref C != Value.ref D) = true := bne_iff_ne.mpr fun z => ne (by cases z; rfl)
  unfold richCompare
  simp only [oneThing_ref]
  refine wpAny_holding (wpAny_bind (wpAny_cRoomFor hu ?_))
  refine wpAny_bind (I.type.here (wpAny_bind (J.type.here ?_)))
  rw [if_pos hne]
  refine wpAny_bind ((PySem.W.looks_subIn X hn).here ?_)
  simp only [if_true]
  refine wpAny_bind (wpAny_mono one (fun r s' z => ?_) fun _ _ e => e)
  obtain ⟨v, rfl, hq⟩ := z
  exact wpAny_bind (wpAny_rule (wpAny_pure hq))
end
/-- one class is below another one -/
def UpOk (T : Txt) (X : Cx) (c c2 : Nat) : Prop := T.cA c ≠ T.cA c2 ∧ PySem.W.subIn X.K (.ref (T.cA c)) (.ref (T.cA c2)) = some true
def eqW (F : Nat → Call) (mt : Nat → Option Nat) (nb up : Nat → Nat → Bool) (s : State) (d e : D) : R D := match clsOf s d, clsOf s e with
  | some c, some c2 => if (decide (c2 = c) || nb c c2) = true then (match mt c with
      | some i => ((F i [d, e] s.sto).back s.env).bind fun r s3 => match r with
        | .bl k => .ok (.bl k) s3
        | _ => .bad
      | none => .bad)
    else if up c2 c = true then (match mt c2 with
      | some i => ((F i [e, d] s.sto).back s.env).bind fun r s3 => match r with
        | .bl k => .ok (.bl k) s3
        | _ => .bad
      | none => .bad)
    else .bad
  | _, _ => .bad
def cEqO (F : Nat → Call) (mt : Nat → Option Nat) (nb up : Nat → Nat → Bool) (a b : State → R D) : State → R D := fun st => (a st).bind fun d s1 => (b s1).bind fun e s2 => eqW F mt nb up s2 d e
section
variable {T : Txt} {W : WX} {X : Cx} {G : Ent} {w w' : Wd} {st : State} {σ : L2.St} {H H' : Hp} {a b : Expr} {ca cb : State → R D} {pos : Pos}
theorem eqO_core {F : Nat → Call} {mt : Nat → Option Nat} {nb up : Nat → Nat → Bool} (hu : X.A.units + 64 < cLine) (hmt : ∀ c i, mt c = some i → MethOk T X F "__eq__" c i) (hnb : ∀ c c2, nb c c2 = true → NbOk T X c c2) (hup : ∀ c c2, up c c2 = true → UpOk T X c c2) (tk : Takes X W)
    {pins : List (Addr × Obj)} {s2 : Shared} {s'' : State} {w2 : Wd} {H2 : Hp} {d e : D} {x y : V} {u u2 : Value} {Q : VK} (I2 : Inv X pins σ H2 s2)
    (rx : RelV x u) (ry : RelV y u2) (r2 : RS T G w2 s'' σ H2) (q1 : RepV T w2 d x) (q2 : RepV T w2 e y) (p2 : Post T W G w2 σ (RepV T) (eqW F mt nb up s'' d e) Q) :
    wpAny (model X.prog X.w) X.A (compareOp .Eq u u2) (fun v s' => ∃ k, v = .bool k ∧ ∃ H', Inv X pins σ H' s' ∧ Q (.bl k) H') X.xe s2 := by
  unfold eqW at p2
  cases ec : clsOf s'' d with
  | none => rw [ec] at p2; exact p2.elim
  | some c =>
    cases ec2 : clsOf s'' e with
    | none => rw [ec, ec2] at p2; exact p2.elim
    | some c2 =>
      rw [ec, ec2] at p2
      dsimp only at p2
      obtain ⟨a1, dx, fs, rfl, ea⟩ := obj_at r2 q1 ec
      obtain rfl : u = Value.ref a1 := rx
      obtain ⟨od, J⟩ := inst_at I2 ea
      obtain ⟨a2, dx2, fs2, rfl, ea2⟩ := obj_at r2 q2 ec2
      obtain rfl : u2 = Value.ref a2 := ry
      obtain ⟨od2, J2⟩ := inst_at I2 ea2
      show wpAny (model X.prog X.w) X.A (richCompare .Eq (.ref a1) (.ref a2)) _ X.xe s2
      have fin : ∀ {v : Value} {s' : Shared}, EP X pins σ (fun v H1 => ∃ w1 d s, w2.le w1 ∧ RS T G w1 s σ H1 ∧ RepV T w1 d v ∧ Post T W G w1 σ (RepV T) (match d with
          | .bl k => .ok (.bl k) s
          | _ => .bad) Q) v s' → PySem.W.CmpBack (fun v s' => ∃ k, v = .bool k ∧ ∃ H', Inv X pins σ H' s' ∧ Q (.bl k) H') v s' := fun {v s'} ⟨z, H', I', rz, w3, d3, s3, le, r3, q3, p4⟩ => by
        cases d3 <;> first | exact p4.elim | skip
        have e1 := q3.bl_eq
        subst e1
        obtain rfl := rz
        exact ⟨_, rfl, H', I', p4.here r3 .bl_⟩
      by_cases hc : (decide (c2 = c) || nb c c2) = true
      · rw [if_pos hc] at p2
        cases em : mt c with
        | none => rw [em] at p2; exact p2.elim
        | some i =>
          rw [em] at p2
          have p3 := Post.seqP p2
          obtain ⟨_, _, g, n, k3, k4⟩ := hmt c i em
          have hlen := k4
          obtain ⟨_, _, _, _, _, _, _, _, hlen⟩ := hlen
          have run := run_at (us := [.ref a1, .ref a2]) (vs := [.ref a1, .ref a2]) (E := WE W) k4 (passAt tk σ) I2 (.cons rfl (.cons rfl .nil)) (spD_of (n := n) r2 (.cons q1 (.cons q2 .nil)) (hlen _ _) (by rw [← back_eq]; exact p3))
          refine eq_left (by omega) I2.kIn J J2.type ?_ k3.at_ k3.fn (wpAny_mono run (fun v s' z => fin z) fun _ _ e => e)
          rcases Bool.or_eq_true_iff.mp hc with z | z
          · rw [of_decide_eq_true z]; simp [PySem.W.notFirst]
          · simp [PySem.W.notFirst, (hnb c c2 z).2]
      · rw [if_neg hc] at p2
        by_cases hc2 : up c2 c = true
        · rw [if_pos hc2] at p2
          obtain ⟨n1, n2⟩ := hup c2 c hc2
          cases em : mt c2 with
          | none => rw [em] at p2; exact p2.elim
          | some i =>
            rw [em] at p2
            have p3 := Post.seqP p2
            obtain ⟨_, _, g, n, k3, k4⟩ := hmt c2 i em
            have hlen := k4
            obtain ⟨_, _, _, _, _, _, _, _, hlen⟩ := hlen
            have run := run_at (us := [.ref a2, .ref a1]) (vs := [.ref a2, .ref a1]) (E := WE W) k4 (passAt tk σ) I2 (.cons rfl (.cons rfl .nil)) (spD_of (n := n) r2 (.cons q2 (.cons q1 .nil)) (hlen _ _) (by rw [← back_eq]; exact p3))
            exact eq_right (by omega) I2.kIn J J2 (Ne.symm n1) n2 k3.at_ k3.fn (wpAny_mono run (fun v s' z => fin z) fun _ _ e => e)
        · rw [if_neg hc2] at p2; exact p2.elim
theorem de_eqO {F : Nat → Call} {mt : Nat → Option Nat} {nb up : Nat → Nat → Bool} (hu : X.A.units + 64 < cLine) (hmt : ∀ c i, mt c = some i → MethOk T X F "__eq__" c i) (hnb : ∀ c c2, nb c c2 = true → NbOk T X c c2) (hup : ∀ c c2, up c c2 = true → UpOk T X c c2) (tk : Takes X W) (ha : DE T W X a ca) (hb : DE T W X b cb) (hm : behindInMarks .Eq b = false) :
    DE T W X (.Compare a [.Eq] [b] pos) (cEqO F mt nb up ca cb) := by
  refine ⟨fun pins s σ H Q I ⟨G, w, st, r, q⟩ => ?_⟩
  refine wpAny_Compare1 (thn (ha.run pins s σ H _ I (seqE r q)) fun u s1 ⟨x, H1, I1, rx, w1, d, s', le1, r1, q1, p1⟩ => thn (hb.run pins s1 σ H1 _ I1 (seqE r1 p1)) fun u2 s2 ⟨y, H2, I2, ry, w2, e, s'', le2, r2, q2, p2⟩ => ?_) hm
  exact wpAny_mono (eqO_core hu hmt hnb hup tk I2 rx ry r2 (q1.up le2) q2 p2) (fun v s' ⟨k, e, H', I', q⟩ => ⟨.bl k, H', I', e, q⟩) fun _ _ e => e
/-- the same as a test -/
theorem dt_eqO {F : Nat → Call} {mt : Nat → Option Nat} {nb up : Nat → Nat → Bool} (hu : X.A.units + 64 < cLine) (hmt : ∀ c i, mt c = some i → MethOk T X F "__eq__" c i) (hnb : ∀ c c2, nb c c2 = true → NbOk T X c c2) (hup : ∀ c c2, up c c2 = true → UpOk T X c c2) (tk : Takes X W) (ha : DE T W X a ca) (hb : DE T W X b cb) (hm : behindInMarks .Eq b = false) :
    DT T W X (.Compare a [.Eq] [b] pos) (toB (cEqO F mt nb up ca cb)) := by
  have h : PT X (.Compare a [.Eq] [b] pos) (tTest (TEd T W (cEqO F mt nb up ca cb))) := by
    refine ⟨fun pins s σ H Q I ⟨G, w, st, r, q⟩ => ?_⟩
    refine wpAny_isTrue_Compare1 (thn (ha.run pins s σ H _ I (seqE r q)) fun u s1 ⟨x, H1, I1, rx, w1, d, s', le1, r1, q1, p1⟩ => thn (hb.run pins s1 σ H1 _ I1 (seqE r1 p1)) fun u2 s2 ⟨y, H2, I2, ry, w2, e, s'', le2, r2, q2, p2⟩ => ?_) hm
    refine wpAny_mono (eqO_core hu hmt hnb hup tk I2 rx ry r2 (q1.up le2) q2 p2) (fun v s' ⟨k, e, H', I', q⟩ => ?_) fun _ _ e => e
    subst e
    obtain ⟨k', e2, q⟩ := q
    injection e2 with e2
    subst e2
    exact wpAny_truthy_bool ⟨H', I', q⟩
  exact h.imp fun σ H Q h => dt_bool h
end
end FW

/-! FwZe: C op D where D is below C and has no reflected method of its own. -/
namespace FW
open PySem PySem.Spec PyProof.Rows L2
/-- the words of the error that is raised and caught within -/
def lackW (cd : ClassData) (name : Str) : Str := (s!"type object '{cd.name.toString}' has no attribute '" : Str) ++ name ++ "'"
/-- a class that lacks a name altogether, so that asking for it raises -/
structure Lack (K : PySem.W.Frag) (D : Addr) (name : Str) : Prop where
  st : PySem.W.nsIn K cStatics "thirdparty.any" = some none
  ty : PySem.W.typeIn K (.ref D) = some (.type "type")
  sub : PySem.W.subIn K (.type "type") (.type "type") = some true
  mc : PySem.W.findIn K (.type "type") name = some none
  own : PySem.W.findIn K (.ref D) name = some none
  nm : ∃ cd, PySem.W.clsIn K D = some cd ∧ cd.name.cps.foldl (fun k c => k + (Str.utf8Of c).length) 0 ≤ 100 ∧ (lackW cd name).length ≤ sizeLine
theorem sub_attr : isSubtype (.type "AttributeError") (.type "AttributeError") = pure true := by rw [isSubtype_type]; kernel_rfl
section
variable {prog : Program} {w : World} {A : Around} {E : Value → Shared → Prop} {s : Shared} {K : PySem.W.Frag} {D : Addr} {name : Str}
theorem name_cut {M : Model} {h : Heap} (X : K.In h) {cd : ClassData} (e : PySem.W.clsIn K D = some cd) (hn : cd.name.cps.foldl (fun k c => k + (Str.utf8Of c).length) 0 ≤ 100) : PySem.W.Looks M h (typeNameCut 100 (.ref D)) cd.name.toString := by
  unfold typeNameCut
  refine (PySem.W.looks_clsIn X e).andThen ?_
  rw [if_pos hn]
  exact .now
theorem raise_attr {α : Type} {msg : Str} {Q : α → Shared → Prop} (hh : A.handled = none) (hm : msg.length ≤ sizeLine)
    (h : ∀ h' tk e, (∀ b o, s.heap.get? b = some o → h'.get? b = some o) → ({ s with heap := h', toks := tk } : Shared).TypeIs (.ref e) "AttributeError" → E (.ref e) { s with heap := h', toks := tk }) : wpAny (model prog w) A (raiseErrorStr "AttributeError" msg : Sem α) Q E s := by
  unfold raiseErrorStr
  refine wpAny_bind (wpAny_mkStr (wpAny_bind ?_) hm)
  unfold newExc newTuple
  refine wpAny_bind (wpAny_newObj_type ?_ (by size_fits))
  refine wpAny_bind (m := firstArgMember _ _) (wpAny_of_eq (a := Value.none) (by simp only [firstArgMember]; rfl) ?_)
  refine wpAny_newObj_type ?_ (by unfold sizeOk; first | trivial | exact (show (8 : Nat) ≤ sizeLine + 2 by decide))
  refine wpAny_raiseNew_none hh (h _ _ _ (fun b o hb => Heap.get?_push_of_some _ (Heap.get?_push_of_some _ hb)) ⟨_, Heap.get?_push_size _ rfl, rfl⟩)
theorem tga_lack {tk : Tok} {Q : Fin → Shared → Prop} (X : K.In s.heap) (L : Lack K D name) (hh : A.handled = none)
    (h : ∀ h' tk e, (∀ b o, s.heap.get? b = some o → h'.get? b = some o) → ({ s with heap := h', toks := tk } : Shared).TypeIs (.ref e) "AttributeError" → E (.ref e) { s with heap := h', toks := tk }) : wpAny (model prog w) A (Builtin.«type.__getattribute__» ⟨[.ref D, .str name tk], []⟩) Q E s := by
  obtain ⟨cd, hcd, hn, hm⟩ := L.nm
  obtain ⟨hp, g, d, t, os⟩ := s
  dsimp only at X
  unfold Builtin.«type.__getattribute__»
  refine wpAny_bind (wpAny_pure (wpAny_bind ((PySem.W.looks_opaque X L.st).at (wpAny_bind ((PySem.W.looks_typeIn X L.ty).at (wpAny_bind ((PySem.W.looks_findIn X L.mc).at ?_)))))))
  refine wpAny_bind (wpAny_pure ?_)
  refine wpAny_bind ((PySem.W.looks_findIn X L.own).at ?_)
  refine wpAny_bind (wpAny_rule (wpAny_bind ((name_cut X hcd hn).at ?_)))
  exact raise_attr (s := ⟨hp, g, d, t, os⟩) hh hm h
/-- the class has no such attribute: none comes, only new objects lie behind -/
theorem get_lack {tk : Tok} {Q : Option Value → Shared → Prop} (X : K.In s.heap) (L : Lack K D name) (hh : A.handled = none)
    (h : ∀ h' tk, (∀ b o, s.heap.get? b = some o → h'.get? b = some o) → Q none { s with heap := h', toks := tk }) : wpAny (model prog w) A (getAttrBy? (.ref D) (.str name tk)) Q E s := by
  have T := PySem.W.looks_typeIn (M := model prog w) X L.ty
  unfold getAttrBy?
  refine wpAny_bind (wpAny_attempt ?_)
  unfold getAttrBy
  refine wpAny_holding (wpAny_bind (T.here ?_))
  refine wpAny_bind ((PySem.W.looks_findIn X (show PySem.W.findIn K (.type "type") "__getattribute__" = some (some (.builtin "type.__getattribute__")) from PySem.W.type_tga)).here ?_)
  dsimp only
  rw [show (onTheHeap (Value.type "type") && Value.builtin "type.__getattribute__" == Value.builtin "object.__getattribute__") = false from rfl, if_neg (by decide)]
  unfold getAttrByItsOwn hookBefore
  rw [if_neg (show ¬ onTheHeap (Value.type "type") = true by decide)]
  refine wpAny_bind (wpAny_pure (wpAny_bind (wpAny_attempt (wpAny_holding ?_))))
  unfold callGetattribute
  rw [Bool.false_and, if_neg (by decide)]
  unfold boundAndCalled
  rw [PySem.W.KF.slot_tga.bind]
  refine wpAny_bind (wpAny_pure ?_)
  show wpAny _ _ (call (.builtin "type.__getattribute__") [.ref D, .str name tk]) _ _ _
  refine wpAny_call ?_
  refine codeAny_call_builtin PySem.W.KF.slot_tga.plain PySem.W.KF.entry_tga ?_
  refine @PySem.W.check_slot (model prog w) _ _ s "type.__getattribute__" "type" "__getattribute__" (.ref D) [.str name tk] [] _ (by decide +kernel) (by decide +kernel) (T.andThen (PySem.W.looks_subIn X L.sub)) (PySem.W.KF.args_tga _ _) ?_
  refine tga_lack X L hh fun h' tk' e kp ty => ?_
  show wpAny _ _ (getattributeRaised (.ref D) (.str name tk) (.type "type") (.ref e) none false false) _ _ _
  unfold getattributeRaised
  refine wpAny_bind (wpAny_isInstance ty sub_attr ?_)
  rw [if_pos rfl]
  unfold hookBehind
  rw [if_neg (show ¬ onTheHeap (Value.type "type") = true by decide)]
  refine wpAny_bind ((PySem.W.looks_findIn (X.keeps kp) (show PySem.W.findIn K (.type "type") "__getattr__" = some none by kernel_rfl)).here ?_)
  unfold hookOrError attributeErrorLeaves
  rw [if_pos (show (!false) = true from rfl)]
  refine wpAny_throw ?_
  show wpAny _ _ (do if ← isInstance (.ref e) (.type "AttributeError") then pure none else throw (.ref e)) _ _ _
  refine wpAny_bind (wpAny_isInstance ty sub_attr ?_)
  rw [if_pos rfl]
  exact wpAny_pure (h h' tk' kp)
theorem inst_keep {x C : Addr} {ox : Obj} {od : Option Obj} {h h' : Heap} (I : PySem.W.InstAt h x ox C od) (k : ∀ b o, h.get? b = some o → h'.get? b = some o) : PySem.W.InstAt h' x ox C od := by
  refine ⟨k _ _ I.at_, I.cls, I.no, ?_⟩
  have d := I.dict
  split at d
  · exact k _ _ d
  · trivial
  · exact d.elim
variable {x y C f f' : Addr} {ox oy : Obj} {od od' : Option Obj} {nm : String} {Q1 : Option Value → Shared → Prop}
/-- another own class at the right, below the left one, without a reflected method -/
theorem binop1_sub (X : K.In s.heap) (I : PySem.W.InstAt s.heap x ox C od) (J : PySem.W.InstAt s.heap y oy D od') (ne : C ≠ D) (hc : PySem.W.selfFirst K C = true) (hd : PySem.W.selfFirst K D = true)
    (hs : PySem.W.findIn K (.ref C) (PySem.dunder nm) = some (some (.ref f))) (hs' : PySem.W.findIn K (.ref D) (PySem.dunder nm) = some (some (.ref f')))
    (hr : PySem.W.findIn K (.ref C) (dunderR nm) = some none) (L : Lack K D (dunderR nm)) (hn : PySem.W.subIn K (.ref D) (.ref C) = some true) (hf : PySem.W.isFn K (.ref f) = true) (hh : A.handled = none) (hl : (dunderR nm).length ≤ sizeLine)
    (h : ∀ h' tk, (∀ b o, s.heap.get? b = some o → h'.get? b = some o) → wpAny (model prog w) A (PySem.call (.ref f) [.ref x, .ref y]) (PySem.W.CmpBack fun v => Q1 (some v)) E { s with heap := h', toks := tk }) :
    wpAny (model prog w) A (binaryOp1 nm (.ref x) (.ref y)) Q1 E s := by
  obtain ⟨cd, rest, hcd, hm⟩ := first_at hc
  obtain ⟨cd', rest', hcd', hm'⟩ := first_at hd
  have hne : (Value.ref C == Value.ref D) = false := beq_eq_false_iff_ne.mpr fun z => ne (by cases z; rfl)
  unfold binaryOp1
  refine wpAny_bind (I.type.here (wpAny_bind (J.type.here (wpAny_bind ((PySem.W.fills_K X hcd hm hs).here ?_)))))
  simp only [hne, if_false, Bool.false_eq_true]
  refine wpAny_bind ((PySem.W.fills_K X hcd' hm' hs').here ?_)
  simp only [Bool.and_self, if_true]
  refine wpAny_bind ((PySem.W.looks_subIn X hn).here ?_)
  simp only [if_true]
  refine wpAny_bind ?_
  unfold reflectedDiffers
  refine wpAny_bind ((inPython X hs hr).here ?_)
  simp only [Bool.not_true, if_false, Bool.false_eq_true]
  refine wpAny_bind ((inPython X hs' L.own).here ?_)
  simp only [Bool.not_true, if_false, Bool.false_eq_true]
  refine wpAny_bind (wpAny_mkStr ?_ hl)
  refine wpAny_bind (get_lack (s := { s with toks := s.toks + 1 }) X L hh fun h' tk kp => ?_)
  have X' : K.In h' := X.keeps kp
  have I' := inst_keep I kp
  have J' := inst_keep J kp
  refine wpAny_pure ?_
  simp only [if_false, Bool.false_eq_true, Bool.not_false, Bool.and_self, Bool.and_true, Bool.true_and, if_true]
  refine wpAny_bind ((inPython X' hs hr).here ?_)
  simp only [if_true]
  refine wpAny_bind ((inPython X' hs' L.own).here ?_)
  simp only [Bool.not_true, if_false, Bool.false_eq_true]
  refine wpAny_bind (wpAny_mono (try_left (s := { s with heap := h', toks := tk }) X' I' hs hf (h h' tk kp)) (fun o s' ⟨v, e, q⟩ => ?_) fun _ _ e => e)
  subst e
  exact wpAny_pure q
end
/-- an operator whose name the class of all classes lacks -/
def Om.low : Om → Bool
  | .or => false
  | _ => true
/-- a class lacks the reflected method altogether -/
def LackOk (T : Txt) (X : Cx) (o : Om) (c : Nat) : Prop := Lack X.K (T.cA c) (dunderR o.nm)
theorem om_len (o : Om) : (dunderR o.nm).length ≤ sizeLine := by cases o <;> decide +kernel
def rightOk (mt : Nat → Option Nat) (nb up : Nat → Nat → Bool) (lk : Nat → Bool) (c : Nat) (s : State) (e : D) : Bool := match e with
  | .int _ => true
  | _ => match clsOf s e with
    | some c2 => decide (c2 = c) || ((nb c c2 && (mt c2).isSome) || (up c2 c && (lk c2 && (mt c2).isSome)))
    | none => false
def cOm (F : Nat → Call) (mt : Nat → Option Nat) (nb up : Nat → Nat → Bool) (lk : Nat → Bool) (a b : State → R D) : State → R D := fun st => (a st).bind fun d s1 => (b s1).bind fun e s2 => match clsOf s2 d with
  | some c => (match mt c with
    | some i => if rightOk mt nb up lk c s2 e then (F i [d, e] s2.sto).back s2.env else .bad
    | none => .bad)
  | none => .bad
section
variable {T : Txt} {W : WX} {X : Cx} {G : Ent} {w w' : Wd} {st : State} {σ : L2.St} {H H' : Hp} {a b e o : Expr} {ca cb : State → R D} {pos : Pos}
theorem de_om {F : Nat → Call} {mt : Nat → Option Nat} {nb up : Nat → Nat → Bool} {lk : Nat → Bool} (o : Om) (hmt : ∀ c i, mt c = some i → OmOk T X F o c i) (hnb : ∀ c c2, nb c c2 = true → NbOk T X c c2) (hup : ∀ c c2, up c c2 = true → UpOk T X c c2) (hlk : ∀ c, lk c = true → LackOk T X o c) (hcm : X.calm = true) (tk : Takes X W) (ha : DE T W X a ca) (hb : DE T W X b cb) :
    DE T W X (.BinOp a o.op b pos) (cOm F mt nb up lk ca cb) := by
  refine ⟨fun pins s σ H Q I ⟨G, w, st, r, q⟩ => ?_⟩
  refine wpAny_BinOp (thn (ha.run pins s σ H _ I (seqE r q)) fun u s1 ⟨x, H1, I1, rx, w1, d, s', le1, r1, q1, p1⟩ => thn (hb.run pins s1 σ H1 _ I1 (seqE r1 p1)) fun u2 s2 ⟨y, H2, I2, ry, w2, e, s'', le2, r2, q2, p2⟩ => ?_)
  have q1 := q1.up le2
  cases ec : clsOf s'' d with
  | none => rw [ec] at p2; exact p2.elim
  | some c =>
    rw [ec] at p2
    have p2 : Post T W G w2 σ (RepV T) (match mt c with
      | some i => if rightOk mt nb up lk c s'' e then (F i [d, e] s''.sto).back s''.env else .bad
      | none => .bad) Q := p2
    cases em : mt c with
    | none => rw [em] at p2; exact p2.elim
    | some i =>
      rw [em] at p2
      have p2 : Post T W G w2 σ (RepV T) (if rightOk mt nb up lk c s'' e then (F i [d, e] s''.sto).back s''.env else .bad) Q := p2
      cases hr : rightOk mt nb up lk c s'' e with
      | false => rw [hr] at p2; exact p2.elim
      | true =>
        rw [hr, if_pos rfl] at p2
        obtain ⟨a1, dx, fs, rfl, ea⟩ := obj_at r2 q1 ec
        obtain rfl : u = Value.ref a1 := rx
        obtain ⟨od, J⟩ := inst_at I2 ea
        have ok := hmt c i em
        obtain ⟨g, k3, k4⟩ := ok.run
        have hlen := k4
        obtain ⟨_, _, _, _, _, _, _, _, hlen⟩ := hlen
        have run := run_at (us := [.ref a1, u2]) (vs := [.ref a1, y]) (E := WE W) k4 (passAt tk σ) I2 (.cons rfl (.cons ry .nil)) (spD_of (n := 2) r2 (.cons q1 (.cons q2 .nil)) (hlen _ _) (by rw [← back_eq]; exact p2))
        refine binop_of ?_
        have run2 : wpAny (model X.prog X.w) X.A (PySem.call (.ref g) [.ref a1, u2]) (PySem.W.CmpBack fun v s' => ∃ v', some v = some v' ∧ EP X pins σ Q v' s') X.xe s2 := wpAny_mono run (fun v s' ⟨z, H', I', rz, qz⟩ => no_ni rz ⟨v, rfl, z, H', I', rz, qz⟩) fun _ _ e => e
        unfold rightOk at hr
        split at hr
        · have e1 := q2.int_eq
          subst e1
          obtain ⟨t, rfl⟩ := ry
          obtain ⟨m, hm⟩ := om_back o
          exact binop1_blt (T := "int") (Q1 := fun o s' => ∃ v, o = some v ∧ EP X pins σ Q v s') I2.kIn J (fun A Q E s k q => wpAny_pure q) ok.first k3.at_ ok.back (om_fills o) hm ok.int k3.fn run2
        · cases ec2 : clsOf s'' e with
          | none => rw [ec2] at hr; cases hr
          | some c2 =>
            rw [ec2] at hr
            have hr : (decide (c2 = c) || ((nb c c2 && (mt c2).isSome) || (up c2 c && (lk c2 && (mt c2).isSome)))) = true := hr
            obtain ⟨a2, dx2, fs2, rfl, ea2⟩ := obj_at r2 q2 ec2
            obtain rfl : u2 = Value.ref a2 := ry
            obtain ⟨od2, J2⟩ := inst_at I2 ea2
            by_cases hcc : c2 = c
            · subst hcc
              exact binop1_one (Q1 := fun o s' => ∃ v, o = some v ∧ EP X pins σ Q v s') I2.kIn J J2.type ok.first k3.at_ k3.fn run2
            · rw [decide_eq_false hcc, Bool.false_or] at hr
              rcases Bool.or_eq_true_iff.mp hr with hr | hr
              · obtain ⟨h1, h2⟩ := band hr
                obtain ⟨i2, hi2⟩ := Option.isSome_iff_exists.mp h2
                obtain ⟨n1, n2⟩ := hnb c c2 h1
                have ok2 := hmt c2 i2 hi2
                obtain ⟨g2, k5, _⟩ := ok2.run
                exact binop1_two (Q1 := fun o s' => ∃ v, o = some v ∧ EP X pins σ Q v s') I2.kIn J J2.type n1 ok.first ok2.first k3.at_ k5.at_ ok.back ok2.back n2 k3.fn run2
              · obtain ⟨h1, h2⟩ := band hr
                obtain ⟨h3, h2⟩ := band h2
                obtain ⟨i2, hi2⟩ := Option.isSome_iff_exists.mp h2
                obtain ⟨n1, n2⟩ := hup c2 c h1
                have ok2 := hmt c2 i2 hi2
                obtain ⟨g2, k5, _⟩ := ok2.run
                refine binop1_sub (Q1 := fun o s' => ∃ v, o = some v ∧ EP X pins σ Q v s') I2.kIn J J2 (Ne.symm n1) ok.first ok2.first k3.at_ k5.at_ ok.back (hlk c2 h3) n2 k3.fn (I2.ok.hd hcm) (om_len o) fun h' tk' kp => ?_
                have I3 := I2.kept (t' := tk') kp
                have run := run_at (us := [.ref a1, .ref a2]) (vs := [.ref a1, .ref a2]) (E := WE W) k4 (passAt tk σ) I3 (.cons rfl (.cons rfl .nil)) (spD_of (n := 2) r2 (.cons q1 (.cons q2 .nil)) (hlen _ _) (by rw [← back_eq]; exact p2))
                exact wpAny_mono run (fun v s' ⟨z, H', I', rz, qz⟩ => no_ni rz ⟨v, rfl, z, H', I', rz, qz⟩) fun _ _ e => e
end
end FW

/-! FwZf: list(range(..)). -/
namespace FW
open PySem PySem.Spec PyProof.Rows L2
def rgOkB (a b : Int) : Bool := decide (a.natAbs < 2 ^ 62) && (decide (b.natAbs < 2 ^ 62) && decide ((b - a).toNat ≤ 16777216))
def rngO (a b : Int) : Option (List D) := if rgOkB a b = true then some (rangeL a (b - a).toNat) else none
theorem rgOkB_ok {a b : Int} (h : rgOkB a b = true) : RgOk a b := by
  obtain ⟨h1, h⟩ := band h
  obtain ⟨h2, h3⟩ := band h
  have h1 := of_decide_eq_true h1; have h2 := of_decide_eq_true h2; have h3 := of_decide_eq_true h3
  exact ⟨by omega, by omega, by omega, by omega, by omega⟩
theorem rangeL_rep {T : Txt} {w : Wd} : ∀ (n : Nat) (a : Int), RepVs T w (rangeL a n) ((List.range n).map fun (i : Nat) => V.int (a + i))
  | 0, _ => .nil
  | n + 1, a => by
    rw [List.range_succ_eq_map, List.map_cons, List.map_map]
    have ih := rangeL_rep (T := T) (w := w) n (a + 1)
    refine .cons ?_ ?_
    · have : (a + ((0 : Nat) : Int)) = a := by omega
      rw [this]; exact .int_
    · have e : (fun (i : Nat) => V.int (a + i)) ∘ Nat.succ = fun (i : Nat) => V.int (a + 1 + i) := by
        funext i
        show V.int (a + ((i + 1 : Nat) : Int)) = _
        congr 1; omega
      rw [e]; exact ih
def cLr1 (c : State → R D) : State → R (List D) := fun st => (c st).bind fun d s => match d with
  | .int n => R.lift (rngO 0 n) s
  | _ => .bad
def cLr2 (a b : State → R D) : State → R (List D) := fun st => (a st).bind fun d s => (b s).bind fun e s2 => match d, e with
  | .int m, .int n => R.lift (rngO m n) s2
  | _, _ => .bad
section
variable {T : Txt} {W : WX} {X : Cx} {a b : Expr} {ca cb : State → R D} {pos p p2 p3 : Pos}
theorem df_lr1 (hc : X.calm = true) (hg : Gl X "list") (hm : X.mg "list" = none) (hg2 : Gl X "range") (hm2 : X.mg "range" = none) (ha : DE T W X a ca) (h1 : noSt a = true) : DF T W X (.Call (.Name "list" p) [.Call (.Name "range" p2) [a] [] p3] [] pos) (cLr1 ca) := by
  refine (pe_listRg hc hg hm (prg_1 hg2 hm2 ha (star_one h1))).imp fun σ H Q ⟨G, w, st, r, q⟩ => ?_
  refine (df_seqE r q).imp fun x H1 ⟨w1, d1, s1, l1, r1, q1, p1⟩ => ?_
  cases d1 <;> first | exact p1.elim | skip
  rename_i n
  obtain rfl := q1.int_eq
  refine ⟨n, rfl, ?_⟩
  by_cases ok : rgOkB 0 n = true
  · have p1 : PostF T W G w1 σ (R.lift (rngO 0 n) s1) Q := p1
    unfold rngO at p1
    rw [if_pos ok] at p1
    exact ⟨rgOkB_ok ok, PostF.new r1 p1 (rangeL_rep _ _)⟩
  · have p1 : PostF T W G w1 σ (R.lift (rngO 0 n) s1) Q := p1
    unfold rngO at p1
    rw [if_neg ok] at p1
    exact p1.elim
theorem df_lr2 (hc : X.calm = true) (hg : Gl X "list") (hm : X.mg "list" = none) (hg2 : Gl X "range") (hm2 : X.mg "range" = none) (ha : DE T W X a ca) (hb : DE T W X b cb) (h1 : noSt a = true) (h2 : noSt b = true) :
    DF T W X (.Call (.Name "list" p) [.Call (.Name "range" p2) [a, b] [] p3] [] pos) (cLr2 ca cb) := by
  refine (pe_listRg hc hg hm (prg_2 hg2 hm2 ha hb (star_one h1) (star_one h2) (back_plain (es := [b]) (by simp [h2])))).imp fun σ H Q ⟨G, w, st, r, q⟩ => ?_
  refine (df_seqE r q).imp fun x H1 ⟨w1, d1, s1, l1, r1, q1, p1⟩ => ?_
  refine (df_seqE r1 p1).imp fun y H2 ⟨w2, d2, s2, l2, r2, q2, p2⟩ => ?_
  cases d1 <;> first | exact p2.elim | skip
  cases d2 <;> first | exact p2.elim | skip
  rename_i m _ n
  obtain rfl := q1.int_eq
  obtain rfl := q2.int_eq
  refine ⟨m, n, rfl, rfl, ?_⟩
  have p2 : PostF T W G w2 σ (R.lift (rngO m n) s2) Q := p2
  unfold rngO at p2
  by_cases ok : rgOkB m n = true
  · rw [if_pos ok] at p2
    exact ⟨rgOkB_ok ok, PostF.new r2 p2 (rangeL_rep _ _)⟩
  · rw [if_neg ok] at p2
    exact p2.elim
end
end FW

/-! FwM: the small language: syntax, evaluator, checker. -/
namespace FW
open PySem PySem.Spec PyProof.Rows L2
inductive B2 where
  | add | sub | mul | fdiv | mod | pow
def B2.op : B2 → Operator
  | .add => .Add
  | .sub => .Sub
  | .mul => .Mult
  | .fdiv => .FloorDiv
  | .mod => .Mod
  | .pow => .Pow
def B2.fn : B2 → D → D → Option D
  | .add => addD
  | .sub => subD
  | .mul => mulD
  | .fdiv => fdivD
  | .mod => modD
  | .pow => powD
inductive K2 where
  | eq | ne | lt | le | gt | ge | is | isnt | in_ | nin
def K2.op : K2 → CmpOp
  | .eq => .Eq
  | .ne => .NotEq
  | .lt => .Lt
  | .le => .LtE
  | .gt => .Gt
  | .ge => .GtE
  | .is => .Is
  | .isnt => .IsNot
  | .in_ => .In
  | .nin => .NotIn
def K2.fn : K2 → D → D → Option D
  | .eq => eqD
  | .ne => neD
  | .lt => ltD
  | .le => leD
  | .gt => gtD
  | .ge => geD
  | .is => isD
  | .isnt => isntD
  | .in_ => inD
  | .nin => ninD
/-- built-in functions by values -/
inductive Bf where
  | len | abs | max | min | int | str | sum | all | tuple | repr
def Bf.nm : Bf → Str
  | .len => "len"
  | .abs => "abs"
  | .max => "max"
  | .min => "min"
  | .int => "int"
  | .str => "str"
  | .sum => "sum"
  | .all => "all"
  | .tuple => "tuple"
  | .repr => "repr"
def Bf.fn : Bf → List D → Option D
  | .len => lenD
  | .abs => absD
  | .max => max2D
  | .min => min2D
  | .int => intD
  | .str => strD
  | .sum => sumD
  | .all => allD
  | .tuple => tupleD
  | .repr => reprD
mutual
inductive E where
  | num (i : Int) | bl (b : Bool) | str (x : Str) | non | gl (k : Nat)
  | var (i : Nat) | frz (i : Nat) | bin (o : B2) (a b : E) | neg (a : E) | cmp (o : K2) (a b : E)
  | ch2 (o o' : K2) (a b c : E) | ch3 (o o' o2 : K2) (a b c d : E)
  | andv (a b : E) | orv (a b : E) | notv (a : E) | ite (c : C) (a b : E)
  | tup (es : Es) | fz (f : F) | new (f : F) | ix (a b : E) | sl (a : E) (lo hi : Oe)
  | call (i : Nat) (es : Es) | blt (g : Bf) (es : Es) | isi (a : E) (ts : List Ty)
  | om (o : Om) (a b : E) | um (a : E) | ino (a b : E) | eqo (a b : E)
  | rev (a : E) | dic (l : List (Str × Int)) | stat (c : Nat) (m : Str) (es : Es) | ocall (i : Nat) (es : Es) | isc (a : E) (c : Nat)
  | hole | attr (f : Str) (a : E) | meth (m : Str) (a : E) (es : Es) | make (c : Nat) (es : Es)
  | ixB (b : Bo) (e : E) | binB (o : B2) (b : Bo) (e : E) | cmpB (o : K2) (b : Bo) (e : E) | bltB (g : Bf) (b : Bo) | popB (b : Bo) (e : E) | pop0 (b : Bo)
inductive C where
  | hole | tru (a : E) | ino (a b : E) | eqo (a b : E) | cmp (o : K2) (a b : E) | cmpB (o : K2) (b : Bo) (e : E) | ch2 (o o' : K2) (a b c : E) | ch3 (o o' o2 : K2) (a b c d : E)
  | and (a b : C) | or (a b : C) | not (a : C)
inductive F where
  | lr1 (a : E) | lr2 (a b : E) | ssrt (a : E) | cat (a b : E) | srt (a : E) | list (a : E) | lst (es : Es) | lc (it : I) (t : Tg) (tt : Oc) (e : E) (own : List (Str × Nat))
inductive Es where
  | nil | cons (a : E) (es : Es) | star (a : E) (es : Es)
inductive I where
  | seq (a : E) | rng1 (a : E) | rng2 (a b : E) | zip (a b : E) | enum (a : E) | zip3 (a b c : E) | rng3 (a b c : E)
inductive Bo where
  | slot (i : Nat) | ref (a : E)
inductive Oe where
  | none | some (a : E)
inductive Oc where
  | none | some (a : C)
end
mutual
inductive S where
  | hole | setA (f : Str) (o a : E) | pass | doc | expr (a : E) | ret (a : E) | retN | brk | cont | ifs (c : C) (a b : Ss) | whl (c : C) (b : Ss) | fr (t : Tg) (it : I) (b els : Ss)
  | asg (t : Tg) (a : E) | own (i : Nat) (f : F) | par (is : List Nat) (ps : Ps) | aug (i : Nat) (add : Bool) (a : E)
  | ifw (i : Nat) (isn : Bool) (a : E) (x y : Ss)
  | setB (a : E) (b : Bo) (i : E) | app (b : Bo) (a : E) | ext (b : Bo) (a : E)
inductive Ss where
  | nil | cons (s : S) (r : Ss) | frz (i : Nat) (r : Ss)
inductive Ps where
  | nil | v (a : E) (r : Ps) | f (f : F) (r : Ps)
end
/-- a slot's own list is frozen from here on -/
def cFrzS (i : Nat) (r : State → R Fl) : State → R Fl := fun st => match st.env[i]? with
  | some (.own l) => r ⟨st.env.set i (.val (.lst l)), st.sto⟩
  | some (.val d) => r st
  | _ => .bad
/-- an own class: its name, its objects' fields, its properties and methods by the numbers of their defs, its __init__ -/
structure CD where
  nm : Str
  fl : List Str
  prp : List (Str × Nat)
  mth : List (Str × Nat)
  ini : Option Nat
  nb : List Nat
  st : List (Str × Nat)
  up : List Nat
def idxS : List Str → Str → Option Nat
  | [], _ => none
  | g :: r, f => if g = f then some 0 else (idxS r f).map (· + 1)
def CD.acc (d : CD) (f : Str) : Option Acc := match d.prp.lookup f with
  | some i => some (.prp i)
  | none => (idxS d.fl f).map .fld
abbrev CDs : Type := List (Nat × CD)
def accOf (cs : CDs) (f : Str) (c : Nat) : Option Acc := (cs.lookup c).bind fun d => d.acc f
def mtOf (cs : CDs) (m : Str) (c : Nat) : Option Nat := (cs.lookup c).bind fun d => if (idxS d.fl m).isSome then none else d.mth.lookup m
def fldOf (cs : CDs) (f : Str) (c : Nat) : Bool := match cs.lookup c with
  | some d => (d.prp.lookup f).isNone && (idxS d.fl f).isSome
  | none => false
def iniOf (cs : CDs) (c : Nat) : Nat := ((cs.lookup c).bind fun d => d.ini).getD 0
def flOf (cs : CDs) (c : Nat) : List Str := match cs.lookup c with
  | some d => d.fl
  | none => []
def nbOf (cs : CDs) (c c2 : Nat) : Bool := match cs.lookup c with
  | some d => d.nb.any fun x => decide (x = c2)
  | none => false
def stOf (cs : CDs) (m : Str) (c : Nat) : Option Nat := (cs.lookup c).bind fun d => d.st.lookup m
def knownC (cs : CDs) (c : Nat) : Bool := (cs.lookup c).isSome
/-- whether c is c2 or below it -/
def subOf (cs : CDs) (c2 c : Nat) : Bool := decide (c = c2) || (match cs.lookup c with
  | some d => d.up.any fun x => decide (x = c2)
  | none => false)
/-- whether c is below c2 -/
def upOf (cs : CDs) (c c2 : Nat) : Bool := match cs.lookup c with
  | some d => d.up.any fun x => decide (x = c2)
  | none => false
/-- whether the class lacks the reflected method of an operator altogether -/
def lkOf (cs : CDs) (o : Om) (c : Nat) : Bool := match cs.lookup c with
  | some d => o.low && (!d.up.isEmpty && (d.mth.lookup (PySem.dunder o.nm)).isSome)
  | none => false
def opOf (cs : CDs) (o : Om) (c : Nat) : Option Nat := mtOf cs (PySem.dunder o.nm) c
def cHole {α : Type} : State → R α := fun _ => .bad
structure Ev where
  F : Nat → Call
  gv : Nat → D
  wf : Nat
  cl : CDs
mutual
noncomputable def evE (V : Ev) : E → State → R D
  | .num i => cPure (.int i)
  | .bl b => cPure (.bl b)
  | .str x => cPure (.str x)
  | .non => cPure .non
  | .gl k => cPure (V.gv k)
  | .var i => cVar i
  | .frz i => cFrz i
  | .bin o a b => cBin o.fn (evE V a) (evE V b)
  | .neg a => cUn negD (evE V a)
  | .cmp o a b => cBin o.fn (evE V a) (evE V b)
  | .ch2 o o' a b c => cCh2 o.fn o'.fn (evE V a) (evE V b) (evE V c)
  | .ch3 o o' o2 a b c d => cCh3 o.fn o'.fn o2.fn (evE V a) (evE V b) (evE V c) (evE V d)
  | .andv a b => cAndV (evE V a) (evE V b)
  | .orv a b => cOrV (evE V a) (evE V b)
  | .notv a => cNotV (evE V a)
  | .ite c a b => cIte (evC V c) (evE V a) (evE V b)
  | .tup es => cTup (evEs V es)
  | .fz f => cFz (evF V f)
  | .new f => cNew (evF V f)
  | .ix a b => cBin ixD (evE V a) (evE V b)
  | .sl a lo hi => cSl (evE V a) (evO V lo) (evO V hi)
  | .call i es => cCall (V.F i) (evEs V es)
  | .blt g es => cArgs g.fn (evEs V es)
  | .isi a ts => cIso (knownC V.cl) (evE V a) ts
  | .isc a c => cIsc (knownC V.cl) (subOf V.cl c) (evE V a)
  | .rev a => cUn revD (evE V a)
  | .dic l => cPure (.dic l)
  | .stat c m es => (match stOf V.cl m c with
    | some i => cCall (V.F i) (evEs V es)
    | none => cHole)
  | .ocall i es => cOcall V.F (mtOf V.cl "__call__") (cVar i) (evEs V es)
  | .om o a b => cOm V.F (opOf V.cl o) (nbOf V.cl) (upOf V.cl) (lkOf V.cl o) (evE V a) (evE V b)
  | .um a => cUm V.F (mtOf V.cl "__neg__") (evE V a)
  | .ino a b => cInO V.F (mtOf V.cl "__contains__") (evE V a) (evE V b)
  | .eqo a b => cEqO V.F (mtOf V.cl "__eq__") (nbOf V.cl) (upOf V.cl) (evE V a) (evE V b)
  | .hole => cHole
  | .attr f a => cAtt V.F (accOf V.cl f) f (evE V a)
  | .meth m a es => cMeth V.F (mtOf V.cl m) m (evE V a) (evEs V es)
  | .make c es => cMake V.F c (iniOf V.cl c) (flOf V.cl c) (evEs V es)
  | .ixB b e => cBinB ixD (evB V b) (evE V e)
  | .binB o b e => cBinB o.fn (evB V b) (evE V e)
  | .cmpB o b e => cBinB o.fn (evB V b) (evE V e)
  | .bltB g b => cArgB g.fn (evB V b)
  | .popB b e => cPopB (evB V b) (evE V e)
  | .pop0 b => cPop0 (evB V b)
noncomputable def evC (V : Ev) : C → State → R Bool
  | .hole => cHole
  | .tru a => cTru (evE V a)
  | .ino a b => toB (cInO V.F (mtOf V.cl "__contains__") (evE V a) (evE V b))
  | .eqo a b => toB (cEqO V.F (mtOf V.cl "__eq__") (nbOf V.cl) (upOf V.cl) (evE V a) (evE V b))
  | .cmp o a b => toB (cBin o.fn (evE V a) (evE V b))
  | .cmpB o b e => toB (cBinB o.fn (evB V b) (evE V e))
  | .ch2 o o' a b c => toB (cCh2 o.fn o'.fn (evE V a) (evE V b) (evE V c))
  | .ch3 o o' o2 a b c d => toB (cCh3 o.fn o'.fn o2.fn (evE V a) (evE V b) (evE V c) (evE V d))
  | .and a b => cAndB (evC V a) (evC V b)
  | .or a b => cOrB (evC V a) (evC V b)
  | .not a => cNotB (evC V a)
noncomputable def evF (V : Ev) : F → State → R (List D)
  | .lr1 a => cLr1 (evE V a)
  | .lr2 a b => cLr2 (evE V a) (evE V b)
  | .ssrt a => cSsrt (evE V a)
  | .cat a b => cCat (evE V a) (evE V b)
  | .srt a => cSrt (evE V a)
  | .list a => cListOf (evE V a)
  | .lst es => cLst (evEs V es)
  | .lc it t tt e own => cLc (evI V it) t (evOc V tt) (evE V e) (own.map (·.2))
noncomputable def evEs (V : Ev) : Es → State → R (List D)
  | .nil => cNil
  | .cons a es => cCons (evE V a) (evEs V es)
  | .star a es => cStar (evE V a) (evEs V es)
noncomputable def evI (V : Ev) : I → State → R (List D)
  | .seq a => cItS (evE V a)
  | .rng1 a => cItA rng1 (cCons (evE V a) cNil)
  | .rng2 a b => cItA rng2 (cCons (evE V a) (cCons (evE V b) cNil))
  | .zip a b => cItA zipD (cCons (evE V a) (cCons (evE V b) cNil))
  | .enum a => cItA enumD (cCons (evE V a) cNil)
  | .zip3 a b c => cItA zipD3 (cCons (evE V a) (cCons (evE V b) (cCons (evE V c) cNil)))
  | .rng3 a b c => cItA rng3 (cCons (evE V a) (cCons (evE V b) (cCons (evE V c) cNil)))
noncomputable def evB (V : Ev) : Bo → State → R Bor
  | .slot i => cbSlot i
  | .ref a => cbRef (evE V a)
noncomputable def evO (V : Ev) : Oe → State → R (Option Int)
  | .none => cNoP
  | .some a => cPart (evE V a)
noncomputable def evOc (V : Ev) : Oc → State → R Bool
  | .none => cYes
  | .some a => evC V a
end
mutual
noncomputable def evS (V : Ev) : S → State → R Fl
  | .hole => cHole
  | .setA f o a => cSetAC (fldOf V.cl f) f (evE V o) (evE V a)
  | .pass => cNext
  | .doc => cNext
  | .expr a => cDrop (evE V a)
  | .ret a => cRet (evE V a)
  | .retN => cFl (.rt .non)
  | .brk => cFl .bk
  | .cont => cFl .ct
  | .ifs c a b => cIf (evC V c) (evSs V a) (evSs V b)
  | .whl c b => cWhile (evC V c) (evSs V b) V.wf
  | .fr t it b els => cFor (evI V it) t (evSs V b) (evSs V els)
  | .asg t a => cAsg t (evE V a)
  | .own i f => cOwn i (evF V f)
  | .par is ps => cPar is (evPs V ps)
  | .aug i true a => cAug i (fun i j => i + j) (evE V a)
  | .aug i false a => cAug i (fun i j => i - j) (evE V a)
  | .setB a b i => cSetB (evE V a) (evB V b) (evE V i)
  | .ifw i isn a x y => cIfw i isn (evE V a) (evSs V x) (evSs V y)
  | .app b a => cApp (evB V b) (evE V a)
  | .ext b a => cExt (evB V b) (evE V a)
noncomputable def evSs (V : Ev) : Ss → State → R Fl
  | .nil => cNext
  | .cons s r => cSeq (evS V s) (evSs V r)
  | .frz i r => cFrzS i (evSs V r)
noncomputable def evPs (V : Ev) : Ps → List Pt
  | .nil => []
  | .v a r => .v (evE V a) :: evPs V r
  | .f f r => .f (evF V f) :: evPs V r
end
/-! ### the checker -/
structure Tb where
  gls : List (Str × Nat)
  fns : List (Str × Nat)
  blts : List Str
  ar : List (Nat × Nat)
  cls : CDs
  mks : List (Str × Nat)
structure Sc where
  N : List Str
  sc : Scope
  fnF : Str → Bool
def glob (s : Sc) (x : Str) : Bool := decide (s.sc.names.lookup x = some .globalImplicit)
def vis (s : Sc) (x : Str) : Bool := match s.sc.names.lookup x with
  | some .local => true
  | some .cell => true
  | some .free => true
  | _ => false
def locc (s : Sc) (x : Str) : Bool := match s.sc.names.lookup x with
  | some .local => true
  | some .cell => s.fnF x
  | _ => false
def slot (s : Sc) (i : Nat) (x : Str) : Bool := decide (s.N[i]? = some x)
def bltOk (tb : Tb) (s : Sc) (x : Str) : Bool := glob s x && tb.blts.any fun y => decide (y = x)
def Sc.blk (s : Sc) (scope : Scope) : Sc := ⟨s.N, relS scope s.sc, fun x => scope.names.lookup x == some .cell⟩
mutual
def chkT (s : Sc) : Tg → Expr → Bool
  | .nm i, e => exName e fun x => slot s i x && locc s x
  | .tup ts, e => exTup e fun es => es.all noSt && chkTs s ts es
def chkTs (s : Sc) : List Tg → List Expr → Bool
  | [], es => es.isEmpty
  | t :: ts, es => match es with
    | e :: r => chkT s t e && chkTs s ts r
    | [] => false
end
/-- the tail of a chain of and, or -/
def tailE (op : BoolOp) (r : List Expr) (p : Pos) : Option Expr := match r with
  | [] => none
  | [y] => some y
  | _ => some (.BoolOp op r p)
def chkTy (tb : Tb) (s : Sc) (t : Ty) (e : Expr) : Bool := exName e fun x => decide (x = t.id) && bltOk tb s x
def chkTys (tb : Tb) (s : Sc) : List Ty → List Expr → Bool
  | [], es => es.isEmpty
  | t :: ts, es => match es with
    | e :: r => chkTy tb s t e && chkTys tb s ts r
    | [] => false
def Oc.isN : Oc → Bool
  | .none => true
  | _ => false
mutual
def chkE (tb : Tb) (s : Sc) : E → Expr → Bool
  | .num i, e => exInt e fun j => decide (i = j)
  | .bl i, e => exBool e fun j => decide (i = j)
  | .str i, e => exStr e fun j => decide (i = j)
  | .non, e => exNone e
  | .gl k, e => exName e fun x => glob s x && decide (tb.gls.lookup x = some k)
  | .var i, e => exName e fun x => slot s i x && vis s x
  | .frz i, e => exName e fun x => slot s i x && vis s x
  | .bin o a b, e => exBin e fun x op y => decide (op = o.op) && (chkE tb s a x && chkE tb s b y)
  | .neg a, e => exUn e fun op x => decide (op = .USub) && chkE tb s a x
  | .cmp o a b, e => exCmp e fun x ops ys => decide (ops = [o.op]) && (match ys with
    | [y] => noSet y && (chkE tb s a x && chkE tb s b y)
    | _ => false)
  | .ch2 o o' a b c, e => exCmp e fun x ops ys => decide (ops = [o.op, o'.op]) && (match ys with
    | [y, z] => noSet z && (chkE tb s a x && (chkE tb s b y && chkE tb s c z))
    | _ => false)
  | .ch3 o o' o2 a b c d, e => exCmp e fun x ops ys => decide (ops = [o.op, o'.op, o2.op]) && (match ys with
    | [y, z, u] => noSet u && (chkE tb s a x && (chkE tb s b y && (chkE tb s c z && chkE tb s d u)))
    | _ => false)
  | .andv a b, e => exBoolOp e fun op es p => decide (op = .And) && (match es with
    | x :: r => (match tailE .And r p with
      | some y => chkE tb s a x && chkE tb s b y
      | none => false)
    | [] => false)
  | .orv a b, e => exBoolOp e fun op es p => decide (op = .Or) && (match es with
    | x :: r => (match tailE .Or r p with
      | some y => chkE tb s a x && chkE tb s b y
      | none => false)
    | [] => false)
  | .notv a, e => exUn e fun op x => decide (op = .Not) && chkE tb s a x
  | .ite c a b, e => exIf e fun z x y => chkC tb s c z && (chkE tb s a x && chkE tb s b y)
  | .tup es, e => exTup e fun xs => chkEs tb s es xs
  | .fz f, e => chkF tb s f e
  | .new f, e => chkF tb s f e
  | .ix a b, e => exSub e fun x y => noSlice y && (chkE tb s a x && chkE tb s b y)
  | .sl a lo hi, e => exSub e fun x y => exSlice y fun l h => chkE tb s a x && (chkO tb s lo l && chkO tb s hi h)
  | .call i es, e => exCall e fun x as => glob s x && (decide (tb.fns.lookup x = some i) && (as.all noSt && (match as with
    | [] => decide (tb.ar.lookup i = some 0)
    | _ => true) && chkEs tb s es as))
  | .blt g es, e => exCall e fun x as => decide (x = g.nm) && (bltOk tb s x && (as.all noSt && (!as.isEmpty && chkEs tb s es as)))
  | .isi a ts, e => exCall e fun x as => decide (x = ("isinstance" : Str)) && (bltOk tb s x && (match as with
    | [y, z] => noSt y && noSt z && chkE tb s a y && (match ts with
      | [t] => chkTy tb s t z
      | _ => exTup z fun zs => decide (ts.length ≤ 100) && (zs.all noSt && chkTys tb s ts zs))
    | _ => false))
  | .isc a k, e => exIsc e fun x y z => decide (x = ("isinstance" : Str)) && (bltOk tb s x && (noSt y && (glob s z && (decide (tb.mks.lookup z = some k) && (knownC tb.cls k && chkE tb s a y)))))
  | .rev a, e => exRev e fun x => chkE tb s a x
  | .dic l, e => exDic e fun m => decide (l = m)
  | .stat k m es, e => exMeth e fun o g as => decide (g = m) && ((exName o fun x => glob s x && decide (tb.mks.lookup x = some k)) && (decide (as.length < 30) && (as.all noSt && (!as.isEmpty && chkEs tb s es as))))
  | .ocall i es, e => exCall e fun x as => slot s i x && (vis s x && (as.all noSt && (!as.isEmpty && chkEs tb s es as)))
  | .om o a b, e => exBin e fun x op y => decide (op = o.op) && (chkE tb s a x && chkE tb s b y)
  | .um a, e => exUn e fun op x => decide (op = .USub) && chkE tb s a x
  | .ino a b, e => exCmp e fun x ops ys => decide (ops = [.In]) && (match ys with
    | [y] => noSet y && (chkE tb s a x && chkE tb s b y)
    | _ => false)
  | .eqo a b, e => exCmp e fun x ops ys => decide (ops = [.Eq]) && (match ys with
    | [y] => noSet y && (chkE tb s a x && chkE tb s b y)
    | _ => false)
  | .hole, _ => true
  | .attr f a, e => exAttr e fun x g => decide (g = f) && (noCall x && chkE tb s a x)
  | .meth m a es, e => exMeth e fun o g as => decide (g = m) && (noCall o && (decide (as.length < 30) && (as.all noSt && (chkE tb s a o && chkEs tb s es as))))
  | .make c es, e => exCall e fun x as => glob s x && (decide (tb.mks.lookup x = some c) && (as.all noSt && (!as.isEmpty && chkEs tb s es as)))
  | .ixB b i, e => exSub e fun x y => noSlice y && (chkB tb s b x && chkE tb s i y)
  | .binB o b i, e => exBin e fun x op y => decide (op = o.op) && (chkB tb s b x && chkE tb s i y)
  | .cmpB o b i, e => exCmp e fun x ops ys => decide (ops = [o.op]) && (match ys with
    | [y] => noSet y && (chkB tb s b x && chkE tb s i y)
    | _ => false)
  | .bltB g b, e => exCall e fun x as => decide (x = g.nm) && (bltOk tb s x && (match as with
    | [y] => noSt y && chkB tb s b y
    | _ => false))
  | .popB b i, e => exMeth e fun o m as => decide (m = ("pop" : Str)) && (noCall o && (match as with
    | [y] => noSt y && (chkB tb s b o && chkE tb s i y)
    | _ => false))
  | .pop0 b, e => exMeth e fun o m as => decide (m = ("pop" : Str)) && (noCall o && (as.isEmpty && chkB tb s b o))
def chkC (tb : Tb) (s : Sc) : C → Expr → Bool
  | .hole, _ => true
  | .tru a, e => plT e && chkE tb s a e
  | .ino a b, e => exCmp e fun x ops ys => decide (ops = [.In]) && (match ys with
    | [y] => noSet y && (chkE tb s a x && chkE tb s b y)
    | _ => false)
  | .eqo a b, e => exCmp e fun x ops ys => decide (ops = [.Eq]) && (match ys with
    | [y] => noSet y && (chkE tb s a x && chkE tb s b y)
    | _ => false)
  | .cmp o a b, e => exCmp e fun x ops ys => decide (ops = [o.op]) && (match ys with
    | [y] => noSet y && (chkE tb s a x && chkE tb s b y)
    | _ => false)
  | .cmpB o b i, e => exCmp e fun x ops ys => decide (ops = [o.op]) && (match ys with
    | [y] => noSet y && (chkB tb s b x && chkE tb s i y)
    | _ => false)
  | .ch2 o o' a b c, e => exCmp e fun x ops ys => decide (ops = [o.op, o'.op]) && (match ys with
    | [y, z] => noSet z && (chkE tb s a x && (chkE tb s b y && chkE tb s c z))
    | _ => false)
  | .ch3 o o' o2 a b c d, e => exCmp e fun x ops ys => decide (ops = [o.op, o'.op, o2.op]) && (match ys with
    | [y, z, u] => noSet u && (chkE tb s a x && (chkE tb s b y && (chkE tb s c z && chkE tb s d u)))
    | _ => false)
  | .and a b, e => exBoolOp e fun op es p => decide (op = .And) && (match es with
    | x :: r => (match tailE .And r p with
      | some y => chkC tb s a x && chkC tb s b y
      | none => false)
    | [] => false)
  | .or a b, e => exBoolOp e fun op es p => decide (op = .Or) && (match es with
    | x :: r => (match tailE .Or r p with
      | some y => chkC tb s a x && chkC tb s b y
      | none => false)
    | [] => false)
  | .not a, e => exUn e fun op x => decide (op = .Not) && chkC tb s a x
def chkF (tb : Tb) (s : Sc) : F → Expr → Bool
  | .lr1 a, e => exCall2 e fun x y z => decide (x = ("list" : Str)) && (decide (y = ("range" : Str)) && (bltOk tb s x && (bltOk tb s y && (noSt z && chkE tb s a z))))
  | .lr2 a b, e => exCall3 e fun x y z u => decide (x = ("list" : Str)) && (decide (y = ("range" : Str)) && (bltOk tb s x && (bltOk tb s y && (noSt z && (noSt u && (chkE tb s a z && chkE tb s b u))))))
  | .ssrt a, e => exCall2 e fun x y z => decide (x = ("sorted" : Str)) && (decide (y = ("set" : Str)) && (bltOk tb s x && (bltOk tb s y && (noSt z && chkE tb s a z))))
  | .cat a b, e => exBin e fun x op y => decide (op = .Add) && (chkE tb s a x && chkE tb s b y)
  | .srt a, e => exCall e fun x as => decide (x = ("sorted" : Str)) && (bltOk tb s x && (match as with
    | [y] => noSt y && chkE tb s a y
    | _ => false))
  | .list a, e => exCall e fun x as => decide (x = ("list" : Str)) && (bltOk tb s x && (match as with
    | [y] => noSt y && chkE tb s a y
    | _ => false))
  | .lst es, e => exLst e fun xs => chkEs tb s es xs
  | .lc it t tt ce own, e => exLC e fun elt tg iter ifs scope => chkI tb s it tg iter && (noSet iter && (blkC s.N s.sc scope own && (t.slots.all (fun i => (own.map (·.2)).any fun j => decide (j = i)) &&
      (chkT (s.blk scope) t tg && ((match ifs with
        | [] => tt.isN
        | [c] => chkOc tb (s.blk scope) tt c
        | _ => false) && chkE tb (s.blk scope) ce elt)))))
def chkEs (tb : Tb) (s : Sc) : Es → List Expr → Bool
  | .nil, es => es.isEmpty
  | .cons a r, es => match es with
    | x :: xs => noSt x && (chkE tb s a x && chkEs tb s r xs)
    | [] => false
  | .star a r, es => match es with
    | .Starred x _ :: xs => chkE tb s a x && chkEs tb s r xs
    | _ => false
def chkI (tb : Tb) (s : Sc) : I → Expr → Expr → Bool
  | .seq a, _, e => chkE tb s a e
  | .rng1 a, _, e => exCall e fun x as => decide (x = ("range" : Str)) && (bltOk tb s x && (match as with
    | [y] => noSt y && chkE tb s a y
    | _ => false))
  | .rng2 a b, _, e => exCall e fun x as => decide (x = ("range" : Str)) && (bltOk tb s x && (match as with
    | [y, z] => noSt y && (noSt z && (chkE tb s a y && chkE tb s b z))
    | _ => false))
  | .zip a b, tg, e => exTup tg (fun _ => true) && exCall e fun x as => decide (x = ("zip" : Str)) && (bltOk tb s x && (match as with
    | [y, z] => noSt y && (noSt z && (chkE tb s a y && chkE tb s b z))
    | _ => false))
  | .enum a, tg, e => exTup tg (fun _ => true) && exCall e fun x as => decide (x = ("enumerate" : Str)) && (bltOk tb s x && (match as with
    | [y] => noSt y && chkE tb s a y
    | _ => false))
  | .zip3 a b c, tg, e => exTup tg (fun _ => true) && exCall e fun x as => decide (x = ("zip" : Str)) && (bltOk tb s x && (match as with
    | [y, z, u] => noSt y && (noSt z && (noSt u && (chkE tb s a y && (chkE tb s b z && chkE tb s c u))))
    | _ => false))
  | .rng3 a b c, _, e => exCall e fun x as => decide (x = ("range" : Str)) && (bltOk tb s x && (match as with
    | [y, z, u] => noSt y && (noSt z && (noSt u && (chkE tb s a y && (chkE tb s b z && chkE tb s c u))))
    | _ => false))
def chkB (tb : Tb) (s : Sc) : Bo → Expr → Bool
  | .slot i, e => exName e fun x => slot s i x && vis s x
  | .ref a, e => chkE tb s a e
def chkO (tb : Tb) (s : Sc) : Oe → Option Expr → Bool
  | .none, e => e.isNone
  | .some a, e => match e with
    | some x => chkE tb s a x
    | none => false
def chkOc (tb : Tb) (s : Sc) : Oc → Expr → Bool
  | .none, _ => false
  | .some a, e => chkC tb s a e
end
end FW

/-! FwN: the checker is right. -/
namespace FW
open PySem PySem.Spec PyProof.Rows L2
/-- a def that may be called -/
def Callee (T : Txt) (X : Cx) (x : Str) (n : Nat) (c : Call) : Prop :=
  ∃ (k : Nat) (f : Addr) (fd : FuncData) (ps : List Str), FnG X.prog X.w X.K X.mg X.base k f fd ps (spD T n c) ∧ RoomG (k + 1) X.A ∧ X.mg x = some (.ref f) ∧ PySem.W.keepIn X.K (.ref f) = true ∧ Binds X.K fd ps [] ∧ ps.length = n ∧ ∀ ds S, c ds S ≠ .bad → ds.length = n
structure CF (T : Txt) (W : WX) (V : Ev) (tb : Tb) (s : Sc) (X : Cx) : Prop where
  K : X.K = T.K
  N : X.N = s.N
  nd : s.N.Nodup
  nm : ∀ x ∈ s.N, (x == ("__debug__" : Str)) = false ∧ (x == ("__classdict__" : Str)) = false
  kd : X.env.scope.kind = .function
  sc : X.env.scope = s.sc
  fn : X.fn = s.fnF
  calm : X.calm = true
  gu : X.A.guards = some []
  hu : X.A.units + 64 < cLine
  tk : Takes X W
  gls : ∀ x k, tb.gls.lookup x = some k → (x == ("__debug__" : Str)) = false ∧ ∃ v u, X.mg x = some u ∧ RelV v u ∧ ∀ w, RepV T w (V.gv k) v
  blt : ∀ x ∈ tb.blts, X.mg x = none
  fns : ∀ x i, tb.fns.lookup x = some i → (x == ("__debug__" : Str)) = false ∧ ∃ n, tb.ar.lookup i = some n ∧ Callee T X x n (V.F i)
  cl : V.cl = tb.cls
  att : ∀ f c x, accOf tb.cls f c = some x → AccOk T X V.F f c x
  mth : ∀ m c i, mtOf tb.cls m c = some i → MethOk T X V.F m c i
  opm : ∀ o c i, opOf tb.cls o c = some i → OmOk T X V.F o c i
  nbs : ∀ c c2, nbOf tb.cls c c2 = true → NbOk T X c c2
  ups : ∀ c c2, upOf tb.cls c c2 = true → UpOk T X c c2
  lks : ∀ o c, lkOf tb.cls o c = true → LackOk T X o c
  fld : ∀ f c, fldOf tb.cls f c = true → FldOk T X f c
  sta : ∀ m c i, stOf tb.cls m c = some i → StatOk T X V.F m c i
  cal : ∀ c i, mtOf tb.cls "__call__" c = some i → CalOk T X V.F c i
  iso : ∀ c, knownC tb.cls c = true → IsCls T X c
  tgt : ∀ c, knownC tb.cls c = true → IsTgt T X (knownC tb.cls) (subOf tb.cls c) c
  sm : ∃ o, X.K.lookup sysModules = some o ∧ o.cls = .type "dict"
  mks : ∀ x c, tb.mks.lookup x = some c → (x == ("__debug__" : Str)) = false ∧ MakeOk T X V.F x c (iniOf tb.cls c) ∧ flOf tb.cls c = T.fl c
theorem takes_blk {X : Cx} : Takes X Wno := fun u s' ⟨_, _, _, _, _, _, _, _, _, _, _, _, _, _, _, _, h⟩ => h.elim
section
variable {T : Txt} {W : WX} {V : Ev} {tb : Tb} {s : Sc} {X : Cx}
theorem CF.blk (c : CF T W V tb s X) {scope : Scope} (hk : scope.kind = .function) : Blk X scope fun X => CF T Wno V tb (s.blk scope) X := fun s0 H C cl fp =>
  { K := c.K, N := c.N, nd := c.nd, nm := c.nm, kd := hk, sc := by
      show relabel scope X.env = relS scope s.sc
      rw [← c.sc]; rfl
    fn := rfl, calm := c.calm, gu := c.gu, hu := c.hu, tk := takes_blk, gls := c.gls, blt := c.blt, fns := c.fns, cl := c.cl, att := c.att, mth := c.mth, opm := fun o d i e => let k := c.opm o d i e; ⟨k.first, k.cls, k.run, k.back, k.int⟩, nbs := c.nbs, ups := c.ups, lks := c.lks, fld := c.fld, sta := c.sta, cal := c.cal, iso := fun d e => let k := c.iso d e; ⟨k.cls, k.ha, k.hn, k.ht, k.hm, k.no⟩, tgt := fun d e => let k := c.tgt d e; ⟨k.blt, k.own⟩, sm := c.sm, mks := c.mks }
theorem CF.nodup (c : CF T W V tb s X) : X.N.Nodup := c.N ▸ c.nd
theorem CF.slot {i : Nat} {x : Str} (c : CF T W V tb s X) (h : slot s i x = true) : X.N[i]? = some x := by
  rw [c.N]; exact of_decide_eq_true h
theorem CF.nms {i : Nat} {x : Str} (c : CF T W V tb s X) (h : FW.slot s i x = true) : (x == ("__debug__" : Str)) = false ∧ (x == ("__classdict__" : Str)) = false :=
  c.nm x (List.mem_of_getElem? (of_decide_eq_true h : s.N[i]? = some x))
theorem CF.vis {x : Str} (c : CF T W V tb s X) (h : vis s x = true) : Vis X.env.scope x := by
  unfold FW.vis at h
  unfold Vis
  rw [c.sc]
  split at h <;> first | (cases h; done) | skip
  · exact .inl (by assumption)
  · exact .inr (.inl (by assumption))
  · exact .inr (.inr (by assumption))
theorem CF.loc {x : Str} (c : CF T W V tb s X) (h : locc s x = true) : L2.Loc X.env.scope x ∧ (X.fn x = true ∨ X.env.scope.names.lookup x = some .local) := by
  unfold FW.locc at h
  unfold L2.Loc
  rw [c.sc, c.fn]
  split at h <;> first | (cases h; done) | skip
  · exact ⟨.inl (by assumption), .inr (by assumption)⟩
  · exact ⟨.inr (by assumption), .inl h⟩
theorem CF.gl {x : Str} (c : CF T W V tb s X) (h : glob s x = true) : Gl X x := by
  show X.env.scope.names.lookup x = _
  rw [c.sc]; exact of_decide_eq_true h
theorem CF.bl {x : Str} (c : CF T W V tb s X) (h : bltOk tb s x = true) : Gl X x ∧ X.mg x = none := by
  obtain ⟨h1, h2⟩ := band h
  obtain ⟨y, hy, e⟩ := List.any_eq_true.mp h2
  obtain rfl := of_decide_eq_true e
  exact ⟨c.gl h1, c.blt _ hy⟩
theorem op_B2 (c : CF T W V tb s X) (o : B2) : OpR X (binaryOp o.op) (rB T o.fn) := by
  cases o
  · exact op_addD c.K
  · exact op_subD
  · exact op_mulD c.K
  · exact op_fdivD
  · exact op_modD
  · exact op_powD
theorem op_K2 (c : CF T W V tb s X) (o : K2) : OpR X (compareOp o.op) (rB T o.fn) := by
  cases o
  · exact op_eqDD c.K c.hu
  · exact op_neDD c.K c.hu
  · exact op_ltD
  · exact op_leD
  · exact op_gtD
  · exact op_geD
  · exact op_isD
  · exact op_isntD
  · exact op_inD c.K
  · exact op_ninD c.K
theorem dec {p : Prop} [Decidable p] {b : Bool} (h : (decide p && b) = true) : p ∧ b = true := by
  obtain ⟨h1, h2⟩ := band h
  exact ⟨of_decide_eq_true h1, h2⟩
/-- built-ins -/
theorem de_bltin (c : CF T W V tb s X) (g : Bf) {a : Expr} {es : List Expr} {cs : State → R (List D)} {p pos : Pos} (hb : bltOk tb s g.nm = true) (ha : DA T W X (a :: es) cs) (he : (a :: es).all noSt = true) : DE T W X (.Call (.Name g.nm p) (a :: es) [] pos) (cArgs g.fn cs) := by
  obtain ⟨hg, hm⟩ := c.bl hb
  rw [List.all_cons] at he
  obtain ⟨h1, h2⟩ := band he
  have h3 := star_one (es := es) (env := X.env) h1
  have h4 := back_plain (pos := pos) (env := X.env) h2
  cases g
  · exact (pe_callB (call_lenD c.K) hg hm (by decide +kernel) ha (he := h3) (hpl := h4)).imp fun _ _ _ h => tCB_of h
  · exact (pe_callB call_absD hg hm (by decide +kernel) ha (he := h3) (hpl := h4)).imp fun _ _ _ h => tCB_of h
  · exact (pe_callB (call_max2D c.calm) hg hm (by decide +kernel) ha (he := h3) (hpl := h4)).imp fun _ _ _ h => tCB_of h
  · exact (pe_callB (call_min2D c.calm) hg hm (by decide +kernel) ha (he := h3) (hpl := h4)).imp fun _ _ _ h => tCB_of h
  · exact (pe_callTy call_intD hg hm (by decide +kernel) ha (he := h3) (hpl := h4)).imp fun _ _ _ h => tCB_of h
  · exact (pe_callTy call_strD hg hm (by decide +kernel) ha (he := h3) (hpl := h4)).imp fun _ _ _ h => tCB_of h
  · exact (pe_callB (call_sumD c.calm) hg hm (by decide +kernel) ha (he := h3) (hpl := h4)).imp fun _ _ _ h => tCB_of h
  · exact (pe_callB (call_allD c.calm) hg hm (by decide +kernel) ha (he := h3) (hpl := h4)).imp fun _ _ _ h => tCB_of h
  · exact (pe_callTy (call_tupleD c.K) hg hm (by decide +kernel) ha (he := h3) (hpl := h4)).imp fun _ _ _ h => tCB_of h
  · exact (pe_callB (call_reprD c.K c.sm c.gu c.hu) hg hm (by decide +kernel) ha (he := h3) (hpl := h4)).imp fun _ _ _ h => tCB_of h
theorem de_bltinB (c : CF T W V tb s X) (g : Bf) {a : Expr} {cx : State → R Bor} {p pos : Pos} (hb : bltOk tb s g.nm = true) (ha : DB T W X a cx) (he : noSt a = true) : DE T W X (.Call (.Name g.nm p) [a] [] pos) (cArgB g.fn cx) := by
  obtain ⟨hg, hm⟩ := c.bl hb
  have h3 := star_one (es := []) (env := X.env) he
  have ha := pa_cons ha pa_nil h3
  cases g
  · exact (pe_callB (call_lenD c.K) hg hm (by decide +kernel) ha (he := h3) (hpl := rfl)).imp fun _ _ _ h => tCBB_of h
  · exact (pe_callB call_absD hg hm (by decide +kernel) ha (he := h3) (hpl := rfl)).imp fun _ _ _ h => tCBB_of h
  · exact (pe_callB (call_max2D c.calm) hg hm (by decide +kernel) ha (he := h3) (hpl := rfl)).imp fun _ _ _ h => tCBB_of h
  · exact (pe_callB (call_min2D c.calm) hg hm (by decide +kernel) ha (he := h3) (hpl := rfl)).imp fun _ _ _ h => tCBB_of h
  · exact (pe_callTy call_intD hg hm (by decide +kernel) ha (he := h3) (hpl := rfl)).imp fun _ _ _ h => tCBB_of h
  · exact (pe_callTy call_strD hg hm (by decide +kernel) ha (he := h3) (hpl := rfl)).imp fun _ _ _ h => tCBB_of h
  · exact (pe_callB (call_sumD c.calm) hg hm (by decide +kernel) ha (he := h3) (hpl := rfl)).imp fun _ _ _ h => tCBB_of h
  · exact (pe_callB (call_allD c.calm) hg hm (by decide +kernel) ha (he := h3) (hpl := rfl)).imp fun _ _ _ h => tCBB_of h
  · exact (pe_callTy (call_tupleD c.K) hg hm (by decide +kernel) ha (he := h3) (hpl := rfl)).imp fun _ _ _ h => tCBB_of h
  · exact (pe_callB (call_reprD c.K c.sm c.gu c.hu) hg hm (by decide +kernel) ha (he := h3) (hpl := rfl)).imp fun _ _ _ h => tCBB_of h
theorem pe_tyN (c : CF T W V tb s X) {t : Ty} {e : Expr} (h : chkTy tb s t e = true) : PE X e (tC (.ty t.nm)) := by
  obtain ⟨x, p, rfl, h⟩ := exName_t h
  obtain ⟨rfl, h⟩ := dec h
  obtain ⟨hg, hm⟩ := c.bl h
  cases t
  · exact pe_bltn hg hm PyProof.Rows.boot_int rfl
  · exact pe_bltn hg hm PyProof.Rows.boot_bool rfl
  · exact pe_bltn hg hm PyProof.Rows.boot_str rfl
  · exact pe_bltn hg hm PyProof.Rows.boot_tuple rfl
  · exact pe_bltn hg hm PyProof.Rows.boot_list rfl
  · exact pe_bltn hg hm PyProof.Rows.boot_dict rfl
theorem pa_tys (c : CF T W V tb s X) : ∀ {ts : List Ty} {es : List Expr}, chkTys tb s ts es = true → es.all noSt = true → PA X es (fun σ H Q => Q (ts.map fun t => L2.V.ty t.nm) H)
  | [], es, h, _ => by
    unfold chkTys at h
    obtain rfl := List.isEmpty_iff.mp h
    exact pa_nil
  | t :: ts, [], h, _ => by unfold chkTys at h; cases h
  | t :: ts, e :: es, h, hs => by
    unfold chkTys at h
    obtain ⟨h1, h2⟩ := band h
    rw [List.all_cons] at hs
    obtain ⟨h3, h4⟩ := band hs
    exact (pa_cons (pe_tyN c h1) (pa_tys c h2 h4) (star_one h3)).imp fun σ H Q q => q
/-- a call of a def -/
theorem de_callF (c : CF T W V tb s X) {i : Nat} {x : Str} {es : List Expr} {cs : State → R (List D)} {p pos : Pos} (hg : glob s x = true) (hf : tb.fns.lookup x = some i) (hs : es.all noSt = true) (h0 : es = [] → tb.ar.lookup i = some 0 ∧ cs = cNil) (ha : DA T W X es cs) : DE T W X (.Call (.Name x p) es [] pos) (cCall (V.F i) cs) := by
  obtain ⟨hd, n, hn, k, f, fd, ps, F, hr, hm, hk, hb, hl, hlen⟩ := c.fns x i hf
  have hx := fun σ => passAt c.tk σ
  cases es with
  | nil =>
    obtain ⟨z, rfl⟩ := h0 rfl
    rw [hn] at z; cases z
    refine (pe_callG0 F (hr.mono (Nat.le_succ _)) (c.gl hg) hm hk hb hx hd).imp fun σ H Q h => ?_
    have h := tCall_of (W := W) hlen h
    obtain ⟨G, w, st, r, q⟩ := h
    exact q w [] H (.refl w) r .nil
  | cons e es =>
    rw [List.all_cons] at hs
    obtain ⟨h1, h2⟩ := band hs
    exact (pe_callG F (hr.mono (Nat.le_succ _)) (c.gl hg) hm hk hb hx ha hd (star_one h1) (back_plain h2)).imp fun σ H Q h => tCall_of hlen h
end
/-! ### targets -/
mutual
theorem sdT {T : Txt} {W : WX} {V : Ev} {tb : Tb} {s : Sc} {X : Cx} (c : CF T W V tb s X) : ∀ (t : Tg) (e : Expr), chkT s t e = true → DG T X e t
  | .nm i, e, h => by
    rw [chkT] at h
    obtain ⟨x, p, rfl, h⟩ := exName_t h
    obtain ⟨h1, h2⟩ := band h
    obtain ⟨h3, h4⟩ := c.loc h2
    exact dg_name c.nodup (c.slot h1) h3 h4
  | .tup ts, e, h => by
    rw [chkT] at h
    obtain ⟨es, j, p, rfl, h⟩ := exTup_t h
    obtain ⟨h1, h2⟩ := band h
    obtain ⟨h3, h4⟩ := asg_ones (env := X.env) h1
    obtain ⟨h5, h6⟩ := sdTs c ts es h2 h1
    exact dg_tup c.K c.calm h5 (h3.trans h6) h4
theorem sdTs {T : Txt} {W : WX} {V : Ev} {tb : Tb} {s : Sc} {X : Cx} (c : CF T W V tb s X) : ∀ (ts : List Tg) (es : List Expr), chkTs s ts es = true → es.all noSt = true → DGs T X es ts ∧ es.length = ts.length
  | [], es, h, _ => by
    rw [chkTs] at h
    obtain rfl := List.isEmpty_iff.mp h
    exact ⟨dgs_nil, rfl⟩
  | t :: ts, [], h, _ => by rw [chkTs] at h; cases h
  | t :: ts, e :: es, h, hs => by
    rw [chkTs] at h
    obtain ⟨h1, h2⟩ := band h
    rw [List.all_cons] at hs
    obtain ⟨h3, h4⟩ := band hs
    obtain ⟨h5, h6⟩ := sdTs c ts es h2 h4
    exact ⟨dgs_cons (sdT c t e h1) h5 (by rw [asg_one h3]; rfl), by simp [h6]⟩
end
end FW

/-! FwO: the checker is right, expressions. -/
namespace FW
open PySem PySem.Spec PyProof.Rows L2
theorem dw_bool {T : Txt} {W : WX} {X : Cx} {op : BoolOp} {es : List Expr} {p : Pos} {ba : State → R Bool} (h : DT T W X (.BoolOp op es p) ba) : DW T W X (.BoolOp op es p) ba := ⟨fun whole pins s σ H Q I q => h.run pins s σ H Q I q⟩
mutual
theorem sdE {T : Txt} {V : Ev} {tb : Tb} : ∀ (a : E) {W : WX} {s : Sc} {X : Cx} (c : CF T W V tb s X) (e : Expr), chkE tb s a e = true → DE T W X e (evE V a)
  | .num i, W, s, X, c, e, h => by
    rw [chkE] at h
    obtain ⟨x, j, p, rfl, h8⟩ := exInt_t h
    clear h
    have h := h8
    clear h8
    have e1 := of_decide_eq_true h
    subst e1
    exact de_int
  | .bl i, W, s, X, c, e, h => by
    rw [chkE] at h
    obtain ⟨x, j, p, rfl, h8⟩ := exBool_t h
    clear h
    have h := h8
    clear h8
    have e1 := of_decide_eq_true h
    subst e1
    exact de_bl
  | .str i, W, s, X, c, e, h => by
    rw [chkE] at h
    obtain ⟨x, j, p, rfl, h8⟩ := exStr_t h
    clear h
    have h := h8
    clear h8
    have e1 := of_decide_eq_true h
    subst e1
    exact de_str
  | .non, W, s, X, c, e, h => by
    rw [chkE] at h
    obtain ⟨j, p, rfl⟩ := exNone_t h
    exact de_non
  | .gl k, W, s, X, c, e, h => by
    rw [chkE] at h
    obtain ⟨x, p, rfl, h8⟩ := exName_t h
    clear h
    have h := h8
    clear h8
    obtain ⟨h1, h2⟩ := band h
    obtain ⟨hd, v, u, hm, r, q⟩ := c.gls x k (of_decide_eq_true h2)
    exact de_glob (c.gl h1) hm r q hd
  | .var i, W, s, X, c, e, h => by
    rw [chkE] at h
    obtain ⟨x, p, rfl, h8⟩ := exName_t h
    clear h
    have h := h8
    clear h8
    obtain ⟨h1, h2⟩ := band h
    exact de_var (c.slot h1) (c.vis h2) (c.nms h1).1 (c.nms h1).2
  | .frz i, W, s, X, c, e, h => by
    rw [chkE] at h
    obtain ⟨x, p, rfl, h8⟩ := exName_t h
    clear h
    have h := h8
    clear h8
    obtain ⟨h1, h2⟩ := band h
    exact de_frz (c.slot h1) (c.vis h2) (c.nms h1).1 (c.nms h1).2
  | .bin o a b, W, s, X, c, e, h => by
    rw [chkE] at h
    obtain ⟨x, op, y, p, rfl, h8⟩ := exBin_t h
    clear h
    have h := h8
    clear h8
    obtain ⟨e1, h9⟩ := dec h
    clear h
    subst e1
    have h := h9
    clear h9
    obtain ⟨h1, h2⟩ := band h
    exact de_bin (op_B2 c o) (sdE a c x h1) (sdE b c y h2)
  | .neg a, W, s, X, c, e, h => by
    rw [chkE] at h
    obtain ⟨op, x, p, rfl, h8⟩ := exUn_t h
    clear h
    have h := h8
    clear h8
    obtain ⟨e1, h9⟩ := dec h
    clear h
    subst e1
    have h := h9
    clear h9
    exact de_un op_negD (sdE a c x h)
  | .cmp o a b, W, s, X, c, e, h => by
    rw [chkE] at h
    obtain ⟨x, ops, ys, p, rfl, h8⟩ := exCmp_t h
    clear h
    have h := h8
    clear h8
    obtain ⟨e1, h9⟩ := dec h
    clear h
    subst e1
    have h := h9
    clear h9
    split at h
    · rename_i y
      have h0 := (band h).1
      replace h := (band h).2
      obtain ⟨h1, h2⟩ := band h
      exact de_cmp (op_K2 c o) (sdE a c x h1) (sdE b c y h2) (marks_ok h0)
    · cases h
  | .ch2 o o' a b d, W, s, X, c, e, h => by
    rw [chkE] at h
    obtain ⟨x, ops, ys, p, rfl, h8⟩ := exCmp_t h
    clear h
    have h := h8
    clear h8
    obtain ⟨e1, h9⟩ := dec h
    clear h
    subst e1
    have h := h9
    clear h9
    split at h
    · rename_i y z
      have h0 := (band h).1
      replace h := (band h).2
      have h1 := (band h).1
      replace h := (band h).2
      obtain ⟨h2, h3⟩ := band h
      exact de_ch2 (op_K2 c o) (op_K2 c o') (sdE a c x h1) (sdE b c y h2) (sdE d c z h3) (marks_ok h0)
    · cases h
  | .ch3 o o' o2 a b d f, W, s, X, c, e, h => by
    rw [chkE] at h
    obtain ⟨x, ops, ys, p, rfl, h8⟩ := exCmp_t h
    clear h
    have h := h8
    clear h8
    obtain ⟨e1, h9⟩ := dec h
    clear h
    subst e1
    have h := h9
    clear h9
    split at h
    · rename_i y z u
      have h0 := (band h).1
      replace h := (band h).2
      have h1 := (band h).1
      replace h := (band h).2
      have h2 := (band h).1
      replace h := (band h).2
      obtain ⟨h3, h4⟩ := band h
      exact de_ch3 (op_K2 c o) (op_K2 c o') (op_K2 c o2) (sdE a c x h1) (sdE b c y h2) (sdE d c z h3) (sdE f c u h4) (marks_ok h0)
    · cases h
  | .andv a b, W, s, X, c, e, h => by
    rw [chkE] at h
    obtain ⟨op, es, p, rfl, h8⟩ := exBoolOp_t h
    clear h
    have h := h8
    clear h8
    obtain ⟨e1, h9⟩ := dec h
    clear h
    subst e1
    have h := h9
    clear h9
    split at h
    · rename_i x r
      split at h
      · rename_i y hy
        obtain ⟨h1, h2⟩ := band h
        rcases r with _ | ⟨y1, _ | ⟨y2, r⟩⟩
        · cases hy
        · cases hy
          exact de_and (sdE a c x h1) (de_one (sdE b c _ h2))
        · cases hy
          exact de_and (sdE a c x h1) (sdE b c _ h2)
      · cases h
    · cases h
  | .orv a b, W, s, X, c, e, h => by
    rw [chkE] at h
    obtain ⟨op, es, p, rfl, h8⟩ := exBoolOp_t h
    clear h
    have h := h8
    clear h8
    obtain ⟨e1, h9⟩ := dec h
    clear h
    subst e1
    have h := h9
    clear h9
    split at h
    · rename_i x r
      split at h
      · rename_i y hy
        obtain ⟨h1, h2⟩ := band h
        rcases r with _ | ⟨y1, _ | ⟨y2, r⟩⟩
        · cases hy
        · cases hy
          exact de_or (sdE a c x h1) (de_one (sdE b c _ h2))
        · cases hy
          exact de_or (sdE a c x h1) (sdE b c _ h2)
      · cases h
    · cases h
  | .notv a, W, s, X, c, e, h => by
    rw [chkE] at h
    obtain ⟨op, x, p, rfl, h8⟩ := exUn_t h
    clear h
    have h := h8
    clear h8
    obtain ⟨e1, h9⟩ := dec h
    clear h
    subst e1
    have h := h9
    clear h9
    exact de_not (sdE a c x h)
  | .ite d a b, W, s, X, c, e, h => by
    rw [chkE] at h
    obtain ⟨z, x, y, p, rfl, h8⟩ := exIf_t h
    clear h
    have h := h8
    clear h8
    have h0 := (band h).1
    replace h := (band h).2
    obtain ⟨h1, h2⟩ := band h
    exact de_ite (sdC d c z h0) (sdE a c x h1) (sdE b c y h2)
  | .tup es, W, s, X, c, e, h => by
    rw [chkE] at h
    obtain ⟨xs, j, p, rfl, h8⟩ := exTup_t h
    clear h
    have h := h8
    clear h8
    exact de_tup (sdEs es c xs h)
  | .fz f, W, s, X, c, e, h => by
    rw [chkE] at h
    exact de_fz (sdF f c e h)
  | .new f, W, s, X, c, e, h => by
    rw [chkE] at h
    exact de_new (sdF f c e h)
  | .ix a b, W, s, X, c, e, h => by
    rw [chkE] at h
    obtain ⟨x, y, p, rfl, h8⟩ := exSub_t h
    clear h
    have h := h8
    clear h8
    have h0 := (band h).1
    replace h := (band h).2
    obtain ⟨h1, h2⟩ := band h
    exact de_ix c.K (sdE a c x h1) (sdE b c y h2) (plainIx_ok h0)
  | .sl a lo hi, W, s, X, c, e, h => by
    rw [chkE] at h
    obtain ⟨x, y, p, rfl, h8⟩ := exSub_t h
    clear h
    have h := h8
    clear h8
    obtain ⟨l, u, p2, rfl, h⟩ := exSlice_t h
    have h1 := (band h).1
    replace h := (band h).2
    obtain ⟨h2, h3⟩ := band h
    exact de_sl c.K (sdE a c x h1) (sdO lo c l h2) (sdO hi c u h3)
  | .call i es, W, s, X, c, e, h => by
    rw [chkE] at h
    obtain ⟨x, p, as, cp, rfl, h8⟩ := exCall_t h
    clear h
    have h := h8
    clear h8
    have h0 := (band h).1
    replace h := (band h).2
    obtain ⟨h1, h⟩ := dec h
    obtain ⟨h, h4⟩ := band h
    obtain ⟨h2, h3⟩ := band h
    refine de_callF c h0 h1 h2 (fun z => ?_) (sdEs es c as h4)
    subst z
    refine ⟨of_decide_eq_true h3, ?_⟩
    cases es with
    | nil => rfl
    | cons a r => rw [chkEs] at h4; cases h4
    | star a r => unfold chkEs at h4; cases h4
  | .blt g es, W, s, X, c, e, h => by
    rw [chkE] at h
    obtain ⟨x, p, as, cp, rfl, h8⟩ := exCall_t h
    clear h
    have h := h8
    clear h8
    obtain ⟨e1, h9⟩ := dec h
    clear h
    subst e1
    have h := h9
    clear h9
    have h1 := (band h).1
    replace h := (band h).2
    have h2 := (band h).1
    replace h := (band h).2
    obtain ⟨h3, h4⟩ := band h
    cases as with
    | nil => cases h3
    | cons y ys => exact de_bltin c g h1 (sdEs es c _ h4) h2
  | .isi a ts, W, s, X, c, e, h => by
    rw [chkE] at h
    obtain ⟨x, p, as, cp, rfl, h8⟩ := exCall_t h
    clear h
    have h := h8
    clear h8
    obtain ⟨e1, h9⟩ := dec h
    clear h
    subst e1
    have h := h9
    clear h9
    have h1 := (band h).1
    replace h := (band h).2
    obtain ⟨hg, hm⟩ := c.bl h1
    split at h
    · rename_i y z
      obtain ⟨h, h5⟩ := band h
      obtain ⟨h, h4⟩ := band h
      obtain ⟨h2, h3⟩ := band h
      split at h5
      · rename_i t
        exact de_iso1 c.K (ok := knownC V.cl) (fun d e => c.iso d (by rw [← c.cl]; exact e)) t hg hm (sdE a c y h4) (pe_tyN c h5) (star_one h2) (star_one h3) (back_plain (by simp [h3]))
      · obtain ⟨zs, j, p2, rfl, h6⟩ := exTup_t h5
        obtain ⟨h7, h6⟩ := dec h6
        obtain ⟨h8, h9⟩ := band h6
        exact de_isoN c.K (ok := knownC V.cl) (fun d e => c.iso d (by rw [← c.cl]; exact e)) ts hg hm (sdE a c y h4) (pa_tys c h9 h8) h7 (star_one h2) (back_plain (by simp [noSt]))
    · cases h
  | .isc a k, W, s, X, c, e, h => by
    rw [chkE] at h
    obtain ⟨x, p, y, z, p2, pos, rfl, h8⟩ := exIsc_t h
    clear h
    obtain ⟨e1, h⟩ := dec h8
    clear h8
    subst e1
    have h1 := (band h).1
    replace h := (band h).2
    have h2 := (band h).1
    replace h := (band h).2
    have h3 := (band h).1
    replace h := (band h).2
    obtain ⟨h4, h⟩ := dec h
    obtain ⟨h5, h6⟩ := band h
    obtain ⟨hg, hm⟩ := c.bl h1
    obtain ⟨hd, ok, _⟩ := c.mks z k h4
    exact de_isc c.K (ok := knownC V.cl) (fun d e => c.iso d (by rw [← c.cl]; exact e)) (by rw [c.cl]; exact c.tgt k h5) hg hm (sdE a c y h6) (c.gl h3) ok.1 hd h2
  | .rev a, W, s, X, c, e, h => by
    rw [chkE] at h
    obtain ⟨x, j, p1, p2, p3, p, rfl, h8⟩ := exRev_t h
    exact de_rev c.K (sdE a c x h8)
  | .dic l, W, s, X, c, e, h => by
    rw [chkE] at h
    unfold exDic at h
    split at h
    · obtain rfl := of_decide_eq_true h
      exact de_dic0
    · obtain rfl := of_decide_eq_true h
      exact de_dic1
    · cases h
  | .stat k m es, W, s, X, c, e, h => by
    rw [chkE] at h
    obtain ⟨o, g, ap, as, cp, rfl, hl, h8⟩ := exMeth_t h
    clear h
    obtain ⟨e1, h⟩ := dec h8
    clear h8
    subst e1
    have h1 := (band h).1
    replace h := (band h).2
    obtain ⟨h2, h⟩ := dec h
    have h3 := (band h).1
    replace h := (band h).2
    obtain ⟨h4, h5⟩ := band h
    obtain ⟨x, p, rfl, h6⟩ := exName_t h1
    obtain ⟨h6, h7⟩ := band h6
    obtain ⟨hd, ok, _⟩ := c.mks x k (of_decide_eq_true h7)
    have hcl := c.cl
    cases es0 : stOf V.cl g k with
    | none =>
      unfold evE
      rw [es0]
      exact ⟨fun pins s σ H Q I ⟨G, w, st, r, q⟩ => q.elim⟩
    | some i =>
      unfold evE
      rw [es0]
      cases as with
      | nil => cases h4
      | cons y ys => exact de_stat (c.gl h6) hd ok.1 (c.sta g k i (by rw [← hcl]; exact es0)) c.tk h3 h2 hl (sdEs es c _ h5)
  | .ocall i es, W, s, X, c, e, h => by
    rw [chkE] at h
    obtain ⟨x, p, as, cp, rfl, h8⟩ := exCall_t h
    clear h
    have h1 := (band h8).1
    replace h := (band h8).2
    have h2 := (band h).1
    replace h := (band h).2
    have h3 := (band h).1
    replace h := (band h).2
    obtain ⟨h4, h5⟩ := band h
    cases as with
    | nil => cases h4
    | cons y ys => exact de_ocall (fun d i e => c.cal d i (by rw [← c.cl]; exact e)) c.tk h3 (de_var (c.slot h1) (c.vis h2) (c.nms h1).1 (c.nms h1).2) (sdEs es c _ h5)
  | .om o a b, W, s, X, c, e, h => by
    rw [chkE] at h
    obtain ⟨x, op, y, p, rfl, h8⟩ := exBin_t h
    clear h
    have h := h8
    clear h8
    obtain ⟨e1, h9⟩ := dec h
    clear h
    subst e1
    have h := h9
    clear h9
    obtain ⟨h1, h2⟩ := band h
    exact de_om o (fun d i e => c.opm o d i (by rw [← c.cl]; exact e)) (fun d d2 e => c.nbs d d2 (by rw [← c.cl]; exact e)) (fun d d2 e => c.ups d d2 (by rw [← c.cl]; exact e)) (fun d e => c.lks o d (by rw [← c.cl]; exact e)) c.calm c.tk (sdE a c x h1) (sdE b c y h2)
  | .um a, W, s, X, c, e, h => by
    rw [chkE] at h
    obtain ⟨op, x, p, rfl, h8⟩ := exUn_t h
    clear h
    have h := h8
    clear h8
    obtain ⟨e1, h9⟩ := dec h
    clear h
    subst e1
    have h := h9
    clear h9
    exact de_um (fun d i e => c.mth _ d i (by rw [← c.cl]; exact e)) c.tk (sdE a c x h)
  | .ino a b, W, s, X, c, e, h => by
    rw [chkE] at h
    obtain ⟨x, ops, ys, p, rfl, h8⟩ := exCmp_t h
    clear h
    have h := h8
    clear h8
    obtain ⟨e1, h9⟩ := dec h
    clear h
    subst e1
    have h := h9
    clear h9
    split at h
    · rename_i y
      have h0 := (band h).1
      replace h := (band h).2
      obtain ⟨h1, h2⟩ := band h
      exact de_inO (fun d i e => c.mth _ d i (by rw [← c.cl]; exact e)) c.tk (sdE a c x h1) (sdE b c y h2) (marks_ok h0)
    · cases h
  | .eqo a b, W, s, X, c, e, h => by
    rw [chkE] at h
    obtain ⟨x, ops, ys, p, rfl, h8⟩ := exCmp_t h
    clear h
    have h := h8
    clear h8
    obtain ⟨e1, h9⟩ := dec h
    clear h
    subst e1
    have h := h9
    clear h9
    split at h
    · rename_i y
      have h0 := (band h).1
      replace h := (band h).2
      obtain ⟨h1, h2⟩ := band h
      exact de_eqO c.hu (fun d i e => c.mth _ d i (by rw [← c.cl]; exact e)) (fun d d2 e => c.nbs d d2 (by rw [← c.cl]; exact e)) (fun d d2 e => c.ups d d2 (by rw [← c.cl]; exact e)) c.tk (sdE a c x h1) (sdE b c y h2) (marks_ok h0)
    · cases h
  | .hole, W, s, X, c, e, h => ⟨fun pins s σ H Q I ⟨G, w, st, r, q⟩ => q.elim⟩
  | .attr f a, W, s, X, c, e, h => by
    rw [chkE] at h
    obtain ⟨x, g, p, rfl, h8⟩ := exAttr_t h
    clear h
    have h := h8
    clear h8
    obtain ⟨e1, h9⟩ := dec h
    clear h
    subst e1
    have h := h9
    clear h9
    obtain ⟨h1, h2⟩ := band h
    exact de_att (F := V.F) (fun d y e => c.att _ d y (by rw [← c.cl]; exact e)) (base_ok h1) (sdE a c x h2)
  | .meth m a es, W, s, X, c, e, h => by
    rw [chkE] at h
    obtain ⟨o, g, ap, as, cp, rfl, hl, h8⟩ := exMeth_t h
    clear h
    have h := h8
    clear h8
    obtain ⟨e1, h9⟩ := dec h
    clear h
    subst e1
    have h := h9
    clear h9
    have h1 := (band h).1
    replace h := (band h).2
    obtain ⟨h2, h⟩ := dec h
    have h3 := (band h).1
    replace h := (band h).2
    obtain ⟨h4, h5⟩ := band h
    have hm : ∀ d i, mtOf V.cl g d = some i → MethOk T X V.F g d i := fun d i e => c.mth _ d i (by rw [← c.cl]; exact e)
    cases as with
    | cons y ys => exact de_meth hm c.tk h1 h3 h2 hl (sdE a c o h4) (sdEs es c _ h5)
    | nil =>
      cases es with
      | nil => exact de_meth0 hm c.tk h1 hl (sdE a c o h4)
      | cons a r => rw [chkEs] at h5; cases h5
      | star a r => unfold chkEs at h5; cases h5
  | .make k es, W, s, X, c, e, h => by
    rw [chkE] at h
    obtain ⟨x, p, as, cp, rfl, h8⟩ := exCall_t h
    clear h
    have h := h8
    clear h8
    have h0 := (band h).1
    replace h := (band h).2
    obtain ⟨h1, h⟩ := dec h
    have h2 := (band h).1
    replace h := (band h).2
    obtain ⟨h3, h4⟩ := band h
    obtain ⟨hd, ok, ef⟩ := c.mks x k h1
    cases as with
    | nil => cases h3
    | cons y ys =>
      have := de_make (p := p) (pos := cp) ok c.tk (c.gl h0) hd h2 (sdEs es c _ h4)
      rw [← ef, ← c.cl] at this
      exact this
  | .ixB b i, W, s, X, c, e, h => by
    rw [chkE] at h
    obtain ⟨x, y, p, rfl, h8⟩ := exSub_t h
    clear h
    have h := h8
    clear h8
    have h0 := (band h).1
    replace h := (band h).2
    obtain ⟨h1, h2⟩ := band h
    exact de_ixB c.K (sdB b c x h1) (sdE i c y h2) (plainIx_ok h0)
  | .binB o b i, W, s, X, c, e, h => by
    rw [chkE] at h
    obtain ⟨x, op, y, p, rfl, h8⟩ := exBin_t h
    clear h
    have h := h8
    clear h8
    obtain ⟨e1, h9⟩ := dec h
    clear h
    subst e1
    have h := h9
    clear h9
    obtain ⟨h1, h2⟩ := band h
    exact de_binB (op_B2 c o) (sdB b c x h1) (sdE i c y h2)
  | .cmpB o b i, W, s, X, c, e, h => by
    rw [chkE] at h
    obtain ⟨x, ops, ys, p, rfl, h8⟩ := exCmp_t h
    clear h
    have h := h8
    clear h8
    obtain ⟨e1, h9⟩ := dec h
    clear h
    subst e1
    have h := h9
    clear h9
    split at h
    · rename_i y
      have h0 := (band h).1
      replace h := (band h).2
      obtain ⟨h1, h2⟩ := band h
      exact de_cmpB (op_K2 c o) (sdB b c x h1) (sdE i c y h2) (marks_ok h0)
    · cases h
  | .bltB g b, W, s, X, c, e, h => by
    rw [chkE] at h
    obtain ⟨x, p, as, cp, rfl, h8⟩ := exCall_t h
    clear h
    have h := h8
    clear h8
    obtain ⟨e1, h9⟩ := dec h
    clear h
    subst e1
    have h := h9
    clear h9
    have h1 := (band h).1
    replace h := (band h).2
    split at h
    · rename_i y
      obtain ⟨h2, h3⟩ := band h
      exact de_bltinB c g h1 (sdB b c y h3) h2
    · cases h
  | .popB b i, W, s, X, c, e, h => by
    rw [chkE] at h
    obtain ⟨o, m, ap, as, cp, rfl, hl, h8⟩ := exMeth_t h
    clear h
    have h := h8
    clear h8
    obtain ⟨e1, h9⟩ := dec h
    clear h
    subst e1
    have h := h9
    clear h9
    have h1 := (band h).1
    replace h := (band h).2
    split at h
    · rename_i y
      have h2 := (band h).1
      replace h := (band h).2
      obtain ⟨h3, h4⟩ := band h
      have hs := star_one (es := []) (env := X.env) h2
      exact de_popB c.K (sdB b c o h3) (sdE i c y h4) (base_ok h1) (by rw [hs]; rfl) hl hs
    · cases h
  | .pop0 b, W, s, X, c, e, h => by
    rw [chkE] at h
    obtain ⟨o, m, ap, as, cp, rfl, hl, h8⟩ := exMeth_t h
    clear h
    have h := h8
    clear h8
    obtain ⟨e1, h9⟩ := dec h
    clear h
    subst e1
    have h := h9
    clear h9
    have h1 := (band h).1
    replace h := (band h).2
    obtain ⟨h2, h3⟩ := band h
    obtain rfl := List.isEmpty_iff.mp h2
    exact de_pop0 (sdB b c o h3) (base_ok h1) hl
theorem sdC {T : Txt} {V : Ev} {tb : Tb} : ∀ (a : C) {W : WX} {s : Sc} {X : Cx} (c : CF T W V tb s X) (e : Expr), chkC tb s a e = true → DT T W X e (evC V a)
  | .hole, W, s, X, c, e, h => ⟨fun pins s σ H Q I ⟨G, w, st, r, q⟩ => q.elim⟩
  | .tru a, W, s, X, c, e, h => by
    rw [chkC] at h
    obtain ⟨h1, h2⟩ := band h
    exact dt_tru c.K (sdE a c e h2) (plT_ok h1)
  | .ino a b, W, s, X, c, e, h => by
    rw [chkC] at h
    obtain ⟨x, ops, ys, p, rfl, h8⟩ := exCmp_t h
    clear h
    have h := h8
    clear h8
    obtain ⟨e1, h9⟩ := dec h
    clear h
    subst e1
    have h := h9
    clear h9
    split at h
    · rename_i y
      have h0 := (band h).1
      replace h := (band h).2
      obtain ⟨h1, h2⟩ := band h
      exact dt_inO (fun d i e => c.mth _ d i (by rw [← c.cl]; exact e)) c.tk (sdE a c x h1) (sdE b c y h2) (marks_ok h0)
    · cases h
  | .eqo a b, W, s, X, c, e, h => by
    rw [chkC] at h
    obtain ⟨x, ops, ys, p, rfl, h8⟩ := exCmp_t h
    clear h
    have h := h8
    clear h8
    obtain ⟨e1, h9⟩ := dec h
    clear h
    subst e1
    have h := h9
    clear h9
    split at h
    · rename_i y
      have h0 := (band h).1
      replace h := (band h).2
      obtain ⟨h1, h2⟩ := band h
      exact dt_eqO c.hu (fun d i e => c.mth _ d i (by rw [← c.cl]; exact e)) (fun d d2 e => c.nbs d d2 (by rw [← c.cl]; exact e)) (fun d d2 e => c.ups d d2 (by rw [← c.cl]; exact e)) c.tk (sdE a c x h1) (sdE b c y h2) (marks_ok h0)
    · cases h
  | .cmp o a b, W, s, X, c, e, h => by
    rw [chkC] at h
    obtain ⟨x, ops, ys, p, rfl, h8⟩ := exCmp_t h
    clear h
    have h := h8
    clear h8
    obtain ⟨e1, h9⟩ := dec h
    clear h
    subst e1
    have h := h9
    clear h9
    split at h
    · rename_i y
      have h0 := (band h).1
      replace h := (band h).2
      obtain ⟨h1, h2⟩ := band h
      exact dt_cmp (op_K2 c o) (sdE a c x h1) (sdE b c y h2) (marks_ok h0)
    · cases h
  | .cmpB o b i, W, s, X, c, e, h => by
    rw [chkC] at h
    obtain ⟨x, ops, ys, p, rfl, h8⟩ := exCmp_t h
    clear h
    have h := h8
    clear h8
    obtain ⟨e1, h9⟩ := dec h
    clear h
    subst e1
    have h := h9
    clear h9
    split at h
    · rename_i y
      have h0 := (band h).1
      replace h := (band h).2
      obtain ⟨h1, h2⟩ := band h
      exact dt_cmpB (op_K2 c o) (sdB b c x h1) (sdE i c y h2) (marks_ok h0)
    · cases h
  | .ch2 o o' a b d, W, s, X, c, e, h => by
    rw [chkC] at h
    obtain ⟨x, ops, ys, p, rfl, h8⟩ := exCmp_t h
    clear h
    have h := h8
    clear h8
    obtain ⟨e1, h9⟩ := dec h
    clear h
    subst e1
    have h := h9
    clear h9
    split at h
    · rename_i y z
      have h0 := (band h).1
      replace h := (band h).2
      have h1 := (band h).1
      replace h := (band h).2
      obtain ⟨h2, h3⟩ := band h
      exact dt_ch2 (op_K2 c o) (op_K2 c o') (sdE a c x h1) (sdE b c y h2) (sdE d c z h3) (marks_ok h0)
    · cases h
  | .ch3 o o' o2 a b d f, W, s, X, c, e, h => by
    rw [chkC] at h
    obtain ⟨x, ops, ys, p, rfl, h8⟩ := exCmp_t h
    clear h
    have h := h8
    clear h8
    obtain ⟨e1, h9⟩ := dec h
    clear h
    subst e1
    have h := h9
    clear h9
    split at h
    · rename_i y z u
      have h0 := (band h).1
      replace h := (band h).2
      have h1 := (band h).1
      replace h := (band h).2
      have h2 := (band h).1
      replace h := (band h).2
      obtain ⟨h3, h4⟩ := band h
      exact dt_ch3 (op_K2 c o) (op_K2 c o') (op_K2 c o2) (sdE a c x h1) (sdE b c y h2) (sdE d c z h3) (sdE f c u h4) (marks_ok h0)
    · cases h
  | .and a b, W, s, X, c, e, h => by
    rw [chkC] at h
    obtain ⟨op, es, p, rfl, h8⟩ := exBoolOp_t h
    clear h
    have h := h8
    clear h8
    obtain ⟨e1, h9⟩ := dec h
    clear h
    subst e1
    have h := h9
    clear h9
    split at h
    · rename_i x r
      split at h
      · rename_i y hy
        obtain ⟨h1, h2⟩ := band h
        rcases r with _ | ⟨y1, _ | ⟨y2, r⟩⟩
        · cases hy
        · cases hy
          exact (dw_and (sdC a c x h1) (dw_and1 (sdC b c _ h2))).pt
        · cases hy
          exact (dw_and (sdC a c x h1) (dw_bool (sdC b c _ h2))).pt
      · cases h
    · cases h
  | .or a b, W, s, X, c, e, h => by
    rw [chkC] at h
    obtain ⟨op, es, p, rfl, h8⟩ := exBoolOp_t h
    clear h
    have h := h8
    clear h8
    obtain ⟨e1, h9⟩ := dec h
    clear h
    subst e1
    have h := h9
    clear h9
    split at h
    · rename_i x r
      split at h
      · rename_i y hy
        obtain ⟨h1, h2⟩ := band h
        rcases r with _ | ⟨y1, _ | ⟨y2, r⟩⟩
        · cases hy
        · cases hy
          exact (dw_or (sdC a c x h1) (dw_or1 (sdC b c _ h2))).pt
        · cases hy
          exact (dw_or (sdC a c x h1) (dw_bool (sdC b c _ h2))).pt
      · cases h
    · cases h
  | .not a, W, s, X, c, e, h => by
    rw [chkC] at h
    obtain ⟨op, x, p, rfl, h8⟩ := exUn_t h
    clear h
    have h := h8
    clear h8
    obtain ⟨e1, h9⟩ := dec h
    clear h
    subst e1
    have h := h9
    clear h9
    exact dt_not (sdC a c x h)
theorem sdF {T : Txt} {V : Ev} {tb : Tb} : ∀ (a : F) {W : WX} {s : Sc} {X : Cx} (c : CF T W V tb s X) (e : Expr), chkF tb s a e = true → DF T W X e (evF V a)
  | .lr1 a, W, s, X, c, e, h => by
    rw [chkF] at h
    obtain ⟨x, p, y, p2, z, p3, pos, rfl, h8⟩ := exCall2_t h
    obtain ⟨e1, h⟩ := dec h8
    subst e1
    obtain ⟨e2, h⟩ := dec h
    subst e2
    have h1 := (band h).1
    replace h := (band h).2
    have h2 := (band h).1
    replace h := (band h).2
    obtain ⟨h3, h4⟩ := band h
    obtain ⟨hg, hm⟩ := c.bl h1
    obtain ⟨hg2, hm2⟩ := c.bl h2
    exact df_lr1 c.calm hg hm hg2 hm2 (sdE a c z h4) h3
  | .lr2 a b, W, s, X, c, e, h => by
    rw [chkF] at h
    obtain ⟨x, p, y, p2, z, u, p3, pos, rfl, h8⟩ := exCall3_t h
    obtain ⟨e1, h⟩ := dec h8
    subst e1
    obtain ⟨e2, h⟩ := dec h
    subst e2
    have h1 := (band h).1
    replace h := (band h).2
    have h2 := (band h).1
    replace h := (band h).2
    have h3 := (band h).1
    replace h := (band h).2
    have h4 := (band h).1
    replace h := (band h).2
    obtain ⟨h5, h6⟩ := band h
    obtain ⟨hg, hm⟩ := c.bl h1
    obtain ⟨hg2, hm2⟩ := c.bl h2
    exact df_lr2 c.calm hg hm hg2 hm2 (sdE a c z h5) (sdE b c u h6) h3 h4
  | .ssrt a, W, s, X, c, e, h => by
    rw [chkF] at h
    obtain ⟨x, p, y, p2, z, p3, pos, rfl, h8⟩ := exCall2_t h
    obtain ⟨e1, h⟩ := dec h8
    subst e1
    obtain ⟨e2, h⟩ := dec h
    subst e2
    have h1 := (band h).1
    replace h := (band h).2
    have h2 := (band h).1
    replace h := (band h).2
    obtain ⟨h3, h4⟩ := band h
    obtain ⟨hg, hm⟩ := c.bl h1
    obtain ⟨hg2, hm2⟩ := c.bl h2
    exact df_ssrt c.K c.calm hg hm hg2 hm2 (sdE a c z h4) h3
  | .cat a b, W, s, X, c, e, h => by
    rw [chkF] at h
    obtain ⟨x, op, y, p, rfl, h8⟩ := exBin_t h
    obtain ⟨e1, h⟩ := dec h8
    subst e1
    obtain ⟨h1, h2⟩ := band h
    exact df_cat (sdE a c x h1) (sdE b c y h2)
  | .srt a, W, s, X, c, e, h => by
    rw [chkF] at h
    obtain ⟨x, p, as, cp, rfl, h8⟩ := exCall_t h
    clear h
    have h := h8
    clear h8
    obtain ⟨e1, h9⟩ := dec h
    clear h
    subst e1
    have h := h9
    clear h9
    have h1 := (band h).1
    replace h := (band h).2
    obtain ⟨hg, hm⟩ := c.bl h1
    split at h
    · rename_i y
      obtain ⟨h2, h3⟩ := band h
      exact df_srt c.K hg hm (sdE a c y h3) (star_one h2)
    · cases h
  | .list a, W, s, X, c, e, h => by
    rw [chkF] at h
    obtain ⟨x, p, as, cp, rfl, h8⟩ := exCall_t h
    clear h
    have h := h8
    clear h8
    obtain ⟨e1, h9⟩ := dec h
    clear h
    subst e1
    have h := h9
    clear h9
    have h1 := (band h).1
    replace h := (band h).2
    obtain ⟨hg, hm⟩ := c.bl h1
    split at h
    · rename_i y
      obtain ⟨h2, h3⟩ := band h
      exact df_list c.K hg hm (sdE a c y h3) (star_one h2)
    · cases h
  | .lst es, W, s, X, c, e, h => by
    rw [chkF] at h
    obtain ⟨xs, p, rfl, h8⟩ := exLst_t h
    clear h
    have h := h8
    clear h8
    exact df_lst (sdEs es c xs h)
  | .lc it t tt ce own, W, s, X, c, e, h => by
    rw [chkF] at h
    obtain ⟨elt, tg, iter, ifs, scope, p, rfl, h8⟩ := exLC_t h
    clear h
    have h := h8
    clear h8
    have h1 := (band h).1
    replace h := (band h).2
    have h2 := (band h).1
    replace h := (band h).2
    have h3 := (band h).1
    replace h := (band h).2
    have h4 := (band h).1
    replace h := (band h).2
    have h5 := (band h).1
    replace h := (band h).2
    obtain ⟨h6, h7⟩ := band h
    have ok : BlkOk X.N X.env.scope scope own := by rw [c.N, c.sc]; exact blkOk_by h3
    have cb := c.blk ok.kind
    have hv : ∀ i ∈ t.slots, i ∈ own.map (·.2) := fun i hi => by
      obtain ⟨j, hj, e⟩ := List.any_eq_true.mp (List.all_eq_true.mp h4 i hi)
      exact of_decide_eq_true e ▸ hj
    refine df_lc c.calm c.nodup (sdI it c tg iter h1) ok hv (fun s0 H C cl fp => sdT (cb s0 H C cl fp) t tg h5) ?_ (fun s0 H C cl fp => sdE ce (cb s0 H C cl fp) elt h7) (fold_ok h2)
    split at h6
    · cases tt with
      | none => exact fun s0 H C cl fp => dts_nil
      | some a => cases h6
    · exact fun s0 H C cl fp => pts_one (sdOc tt (cb s0 H C cl fp) _ h6)
    · cases h6
theorem sdEs {T : Txt} {V : Ev} {tb : Tb} : ∀ (a : Es) {W : WX} {s : Sc} {X : Cx} (c : CF T W V tb s X) (e : List Expr), chkEs tb s a e = true → DA T W X e (evEs V a)
  | .nil, W, s, X, c, e, h => by
    rw [chkEs] at h
    obtain rfl := List.isEmpty_iff.mp h
    exact da_nil
  | .cons a r, W, s, X, c, [], h => by rw [chkEs] at h; cases h
  | .cons a r, W, s, X, c, x :: xs, h => by
    rw [chkEs] at h
    have h1 := (band h).1
    replace h := (band h).2
    obtain ⟨h2, h3⟩ := band h
    exact da_cons (sdE a c x h2) (sdEs r c xs h3) (star_one h1)
  | .star a r, W, s, X, c, e, h => by
    unfold chkEs at h
    split at h
    · obtain ⟨h2, h3⟩ := band h
      exact da_star c.K (sdE a c _ h2) (sdEs r c _ h3) star_starred
    · cases h
theorem sdI {T : Txt} {V : Ev} {tb : Tb} : ∀ (a : I) {W : WX} {s : Sc} {X : Cx} (c : CF T W V tb s X) (tg e : Expr), chkI tb s a tg e = true → DI T W X tg e (evI V a)
  | .seq a, W, s, X, c, tg, e, h => by
    rw [chkI] at h
    exact di_seq c.K (sdE a c e h)
  | .rng1 a, W, s, X, c, tg, e, h => by
    rw [chkI] at h
    obtain ⟨x, p, as, cp, rfl, h8⟩ := exCall_t h
    clear h
    have h := h8
    clear h8
    obtain ⟨e1, h9⟩ := dec h
    clear h
    subst e1
    have h := h9
    clear h9
    have h1 := (band h).1
    replace h := (band h).2
    obtain ⟨hg, hm⟩ := c.bl h1
    split at h
    · rename_i y
      obtain ⟨h2, h3⟩ := band h
      have hs := star_one (es := []) (env := X.env) h2
      exact di_range1 hg hm (da_cons (sdE a c y h3) da_nil hs) hs
    · cases h
  | .rng2 a b, W, s, X, c, tg, e, h => by
    rw [chkI] at h
    obtain ⟨x, p, as, cp, rfl, h8⟩ := exCall_t h
    clear h
    have h := h8
    clear h8
    obtain ⟨e1, h9⟩ := dec h
    clear h
    subst e1
    have h := h9
    clear h9
    have h1 := (band h).1
    replace h := (band h).2
    obtain ⟨hg, hm⟩ := c.bl h1
    split at h
    · rename_i y z
      have h2 := (band h).1
      replace h := (band h).2
      have h3 := (band h).1
      replace h := (band h).2
      obtain ⟨h4, h5⟩ := band h
      have hs := star_one (es := [z]) (env := X.env) h2
      have hs2 := star_one (es := []) (env := X.env) h3
      exact di_range2 hg hm (da_cons (sdE a c y h4) (da_cons (sdE b c z h5) da_nil hs2) hs) (by rw [hs, hs2]; rfl) hs2
    · cases h
  | .zip a b, W, s, X, c, tg, e, h => by
    rw [chkI] at h
    have h0 := (band h).1
    replace h := (band h).2
    obtain ⟨ts, j, p0, rfl, _⟩ := exTup_t h0
    obtain ⟨x, p, as, cp, rfl, h8⟩ := exCall_t h
    clear h
    have h := h8
    clear h8
    obtain ⟨e1, h9⟩ := dec h
    clear h
    subst e1
    have h := h9
    clear h9
    have h1 := (band h).1
    replace h := (band h).2
    obtain ⟨hg, hm⟩ := c.bl h1
    split at h
    · rename_i y z
      have h2 := (band h).1
      replace h := (band h).2
      have h3 := (band h).1
      replace h := (band h).2
      obtain ⟨h4, h5⟩ := band h
      have hs := star_one (es := [z]) (env := X.env) h2
      have hs2 := star_one (es := []) (env := X.env) h3
      exact di_zip c.K hg hm (da_cons (sdE a c y h4) (da_cons (sdE b c z h5) da_nil hs2) hs) hs (back_plain (by simp [h3]))
    · cases h
  | .enum a, W, s, X, c, tg, e, h => by
    rw [chkI] at h
    have h0 := (band h).1
    replace h := (band h).2
    obtain ⟨ts, j, p0, rfl, _⟩ := exTup_t h0
    obtain ⟨x, p, as, cp, rfl, h8⟩ := exCall_t h
    clear h
    obtain ⟨e1, h⟩ := dec h8
    subst e1
    have h1 := (band h).1
    replace h := (band h).2
    obtain ⟨hg, hm⟩ := c.bl h1
    split at h
    · rename_i y
      obtain ⟨h2, h3⟩ := band h
      have hs := star_one (es := []) (env := X.env) h2
      exact di_enum c.K hg hm (da_cons (sdE a c y h3) da_nil hs) hs
    · cases h
  | .zip3 a b d, W, s, X, c, tg, e, h => by
    rw [chkI] at h
    have h0 := (band h).1
    replace h := (band h).2
    obtain ⟨ts, j, p0, rfl, _⟩ := exTup_t h0
    obtain ⟨x, p, as, cp, rfl, h8⟩ := exCall_t h
    clear h
    obtain ⟨e1, h⟩ := dec h8
    subst e1
    have h1 := (band h).1
    replace h := (band h).2
    obtain ⟨hg, hm⟩ := c.bl h1
    split at h
    · rename_i y z u
      have h2 := (band h).1
      replace h := (band h).2
      have h3 := (band h).1
      replace h := (band h).2
      have h4 := (band h).1
      replace h := (band h).2
      have h5 := (band h).1
      replace h := (band h).2
      obtain ⟨h6, h7⟩ := band h
      have hs := star_one (es := [z, u]) (env := X.env) h2
      have hs2 := star_one (es := [u]) (env := X.env) h3
      have hs3 := star_one (es := []) (env := X.env) h4
      exact di_zip3 c.K hg hm (da_cons (sdE a c y h5) (da_cons (sdE b c z h6) (da_cons (sdE d c u h7) da_nil hs3) hs2) hs) hs (back_plain (by simp [h3, h4]))
    · cases h
  | .rng3 a b d, W, s, X, c, tg, e, h => by
    rw [chkI] at h
    obtain ⟨x, p, as, cp, rfl, h8⟩ := exCall_t h
    clear h
    obtain ⟨e1, h⟩ := dec h8
    subst e1
    have h1 := (band h).1
    replace h := (band h).2
    obtain ⟨hg, hm⟩ := c.bl h1
    split at h
    · rename_i y z u
      have h2 := (band h).1
      replace h := (band h).2
      have h3 := (band h).1
      replace h := (band h).2
      have h4 := (band h).1
      replace h := (band h).2
      have h5 := (band h).1
      replace h := (band h).2
      obtain ⟨h6, h7⟩ := band h
      have hs := star_one (es := [z, u]) (env := X.env) h2
      have hs2 := star_one (es := [u]) (env := X.env) h3
      have hs3 := star_one (es := []) (env := X.env) h4
      exact di_range3 hg hm (da_cons (sdE a c y h5) (da_cons (sdE b c z h6) (da_cons (sdE d c u h7) da_nil hs3) hs2) hs) hs (back_plain (by simp [h3, h4]))
    · cases h
theorem sdB {T : Txt} {V : Ev} {tb : Tb} : ∀ (a : Bo) {W : WX} {s : Sc} {X : Cx} (c : CF T W V tb s X) (e : Expr), chkB tb s a e = true → DB T W X e (evB V a)
  | .slot i, W, s, X, c, e, h => by
    rw [chkB] at h
    obtain ⟨x, p, rfl, h8⟩ := exName_t h
    clear h
    have h := h8
    clear h8
    obtain ⟨h1, h2⟩ := band h
    exact db_slot (c.slot h1) (c.vis h2) (c.nms h1).1 (c.nms h1).2
  | .ref a, W, s, X, c, e, h => by
    rw [chkB] at h
    exact db_ref (sdE a c e h)
theorem sdO {T : Txt} {V : Ev} {tb : Tb} : ∀ (a : Oe) {W : WX} {s : Sc} {X : Cx} (c : CF T W V tb s X) (e : Option Expr), chkO tb s a e = true → DO T W X e (evO V a)
  | .none, W, s, X, c, e, h => by
    rw [chkO] at h
    cases e with
    | none => exact do_none
    | some x => cases h
  | .some a, W, s, X, c, none, h => by rw [chkO] at h; cases h
  | .some a, W, s, X, c, some e, h => by
    rw [chkO] at h
    exact do_some (sdE a c e h)
theorem sdOc {T : Txt} {V : Ev} {tb : Tb} : ∀ (a : Oc) {W : WX} {s : Sc} {X : Cx} (c : CF T W V tb s X) (e : Expr), chkOc tb s a e = true → DT T W X e (evOc V a)
  | .none, W, s, X, c, e, h => by rw [chkOc] at h; cases h
  | .some a, W, s, X, c, e, h => by
    rw [chkOc] at h
    exact sdC a c e h
end
end FW

/-! FwP: the checker is right, statements. -/
namespace FW
open PySem PySem.Spec PyProof.Rows L2
/-! ### forms of statements -/
def stExpr : Stmt → (Expr → Bool) → Bool
  | .Expr e _, k => k e
  | _, _ => false
def stRet : Stmt → (Expr → Bool) → Bool
  | .Return (some e) _, k => k e
  | _, _ => false
def stRetN : Stmt → Bool
  | .Return none _ => true
  | _ => false
def stPass : Stmt → Bool
  | .Pass _ => true
  | _ => false
def stBrk : Stmt → Bool
  | .Break _ => true
  | _ => false
def stCont : Stmt → Bool
  | .Continue _ => true
  | _ => false
def stIf : Stmt → (Expr → List Stmt → List Stmt → Bool) → Bool
  | .If c a b _, k => k c a b
  | _, _ => false
def stWhile : Stmt → (Expr → List Stmt → Bool) → Bool
  | .While c a [] _, k => k c a
  | _, _ => false
def stFor : Stmt → (Expr → Expr → List Stmt → List Stmt → Bool) → Bool
  | .For t i a b _, k => k t i a b
  | _, _ => false
def stAsg : Stmt → (Expr → Expr → Pos → Bool) → Bool
  | .Assign [t] e p, k => k t e p
  | _, _ => false
def stAug : Stmt → (Expr → Operator → Expr → Bool) → Bool
  | .AugAssign t o e _, k => k t o e
  | _, _ => false
theorem stExpr_t {e : Stmt} {k} (h : stExpr e k = true) : ∃ a p, e = .Expr a p ∧ k a = true := by
  unfold stExpr at h; split at h <;> first | exact ⟨_, _, rfl, h⟩ | cases h
theorem stRet_t {e : Stmt} {k} (h : stRet e k = true) : ∃ a p, e = .Return (some a) p ∧ k a = true := by
  unfold stRet at h; split at h <;> first | exact ⟨_, _, rfl, h⟩ | cases h
theorem stRetN_t {e : Stmt} (h : stRetN e = true) : ∃ p, e = .Return none p := by
  unfold stRetN at h; split at h <;> first | exact ⟨_, rfl⟩ | cases h
theorem stPass_t {e : Stmt} (h : stPass e = true) : ∃ p, e = .Pass p := by
  unfold stPass at h; split at h <;> first | exact ⟨_, rfl⟩ | cases h
theorem stBrk_t {e : Stmt} (h : stBrk e = true) : ∃ p, e = .Break p := by
  unfold stBrk at h; split at h <;> first | exact ⟨_, rfl⟩ | cases h
theorem stCont_t {e : Stmt} (h : stCont e = true) : ∃ p, e = .Continue p := by
  unfold stCont at h; split at h <;> first | exact ⟨_, rfl⟩ | cases h
theorem stIf_t {e : Stmt} {k} (h : stIf e k = true) : ∃ c a b p, e = .If c a b p ∧ k c a b = true := by
  unfold stIf at h; split at h <;> first | exact ⟨_, _, _, _, rfl, h⟩ | cases h
theorem stWhile_t {e : Stmt} {k} (h : stWhile e k = true) : ∃ c a p, e = .While c a [] p ∧ k c a = true := by
  unfold stWhile at h; split at h <;> first | exact ⟨_, _, _, rfl, h⟩ | cases h
theorem stFor_t {e : Stmt} {k} (h : stFor e k = true) : ∃ t i a b p, e = .For t i a b p ∧ k t i a b = true := by
  unfold stFor at h; split at h <;> first | exact ⟨_, _, _, _, _, rfl, h⟩ | cases h
theorem stAsg_t {e : Stmt} {k} (h : stAsg e k = true) : ∃ t a p, e = .Assign [t] a p ∧ k t a p = true := by
  unfold stAsg at h; split at h <;> first | exact ⟨_, _, _, rfl, h⟩ | cases h
theorem stAug_t {e : Stmt} {k} (h : stAug e k = true) : ∃ t o a p, e = .AugAssign t o a p ∧ k t o a = true := by
  unfold stAug at h; split at h <;> first | exact ⟨_, _, _, _, rfl, h⟩ | cases h
/-- if (x := e) is None, is not None -/
def stIfw : Stmt → (CmpOp → Str → Expr → List Stmt → List Stmt → Bool) → Bool
  | .If (.Compare (.NamedExpr (.Name x _) a _) [op] [.Constant .none _ _] _) xs ys _, k => k op x a xs ys
  | _, _ => false
theorem stIfw_t {e : Stmt} {k} (h : stIfw e k = true) : ∃ x p a p2 op j p3 p4 xs ys pos, e = .If (.Compare (.NamedExpr (.Name x p) a p2) [op] [.Constant .none j p3] p4) xs ys pos ∧ k op x a xs ys = true := by
  unfold stIfw at h
  split at h
  · exact ⟨_, _, _, _, _, _, _, _, _, _, _, rfl, h⟩
  · cases h
/-! ### the checker -/
/-- name = a new list -/
def chkNF (tb : Tb) (s : Sc) (i : Nat) (f : F) (t e : Expr) : Bool := exName t fun x => slot s i x && (locc s x && chkF tb s f e)
/-- a tuple display taken apart, not stored from the right -/
def ttOk (s : Scope) : Expr → Expr → Bool
  | .Tuple ts _ _, .Tuple vs _ _ => ts.any (notLoc s) || (vs.all (foldedForSure 8) && vs.all noSt) || (!(ts.length == 2 || ts.length == 3) || vs.length != ts.length)
  | t, e => noTT t e
def chkAsg (tb : Tb) (s : Sc) (t : Tg) (a : E) (tg e : Expr) : Bool := noComp e && (noSt tg && (ttOk s.sc tg e && (chkT s t tg && chkE tb s a e)))
def chkAs (tb : Tb) (s : Sc) : Tg → E → Expr → Expr → Bool
  | .nm i, .fz f, tg, e => chkNF tb s i f tg e
  | .nm i, .new f, tg, e => chkNF tb s i f tg e
  | t, a, tg, e => chkAsg tb s t a tg e
def chkPs (tb : Tb) (s : Sc) : Ps → List Expr → Bool
  | .nil, es => es.isEmpty
  | .v a r, es => match es with
    | x :: xs => noSt x && (chkE tb s a x && chkPs tb s r xs)
    | [] => false
  | .f f r, es => match es with
    | x :: xs => noSt x && (chkF tb s f x && chkPs tb s r xs)
    | [] => false
def chkPar (tb : Tb) (s : Sc) (is : List Nat) (ps : Ps) (tg e : Expr) : Bool := match is, tg with
  | [i, j], .Tuple [.Name x px, .Name y py] _ _ => exTup e fun vs => sw2 s.sc x y px py vs && (slot s i x && (slot s j y && (!decide (i = j) && chkPs tb s ps vs)))
  | [i, j, l], .Tuple [.Name x px, .Name y py, .Name z pz] _ _ => exTup e fun vs => sw3 s.sc x y z px py pz vs && (slot s i x && (slot s j y && (slot s l z && (!decide (i = j) && (!decide (i = l) && (!decide (j = l) && chkPs tb s ps vs))))))
  | _, _ => false
mutual
def chkS (tb : Tb) (s : Sc) : S → Stmt → Bool
  | .hole, _ => true
  | .setA f o a, e => stAsg e fun tg x _ => noComp x && exAttr tg fun y g => decide (g = f) && (chkE tb s o y && chkE tb s a x)
  | .pass, e => stPass e
  | .doc, e => stExpr e fun a => exStr a fun _ => true
  | .expr a, e => stExpr e fun x => noComp x && chkE tb s a x
  | .ret a, e => stRet e fun x => chkE tb s a x
  | .retN, e => stRetN e
  | .brk, e => stBrk e
  | .cont, e => stCont e
  | .ifs c a b, e => stIf e fun z x y => chkC tb s c z && (chkSs tb s a x && chkSs tb s b y)
  | .ifw i isn a u v, e => stIfw e fun op x y xs ys => decide (op = isnOp isn) && (slot s i x && (locc s x && (chkE tb s a y && (chkSs tb s u xs && chkSs tb s v ys))))
  | .whl c b, e => stWhile e fun z x => chkC tb s c z && chkSs tb s b x
  | .fr t it b els, e => stFor e fun tg iter x y => noSet iter && (chkI tb s it tg iter && (chkT s t tg && (chkSs tb s b x && chkSs tb s els y)))
  | .asg t a, e => stAsg e fun tg x _ => chkAs tb s t a tg x
  | .own i f, e => stAsg e fun tg x _ => chkNF tb s i f tg x
  | .par is ps, e => stAsg e fun tg x _ => chkPar tb s is ps tg x
  | .aug i add a, e => stAug e fun tg op x => decide (op = if add then .Add else .Sub) && (exName tg fun y => slot s i y && (locc s y && chkE tb s a x))
  | .setB a b i, e => stAsg e fun tg x _ => noComp x && exSub tg fun o k => noSlice k && (chkB tb s b o && (chkE tb s i k && chkE tb s a x))
  | .app b a, e => stExpr e fun x => exMeth x fun o m as => decide (m = ("append" : Str)) && (noCall o && (match as with
    | [y] => noSt y && (chkB tb s b o && chkE tb s a y)
    | _ => false))
  | .ext b a, e => stExpr e fun x => exMeth x fun o m as => decide (m = ("extend" : Str)) && (noCall o && (match as with
    | [y] => noSt y && (chkB tb s b o && chkE tb s a y)
    | _ => false))
def chkSs (tb : Tb) (s : Sc) : Ss → List Stmt → Bool
  | .nil, es => es.isEmpty
  | .cons a r, es => match es with
    | x :: xs => chkS tb s a x && chkSs tb s r xs
    | [] => false
  | .frz i r, es => chkSs tb s r es
end
/-! ### it is right -/
section
variable {T : Txt} {W : WX} {V : Ev} {tb : Tb} {s : Sc} {X : Cx}
theorem sdNF (c : CF T W V tb s X) {i : Nat} {f : F} {t e : Expr} {p : Pos} (h : chkNF tb s i f t e = true) : PS X (.Assign [t] e p) (tAsg (TFd T W (evF V f)) (gName i)) := by
  obtain ⟨x, px, rfl, h⟩ := exName_t h
  obtain ⟨h1, h⟩ := band h
  obtain ⟨h2, h3⟩ := band h
  obtain ⟨h4, h5⟩ := c.loc h2
  have he := sdF f c e h3
  cases f with
  | lr1 a =>
    rw [chkF] at h3
    obtain ⟨x3, p3, y3, p4, z3, p5, pos3, rfl, h3⟩ := exCall2_t h3
    exact ps_set c.nodup (c.slot h1) h4 he (sw_noComp rfl) h5
  | lr2 a b =>
    rw [chkF] at h3
    obtain ⟨x3, p3, y3, p4, z3, u3, p5, pos3, rfl, h3⟩ := exCall3_t h3
    exact ps_set c.nodup (c.slot h1) h4 he (sw_noComp rfl) h5
  | ssrt a =>
    rw [chkF] at h3
    obtain ⟨x3, p3, y3, p4, z3, p5, pos3, rfl, h3⟩ := exCall2_t h3
    exact ps_set c.nodup (c.slot h1) h4 he (sw_noComp rfl) h5
  | cat a b =>
    rw [chkF] at h3
    obtain ⟨x3, op, y3, p3, rfl, h3⟩ := exBin_t h3
    exact ps_set c.nodup (c.slot h1) h4 he (sw_noComp rfl) h5
  | srt a =>
    rw [chkF] at h3
    obtain ⟨x2, p2, as, cp, rfl, h3⟩ := exCall_t h3
    exact ps_set c.nodup (c.slot h1) h4 he (sw_noComp rfl) h5
  | list a =>
    rw [chkF] at h3
    obtain ⟨x2, p2, as, cp, rfl, h3⟩ := exCall_t h3
    exact ps_set c.nodup (c.slot h1) h4 he (sw_noComp rfl) h5
  | lst es =>
    rw [chkF] at h3
    obtain ⟨xs, p2, rfl, h3⟩ := exLst_t h3
    exact ps_set c.nodup (c.slot h1) h4 he (sw_noComp rfl) h5
  | lc it t tt ce own =>
    rw [chkF] at h3
    obtain ⟨elt, tg, iter, ifs, scope, p2, rfl, h6⟩ := exLC_t h3
    cases hb : swB X.env.scope x px p2 scope with
    | false => exact ps_set c.nodup (c.slot h1) h4 he (by rw [sw_comp c.kd, hb]) h5
    | true =>
      have hl : X.env.scope.names.lookup x = some .local := by
        unfold swB at hb
        exact of_decide_eq_true (band (band hb).1).1
      obtain ⟨k1, h6⟩ := band h6
      obtain ⟨k2, h6⟩ := band h6
      obtain ⟨k3, h6⟩ := band h6
      obtain ⟨k4, h6⟩ := band h6
      obtain ⟨k5, h6⟩ := band h6
      obtain ⟨k6, k7⟩ := band h6
      have ok : BlkOk X.N X.env.scope scope own := by rw [c.N, c.sc]; exact blkOk_by k3
      have cb := c.blk ok.kind
      have hv : ∀ i ∈ t.slots, i ∈ own.map (·.2) := fun i hi => by
        obtain ⟨j, hj, e⟩ := List.any_eq_true.mp (List.all_eq_true.mp k4 i hi)
        exact of_decide_eq_true e ▸ hj
      refine ds_lcSet c.calm c.nodup (c.slot h1) hl (by rw [sw_comp c.kd, hb]) (sdI it c tg iter k1) ok hv (fun s0 H C cl fp => sdT (cb s0 H C cl fp) t tg k5) ?_ (fun s0 H C cl fp => sdE ce (cb s0 H C cl fp) elt k7) (fold_ok k2)
      split at k6
      · cases tt with
        | none => exact fun s0 H C cl fp => dts_nil
        | some a => cases k6
      · exact fun s0 H C cl fp => pts_one (sdOc tt (cb s0 H C cl fp) _ k6)
      · cases k6
theorem sdAsg (c : CF T W V tb s X) {t : Tg} {a : E} {tg e : Expr} {p : Pos} (h : chkAsg tb s t a tg e = true) : DS T W X (.Assign [tg] e p) (cAsg t (evE V a)) := by
  obtain ⟨h1, h⟩ := band h
  obtain ⟨h2, h⟩ := band h
  obtain ⟨h3, h⟩ := band h
  obtain ⟨h4, h5⟩ := band h
  refine ds_asg (sdE a c e h5) (sdT c t tg h4) (sws_noComp h1) ?_ (by rw [asg_one h2]; rfl)
  unfold ttOk at h3
  split at h3
  · rcases Bool.or_eq_true_iff.mp h3 with h3 | h3
    · rcases Bool.or_eq_true_iff.mp h3 with h3 | h3
      · exact sst_cell (c.sc ▸ h3)
      obtain ⟨h6, h7⟩ := band h3
      exact sst_const h6 h7
    · exact sst_len h3
  · exact sst_noTT h3
theorem sdAs (c : CF T W V tb s X) {t : Tg} {a : E} {tg e : Expr} {p : Pos} (h : chkAs tb s t a tg e = true) : DS T W X (.Assign [tg] e p) (cAsg t (evE V a)) := by
  unfold chkAs at h
  split at h
  · exact ds_lcVal (sdNF c h)
  · exact ds_lcNew (sdNF c h)
  · exact sdAsg c h
theorem sdPs (c : CF T W V tb s X) : ∀ (ps : Ps) (es : List Expr), chkPs tb s ps es = true → DP T W X es (evPs V ps)
  | .nil, es, h => by
    unfold chkPs at h
    obtain rfl := List.isEmpty_iff.mp h
    exact dp_nil
  | .v a r, [], h => by unfold chkPs at h; cases h
  | .v a r, x :: xs, h => by
    unfold chkPs at h
    obtain ⟨h1, h⟩ := band h
    obtain ⟨h2, h3⟩ := band h
    exact dp_val (sdE a c x h2) (sdPs c r xs h3) (star_one h1)
  | .f f r, [], h => by unfold chkPs at h; cases h
  | .f f r, x :: xs, h => by
    unfold chkPs at h
    obtain ⟨h1, h⟩ := band h
    obtain ⟨h2, h3⟩ := band h
    exact dp_own (sdF f c x h2) (sdPs c r xs h3) (star_one h1)
theorem sdPar (c : CF T W V tb s X) {is : List Nat} {ps : Ps} {tg e : Expr} {p : Pos} (h : chkPar tb s is ps tg e = true) : DS T W X (.Assign [tg] e p) (cPar is (evPs V ps)) := by
  unfold chkPar at h
  split at h
  · obtain ⟨vs, j2, p2, rfl, h⟩ := exTup_t h
    obtain ⟨h1, h⟩ := band h
    obtain ⟨h2, h⟩ := band h
    obtain ⟨h3, h⟩ := band h
    obtain ⟨h4, h5⟩ := band h
    have h1' := c.sc ▸ h1
    have hw := fun (k : Nat) (p : Pos) => sst_two (k := k) (p := p) (k2 := j2) (p2 := p2) c.kd h1'
    unfold sw2 at h1
    simp only [Bool.and_eq_true, Bool.not_eq_true', decide_eq_true_eq, decide_eq_false_iff_not] at h1 h4
    obtain ⟨⟨⟨⟨⟨⟨⟨q1, q2⟩, q3⟩, q4⟩, q5⟩, q6⟩, q7⟩, q8⟩ := h1
    obtain ⟨a, b, rfl⟩ : ∃ a b, vs = [a, b] := by
      rcases vs with _ | ⟨a, _ | ⟨b, _ | ⟨d, r⟩⟩⟩ <;> first | (simp at q1; done) | exact ⟨_, _, rfl⟩
    exact ds_par2 c.calm c.nodup (c.slot h2) (c.slot h3) h4 (by rw [c.sc]; exact q2) (by rw [c.sc]; exact q3) (sdPs c ps _ h5) (hw _ _) rfl
  · obtain ⟨vs, j2, p2, rfl, h⟩ := exTup_t h
    obtain ⟨h1, h⟩ := band h
    obtain ⟨h2, h⟩ := band h
    obtain ⟨h3, h⟩ := band h
    obtain ⟨h4, h⟩ := band h
    obtain ⟨h5, h⟩ := band h
    obtain ⟨h6, h⟩ := band h
    obtain ⟨h7, h8⟩ := band h
    have h1' := c.sc ▸ h1
    have hw := fun (k : Nat) (p : Pos) => sst_three (k := k) (p := p) (k2 := j2) (p2 := p2) c.kd h1'
    unfold sw3 at h1
    simp only [Bool.and_eq_true, Bool.not_eq_true', decide_eq_true_eq, decide_eq_false_iff_not] at h1 h5 h6 h7
    obtain ⟨⟨⟨⟨⟨⟨⟨⟨⟨⟨⟨q1, q2⟩, q3⟩, q3z⟩, q4⟩, q4z⟩, q5⟩, q5z⟩, q5y⟩, q6⟩, q7⟩, q8⟩ := h1
    obtain ⟨a, b, d, rfl⟩ : ∃ a b d, vs = [a, b, d] := by
      rcases vs with _ | ⟨a, _ | ⟨b, _ | ⟨d, _ | ⟨f, r⟩⟩⟩⟩ <;> first | (simp at q1; done) | exact ⟨_, _, _, rfl⟩
    exact ds_par3 c.calm c.nodup (c.slot h2) (c.slot h3) (c.slot h4) h5 h6 h7 (by rw [c.sc]; exact q2) (by rw [c.sc]; exact q3) (by rw [c.sc]; exact q3z) (sdPs c ps _ h8) (hw _ _) rfl
  · cases h
end
mutual
theorem sdS {T : Txt} {W : WX} {V : Ev} {tb : Tb} {s : Sc} {X : Cx} (c : CF T W V tb s X) (hp : PassesOwn (model X.prog X.w) X.A X.env X.xe) : ∀ (a : S) (e : Stmt), chkS tb s a e = true → DS T W X e (evS V a)
  | .hole, e, h => ⟨fun pins s σ H Z I ⟨G, w, st, r, q⟩ => q.elim⟩
  | .setA f o a, e, h => by
    rw [chkS] at h
    obtain ⟨tg, x, p, rfl, h8⟩ := stAsg_t h
    obtain ⟨h1, h9⟩ := band h8
    obtain ⟨y, g, p2, rfl, h10⟩ := exAttr_t h9
    obtain ⟨e1, h11⟩ := dec h10
    subst e1
    obtain ⟨h2, h3⟩ := band h11
    exact ds_setA (ok := fldOf V.cl g) (fun d e => c.fld _ d (by rw [← c.cl]; exact e)) (sdE o c y h2) (sdE a c x h3) (sw_noComp h1)
  | .pass, e, h => by
    rw [chkS] at h
    obtain ⟨p, rfl⟩ := stPass_t h
    exact ds_pass
  | .doc, e, h => by
    rw [chkS] at h
    obtain ⟨a, p, rfl, h8⟩ := stExpr_t h
    obtain ⟨x, j, p2, rfl, _⟩ := exStr_t h8
    exact ds_doc
  | .expr a, e, h => by
    rw [chkS] at h
    obtain ⟨x, p, rfl, h8⟩ := stExpr_t h
    obtain ⟨h1, h2⟩ := band h8
    exact ds_expr (sdE a c x h2) (sw_noComp h1)
  | .ret a, e, h => by
    rw [chkS] at h
    obtain ⟨x, p, rfl, h8⟩ := stRet_t h
    exact ds_ret (sdE a c x h8)
  | .retN, e, h => by
    rw [chkS] at h
    obtain ⟨p, rfl⟩ := stRetN_t h
    exact ds_retN
  | .brk, e, h => by
    rw [chkS] at h
    obtain ⟨p, rfl⟩ := stBrk_t h
    exact ds_break
  | .cont, e, h => by
    rw [chkS] at h
    obtain ⟨p, rfl⟩ := stCont_t h
    exact ds_continue
  | .ifs z a b, e, h => by
    rw [chkS] at h
    obtain ⟨d, x, y, p, rfl, h8⟩ := stIf_t h
    obtain ⟨h1, h9⟩ := band h8
    obtain ⟨h2, h3⟩ := band h9
    exact ds_if (sdC z c d h1) (sdSs c hp a x h2) (sdSs c hp b y h3)
  | .ifw i isn a u v, e, h => by
    rw [chkS] at h
    obtain ⟨x, p, y, p2, op, j, p3, p4, xs, ys, pos, rfl, h8⟩ := stIfw_t h
    obtain ⟨e1, h9⟩ := dec h8
    subst e1
    obtain ⟨h1, h9⟩ := band h9
    obtain ⟨h2, h9⟩ := band h9
    obtain ⟨h3, h9⟩ := band h9
    obtain ⟨h4, h5⟩ := band h9
    obtain ⟨k1, k2⟩ := c.loc h2
    exact ds_ifw c.nodup (c.slot h1) k1 k2 (sdE a c y h3) (sdSs c hp u xs h4) (sdSs c hp v ys h5)
  | .whl z b, e, h => by
    rw [chkS] at h
    obtain ⟨d, x, p, rfl, h8⟩ := stWhile_t h
    obtain ⟨h1, h2⟩ := band h8
    exact ds_while V.wf hp (sdC z c d h1) (sdSs c hp b x h2)
  | .fr t it b els, e, h => by
    rw [chkS] at h
    obtain ⟨tg, iter, x, y, p, rfl, h8⟩ := stFor_t h
    obtain ⟨h1, h9⟩ := band h8
    obtain ⟨h2, h10⟩ := band h9
    obtain ⟨h3, h11⟩ := band h10
    obtain ⟨h4, h5⟩ := band h11
    exact ds_for hp c.calm (sdI it c tg iter h2) (sdT c t tg h3) (sdSs c hp b x h4) (sdSs c hp els y h5) (fold_ok h1)
  | .asg t a, e, h => by
    rw [chkS] at h
    obtain ⟨tg, x, p, rfl, h8⟩ := stAsg_t h
    exact sdAs c h8
  | .own i f, e, h => by
    rw [chkS] at h
    obtain ⟨tg, x, p, rfl, h8⟩ := stAsg_t h
    exact ds_lcOwn (sdNF c h8)
  | .par is ps, e, h => by
    rw [chkS] at h
    obtain ⟨tg, x, p, rfl, h8⟩ := stAsg_t h
    exact sdPar c h8
  | .aug i add a, e, h => by
    rw [chkS] at h
    obtain ⟨tg, op, x, p, rfl, h8⟩ := stAug_t h
    obtain ⟨e1, h9⟩ := dec h8
    obtain ⟨y, p2, rfl, h10⟩ := exName_t h9
    obtain ⟨h1, h11⟩ := band h10
    obtain ⟨h2, h3⟩ := band h11
    obtain ⟨h4, h5⟩ := c.loc h2
    cases add with
    | true =>
      have e1 : op = .Add := e1
      subst e1
      exact ds_aug ip_add c.nodup (c.slot h1) h4 (sdE a c x h3) h5
    | false =>
      have e1 : op = .Sub := e1
      subst e1
      exact ds_aug ip_sub c.nodup (c.slot h1) h4 (sdE a c x h3) h5
  | .setB a b i, e, h => by
    rw [chkS] at h
    obtain ⟨tg, x, p, rfl, h8⟩ := stAsg_t h
    obtain ⟨h1, h9⟩ := band h8
    obtain ⟨o, k, p2, rfl, h10⟩ := exSub_t h9
    obtain ⟨h2, h11⟩ := band h10
    obtain ⟨h3, h12⟩ := band h11
    obtain ⟨h4, h5⟩ := band h12
    exact ds_setB (sdB b c o h3) (sdE i c k h4) (sdE a c x h5) (sws_noComp h1) (sst_noTT rfl) rfl (asg_sub h2)
  | .app b a, e, h => by
    rw [chkS] at h
    obtain ⟨x, p, rfl, h8⟩ := stExpr_t h
    obtain ⟨o, m, ap, as, cp, rfl, hl, h9⟩ := exMeth_t h8
    obtain ⟨e1, h10⟩ := dec h9
    obtain ⟨h1, h11⟩ := band h10
    clear h h8 h9 h10
    subst e1
    split at h11
    · rename_i y
      obtain ⟨h2, h12⟩ := band h11
      obtain ⟨h3, h4⟩ := band h12
      have hs := star_one (es := []) (env := X.env) h2
      exact ds_app c.K (sdB b c o h3) (sdE a c _ h4) (base_ok h1) (by rw [hs]; rfl) hl hs
    · cases h11
  | .ext b a, e, h => by
    rw [chkS] at h
    obtain ⟨x, p, rfl, h8⟩ := stExpr_t h
    obtain ⟨o, m, ap, as, cp, rfl, hl, h9⟩ := exMeth_t h8
    obtain ⟨e1, h10⟩ := dec h9
    obtain ⟨h1, h11⟩ := band h10
    clear h h8 h9 h10
    subst e1
    split at h11
    · rename_i y
      obtain ⟨h2, h12⟩ := band h11
      obtain ⟨h3, h4⟩ := band h12
      have hs := star_one (es := []) (env := X.env) h2
      exact ds_ext c.K (sdB b c o h3) (sdE a c _ h4) (base_ok h1) (by rw [hs]; rfl) hl hs
    · cases h11
theorem sdSs {T : Txt} {W : WX} {V : Ev} {tb : Tb} {s : Sc} {X : Cx} (c : CF T W V tb s X) (hp : PassesOwn (model X.prog X.w) X.A X.env X.xe) : ∀ (a : Ss) (e : List Stmt), chkSs tb s a e = true → DSs T W X e (evSs V a)
  | .nil, e, h => by
    rw [chkSs] at h
    obtain rfl := List.isEmpty_iff.mp h
    exact dss_nil
  | .cons a r, [], h => by rw [chkSs] at h; cases h
  | .cons a r, x :: xs, h => by
    rw [chkSs] at h
    obtain ⟨h1, h2⟩ := band h
    exact dss_cons (sdS c hp a x h1) (sdSs c hp r xs h2)
  | .frz i r, es, h => by
    rw [chkSs] at h
    refine (sdSs c hp r es h).imp fun Z σ H ⟨G, w, st, rs, q⟩ => ?_
    have q : PostS T W G w (cFrzS i (evSs V r) st) Z := q
    unfold cFrzS at q
    split at q
    · rename_i l e
      obtain ⟨w', v, le, e1, r', _⟩ := rs.freezeS e
      exact ⟨G, w', _, r', PostS.up le q⟩
    · exact ⟨G, w, st, rs, q⟩
    · exact q.elim
end
end FW

/-! FwQ: programs. -/
namespace FW
open PySem PySem.Spec PyProof.Rows L2
/-- a def: its name, how many parameters, its names, its body; of a class: the class, the def's long name, whether it is a property -/
structure Fn where
  nm : Str
  np : Nat
  N : List Str
  body : Ss
  own : Option (Str × Str × Nat)
def Fn.qual (f : Fn) : Str := match f.own with
  | none => f.nm
  | some (_, q, _) => q
/-- where a def stands -/
def adr (K : PySem.W.Frag) (f : Fn) : Addr := match f.own with
  | none => He.ga K f.nm
  | some (C, _, 0) => He.ma K (He.ga K C) f.nm
  | some (C, _, 1) => (match PySem.W.recIn K (He.ma K (He.ga K C) f.nm) "property" with
    | some (.ref g :: _) => g
    | _ => 0)
  | some (C, _, _) => He5.wf K (He.ga K C) "staticmethod" f.nm
def fin : R Fl → R D
  | .ok .nx s => .ok .non s
  | .ok (.rt d) s => .ok d s
  | .exc x s => .exc x s
  | _ => .bad
@[simp] theorem fin_nx (s : State) : fin (.ok .nx s) = .ok .non s := rfl
@[simp] theorem fin_rt (d : D) (s : State) : fin (.ok (.rt d) s) = .ok d s := rfl
@[simp] theorem fin_exc (d : D) (s : State) : fin (.exc d s) = .exc d s := rfl
noncomputable def callF (P : List (Nat × Fn)) (gv : Nat → D) (wf : Nat) (cl : CDs) : Nat → Nat → Call
  | 0, _ => fun _ _ => .bad
  | k + 1, i => fun ds S => match P.lookup i with
    | some f => if ds.length = f.np then fin (evSs ⟨callF P gv wf cl k, gv, wf, cl⟩ f.body ⟨argsEnv f.N.length ds, S⟩) else .bad
    | none => .bad
/-- what the kernel looks at: a def's text against its small form -/
structure Tx where
  params : Arguments
  body : List Stmt
  scope : Scope
def plainA (a : Arguments) (ps : List Str) : Bool := match a with
  | ⟨[], as, none, [], [], none, []⟩ => decide (as.map (·.arg) = ps)
  | _ => false
def chkFn (tb : Tb) (f : Fn) (t : Tx) : Bool :=
  decide (f.np ≤ f.N.length) && (plainA t.params (f.N.take f.np) && (C8.scC f.N (f.N.take f.np) t.scope && (f.N.all (fun x => !(x == ("__debug__" : Str)) && !(x == ("__classdict__" : Str))) && chkSs tb ⟨f.N, t.scope, fun _ => true⟩ f.body t.body)))
def chkTb (tb : Tb) (P : List (Nat × Fn)) : Bool :=
  decide (tb.ar = P.map (fun p => (p.1, p.2.np))) && (tb.gls.all (fun p => !(p.1 == ("__debug__" : Str))) && ((tb.fns.all fun p => !(p.1 == ("__debug__" : Str)) && (match P.lookup p.2 with
    | some f => decide (f.nm = p.1 ∧ f.own = none)
    | none => false)) && (tb.mks.all fun p => !(p.1 == ("__debug__" : Str)))))
/-- what must hold of a class -/
structure ClsOk (P : List (Nat × Fn)) (T : Txt) (K : PySem.W.Frag) (c : Nat) (d : CD) : Prop where
  cls : Cls K (T.cA c)
  fl : T.fl c = d.fl
  nd : d.fl.Nodup
  no : ∀ f ∈ d.fl, NoAttr K (T.cA c) f
  prp : ∀ f i, d.prp.lookup f = some i → ∃ g p, P.lookup i = some g ∧ g.np = 1 ∧ PropOf K (T.cA c) f p (adr K g)
  mth : ∀ m i, d.mth.lookup m = some i → ∃ g, P.lookup i = some g ∧ Meth K (T.cA c) m (adr K g)
  ini : ∀ i, d.ini = some i → ∃ g, P.lookup i = some g ∧ Mk K (T.cA c) (adr K g)
  om : ∀ (o : Om) i, d.mth.lookup (PySem.dunder o.nm) = some i → PySem.W.selfFirst K (T.cA c) = true ∧ (∃ g, P.lookup i = some g ∧ g.np = 2) ∧ PySem.W.findIn K (.ref (T.cA c)) (dunderR o.nm) = some none ∧ PySem.W.subIn K (.type "int") (.ref (T.cA c)) = some false
  st : ∀ m i, d.st.lookup m = some i → ∃ g p, P.lookup i = some g ∧ PySem.W.readsIn K (T.cA c) (.type "type") = true ∧ PySem.W.specialIn K (.ref (T.cA c)) "__getattribute__" = some (some (.builtin "type.__getattribute__")) ∧
    PySem.W.findCls K (.ref (T.cA c)) (.type "type") m = some (.get (.builtin "staticmethod.__get__") (.ref p) .none (.ref (T.cA c))) ∧ (∃ rest, PySem.W.recIn K p "staticmethod" = some (.ref (adr K g) :: rest))
  cal : ∀ i, d.mth.lookup ("__call__" : Str) = some i → ∃ g, P.lookup i = some g ∧ PySem.W.fnIn K (adr K g) = true
  ha : PySem.W.findIn K (.ref (T.cA c)) "__class__" = some (some (.builtin "object.__class__"))
  hm : PySem.W.mroIn K (T.cA c) (.type "object") = some true
  nt : ∀ t : Ty, PySem.W.kitOne K (.ref (T.cA c)) (.type t.nm) = some false
  blt : ∀ n ∈ ["NoneType", "bool", "int", "str", "tuple", "list", "dict"], PySem.W.kitOne K (.type n) (.ref (T.cA c)) = some false
  nb : ∀ c2 ∈ d.nb, T.cA c ≠ T.cA c2 ∧ PySem.W.subIn K (.ref (T.cA c2)) (.ref (T.cA c)) = some false
  up : ∀ c2 ∈ d.up, T.cA c ≠ T.cA c2 ∧ PySem.W.subIn K (.ref (T.cA c)) (.ref (T.cA c2)) = some true
  lk : ∀ o : Om, (o.low && (!d.up.isEmpty && (d.mth.lookup (PySem.dunder o.nm)).isSome)) = true → Lack K (T.cA c) (dunderR o.nm)
theorem idxS_get : ∀ {l : List Str} {f : Str} {j : Nat}, idxS l f = some j → l[j]? = some f
  | [], _, _, h => by cases h
  | g :: r, f, j, h => by
    unfold idxS at h
    by_cases e : g = f
    · rw [if_pos e] at h; cases h; simp [e]
    · rw [if_neg e] at h
      obtain ⟨k, h1, rfl⟩ := Option.map_eq_some_iff.mp h
      simpa using idxS_get h1
theorem idxS_none : ∀ {l : List Str} {f : Str}, (idxS l f).isSome = false → f ∉ l
  | [], _, _ => by simp
  | g :: r, f, h => by
    unfold idxS at h
    by_cases e : g = f
    · rw [if_pos e] at h; cases h
    · rw [if_neg e, Option.isSome_map] at h
      have := idxS_none h
      simp [this, Ne.symm e]
theorem lookup_mem {α : Type} {x : Str} {v : α} : ∀ {l : List (Str × α)}, l.lookup x = some v → (x, v) ∈ l
  | [], h => by cases h
  | (y, u) :: l, h => by
    rw [List.lookup_cons] at h
    cases e : x == y with
    | true =>
      rw [e] at h
      cases h
      rw [beq_iff_eq.mp e]; exact List.mem_cons_self ..
    | false =>
      rw [e] at h
      exact List.mem_cons_of_mem _ (lookup_mem h)
/-- what holds of the program at the base heap -/
theorem lookup_ix {α : Type} {x : Nat} {v : α} : ∀ {l : List (Nat × α)}, l.lookup x = some v → ∃ j : Nat, l[j]? = some (x, v)
  | [], h => by cases h
  | (y, u) :: l, h => by
    rw [List.lookup_cons] at h
    cases e : x == y with
    | true =>
      rw [e] at h
      cases h
      rw [beq_iff_eq.mp e]; exact ⟨0, rfl⟩
    | false =>
      rw [e] at h
      obtain ⟨j, q⟩ := lookup_ix h
      exact ⟨j + 1, by simpa using q⟩
theorem lookup_map {α β : Type} (g : α → β) {x : Nat} : ∀ {l : List (Nat × α)} {v : α}, l.lookup x = some v → (l.map fun p => (p.1, g p.2)).lookup x = some (g v)
  | [], _, h => by cases h
  | (y, u) :: l, v, h => by
    rw [List.lookup_cons] at h
    rw [List.map_cons, List.lookup_cons]
    cases e : x == y with
    | true =>
      rw [e] at h
      cases h; rfl
    | false =>
      rw [e] at h
      exact lookup_map g h
structure Prg (P : List (Nat × Fn)) (tx : List Tx) (tb : Tb) (gv : Nat → D) (T : Txt) (K : PySem.W.Frag) (mg : Str → Option Value) : Prop where
  hK : T.K = K
  len : tx.length = P.length
  ck : ∀ (j i : Nat) (f : Fn) (t : Tx), P[j]? = some (i, f) → tx[j]? = some t → chkFn tb f t = true
  ckt : chkTb tb P = true
  gls : ∀ x k, tb.gls.lookup x = some k → ∃ v u, mg x = some u ∧ RelV v u ∧ ∀ w, RepV T w (gv k) v
  blt : ∀ x ∈ tb.blts, mg x = none
  fns : ∀ (j i : Nat) (f : Fn) (t : Tx), P[j]? = some (i, f) → tx[j]? = some t → (f.own = none → mg f.nm = some (.ref (adr K f))) ∧ ∃ fd, FunD K f.nm f.qual t.params t.body t.scope [] [] (adr K f) fd
  cls : ∀ c d, tb.cls.lookup c = some d → ClsOk P T K c d
  sub : ∀ c c2, knownC tb.cls c = true → knownC tb.cls c2 = true → PySem.W.kitOne K (.ref (T.cA c)) (.ref (T.cA c2)) = some (subOf tb.cls c2 c)
  oc : PySem.W.specialIn K (.builtin "object.__class__") "__get__" = some (some (.builtin "getset_descriptor.__get__")) ∧ PySem.W.takesIn K (.builtin "object.__class__") = some true
  sm : ∃ o, K.lookup sysModules = some o ∧ o.cls = .type "dict"
  mks : ∀ x c, tb.mks.lookup x = some c → mg x = some (.ref (T.cA c)) ∧ ∃ d i, tb.cls.lookup c = some d ∧ d.ini = some i
theorem plainA_eq {a : Arguments} {ps : List Str} (h : plainA a ps = true) : ∃ as : List Arg, a = ⟨[], as, none, [], [], none, []⟩ ∧ as.map (·.arg) = ps := by
  unfold plainA at h
  split at h
  · exact ⟨_, rfl, of_decide_eq_true h⟩
  · cases h
section
variable {P : List (Nat × Fn)} {tx : List Tx} {tb : Tb} {gv : Nat → D} {T : Txt} {K : PySem.W.Frag} {mg : Str → Option Value} {prog : Program} {w : World} {base : Heap} {wf : Nat} {cl : CDs}
theorem callF_len {k i : Nat} {f : Fn} (h : P.lookup i = some f) : ∀ ds S, callF P gv wf cl k i ds S ≠ .bad → ds.length = f.np := fun ds S nb => by
  cases k with
  | zero => exact absurd rfl nb
  | succ k =>
    unfold callF at nb
    rw [h] at nb
    dsimp only at nb
    by_cases hl : ds.length = f.np
    · exact hl
    · rw [if_neg hl] at nb; exact absurd rfl nb
theorem Prg.binds (p : Prg P tx tb gv T K mg) {j i : Nat} {f : Fn} {t : Tx} {a : Addr} {fd : FuncData} (h1 : P[j]? = some (i, f)) (h2 : tx[j]? = some t) (F : FunD K f.nm f.qual t.params t.body t.scope [] [] a fd) : Binds K fd (f.N.take f.np) [] := by
  obtain ⟨oc, od, dV, kV, doc, pm, an, cdv, ct, osl, rfl, lk, hcd, hd, hk⟩ := F.ex
  have hdV : dV = .none := by
    rcases hd with ⟨_, e⟩ | ⟨e, _⟩
    · exact e
    · exact absurd rfl e
  subst hdV
  have c := p.ck _ i f t h1 h2
  obtain ⟨_, c⟩ := band c
  obtain ⟨c1, c⟩ := band c
  obtain ⟨c2, c⟩ := band c
  obtain ⟨as, e, ea⟩ := plainA_eq c1
  have nd : (f.N.take f.np).Nodup := List.Sublist.nodup (List.take_sublist ..) (C8.fnScope_by c2).nd
  refine .all fun us hl => ?_
  rw [e, ← ea]
  exact bind_plain (by rw [ea]; exact nd) (by rw [← ea] at hl; simpa using hl)
theorem Prg.fnG (p : Prg P tx tb gv T K mg) : ∀ (k i j : Nat) (f : Fn) (t : Tx) (fd : FuncData), P.lookup i = some f → P[j]? = some (i, f) → tx[j]? = some t → FunD K f.nm f.qual t.params t.body t.scope [] [] (adr K f) fd →
    FnG prog w K mg base (2 * k) (adr K f) fd (f.N.take f.np) (spD T f.np (callF P gv wf tb.cls k i))
  | 0, i, j, f, t, fd, h0, h1, h2, F => by
    have c := p.ck _ i f t h1 h2
    have hn := of_decide_eq_true (band c).1
    exact ⟨fun vs H Q E ⟨w, S, ds, _, _, _, q⟩ => q.elim, fun A outer s H args us vs Q E _ _ _ _ ⟨w, S, ds, _, _, _, q⟩ => q.elim⟩
  | k + 1, i, j, f, t, fd, h0, h1, h2, F => by
    have c := p.ck _ i f t h1 h2
    obtain ⟨hn, c⟩ := band c
    have hn := of_decide_eq_true hn
    obtain ⟨c1, c⟩ := band c
    obtain ⟨c2, c⟩ := band c
    obtain ⟨c3, c4⟩ := band c
    have S := C8.fnScope_by c2
    have htk : (f.N.take f.np).length = f.np := by rw [List.length_take]; omega
    have hlen : ∀ vs H Q E, spD T f.np (callF P gv wf tb.cls (k + 1) i) vs H Q E → vs.length = (f.N.take f.np).length := fun vs H Q E ⟨w, S, ds, hl, _, r, _⟩ => by rw [htk, ← hl, r.length]
    obtain ⟨oc, od, dV, kV, doc, pm, an, cdv, ct, osl, rfl, lk, hcd, hd, hk⟩ := F.ex
    show FnG prog w K mg base (2 * k + 1 + 1) (adr K f) _ _ _
    refine fn_ofG lk hcd S hlen fun A outer s H vs Q E hr hsp => ?_
    obtain ⟨w0, St, ds, hl, rc, rd, q⟩ := hsp
    let Wd : WX := fun cls d _ H => E cls d H
    let X := cxOf (L2.CX prog w) prog w K mg base f.N f.qual t.scope (adr K f) cdv A outer s H E
    have tk : Takes X Wd := takes_of rfl rfl rfl rfl
    have hp : PassesOwn (model prog w) X.A X.env X.xe := passes_of rfl
    have ctb := p.ckt
    obtain ⟨b1, ctb⟩ := band ctb
    have b1 := of_decide_eq_true b1
    obtain ⟨b2, ctb⟩ := band ctb
    obtain ⟨b3, b4⟩ := band ctb
    have callee : ∀ i' g, P.lookup i' = some g → CalleeAt T X (adr K g) g.np (callF P gv wf tb.cls k i') := fun i' g e0 => by
      obtain ⟨m, e⟩ := lookup_ix e0
      have hj : m < tx.length := by rw [p.len]; exact (List.getElem?_eq_some_iff.mp e).1
      have et := List.getElem?_eq_getElem hj
      obtain ⟨_, fd', F'⟩ := p.fns m i' g _ e et
      have cg := p.ck m i' g _ e et
      have hng := of_decide_eq_true (band cg).1
      exact ⟨2 * k, fd', g.N.take g.np, Prg.fnG p k i' m g _ fd' e0 e et F', hr, F'.kp, p.binds e et F', by rw [List.length_take]; omega, callF_len e0⟩
    have cf : CF T Wd ⟨callF P gv wf tb.cls k, gv, wf, tb.cls⟩ tb ⟨f.N, t.scope, fun _ => true⟩ X :=
      { K := p.hK.symm, N := rfl, nd := S.nd
        nm := fun x hx => by
          obtain ⟨y1, y2⟩ := band (List.all_eq_true.mp c3 x hx)
          exact ⟨by simpa using y1, by simpa using y2⟩
        kd := S.kind, sc := rfl, fn := rfl, calm := rfl, gu := hr.gu, hu := hr.hu, tk := tk
        gls := fun x j hx => ⟨by simpa using List.all_eq_true.mp b2 _ (lookup_mem hx), p.gls x j hx⟩
        blt := p.blt
        fns := fun x j hx => by
          obtain ⟨y1, y2⟩ := band (List.all_eq_true.mp b3 _ (lookup_mem hx))
          refine ⟨by simpa using y1, ?_⟩
          cases e0 : P.lookup j with
          | none => rw [e0] at y2; cases y2
          | some g =>
            rw [e0] at y2
            obtain ⟨e1, e2⟩ := of_decide_eq_true y2
            obtain rfl : g.nm = x := e1
            refine ⟨g.np, by rw [b1]; exact lookup_map (fun f : Fn => f.np) e0, ?_⟩
            obtain ⟨k', fd', ps', z1, z2, z3, z4, z5, z6⟩ := callee j g e0
            obtain ⟨m, e⟩ := lookup_ix e0
            have hj : m < tx.length := by rw [p.len]; exact (List.getElem?_eq_some_iff.mp e).1
            exact ⟨k', adr K g, fd', ps', z1, z2, (p.fns m j g _ e (List.getElem?_eq_getElem hj)).1 e2, z3, z4, z5, z6⟩
        cl := rfl
        att := fun x c y hx => by
          obtain ⟨d, e1, e2⟩ := Option.bind_eq_some_iff.mp (show (tb.cls.lookup c).bind (fun d => d.acc x) = some y from hx)
          have o := p.cls c d e1
          unfold CD.acc at e2
          cases e3 : d.prp.lookup x with
          | some i' =>
            rw [e3] at e2; cases e2
            obtain ⟨g, p', h1, h2, h3⟩ := o.prp x i' e3
            exact ⟨o.cls, p', adr K g, h3, h2 ▸ callee i' g h1⟩
          | none =>
            rw [e3] at e2
            obtain ⟨j, e4, rfl⟩ := Option.map_eq_some_iff.mp e2
            have e5 := idxS_get e4
            exact ⟨o.cls, o.no x (List.mem_of_getElem? e5), by rw [o.fl]; exact e5, by rw [o.fl]; exact o.nd⟩
        mth := fun m c i' hx => by
          obtain ⟨d, e1, e2⟩ := Option.bind_eq_some_iff.mp (show (tb.cls.lookup c).bind (fun d => if (idxS d.fl m).isSome then none else d.mth.lookup m) = some i' from hx)
          have o := p.cls c d e1
          cases e3 : (idxS d.fl m).isSome with
          | true => rw [e3] at e2; cases e2
          | false =>
            rw [e3] at e2
            obtain ⟨g, h1, h2⟩ := o.mth m i' e2
            exact ⟨o.cls, by rw [o.fl]; exact idxS_none e3, adr K g, g.np, h2, callee i' g h1⟩
        opm := fun o c i' hx => by
          obtain ⟨d, e1, e2⟩ := Option.bind_eq_some_iff.mp (show (tb.cls.lookup c).bind (fun d => if (idxS d.fl (PySem.dunder o.nm)).isSome then none else d.mth.lookup (PySem.dunder o.nm)) = some i' from hx)
          have q := p.cls c d e1
          cases e3 : (idxS d.fl (PySem.dunder o.nm)).isSome with
          | true => rw [e3] at e2; cases e2
          | false =>
            rw [e3] at e2
            obtain ⟨g, h1, h2⟩ := q.mth _ i' e2
            obtain ⟨k1, ⟨g', k2, k3⟩, k4, k5⟩ := q.om o i' e2
            rw [h1] at k2; cases k2
            exact ⟨k1, q.cls, ⟨adr K g, h2, k3 ▸ callee i' g h1⟩, k4, k5⟩
        nbs := fun c c2 hx => by
          unfold nbOf at hx
          cases e1 : tb.cls.lookup c with
          | none => rw [e1] at hx; cases hx
          | some d =>
            rw [e1] at hx
            obtain ⟨y, hy, e⟩ := List.any_eq_true.mp hx
            obtain rfl := of_decide_eq_true e
            exact (p.cls c d e1).nb y hy
        ups := fun c c2 hx => by
          unfold upOf at hx
          cases e1 : tb.cls.lookup c with
          | none => rw [e1] at hx; cases hx
          | some d =>
            rw [e1] at hx
            obtain ⟨y, hy, e⟩ := List.any_eq_true.mp hx
            obtain rfl := of_decide_eq_true e
            exact (p.cls c d e1).up y hy
        lks := fun o c hx => by
          unfold lkOf at hx
          cases e1 : tb.cls.lookup c with
          | none => rw [e1] at hx; cases hx
          | some d =>
            rw [e1] at hx
            exact (p.cls c d e1).lk o hx
        sta := fun m c i' hx => by
          obtain ⟨d, e1, e2⟩ := Option.bind_eq_some_iff.mp (show (tb.cls.lookup c).bind (fun d => d.st.lookup m) = some i' from hx)
          obtain ⟨g, p', h1, h2, h3, h4, h5⟩ := (p.cls c d e1).st m i' e2
          exact ⟨p', adr K g, g.np, h2, h3, h4, h5, callee i' g h1⟩
        cal := fun c i' hx => by
          obtain ⟨d, e1, e2⟩ := Option.bind_eq_some_iff.mp (show (tb.cls.lookup c).bind (fun d => if (idxS d.fl "__call__").isSome then none else d.mth.lookup ("__call__" : Str)) = some i' from hx)
          have o := p.cls c d e1
          cases e3 : (idxS d.fl "__call__").isSome with
          | true => rw [e3] at e2; cases e2
          | false =>
            rw [e3] at e2
            obtain ⟨g, h1, h2⟩ := o.mth "__call__" i' e2
            obtain ⟨g', h3, h4⟩ := o.cal i' e2
            rw [h1] at h3; cases h3
            exact ⟨adr K g, g.np, h2, h4, callee i' g h1⟩
        iso := fun c hc => by
          obtain ⟨d, e1⟩ := Option.isSome_iff_exists.mp hc
          have o := p.cls c d e1
          exact ⟨o.cls, o.ha, p.oc.1, p.oc.2, o.hm, o.nt⟩
        tgt := fun c2 hc => by
          obtain ⟨d, e1⟩ := Option.isSome_iff_exists.mp hc
          exact ⟨(p.cls c2 d e1).blt, fun c hc' => p.sub c c2 hc' hc⟩
        sm := p.sm
        fld := fun x c hx => by
          unfold fldOf at hx
          cases e1 : tb.cls.lookup c with
          | none => rw [e1] at hx; cases hx
          | some d =>
            rw [e1] at hx
            have o := p.cls c d e1
            obtain ⟨_, h2⟩ := band hx
            obtain ⟨j, e4⟩ := Option.isSome_iff_exists.mp h2
            exact ⟨o.cls, o.no x (List.mem_of_getElem? (idxS_get e4))⟩
        mks := fun x c hx => by
          refine ⟨by simpa using List.all_eq_true.mp b4 _ (lookup_mem hx), ?_⟩
          obtain ⟨h1, d, i', e1, e2⟩ := p.mks x c hx
          have o := p.cls c d e1
          obtain ⟨g, h3, h4⟩ := o.ini i' e2
          have ei : iniOf tb.cls c = i' := by unfold iniOf; rw [e1]; simp [e2]
          exact ⟨⟨h1, adr K g, g.np, h4, ei ▸ callee i' g h3⟩, by rw [o.fl]; unfold flOf; rw [e1]⟩ }
    refine ⟨_, sdSs cf hp f.body t.body c4, ⟨w0, H⟩, w0, ⟨argsEnv f.N.length ds, St⟩, RS.entry rc rd, ?_⟩
    unfold callF at q
    rw [h0] at q
    dsimp only at q
    rw [if_pos hl] at q
    cases e : evSs ⟨callF P gv wf tb.cls k, gv, wf, tb.cls⟩ f.body ⟨argsEnv f.N.length ds, St⟩ with
    | ok fl st =>
      rw [e] at q
      cases fl with
      | nx => exact fun w' σ' H' le r => q w' .non H' r.fra r.rc .non_
      | rt d => exact fun w' v σ' H' le r rv => q w' v H' r.fra r.rc rv
      | bk => exact q.elim
      | ct => exact q.elim
    | exc x st =>
      rw [e] at q
      exact fun w' cls dx σ' H' le r rx => q w' cls dx H' r.fra r.rc rx
    | bad => rw [e] at q; exact q.elim
end
end FW

/-! FwR: the end: the head's facts, the law's promise. -/
namespace FW
open PySem PySem.Spec PyProof.Rows L2
/-! ### constants of the module -/
mutual
def cstB (K : PySem.W.Frag) : D → Value → Bool
  | .int i, v => (match v with
    | .int j _ => decide (i = j)
    | _ => false)
  | .str i, v => (match v with
    | .str j _ => decide (i = j)
    | _ => false)
  | .bl i, v => (match v with
    | .bool j => decide (i = j)
    | _ => false)
  | .non, v => (match v with
    | .none => true
    | _ => false)
  | .tup l, v => (match v with
    | .ref a => (match K.lookup a with
      | some ⟨.type c, _, .seq its _, _⟩ => decide (c = "tuple") && (decide (its.size ≤ sizeLine) && cstBs K l its.toList)
      | _ => false)
    | _ => false)
  | .scr l, v => (match v with
    | .ref a => (match K.lookup a with
      | some ⟨.type c, none, .seq its _, _⟩ => decide (c = "list") && (decide (its.size ≤ sizeLine) && cstBs K l its.toList)
      | _ => false)
    | _ => false)
  | _, _ => false
def cstBs (K : PySem.W.Frag) : List D → List Value → Bool
  | [], vs => vs.isEmpty
  | d :: ds, vs => (match vs with
    | v :: r => cstB K d v && cstBs K ds r
    | [] => false)
end
mutual
theorem cstB_ok {T : Txt} : ∀ (d : D) (v : Value), cstB T.K d v = true → ∃ x, RelV x v ∧ ∀ w, RepV T w d x
  | .int i, v, h => by
    simp only [cstB] at h
    split at h
    · exact ⟨.int _, ⟨_, rfl⟩, fun w => by rw [of_decide_eq_true h]; exact .int_⟩
    · cases h
  | .str i, v, h => by
    simp only [cstB] at h
    split at h
    · exact ⟨.str _, ⟨_, rfl⟩, fun w => by rw [of_decide_eq_true h]; exact .str_⟩
    · cases h
  | .bl i, v, h => by
    simp only [cstB] at h
    split at h
    · exact ⟨.bl _, rfl, fun w => by rw [of_decide_eq_true h]; exact .bl_⟩
    · cases h
  | .non, v, h => by
    simp only [cstB] at h
    split at h
    · exact ⟨.non, rfl, fun w => .non_⟩
    · cases h
  | .tup l, v, h => by
    simp only [cstB] at h
    split at h
    · rename_i a
      split at h
      · rename_i oc od its n sl e
        obtain ⟨h1, h⟩ := band h
        obtain ⟨h2, h3⟩ := band h
        obtain ⟨xs, r, q⟩ := cstBs_ok l _ h3
        refine ⟨.ref a, rfl, fun w => ?_⟩
        simp only [RepV]
        exact ⟨a, xs, rfl, .inr ⟨_, its, n, e, congrArg Value.type (of_decide_eq_true h1), rfl, of_decide_eq_true h2, r⟩, q w⟩
      · cases h
    · cases h
  | .scr l, v, h => by
    simp only [cstB] at h
    split at h
    · rename_i a
      split at h
      · rename_i oc its n sl e
        obtain ⟨h1, h⟩ := band h
        obtain ⟨h2, h3⟩ := band h
        obtain ⟨xs, r, q⟩ := cstBs_ok l _ h3
        refine ⟨.ref a, rfl, fun w => ?_⟩
        simp only [RepV]
        exact ⟨a, xs, rfl, .inr ⟨_, its, n, e, congrArg Value.type (of_decide_eq_true h1), rfl, rfl, of_decide_eq_true h2, r⟩, q w⟩
      · cases h
    · cases h
  | .lst _, _, h => by simp [cstB] at h
  | .obj _ _, _, h => by simp [cstB] at h
  | .ref _, _, h => by simp [cstB] at h
theorem cstBs_ok {T : Txt} : ∀ (ds : List D) (vs : List Value), cstBs T.K ds vs = true → ∃ xs, Vals xs vs ∧ ∀ w, RepVs T w ds xs
  | [], vs, h => by
    simp only [cstBs] at h
    obtain rfl := List.isEmpty_iff.mp h
    exact ⟨[], .nil, fun w => .nil⟩
  | d :: ds, [], h => by simp [cstBs] at h
  | d :: ds, v :: vs, h => by
    simp only [cstBs] at h
    obtain ⟨h1, h2⟩ := band h
    obtain ⟨x, r, q⟩ := cstB_ok d v h1
    obtain ⟨xs, rs, qs⟩ := cstBs_ok ds vs h2
    exact ⟨x :: xs, .cons r rs, fun w => .cons (q w) (qs w)⟩
end
/-! ### the head's facts -/
/-- a def at an address, as its text -/
def fnA (K : PySem.W.Frag) (a : Addr) : He.FnW := match K.lookup a with
  | some ⟨_, _, .func z, _⟩ => some (z.name, z.qualname, z.params, z.body, z.scope, z.globals, z.closure, z.builtins)
  | _ => none
def okA (K : PySem.W.Frag) (a : Addr) (q : Str) : Bool := match K.lookup a with
  | some ⟨_, _, .func z, _⟩ => PySem.W.keepIn K (.ref a) && (PySem.W.codeIn K z.code q && (He.dflB K z.defaults [] && He.kwdB K z.kwdefaults []))
  | _ => false
theorem funA {K : PySem.W.Frag} {a : Addr} {nm qual : Str} {ps : Arguments} {body : List Stmt} {scope : Scope} (e : fnA K a = some (nm, qual, ps, .stmts body, scope, mainGlobals, [], builtinsNs)) (c : okA K a qual = true) : ∃ fd, FunD K nm qual ps body scope [] [] a fd := by
  unfold okA at c
  unfold fnA at e
  split at c
  · rename_i oc od z osl lk
    rw [lk] at e
    obtain ⟨c1, c⟩ := band c
    obtain ⟨c2, c⟩ := band c
    obtain ⟨c3, c4⟩ := band c
    cases z
    simp only [Option.some.injEq, Prod.mk.injEq] at e
    obtain ⟨rfl, rfl, rfl, rfl, rfl, rfl, rfl, rfl⟩ := e
    exact ⟨_, ⟨oc, od, _, _, _, _, _, _, _, osl, rfl, lk, c2, He.dflB_ok c3, He.kwdB_ok c4⟩, c1⟩
  · cases c
def vals (P : List (Nat × Fn)) (tx : List Tx) : List He.FnW := List.zipWith (fun p t => some (p.2.nm, p.2.qual, t.params, FuncBody.stmts t.body, t.scope, mainGlobals, [], builtinsNs)) P tx
def ckGl (K : PySem.W.Frag) (x : Str) (d : D) : Bool := match PySem.W.nsIn K mainGlobals x with
  | some (some v) => cstB K d v
  | _ => false
def noDup : List Str → Bool
  | [] => true
  | x :: r => !(r.any fun y => decide (y = x)) && noDup r
theorem noDup_ok : ∀ {l : List Str}, noDup l = true → l.Nodup
  | [], _ => List.nodup_nil
  | x :: r, h => by
    obtain ⟨h1, h2⟩ := band h
    refine List.nodup_cons.mpr ⟨fun z => ?_, noDup_ok h2⟩
    simp at h1
    exact h1 x z rfl
def prpB (K : PySem.W.Frag) (C : Addr) (f : Str) (g : Addr) : Bool := match PySem.W.findIn K (.ref C) f with
  | some (some (.ref p)) => decide (PySem.W.specialIn K (.ref p) "__get__" = some (some (.builtin "property.__get__"))) && (decide (PySem.W.takesIn K (.ref p) = some true) && (match PySem.W.recIn K p "property" with
    | some (.ref g' :: _) => decide (g' = g)
    | _ => false))
  | _ => false
theorem prpB_ok {K : PySem.W.Frag} {C : Addr} {f : Str} {g : Addr} (h : prpB K C f g = true) : ∃ p, PropOf K C f p g := by
  unfold prpB at h
  split at h
  · rename_i p e
    obtain ⟨h1, h⟩ := band h
    obtain ⟨h2, h3⟩ := band h
    split at h3
    · rename_i g' r e2
      obtain rfl := of_decide_eq_true h3
      exact ⟨p, e, of_decide_eq_true h1, of_decide_eq_true h2, r, e2⟩
    · cases h3
  · cases h
def onFn (P : List (Nat × Fn)) (i : Nat) (k : Fn → Bool) : Bool := match P.lookup i with
  | some g => k g
  | none => false
theorem onFn_ok {P : List (Nat × Fn)} {i : Nat} {k : Fn → Bool} (h : onFn P i k = true) : ∃ g, P.lookup i = some g ∧ k g = true := by
  unfold onFn at h
  split at h
  · exact ⟨_, by assumption, h⟩
  · cases h
def omAll : List Om := [.add, .or, .mul, .rsh, .lsh]
def adC (cls : CDs) (K : PySem.W.Frag) (c : Nat) : Addr := match cls.lookup c with
  | some d => He.ga K d.nm
  | none => 0
def ckOm (P : List (Nat × Fn)) (K : PySem.W.Frag) (d : CD) (o : Om) : Bool := match d.mth.lookup (PySem.dunder o.nm) with
  | none => true
  | some i => PySem.W.selfFirst K (He.ga K d.nm) && (onFn P i (fun g => decide (g.np = 2)) && (decide (PySem.W.findIn K (.ref (He.ga K d.nm)) (dunderR o.nm) = some none) && decide (PySem.W.subIn K (.type "int") (.ref (He.ga K d.nm)) = some false)))
def ckNb (cls : CDs) (K : PySem.W.Frag) (d : CD) : Bool := d.nb.all fun c2 => !decide (He.ga K d.nm = adC cls K c2) && decide (PySem.W.subIn K (.ref (adC cls K c2)) (.ref (He.ga K d.nm)) = some false)
def ckUp (cls : CDs) (K : PySem.W.Frag) (d : CD) : Bool := d.up.all fun c2 => !decide (He.ga K d.nm = adC cls K c2) && decide (PySem.W.subIn K (.ref (He.ga K d.nm)) (.ref (adC cls K c2)) = some true)
def lackB (K : PySem.W.Frag) (D : Addr) (name : Str) : Bool := decide (PySem.W.nsIn K cStatics "thirdparty.any" = some none) && (decide (PySem.W.typeIn K (.ref D) = some (.type "type")) && (decide (PySem.W.subIn K (.type "type") (.type "type") = some true) && (decide (PySem.W.findIn K (.type "type") name = some none) &&
  (decide (PySem.W.findIn K (.ref D) name = some none) && (match PySem.W.clsIn K D with
    | some cd => decide (cd.name.cps.foldl (fun k c => k + (Str.utf8Of c).length) 0 ≤ 100) && decide ((lackW cd name).length ≤ sizeLine)
    | none => false)))))
theorem lackB_ok {K : PySem.W.Frag} {D : Addr} {name : Str} (h : lackB K D name = true) : Lack K D name := by
  obtain ⟨h1, h⟩ := band h
  obtain ⟨h2, h⟩ := band h
  obtain ⟨h3, h⟩ := band h
  obtain ⟨h4, h⟩ := band h
  obtain ⟨h5, h⟩ := band h
  split at h
  · rename_i cd e
    obtain ⟨h6, h7⟩ := band h
    exact ⟨of_decide_eq_true h1, of_decide_eq_true h2, of_decide_eq_true h3, of_decide_eq_true h4, of_decide_eq_true h5, cd, e, of_decide_eq_true h6, of_decide_eq_true h7⟩
  · cases h
def ckLk (K : PySem.W.Frag) (d : CD) (o : Om) : Bool := if (o.low && (!d.up.isEmpty && (d.mth.lookup (PySem.dunder o.nm)).isSome)) = true then lackB K (He.ga K d.nm) (dunderR o.nm) else true
def tyAll : List Ty := [.int, .bool, .str, .tup, .lst, .dict]
def ckIs (P : List (Nat × Fn)) (K : PySem.W.Frag) (d : CD) : Bool :=
  (d.st.all fun q => onFn P q.2 fun g => decide (PySem.W.readsIn K (He.ga K d.nm) (.type "type") = true) && (decide (PySem.W.specialIn K (.ref (He.ga K d.nm)) "__getattribute__" = some (some (.builtin "type.__getattribute__"))) && (He5.wrapB K (He.ga K d.nm) "staticmethod" "staticmethod.__get__" q.1 && decide (He5.wf K (He.ga K d.nm) "staticmethod" q.1 = adr K g)))) &&
  ((match d.mth.lookup ("__call__" : Str) with
    | none => true
    | some i => onFn P i fun g => PySem.W.fnIn K (adr K g)) && (decide (PySem.W.findIn K (.ref (He.ga K d.nm)) "__class__" = some (some (.builtin "object.__class__"))) && (decide (PySem.W.mroIn K (He.ga K d.nm) (.type "object") = some true) &&
    ((tyAll.all fun t => decide (PySem.W.kitOne K (.ref (He.ga K d.nm)) (.type t.nm) = some false)) && ((["NoneType", "bool", "int", "str", "tuple", "list", "dict"] : List String).all fun n => decide (PySem.W.kitOne K (.type n) (.ref (He.ga K d.nm)) = some false))))))
def ckSub (cls : CDs) (K : PySem.W.Frag) : Bool := cls.all fun p => cls.all fun q => decide (PySem.W.kitOne K (.ref (adC cls K p.1)) (.ref (adC cls K q.1)) = some (subOf cls q.1 p.1))
def ckSys (K : PySem.W.Frag) : Bool := (match K.lookup sysModules with
  | some o => decide (o.cls = .type "dict")
  | none => false) && (decide (PySem.W.specialIn K (.builtin "object.__class__") "__get__" = some (some (.builtin "getset_descriptor.__get__"))) && decide (PySem.W.takesIn K (.builtin "object.__class__") = some true))
def ckCls (P : List (Nat × Fn)) (K : PySem.W.Frag) (d : CD) : Bool :=
  (He.Fa.cls d.nm).ok K && (noDup d.fl && ((d.fl.all fun f => (He.Fa.noat d.nm f).ok K) && ((d.prp.all fun q => onFn P q.2 fun g => decide (g.np = 1) && prpB K (He.ga K d.nm) q.1 (adr K g)) &&
    ((d.mth.all fun q => onFn P q.2 fun g => (He.Fa.meth d.nm q.1).ok K && decide (He.ma K (He.ga K d.nm) q.1 = adr K g)) && (match d.ini with
      | none => true
      | some i => onFn P i fun g => (He.Fa.mkr d.nm).ok K && decide (He.ma K (He.ga K d.nm) "__init__" = adr K g))))))
def mkT (tb : Tb) (K : PySem.W.Frag) : Txt := ⟨K, adC tb.cls K, flOf tb.cls, fun _ => ""⟩
def ckK (P : List (Nat × Fn)) (tb : Tb) (gv : Nat → D) (K : PySem.W.Frag) : Bool :=
  (P.all fun p => p.2.own.isSome || (He.Fa.glo p.2.nm).ok K) && ((tb.blts.all fun x => (He.Fa.free x).ok K) && ((tb.gls.all fun p => ckGl K p.1 (gv p.2)) && ((P.all fun p => okA K (adr K p.2) p.2.qual) &&
    ((ckSys K && ckSub tb.cls K) && ((tb.cls.all fun p => (ckCls P K p.2 && ckIs P K p.2) && (omAll.all (ckOm P K p.2) && (ckNb tb.cls K p.2 && (ckUp tb.cls K p.2 && omAll.all (ckLk K p.2))))) && (tb.mks.all fun p => (He.Fa.glo p.1).ok K && (match tb.cls.lookup p.2 with
      | some d => decide (d.nm = p.1) && d.ini.isSome
      | none => false)))))))
abbrev Al : Type := Bool × List He.FnW
def obsF (ck : PySem.W.Frag → Bool) (P : List (Nat × Fn)) (K : PySem.W.Frag) : Al := (ck K, P.map fun p => fnA K (adr K p.2))
/-- what an object names, no class by its bases (so no object comes twice) -/
def refsE (o : Obj) : List Addr := match o.data with
  | .seq its _ => its.toList.flatMap He.refV
  | .dict es _ => es.toList.flatMap fun e => He.refV e.val
  | .func fd => He.refV fd.code ++ He.refV fd.defaults ++ He.refV fd.kwdefaults ++ fd.closure.map (·.2)
  | .cls cd => [cd.ns]
  | .fields vs => vs.toList.flatMap He.refV
  | _ => []
def visit (g : Addr → Option Obj) : Nat → Addr → List Addr
  | 0, a => [a]
  | n + 1, a => a :: (match g a with
    | some o => (refsE o).flatMap (visit g n)
    | none => [])
def obsG (n : Nat) (ck : PySem.W.Frag → Bool) (P : List (Nat × Fn)) (g : Addr → Option Obj) : Al := obsF ck P (He.frG g (sysModules :: PySem.cStatics :: visit g n mainGlobals))
def hookF (n : Nat) (ck : PySem.W.Frag → Bool) (P : List (Nat × Fn)) (vs : List He.FnW) : PySem.W.Hook where
  α := Al
  obs := fun s => obsG n ck P s.heap.get?
  val := fun _ => (true, vs)
  says := fun _ h => ∃ K : PySem.W.Frag, K.In h ∧ obsF ck P K = (true, vs)
  of := fun _ _ e => ⟨_, He.frG_in, e⟩
  keeps := fun _ _ _ ⟨K, hK, c⟩ k => ⟨K, PySem.W.Frag.In.keeps hK k, c⟩
theorem obsG_eq {n : Nat} {ck : PySem.W.Frag → Bool} {P : List (Nat × Fn)} {vs : List He.FnW} {g : Addr → Option Obj} {s : Shared} (h : ∀ a, g a = s.heap.get? a) : obsG n ck P g = (hookF n ck P vs).obs s := by
  have e : g = s.heap.get? := funext h
  rw [e] <;> rfl
theorem lookup_memN {α : Type} {x : Nat} {v : α} {l : List (Nat × α)} (h : l.lookup x = some v) : (x, v) ∈ l := by
  obtain ⟨j, e⟩ := lookup_ix h
  exact List.mem_of_getElem? e
/-- the program stands, by the head's facts -/
theorem prg_of {P : List (Nat × Fn)} {tx : List Tx} {tb : Tb} {gv : Nat → D} {K : PySem.W.Frag} {mg : Str → Option Value} {h : Heap} (X : K.In h) (G : h.Ns mainGlobals mg) (hl : tx.length = P.length)
    (ck : (List.zipWith (fun p t => chkFn tb p.2 t) P tx).all id = true) (ct : chkTb tb P = true) (c1 : ckK P tb gv K = true) (c2 : (P.map fun p => fnA K (adr K p.2)) = vals P tx) : Prg P tx tb gv (mkT tb K) K mg := by
  obtain ⟨k1, c1⟩ := band c1
  obtain ⟨k2, c1⟩ := band c1
  obtain ⟨k3, c1⟩ := band c1
  obtain ⟨k4, c1⟩ := band c1
  obtain ⟨ks, c1⟩ := band c1
  obtain ⟨k5, k6⟩ := band c1
  obtain ⟨ks1, ks2⟩ := band ks
  obtain ⟨ks3, ks4⟩ := band ks1
  obtain ⟨ks4, ks5⟩ := band ks4
  refine ⟨rfl, hl, fun i i' f t e1 e2 => ?_, ct, fun x k e => ?_, fun x hx => He.free_ok X G (List.all_eq_true.mp k2 x hx), fun i i' f t e1 e2 => ?_, fun c d e => ?_, fun c c2 h1 h2 => ?_, ⟨of_decide_eq_true ks4, of_decide_eq_true ks5⟩, ?_, fun x c e => ?_⟩
  · have : (List.zipWith (fun p t => chkFn tb p.2 t) P tx)[i]? = some (chkFn tb f t) := by rw [List.getElem?_zipWith, e1, e2]
    exact List.all_eq_true.mp ck _ (List.mem_of_getElem? this)
  · have c := List.all_eq_true.mp k3 _ (lookup_mem e)
    unfold ckGl at c
    split at c
    · rename_i v ev
      obtain ⟨x', r, q⟩ := cstB_ok (T := mkT tb K) _ _ c
      exact ⟨x', v, PySem.W.mg_of X G ev, r, q⟩
    · cases c
  · have hm := List.mem_of_getElem? e1
    have ew : (P.map fun p => fnA K (adr K p.2))[i]? = (vals P tx)[i]? := by rw [c2]
    unfold vals at ew
    rw [List.getElem?_map, List.getElem?_zipWith, e1, e2] at ew
    refine ⟨fun z => ?_, funA (Option.some.inj ew) (List.all_eq_true.mp k4 (i', f) hm)⟩
    have g := List.all_eq_true.mp k1 (i', f) hm
    have : adr K f = He.ga K f.nm := by unfold adr; rw [z]
    rw [this]
    refine He.glo_ok X G ?_
    simpa [z] using g
  · have q := List.all_eq_true.mp k5 _ (lookup_memN e)
    have ea : (mkT tb K).cA c = He.ga K d.nm := by simp [mkT, adC, e]
    obtain ⟨q, qo⟩ := band q
    obtain ⟨qo, qn⟩ := band qo
    obtain ⟨qn, qu⟩ := band qn
    obtain ⟨qu, ql⟩ := band qu
    obtain ⟨q, qi⟩ := band q
    obtain ⟨i1, qi⟩ := band qi
    obtain ⟨i2, qi⟩ := band qi
    obtain ⟨i3, qi⟩ := band qi
    obtain ⟨i4, qi⟩ := band qi
    obtain ⟨i5, i6⟩ := band qi
    obtain ⟨q1, q⟩ := band q
    obtain ⟨q2, q⟩ := band q
    obtain ⟨q3, q⟩ := band q
    obtain ⟨q4, q⟩ := band q
    obtain ⟨q5, q6⟩ := band q
    refine ⟨ea ▸ He.cls_ok q1, by simp [mkT, flOf, e], noDup_ok q2, fun f hf => ea ▸ He.noat_ok (List.all_eq_true.mp q3 f hf), fun f i hx => ?_, fun m i hx => ?_, fun i hx => ?_, fun o i hx => ?_, fun m i hx => ?_, fun i hx => ?_, ea ▸ of_decide_eq_true i3, ea ▸ of_decide_eq_true i4, fun t => ea ▸ of_decide_eq_true (List.all_eq_true.mp i5 t (by cases t <;> simp [tyAll])), fun n hn => ea ▸ of_decide_eq_true (List.all_eq_true.mp i6 n hn), fun c2 hc => ?_, fun c2 hc => ?_, fun o ho => ?_⟩
    · obtain ⟨g, h1, h2⟩ := onFn_ok (List.all_eq_true.mp q4 _ (lookup_mem hx))
      obtain ⟨h3, h4⟩ := band h2
      obtain ⟨p, h5⟩ := prpB_ok h4
      exact ⟨g, p, h1, of_decide_eq_true h3, ea ▸ h5⟩
    · obtain ⟨g, h1, h2⟩ := onFn_ok (List.all_eq_true.mp q5 _ (lookup_mem hx))
      obtain ⟨h3, h4⟩ := band h2
      refine ⟨g, h1, ?_⟩
      rw [ea, ← of_decide_eq_true h4]
      exact He.meth_ok h3
    · rw [hx] at q6
      obtain ⟨g, h1, h2⟩ := onFn_ok q6
      obtain ⟨h3, h4⟩ := band h2
      refine ⟨g, h1, ?_⟩
      rw [ea, ← of_decide_eq_true h4]
      exact He.mkr_ok h3
    · have k := List.all_eq_true.mp qo o (by cases o <;> simp [omAll])
      unfold ckOm at k
      rw [hx] at k
      obtain ⟨z1, k⟩ := band k
      obtain ⟨z2, k⟩ := band k
      obtain ⟨z3, z4⟩ := band k
      obtain ⟨g, y1, y2⟩ := onFn_ok z2
      exact ⟨ea ▸ z1, ⟨g, y1, of_decide_eq_true y2⟩, ea ▸ of_decide_eq_true z3, ea ▸ of_decide_eq_true z4⟩
    · obtain ⟨g, y1, y2⟩ := onFn_ok (List.all_eq_true.mp i1 _ (lookup_mem hx))
      obtain ⟨y3, y2⟩ := band y2
      obtain ⟨y4, y2⟩ := band y2
      obtain ⟨y5, y6⟩ := band y2
      obtain ⟨y7, rest, y8⟩ := He5.wrapB_ok y5
      exact ⟨g, He.ma K (He.ga K d.nm) m, y1, ea ▸ of_decide_eq_true y3, ea ▸ of_decide_eq_true y4, ea ▸ y7, rest, by rw [← of_decide_eq_true y6]; exact y8⟩
    · rw [hx] at i2
      obtain ⟨g, y1, y2⟩ := onFn_ok i2
      exact ⟨g, y1, y2⟩
    · obtain ⟨z1, z2⟩ := band (List.all_eq_true.mp qn c2 hc)
      have h : ¬ He.ga K d.nm = adC tb.cls K c2 := by simpa using z1
      rw [ea]
      exact ⟨h, of_decide_eq_true z2⟩
    · obtain ⟨z1, z2⟩ := band (List.all_eq_true.mp qu c2 hc)
      have h : ¬ He.ga K d.nm = adC tb.cls K c2 := by simpa using z1
      rw [ea]
      exact ⟨h, of_decide_eq_true z2⟩
    · have k := List.all_eq_true.mp ql o (by cases o <;> simp [omAll])
      unfold ckLk at k
      rw [if_pos ho] at k
      exact ea ▸ lackB_ok k
  · obtain ⟨d, e1⟩ := Option.isSome_iff_exists.mp h1
    obtain ⟨d2, e2⟩ := Option.isSome_iff_exists.mp h2
    exact of_decide_eq_true (List.all_eq_true.mp (List.all_eq_true.mp ks2 _ (lookup_memN e1)) _ (lookup_memN e2))
  · split at ks3
    · rename_i o eo
      exact ⟨o, eo, of_decide_eq_true ks3⟩
    · cases ks3
  · obtain ⟨q1, q2⟩ := band (List.all_eq_true.mp k6 _ (lookup_mem e))
    cases e2 : tb.cls.lookup c with
    | none => rw [e2] at q2; cases q2
    | some d =>
      rw [e2] at q2
      obtain ⟨q3, q4⟩ := band q2
      obtain ⟨i, hi⟩ := Option.isSome_iff_exists.mp q4
      refine ⟨?_, d, i, rfl, hi⟩
      have ea : (mkT tb K).cA c = He.ga K x := by simp [mkT, adC, e2, of_decide_eq_true q3]
      rw [ea]
      exact He.glo_ok X G q1
/-- the j-th statement of a class -/
def inCls (st : Stmt) (j : Nat) : Stmt := match st with
  | .ClassDef _ _ _ b .. => b.getD j (.Pass ⟨0, 0, 0, 0⟩)
  | _ => .Pass ⟨0, 0, 0, 0⟩
/-! ### the law's call -/
theorem call_law {P : Program} {w : World} {K : PySem.W.Frag} {mg mb : Str → Option Value} {k : Nat} {fa a : Addr} {fd : FuncData} {x : Str} {sp : Sp} {s : Shared} {vs : List Value} {ns : List Int}
    (KX : K.In s.heap) (hns : s.heap.Ns mainGlobals mg) (hb : s.heap.Ns builtinsNs mb) (hbb : ∀ x : Str, x ≠ "__name__" → mb x = bootBuiltins x) (hlim : s.heap.NoLimit) (hg : s.gens = #[])
    (ha : s.heap.get? a = some { cls := .type "list", data := .seq vs.toArray }) (hi : IntsAre vs ns) (hl : ns.length ≤ sizeLine) (hr : RoomG k callerA)
    (F : ∀ base : Heap, K.In base → base.Ns mainGlobals mg → FnG P w K mg base k fa fd [x] sp) (hbind : Binds K fd [x] [])
    (hsp : ∀ H : Hp, SqL K H a (ns.map V.int) → sp [.ref a] H (fun v _ => v = .bl true) fun _ _ _ => False) :
    codeAny (model P w) callerA (.call (.ref fa) ⟨[.ref a], []⟩) (fun r s' => r = .ok (.ret (.bool true)) ∧ OldK s.heap s'.heap ∧ s'.os = s.os ∧ AllBare s'.gens) s := by
  have rv := vals_ints hi
  -- what is tracked: the script alone, if it is no object of the module
  let ob : Obj := { cls := .type "list", data := .seq vs.toArray }
  let H : Hp := fun b => if b = a ∧ K.lookup a = none then some (.frz ob (.lst (ns.map V.int))) else none
  have Hof : ∀ {b u}, H b = some u → b = a ∧ K.lookup a = none ∧ u = .frz ob (.lst (ns.map V.int)) := fun {b u} z => by
    by_cases q : b = a ∧ K.lookup a = none
    · have z' : (if b = a ∧ K.lookup a = none then some (HO.frz ob (.lst (ns.map V.int))) else none) = some u := z
      rw [if_pos q] at z'
      exact ⟨q.1, q.2, (Option.some.inj z').symm⟩
    · have z' : (if b = a ∧ K.lookup a = none then some (HO.frz ob (.lst (ns.map V.int))) else none) = some u := z
      rw [if_neg q] at z'; cases z'
  have Hn : ∀ {b}, b ≠ a → H b = none := fun {b} ne => if_neg fun q => ne q.1
  have free : ∀ {b : Addr} {o : Obj} {es : Array DictEntry} {ep : Nat}, s.heap.get? b = some o → o.data = .dict es ep → H b = none := fun {b o es ep} e d => Hn fun z => by
    subst z
    rw [ha] at e; cases e
    have d' : Data.seq vs.toArray _ = Data.dict es ep := d
    cases d'
  have low : ∀ {b : Addr} {m : Str → Option Value}, s.heap.Ns b m → (hidT s.heap H).Ns b m := fun {b m} ⟨o, es, ep, e, d, r⟩ => ⟨o, es, ep, hidT_get e (free e d), d, r⟩
  have hKb : K.In (hidT s.heap H) := fun b o e => hidT_get (KX b o e) (by
    cases q : H b with
    | none => rfl
    | some u =>
      obtain ⟨rfl, h2, _⟩ := Hof q
      rw [h2] at e; cases e)
  have hM : Mod K mg (hidT s.heap H) := ⟨hKb, low hns, ⟨mb, low hb, hbb⟩, let ⟨mc, h1, h2⟩ := hlim; ⟨mc, low h1, h2⟩⟩
  have hok : HOk P w H s.heap := fun b u z => by
    obtain ⟨rfl, _, rfl⟩ := Hof z
    exact ⟨ha, by rw [List.length_map]; exact hl, vs, _, rv, ha⟩
  have e0 : Env0 P w K mg (hidT s.heap H) callerA [] s H := ⟨rfl, hM, fun b o e => of_hidT e, Nat.le_of_eq (hidT_size _ _), trivial, fun b hb => absurd (show b ∈ ([] : List Addr) from hb) (by simp), hok, .of_eq hg⟩
  have hS : SqL K H a (ns.map V.int) := by
    cases hk : K.lookup a with
    | some o =>
      have e := KX a o hk
      rw [ha] at e; cases e
      exact .inr ⟨_, vs.toArray, _, hk, rfl, rfl, rfl, by rw [List.size_toArray, hi.length]; exact hl, by simpa using rv⟩
    | none => exact .inl (.inr ⟨ob, if_pos ⟨rfl, hk⟩⟩)
  have bt : BindsTo s fd ⟨[.ref a], []⟩ ([x].zip [.ref a]) := by
    have := hbind s [.ref a] KX rfl
    simpa using this
  refine codeAny_mono ((F _ hKb (low hns)).run callerA [] s H ⟨[.ref a], []⟩ [.ref a] [.ref a] _ _ hr e0 bt (.cons rfl .nil) (hsp H hS)) fun r s' h => ?_
  cases r with
  | error e => obtain ⟨_, _, _, _, _, _, _, _, _, _, _, _, h⟩ := h; exact h.elim
  | ok fl =>
    cases fl with
    | next => exact False.elim h
    | brk => exact False.elim h
    | cont => exact False.elim h
    | ret u =>
      obtain ⟨v, H', os, bare, un, hok', r', q⟩ := h
      have q' : v = .bl true := q
      subst q'
      obtain rfl : u = Value.bool true := r'
      refine ⟨rfl, OldK.of_keep fun b o e => ?_, os, bare⟩
      cases q : H b with
      | none => exact un.keep b o e q (by intro z; exact absurd (show b ∈ ([] : List Addr) from z) (by simp)) (by simp)
      | some u =>
        obtain ⟨rfl, _, rfl⟩ := Hof q
        obtain ⟨e1, _⟩ := hok b _ q
        obtain ⟨e2, _⟩ := hok' b _ (un.frzs b _ _ q)
        rw [e] at e1; cases e1
        exact e2
/-- a law: from the plain word about the small program -/
theorem walk_G {l : PySem.W.OpenLaw} {n k i : Nat} {q : Program} {loose : List Str} {XP : (Str → Option Value) → Heap → Prop} {YP : World → Heap → Prop} {d : DefRec} {x : Str} {P : List (Nat × Fn)} {tx : List Tx} {tb : Tb} {gv : Nat → D} {wf : Nat} {T : PySem.W.Frag → Txt} {f : Fn}
    (hn : l.most = some n) (hn2 : n ≤ sizeLine) (hdf : d.params.defaults = []) (hr : RoomG (2 * k) callerA) (hi : P.lookup i = some f) (hnm : d.name = f.nm) (hown : f.own = none) (hps : f.N.take f.np = [x])
    (F : ∀ (w : World) (mg : Str → Option Value) (h : Heap), YP w h → h.Ns mainGlobals mg → ∃ K : PySem.W.Frag, K.In h ∧ Prg P tx tb gv (T K) K mg)
    (plain : ∀ ns : List Int, ns.length ≤ n → ∃ s, callF P gv wf tb.cls k i [.scr (ns.map .int)] [] = .ok (.bl true) s) :
    PySem.W.WalkO q loose XP YP l.row.toRowW d [] (fun f vs => PySem.call f vs) := by
  refine Att.attach_call hn hdf fun w s₀ s₁ mg mb fa o pm cd doc a vs ns G Y ho hd hcd hmg hobj hints hlen hg => ?_
  obtain ⟨K, KX, p⟩ := F w mg _ Y G.T.g
  obtain ⟨j, hj⟩ := lookup_ix hi
  have hi' : j < tx.length := by rw [p.len]; exact (List.getElem?_eq_some_iff.mp hj).1
  have et := List.getElem?_eq_getElem hi'
  obtain ⟨hm, fd, FD⟩ := p.fns j i f _ hj et
  rw [hnm, hm hown] at hmg
  cases hmg
  have hF : ∀ base, FnG l.prog w K mg base (2 * k) (adr K f) fd [x] (spD (T K) f.np (callF P gv wf tb.cls k i)) := fun base => hps ▸ p.fnG k i j f _ fd hi hj et FD
  have hnp : f.np = 1 := by
    have h1 := congrArg List.length hps
    have h2 := of_decide_eq_true (band (p.ck j i f _ hj et)).1
    rw [List.length_take] at h1
    have h1 : min f.np f.N.length = 1 := h1
    omega
  refine call_law KX G.T.g G.T.b G.T.builtins G.T.nolimit hg hobj hints (Nat.le_trans hlen hn2) hr (fun base _ _ => hF base) (hps ▸ p.binds hj et FD) fun H hS => ?_
  obtain ⟨s, e⟩ := plain ns hlen
  refine ⟨⟨H, []⟩, [], [.scr (ns.map .int)], hnp.symm, ⟨fun _ _ z => z, List.nodup_nil, rfl, fun n b z => by simp at z⟩, .cons ?_ .nil, ?_⟩
  · simp only [RepV]
    refine ⟨a, ns.map V.int, rfl, by rw [p.hK]; exact hS, ?_⟩
    clear hS e hlen hints
    induction ns with
    | nil => exact .nil
    | cons n ns ih => exact .cons .int_ ih
  · rw [e]
    exact fun w' v H' _ _ q => q.bl_eq
end FW

/-! PlA: working the small language out. -/
namespace FW
open PySem L2
section
variable {V : FW.Ev} {st : FW.State}
@[simp] theorem ev_num {i} : evE V (.num i) st = .ok (.int i) st := rfl
@[simp] theorem ev_bl {i} : evE V (.bl i) st = .ok (.bl i) st := rfl
@[simp] theorem ev_str {i} : evE V (.str i) st = .ok (.str i) st := rfl
@[simp] theorem ev_non : evE V .non st = .ok .non st := rfl
@[simp] theorem ev_gl {k} : evE V (.gl k) st = .ok (V.gv k) st := rfl
def getV (E : FW.Env) (i : Nat) (st : State) : R D := match E[i]? with
  | some (.val d) => .ok d st
  | _ => .bad
@[simp] theorem getV_0 {d E st} : getV (.val d :: E) 0 st = .ok d st := rfl
@[simp] theorem getV_s {s E i st} : getV (s :: E) (i + 1) st = getV E i st := rfl
@[simp] theorem ev_var {i} : evE V (.var i) st = getV st.env i st := rfl
@[simp] theorem ev_bin {o a b} : evE V (.bin o a b) st = (evE V a st).bind fun x s1 => (evE V b s1).bind fun y s2 => R.lift (o.fn x y) s2 := rfl
@[simp] theorem ev_neg {a} : evE V (.neg a) st = (evE V a st).bind fun x s1 => R.lift (negD x) s1 := rfl
@[simp] theorem ev_cmp {o a b} : evE V (.cmp o a b) st = (evE V a st).bind fun x s1 => (evE V b s1).bind fun y s2 => R.lift (o.fn x y) s2 := rfl
@[simp] theorem ev_ite {c a b} : evE V (.ite c a b) st = (evC V c st).bind fun k s => if k then evE V a s else evE V b s := rfl
@[simp] theorem ev_ix {a b} : evE V (.ix a b) st = (evE V a st).bind fun x s1 => (evE V b s1).bind fun y s2 => R.lift (ixD x y) s2 := rfl
@[simp] theorem ev_tup {es} : evE V (.tup es) st = (evEs V es st).bind fun l s => if szOk l.length then .ok (.tup l) s else .bad := rfl
@[simp] theorem ev_nil : evEs V .nil st = .ok [] st := rfl
@[simp] theorem ev_cons {a es} : evEs V (.cons a es) st = (evE V a st).bind fun d s => (evEs V es s).bind fun ds s2 => .ok (d :: ds) s2 := rfl
@[simp] theorem ev_blt {g es} : evE V (.blt g es) st = (evEs V es st).bind fun x s1 => R.lift (g.fn x) s1 := rfl
@[simp] theorem ev_isi {a ts} : evE V (.isi a ts) st = (evE V a st).bind fun x s1 => R.lift (isiO (knownC V.cl) s1 x ts) s1 := rfl
@[simp] theorem ev_isc {a c} : evE V (.isc a c) st = (evE V a st).bind fun x s1 => R.lift (iscD (knownC V.cl) (subOf V.cl c) s1 x) s1 := rfl
@[simp] theorem ev_rev {a} : evE V (.rev a) st = (evE V a st).bind fun x s1 => R.lift (revD x) s1 := rfl
@[simp] theorem ev_dic {l} : evE V (.dic l) st = .ok (.dic l) st := rfl
@[simp] theorem ev_attr {f a} : evE V (.attr f a) st = cAtt V.F (accOf V.cl f) f (evE V a) st := rfl
@[simp] theorem ef_srt {a} : evF V (.srt a) st = (evE V a st).bind fun d s => R.lift ((listD d).bind sortD) s := rfl
@[simp] theorem ef_ssrt {a} : evF V (.ssrt a) st = (evE V a st).bind fun d s => R.lift ((listD d).bind fun l => (intsD l).bind fun ks => if decide (ks.length < 64) then some ((ssrtI ks).map .int) else none) s := rfl
@[simp] theorem ef_lr1 {a} : evF V (.lr1 a) st = (evE V a st).bind fun d s => match d with
  | .int n => R.lift (rngO 0 n) s
  | _ => .bad := rfl
@[simp] theorem ef_lr2 {a b} : evF V (.lr2 a b) st = (evE V a st).bind fun d s => (evE V b s).bind fun e s2 => match d, e with
  | .int m, .int n => R.lift (rngO m n) s2
  | _, _ => .bad := rfl
@[simp] theorem ef_list {a} : evF V (.list a) st = (evE V a st).bind fun d s => R.lift (itemsD d) s := rfl
@[simp] theorem ef_cat {a b} : evF V (.cat a b) st = (evE V a st).bind fun x s1 => (evE V b s1).bind fun y s2 => match x, y with
  | .lst l, .lst r => if szOk (l.length + r.length) then .ok (l ++ r) s2 else .bad
  | _, _ => .bad := rfl
@[simp] theorem es_ifw {i isn a x y} : evS V (.ifw i isn a x y) st = (evE V a st).bind fun d s => if (d.isN == isn) = true then evSs V x ⟨s.env.set i (.val d), s.sto⟩ else evSs V y ⟨s.env.set i (.val d), s.sto⟩ := rfl
@[simp] theorem isiO_non {ok s ts} : isiO ok s .non ts = isiD .non ts := rfl
@[simp] theorem isiO_bl {ok s ts b} : isiO ok s (.bl b) ts = isiD (.bl b) ts := rfl
@[simp] theorem isiO_int {ok s ts i} : isiO ok s (.int i) ts = isiD (.int i) ts := rfl
@[simp] theorem isiO_str {ok s ts x} : isiO ok s (.str x) ts = isiD (.str x) ts := rfl
@[simp] theorem isiO_tup {ok s ts l} : isiO ok s (.tup l) ts = isiD (.tup l) ts := rfl
@[simp] theorem isiO_lst {ok s ts l} : isiO ok s (.lst l) ts = isiD (.lst l) ts := rfl
@[simp] theorem isiO_dic {ok s ts l} : isiO ok s (.dic l) ts = isiD (.dic l) ts := rfl
@[simp] theorem isiO_obj {ok s ts c l} : isiO ok s (.obj c l) ts = if ok c then some (.bl false) else none := rfl
@[simp] theorem clsOf_obj {s c l} : clsOf s (.obj c l) = some c := rfl
@[simp] theorem rev_t {l} : revD (.tup l) = some (.tup l.reverse) := rfl
@[simp] theorem rev_l {l} : revD (.lst l) = some (.lst l.reverse) := rfl
@[simp] theorem zip_tt {l m} : zipD [.tup l, .tup m] = some (zipL l m) := rfl
@[simp] theorem zip_ll {l m} : zipD [.lst l, .lst m] = some (zipL l m) := rfl
@[simp] theorem zip_tl {l m} : zipD [.tup l, .lst m] = some (zipL l m) := rfl
@[simp] theorem zip_lt {l m} : zipD [.lst l, .tup m] = some (zipL l m) := rfl
@[simp] theorem enum_t {l} : enumD [.tup l] = some (enumL 0 l) := rfl
@[simp] theorem enum_l {l} : enumD [.lst l] = some (enumL 0 l) := rfl
@[simp] theorem zip3_ttt {l m n} : zipD3 [.tup l, .tup m, .tup n] = some (zipL3 l m n) := rfl
theorem ev_call {i es} : evE V (.call i es) st = (evEs V es st).bind fun ds s => match V.F i ds s.sto with
  | .ok d s' => .ok d ⟨s.env, s'.sto⟩
  | .exc e s' => .exc e ⟨s.env, s'.sto⟩
  | .bad => .bad := rfl
@[simp] theorem ev_fz {f} : evE V (.fz f) st = (evF V f st).bind fun l s => .ok (.lst l) s := rfl
@[simp] theorem ev_new {f} : evE V (.new f) st = (evF V f st).bind fun l s => .ok (.ref s.sto.length) ⟨s.env, s.sto ++ [.lst l]⟩ := rfl
@[simp] theorem ev_lst {es} : evF V (.lst es) st = (evEs V es st).bind fun l s => if szOk l.length then .ok l s else .bad := rfl
theorem ev_frz {i} : evE V (.frz i) st = cFrz i st := rfl
@[simp] theorem ev_andv {a b} : evE V (.andv a b) st = (evE V a st).bind fun d s => match d with
  | .bl k => if k then evE V b s else .ok (.bl false) s
  | _ => .bad := rfl
@[simp] theorem ev_orv {a b} : evE V (.orv a b) st = (evE V a st).bind fun d s => match d with
  | .bl k => if k then .ok (.bl true) s else evE V b s
  | _ => .bad := rfl
@[simp] theorem ev_notv {a} : evE V (.notv a) st = (evE V a st).bind fun d s => match d with
  | .bl k => .ok (.bl (!k)) s
  | _ => .bad := rfl
@[simp] theorem ev_sl {a lo hi} : evE V (.sl a lo hi) st = (evE V a st).bind fun x s1 => (evO V lo s1).bind fun l s2 => (evO V hi s2).bind fun h s3 => R.lift (slD x l h) s3 := rfl
@[simp] theorem ev_o0 : evO V .none st = .ok none st := rfl
@[simp] theorem ev_o1 {a} : evO V (.some a) st = (evE V a st).bind fun d s => match d with
  | .int i => .ok (some i) s
  | _ => .bad := rfl
@[simp] theorem ev_ixB {b e} : evE V (.ixB b e) st = (evB V b st).bind fun x s1 => (evE V e s1).bind fun y s2 => match content s2 x with
  | some l => R.lift (ixD (.lst l) y) s2
  | none => .bad := rfl
@[simp] theorem ev_binB {o b e} : evE V (.binB o b e) st = (evB V b st).bind fun x s1 => (evE V e s1).bind fun y s2 => match content s2 x with
  | some l => R.lift (o.fn (.lst l) y) s2
  | none => .bad := rfl
@[simp] theorem ev_cmpB {o b e} : evE V (.cmpB o b e) st = (evB V b st).bind fun x s1 => (evE V e s1).bind fun y s2 => match content s2 x with
  | some l => R.lift (o.fn (.lst l) y) s2
  | none => .bad := rfl
@[simp] theorem ev_bltB {g b} : evE V (.bltB g b) st = (evB V b st).bind fun x s => match content s x with
  | some l => R.lift (g.fn [.lst l]) s
  | none => .bad := rfl
@[simp] theorem ev_pop0 {b} : evE V (.pop0 b) st = (evB V b st).bind fun x s => match content s x with
  | some l => (match l[l.length - 1]? with
    | some d => .ok d (wrContent s l.dropLast x)
    | none => .bad)
  | none => .bad := rfl
theorem ev_popB {b e} : evE V (.popB b e) st = cPopB (evB V b) (evE V e) st := rfl
def getB (E : FW.Env) (i k : Nat) (st : State) : R Bor := match E[i]? with
  | some (.own _) => .ok (.slot k) st
  | _ => .bad
@[simp] theorem getB_0 {l E k st} : getB (.own l :: E) 0 k st = .ok (.slot k) st := rfl
@[simp] theorem getB_s {s E i k st} : getB (s :: E) (i + 1) k st = getB E i k st := rfl
@[simp] theorem ev_bslot {i} : evB V (.slot i) st = getB st.env i i st := rfl
@[simp] theorem ev_bref {a} : evB V (.ref a) st = (evE V a st).bind fun d s => match d with
  | .ref n => .ok (.cell n) s
  | _ => .bad := rfl
/-! tests -/
@[simp] theorem ec_tru {a} : evC V (.tru a) st = (evE V a st).bind fun d s => R.lift (truD d) s := rfl
@[simp] theorem ec_cmp {o a b} : evC V (.cmp o a b) st = (evE V (.cmp o a b) st).bind fun d s => match d with
  | .bl k => .ok k s
  | _ => .bad := rfl
@[simp] theorem ec_cmpB {o a b} : evC V (.cmpB o a b) st = (evE V (.cmpB o a b) st).bind fun d s => match d with
  | .bl k => .ok k s
  | _ => .bad := rfl
@[simp] theorem ec_and {a b} : evC V (.and a b) st = (evC V a st).bind fun k s => if k then evC V b s else .ok false s := rfl
@[simp] theorem ec_or {a b} : evC V (.or a b) st = (evC V a st).bind fun k s => if k then .ok true s else evC V b s := rfl
@[simp] theorem ec_not {a} : evC V (.not a) st = (evC V a st).bind fun k s => .ok (!k) s := rfl
@[simp] theorem eoc_none : evOc V .none = cYes := rfl
@[simp] theorem eoc_some {a} : evOc V (.some a) = evC V a := rfl
@[simp] theorem eyes : cYes st = .ok true st := rfl
@[simp] theorem ev_ch2 {o o' a b c} : evE V (.ch2 o o' a b c) st = (evE V a st).bind fun x s1 => (evE V b s1).bind fun y s2 => match o.fn x y with
  | some (.bl k) => if k then (evE V c s2).bind fun z s3 => R.lift (o'.fn y z) s3 else .ok (.bl false) s2
  | _ => .bad := rfl
@[simp] theorem ec_ch2 {o o' a b c} : evC V (.ch2 o o' a b c) st = (evE V (.ch2 o o' a b c) st).bind fun d s => match d with
  | .bl k => .ok k s
  | _ => .bad := rfl
@[simp] theorem ev_ch3 {o o' o2 a b c d} : evE V (.ch3 o o' o2 a b c d) st = (evE V a st).bind fun x s1 => (evE V b s1).bind fun y s2 => match o.fn x y with
  | some (.bl k) => if k then (evE V c s2).bind (fun z s3 => match o'.fn y z with
    | some (.bl k) => if k then (evE V d s3).bind fun u s4 => R.lift (o2.fn z u) s4 else .ok (.bl false) s3
    | _ => .bad) else .ok (.bl false) s2
  | _ => .bad := rfl
@[simp] theorem ec_ch3 {o o' o2 a b c d} : evC V (.ch3 o o' o2 a b c d) st = (evE V (.ch3 o o' o2 a b c d) st).bind fun d s => match d with
  | .bl k => .ok k s
  | _ => .bad := rfl
/-! iterations -/
@[simp] theorem ei_seq {a} : evI V (.seq a) st = (evE V a st).bind fun d s => R.lift (itemsD d) s := rfl
@[simp] theorem ei_rng1 {a} : evI V (.rng1 a) st = (evE V a st).bind fun d s => R.lift (rng1 [d]) s := by
  show ((evE V a st).bind fun d s => (R.ok [] s).bind fun ds s2 => .ok (d :: ds) s2).bind _ = _
  cases evE V a st <;> rfl
@[simp] theorem ei_rng2 {a b} : evI V (.rng2 a b) st = (evE V a st).bind fun x s => (evE V b s).bind fun y s2 => R.lift (rng2 [x, y]) s2 := by
  show ((evE V a st).bind fun d s => ((evE V b s).bind fun d s => (R.ok [] s).bind fun ds s2 => .ok (d :: ds) s2).bind fun ds s2 => .ok (d :: ds) s2).bind _ = _
  cases evE V a st with
  | ok x s => simp only [R.bind_ok]; cases evE V b s <;> rfl
  | exc _ _ => rfl
  | bad => rfl
@[simp] theorem ei_enum {a} : evI V (.enum a) st = (evE V a st).bind fun d s => R.lift (enumD [d]) s := by
  show ((evE V a st).bind fun d s => (R.ok [] s : R (List D)).bind fun ds s2 => .ok (d :: ds) s2).bind _ = _
  cases evE V a st <;> rfl
@[simp] theorem ei_zip3 {a b c} : evI V (.zip3 a b c) st = (evE V a st).bind fun x s => (evE V b s).bind fun y s2 => (evE V c s2).bind fun z s3 => R.lift (zipD3 [x, y, z]) s3 := by
  show (((evE V a st).bind fun d s => ((evE V b s).bind fun d s => ((evE V c s).bind fun d s => (R.ok [] s : R (List D)).bind fun ds s2 => .ok (d :: ds) s2).bind fun ds s2 => .ok (d :: ds) s2).bind fun ds s2 => .ok (d :: ds) s2)).bind _ = _
  cases evE V a st <;> try rfl
  rename_i d s
  show ((((evE V b s).bind fun d s => ((evE V c s).bind fun d s => (R.ok [] s : R (List D)).bind fun ds s2 => .ok (d :: ds) s2).bind fun ds s2 => .ok (d :: ds) s2).bind fun ds s2 => .ok (d :: ds) s2)).bind _ = (evE V b s).bind _
  cases evE V b s <;> try rfl
  rename_i d' s'
  show (((((evE V c s').bind fun d s => (R.ok [] s : R (List D)).bind fun ds s2 => .ok (d :: ds) s2).bind fun ds s2 => .ok (d' :: ds) s2).bind fun ds s2 => .ok (d :: ds) s2)).bind _ = (evE V c s').bind _
  cases evE V c s' <;> rfl
@[simp] theorem ei_rng3 {a b c} : evI V (.rng3 a b c) st = (evE V a st).bind fun x s => (evE V b s).bind fun y s2 => (evE V c s2).bind fun z s3 => R.lift (rng3 [x, y, z]) s3 := by
  show (((evE V a st).bind fun d s => ((evE V b s).bind fun d s => ((evE V c s).bind fun d s => (R.ok [] s : R (List D)).bind fun ds s2 => .ok (d :: ds) s2).bind fun ds s2 => .ok (d :: ds) s2).bind fun ds s2 => .ok (d :: ds) s2)).bind _ = _
  cases evE V a st <;> try rfl
  rename_i d s
  show ((((evE V b s).bind fun d s => ((evE V c s).bind fun d s => (R.ok [] s : R (List D)).bind fun ds s2 => .ok (d :: ds) s2).bind fun ds s2 => .ok (d :: ds) s2).bind fun ds s2 => .ok (d :: ds) s2)).bind _ = (evE V b s).bind _
  cases evE V b s <;> try rfl
  rename_i d' s'
  show (((((evE V c s').bind fun d s => (R.ok [] s : R (List D)).bind fun ds s2 => .ok (d :: ds) s2).bind fun ds s2 => .ok (d' :: ds) s2).bind fun ds s2 => .ok (d :: ds) s2)).bind _ = (evE V c s').bind _
  cases evE V c s' <;> rfl
@[simp] theorem ei_zip {a b} : evI V (.zip a b) st = (evE V a st).bind fun x s => (evE V b s).bind fun y s2 => R.lift (zipD [x, y]) s2 := by
  show ((evE V a st).bind fun d s => ((evE V b s).bind fun d s => (R.ok [] s).bind fun ds s2 => .ok (d :: ds) s2).bind fun ds s2 => .ok (d :: ds) s2).bind _ = _
  cases evE V a st with
  | ok x s => simp only [R.bind_ok]; cases evE V b s <;> rfl
  | exc _ _ => rfl
  | bad => rfl
@[simp] theorem ef_lc {it t tt e own} : evF V (.lc it t tt e own) st = (evI V it st).bind fun l s => match lcGo t (evOc V tt) (evE V e) (hideFrom 0 (own.map (·.2)) s.env) l s.sto with
  | some (ys, S) => if decide (ys.length < 16777216) then .ok ys ⟨s.env, S⟩ else .bad
  | none => .bad := rfl
/-! statements -/
@[simp] theorem es_pass : evS V .pass st = .ok .nx st := rfl
@[simp] theorem es_doc : evS V .doc st = .ok .nx st := rfl
@[simp] theorem es_expr {a} : evS V (.expr a) st = (evE V a st).bind fun _ s => .ok .nx s := rfl
@[simp] theorem es_ret {a} : evS V (.ret a) st = (evE V a st).bind fun d s => .ok (.rt d) s := rfl
@[simp] theorem es_retN : evS V .retN st = .ok (.rt .non) st := rfl
@[simp] theorem es_brk : evS V .brk st = .ok .bk st := rfl
@[simp] theorem es_cont : evS V .cont st = .ok .ct st := rfl
@[simp] theorem es_ifs {c a b} : evS V (.ifs c a b) st = (evC V c st).bind fun k s => if k then evSs V a s else evSs V b s := rfl
@[simp] theorem es_whl {c b} : evS V (.whl c b) st = cWhile (evC V c) (evSs V b) V.wf st := rfl
@[simp] theorem es_fr {t it b els} : evS V (.fr t it b els) st = (evI V it st).bind fun l s => forL t (evSs V b) (evSs V els) l s := rfl
@[simp] theorem es_asgn {i a} : evS V (.asg (.nm i) a) st = (evE V a st).bind fun d s => .ok .nx ⟨s.env.set i (.val d), s.sto⟩ := rfl
@[simp] theorem es_asgt {ts a} : evS V (.asg (.tup ts) a) st = (evE V a st).bind fun d s => match asg (.tup ts) d s with
  | some s' => .ok .nx s'
  | none => .bad := rfl
@[simp] theorem es_own {i f} : evS V (.own i f) st = (evF V f st).bind fun l s => .ok .nx ⟨s.env.set i (.own l), s.sto⟩ := rfl
@[simp] theorem es_par {is ps} : evS V (.par is ps) st = (parGo (evPs V ps) st).bind fun rs s => if rs.length = is.length then .ok .nx ⟨setAll is rs s.env, s.sto⟩ else .bad := rfl
@[simp] theorem pg_nil : parGo (evPs V .nil) st = .ok [] st := rfl
@[simp] theorem pg_v {a r} : parGo (evPs V (.v a r)) st = (evE V a st).bind fun d s => (parGo (evPs V r) s).bind fun rs s2 => .ok (.val d :: rs) s2 := rfl
@[simp] theorem pg_f {f r} : parGo (evPs V (.f f r)) st = (evF V f st).bind fun l s => ((parGo (evPs V r) ⟨hideFrom 0 [] s.env, s.sto⟩).back s.env).bind fun rs s2 => .ok (.own l :: rs) s2 := rfl
@[simp] theorem setAll_nil {rs E} : FW.setAll [] rs E = E := by cases rs <;> rfl
@[simp] theorem setAll_val {i is d rs E} : FW.setAll (i :: is) (.val d :: rs) E = FW.setAll is rs (E.set i (.val d)) := rfl
@[simp] theorem setAll_own {i is d rs E} : FW.setAll (i :: is) (.own d :: rs) E = FW.setAll is rs (E.set i (.own d)) := rfl
@[simp] theorem es_setB {a b i} : evS V (.setB a b i) st = (evE V a st).bind fun v s1 => (evB V b s1).bind fun b s2 => (evE V i s2).bind fun k s3 => match content s3 b, k with
  | some l, .int j => (match ixN l.length j with
    | some n => .ok .nx (wrContent s3 (l.set n v) b)
    | none => .bad)
  | _, _ => .bad := rfl
@[simp] theorem es_app {b a} : evS V (.app b a) st = (evB V b st).bind fun b s1 => match content s1 b with
  | none => .bad
  | some _ => (evE V a s1).bind fun v s2 => match content s2 b with
    | some l => if decide (l.length < 16777216) then .ok .nx (wrContent s2 (l ++ [v]) b) else .bad
    | none => .bad := rfl
@[simp] theorem es_nil : evSs V .nil st = .ok .nx st := rfl
@[simp] theorem es_cons {s r} : evSs V (.cons s r) st = (evS V s st).bind fun f s => match f with
  | .nx => evSs V r s
  | f => .ok f s := rfl
@[simp high] theorem es_last {s} : evSs V (.cons s .nil) st = evS V s st := by
  rw [es_cons]
  cases evS V s st with
  | ok f s => cases f <;> rfl
  | exc _ _ => rfl
  | bad => rfl
@[simp] theorem es_frz {i r} : evSs V (.frz i r) st = cFrzS i (evSs V r) st := rfl
/-! the store and the slots -/
@[simp] theorem ct_slot0 {l E S} : content ⟨.own l :: E, S⟩ (.slot 0) = some l := rfl
@[simp] theorem ct_slots {s E S i} : content ⟨s :: E, S⟩ (.slot (i + 1)) = content ⟨E, S⟩ (.slot i) := rfl
@[simp] theorem ct_cell0 {E l S} : content ⟨E, .lst l :: S⟩ (.cell 0) = some l := rfl
@[simp] theorem ct_cells {E c S i} : content ⟨E, c :: S⟩ (.cell (i + 1)) = content ⟨E, S⟩ (.cell i) := rfl
@[simp] theorem wr_slot {E S i l} : wrContent ⟨E, S⟩ l (.slot i) = ⟨E.set i (.own l), S⟩ := rfl
@[simp] theorem wr_cell {E S i l} : wrContent ⟨E, S⟩ l (.cell i) = ⟨E, S.set i (.lst l)⟩ := rfl
end
@[simp] theorem szOk_le {n : Nat} (h : n ≤ 16777216) : szOk n = true := decide_eq_true h
@[simp] theorem B2_add : B2.fn .add = addD := rfl
@[simp] theorem B2_sub : B2.fn .sub = subD := rfl
@[simp] theorem B2_mul : B2.fn .mul = mulD := rfl
@[simp] theorem B2_fdiv : B2.fn .fdiv = fdivD := rfl
@[simp] theorem B2_mod : B2.fn .mod = modD := rfl
@[simp] theorem B2_pow : B2.fn .pow = powD := rfl
@[simp] theorem K2_eq : K2.fn .eq = eqD := rfl
@[simp] theorem K2_ne : K2.fn .ne = neD := rfl
@[simp] theorem K2_lt : K2.fn .lt = ltD := rfl
@[simp] theorem K2_le : K2.fn .le = leD := rfl
@[simp] theorem K2_gt : K2.fn .gt = gtD := rfl
@[simp] theorem K2_ge : K2.fn .ge = geD := rfl
@[simp] theorem K2_is : K2.fn .is = isD := rfl
@[simp] theorem K2_isnt : K2.fn .isnt = isntD := rfl
@[simp] theorem K2_in : K2.fn .in_ = inD := rfl
@[simp] theorem K2_nin : K2.fn .nin = ninD := rfl
@[simp] theorem Bf_len : Bf.fn .len = lenD := rfl
@[simp] theorem Bf_abs : Bf.fn .abs = absD := rfl
@[simp] theorem Bf_max : Bf.fn .max = max2D := rfl
@[simp] theorem Bf_min : Bf.fn .min = min2D := rfl
@[simp] theorem Bf_int : Bf.fn .int = intD := rfl
@[simp] theorem Bf_str : Bf.fn .str = strD := rfl
@[simp] theorem Bf_sum : Bf.fn .sum = sumD := rfl
@[simp] theorem Bf_all : Bf.fn .all = allD := rfl
@[simp] theorem Bf_tuple : Bf.fn .tuple = tupleD := rfl
@[simp] theorem Bf_repr : Bf.fn .repr = reprD := rfl
section
variable {a b : Int} {k : Bool} {l m : List D}
@[simp] theorem add_ii : addD (.int a) (.int b) = some (.int (a + b)) := rfl
@[simp] theorem sub_ii : subD (.int a) (.int b) = some (.int (a - b)) := rfl
theorem mul_ii (h : mulOk a b = true) : mulD (.int a) (.int b) = some (.int (a * b)) := by show gd _ _ = _; rw [h]; rfl
@[simp] theorem neg_i : negD (.int a) = some (.int (-a)) := rfl
@[simp] theorem lt_ii : ltD (.int a) (.int b) = some (.bl (decide (a < b))) := rfl
@[simp] theorem le_ii : leD (.int a) (.int b) = some (.bl (decide (a ≤ b))) := rfl
@[simp] theorem gt_ii : gtD (.int a) (.int b) = some (.bl (decide (b < a))) := rfl
@[simp] theorem ge_ii : geD (.int a) (.int b) = some (.bl (decide (b ≤ a))) := rfl
@[simp] theorem eq_ii : eqD (.int a) (.int b) = some (.bl (decide (a = b))) := by
  show some (D.bl (a == b)) = _
  rw [Bool.beq_eq_decide_eq]
@[simp] theorem ne_ii : neD (.int a) (.int b) = some (.bl (!decide (a = b))) := by
  show some (D.bl (!(a == b))) = _
  rw [Bool.beq_eq_decide_eq]
@[simp] theorem tru_b : truD (.bl k) = some k := rfl
@[simp] theorem ix_t : ixD (.tup l) (.int a) = atI l a := rfl
@[simp] theorem ix_l : ixD (.lst l) (.int a) = atI l a := rfl
@[simp] theorem ix_s : ixD (.scr l) (.int a) = atI l a := rfl
@[simp] theorem items_t : itemsD (.tup l) = some l := rfl
@[simp] theorem items_l : itemsD (.lst l) = some l := rfl
@[simp] theorem items_s : itemsD (.scr l) = some l := rfl
@[simp] theorem len_t : lenD [.tup l] = some (.int l.length) := rfl
@[simp] theorem len_l : lenD [.lst l] = some (.int l.length) := rfl
@[simp] theorem len_s : lenD [.scr l] = some (.int l.length) := rfl
@[simp] theorem tuple_t : tupleD [.tup l] = some (.tup l) := rfl
@[simp] theorem tuple_l : tupleD [.lst l] = some (.tup l) := rfl
@[simp] theorem max_ii : max2D [.int a, .int b] = some (.int (max a b)) := by
  show some (D.int (if b > a then b else a)) = _
  rw [Int.max_def]; congr 2; split <;> split <;> omega
@[simp] theorem min_ii : min2D [.int a, .int b] = some (.int (min a b)) := by
  show some (D.int (if b < a then b else a)) = _
  rw [Int.min_def]; congr 2; split <;> split <;> omega
@[simp] theorem abs_i : absD [.int a] = some (.int a.natAbs) := by
  show some (D.int (if a < 0 then -a else a)) = _
  congr 2; split <;> omega
@[simp] theorem is_n {d : D} : isD d .non = some (.bl d.isN) := by cases d <;> rfl
@[simp] theorem isnt_n {d : D} : isntD d .non = some (.bl (!d.isN)) := by cases d <;> rfl
@[simp] theorem is_bb {x y : Bool} : isD (.bl x) (.bl y) = some (.bl (decide (x = y))) := rfl
@[simp] theorem isnt_bb {x y : Bool} : isntD (.bl x) (.bl y) = some (.bl (!decide (x = y))) := rfl
end
/-- a call of a def, worked out -/
theorem call_of {P : List (Nat × Fn)} {gv wf cl k i ds S} {f : Fn} (h : P.lookup i = some f) (hl : ds.length = f.np) : callF P gv wf cl (k + 1) i ds S = fin (evSs ⟨callF P gv wf cl k, gv, wf, cl⟩ f.body ⟨argsEnv f.N.length ds, S⟩) := by
  show (match P.lookup i with
    | some f => if ds.length = f.np then _ else _
    | none => _) = _
  rw [h]; exact if_pos hl
end FW

/-! PlB: plain words about data, loops, comprehensions. -/
namespace FW
open PySem L2
/-! ### neat data -/
mutual
def okD : Nat → D → Bool
  | _, .non => true
  | _, .bl _ => true
  | _, .int _ => true
  | _, .str x => PyData.strOk x
  | 0, .tup _ => false
  | n + 1, .tup l => okDs n l
  | 0, .lst _ => false
  | n + 1, .lst l => okDs n l
  | _, _ => false
def okDs : Nat → List D → Bool
  | _, [] => true
  | n, d :: r => okD n d && okDs n r
end
mutual
theorem okD_pure : ∀ (n : Nat) (d : D), okD n d = true → d.pure = true ∧ d.py.canLay0 = true ∧ d.py.depth ≤ n + 1
  | n, .non, _ => ⟨rfl, rfl, by simp [D.py, PyData.depth]⟩
  | n, .bl _, _ => ⟨rfl, rfl, by simp [D.py, PyData.depth]⟩
  | n, .int _, _ => ⟨rfl, rfl, by simp [D.py, PyData.depth]⟩
  | n, .str x, h => ⟨rfl, by simpa [okD, D.py, PyData.canLay0] using h, by simp [D.py, PyData.depth]⟩
  | 0, .tup _, h => by simp [okD] at h
  | n + 1, .tup l, h => by
    obtain ⟨h1, h2, h3⟩ := okDs_pure n l (by simpa only [okD] using h)
    exact ⟨by simpa only [D.pure] using h1, by simpa only [D.py, PyData.canLay0] using h2, by simp only [D.py, PyData.depth]; omega⟩
  | 0, .lst _, h => by simp [okD] at h
  | n + 1, .lst l, h => by
    obtain ⟨h1, h2, h3⟩ := okDs_pure n l (by simpa only [okD] using h)
    exact ⟨by simpa only [D.pure] using h1, by simpa only [D.py, PyData.canLay0] using h2, by simp only [D.py, PyData.depth]; omega⟩
  | _, .scr _, h => by simp [okD] at h
  | _, .obj _ _, h => by simp [okD] at h
  | _, .ref _, h => by simp [okD] at h
theorem okDs_pure : ∀ (n : Nat) (l : List D), okDs n l = true → D.pures l = true ∧ PyData.canLayAll0 (D.pys l) = true ∧ PyData.depthAll (D.pys l) ≤ n + 1
  | n, [], _ => ⟨rfl, rfl, by simp [D.pys, PyData.depthAll]⟩
  | n, d :: r, h => by
    obtain ⟨h1, h2⟩ := band (show (okD n d && okDs n r) = true from by simpa only [okDs] using h)
    obtain ⟨a1, a2, a3⟩ := okD_pure n d h1
    obtain ⟨b1, b2, b3⟩ := okDs_pure n r h2
    refine ⟨by simp only [D.pures, a1, b1, Bool.and_self], by simp only [D.pys, PyData.canLayAll0, a2, b2, Bool.and_self], ?_⟩
    simp only [D.pys, PyData.depthAll]; omega
end
theorem okD_shaped {n : Nat} {d : D} (hn : n ≤ 60) (h : okD n d = true) : d.pure = true ∧ SeqAt.shaped d.py = true := by
  obtain ⟨h1, h2, h3⟩ := okD_pure n d h
  exact ⟨h1, by unfold SeqAt.shaped; rw [h2, decide_eq_true (by omega)]; rfl⟩
theorem pureB_ok {a b : D} (ha : okD 60 a = true) (hb : okD 60 b = true) : pureB a b = true := by
  obtain ⟨h1, h2⟩ := okD_shaped (Nat.le_refl _) ha
  obtain ⟨h3, h4⟩ := okD_shaped (Nat.le_refl _) hb
  unfold pureB; rw [h1, h2, h3, h4]; rfl
theorem eq_ok {a b : D} (ha : okD 60 a = true) (hb : okD 60 b = true) : eqD a b = some (.bl (PyData.eqv a.py b.py)) := by
  unfold eqD
  split
  · simp [D.py, PyData.eqv, Bool.beq_eq_decide_eq]
  · simp [okD] at ha
  · rename_i l; cases l <;> simp [D.py, D.pys, PyData.eqv, PyData.eqvAll]
  · rename_i l; cases l <;> simp [D.py, D.pys, PyData.eqv, PyData.eqvAll]
  · rw [pureB_ok ha hb]; rfl
theorem ne_ok {a b : D} (ha : okD 60 a = true) (hb : okD 60 b = true) : neD a b = some (.bl (!PyData.eqv a.py b.py)) := by
  unfold neD
  split
  · simp [D.py, PyData.eqv, Bool.beq_eq_decide_eq]
  · rename_i l; cases l <;> simp [D.py, D.pys, PyData.eqv, PyData.eqvAll]
  · rename_i l; cases l <;> simp [D.py, D.pys, PyData.eqv, PyData.eqvAll]
  · rw [pureB_ok ha hb]; rfl
@[simp] theorem eq_t0 {l : List D} : eqD (.tup l) (.tup []) = some (.bl l.isEmpty) := rfl
@[simp] theorem eq_l0 {l : List D} : eqD (.lst l) (.lst []) = some (.bl l.isEmpty) := rfl
@[simp] theorem ne_t0 {l : List D} : neD (.tup l) (.tup []) = some (.bl (!l.isEmpty)) := rfl
@[simp] theorem ne_l0 {l : List D} : neD (.lst l) (.lst []) = some (.bl (!l.isEmpty)) := rfl
@[simp] theorem eq_ss {x y : Str} : eqD (.str x) (.str y) = some (.bl (decide (x = y))) := rfl
@[simp] theorem ne_ss {x y : Str} : neD (.str x) (.str y) = some (.bl (!decide (x = y))) := rfl
mutual
theorem eqv_self : ∀ (d : D), d.pure = true → PyData.eqv d.py d.py = true
  | .non, _ => rfl
  | .bl _, _ => by simp [D.py, PyData.eqv]
  | .int _, _ => by simp [D.py, PyData.eqv]
  | .str _, _ => by simp [D.py, PyData.eqv]
  | .tup l, h => by
    simp only [D.py, PyData.eqv]
    exact eqvs_self l (by simpa only [D.pure] using h)
  | .lst l, h => by
    simp only [D.py, PyData.eqv]
    exact eqvs_self l (by simpa only [D.pure] using h)
  | .scr _, h => by simp [D.pure] at h
  | .obj _ _, h => by simp [D.pure] at h
  | .ref _, h => by simp [D.pure] at h
theorem eqvs_self : ∀ (l : List D), D.pures l = true → PyData.eqvAll (D.pys l) (D.pys l) = true
  | [], _ => rfl
  | d :: l, h => by
    obtain ⟨h1, h2⟩ := band (show (D.pure d && D.pures l) = true from by simpa only [D.pures] using h)
    simp only [D.pys, PyData.eqvAll, eqv_self d h1, eqvs_self l h2, Bool.and_self]
end
theorem eq_self {a : D} (ha : okD 60 a = true) : eqD a a = some (.bl true) := by rw [eq_ok ha ha, eqv_self a (okD_pure 60 a ha).1]
theorem ne_self {a : D} (ha : okD 60 a = true) : neD a a = some (.bl false) := by rw [ne_ok ha ha, eqv_self a (okD_pure 60 a ha).1]; rfl
@[simp] theorem okDs_ints {n : Nat} : ∀ l : List Int, okDs n (l.map D.int) = true
  | [] => rfl
  | a :: l => by simp [okDs, okD, okDs_ints l]
@[simp] theorem okDs_append {n : Nat} : ∀ l m : List D, okDs n (l ++ m) = (okDs n l && okDs n m)
  | [], m => by simp [okDs]
  | a :: l, m => by simp [okDs, okDs_append l m, Bool.and_assoc]
theorem okDs_map {α : Type} {n : Nat} {f : α → D} (h : ∀ x, okD n (f x) = true) : ∀ l : List α, okDs n (l.map f) = true
  | [] => rfl
  | a :: l => by simp [okDs, h a, okDs_map h l]
theorem pys_map (l : List D) : D.pys l = l.map D.py := by
  induction l with
  | nil => rfl
  | cons a l ih => simp [D.pys, ih]
theorem ne_empty (l : List Int) : neD (.lst (l.map .int)) (.lst []) = some (.bl (!l.isEmpty)) := by
  rw [ne_ok (by simp [okD]) (by simp [okD, okDs])]
  cases l <;> rfl
theorem eq_empty (l : List Int) : eqD (.lst (l.map .int)) (.lst []) = some (.bl l.isEmpty) := by
  rw [eq_ok (by simp [okD]) (by simp [okD, okDs])]
  cases l <;> rfl
/-! ### items -/
theorem ixN_nat {n k : Nat} (h : k < n) : ixN n (k : Int) = some k := by
  unfold ixN; rw [if_pos (by omega), if_pos (by omega)]; simp
theorem atI_nat {α : Type} {l : List α} {k : Nat} (h : k < l.length) : atI l (k : Int) = some l[k] := by
  unfold atI; rw [ixN_nat h]; simp [h]
@[simp] theorem atI_0 {α : Type} {a : α} {l : List α} : atI (a :: l) 0 = some a := by
  have := atI_nat (l := a :: l) (k := 0) (by simp)
  simpa using this
@[simp] theorem atI_1 {α : Type} {a b : α} {l : List α} : atI (a :: b :: l) 1 = some b := by
  have := atI_nat (l := a :: b :: l) (k := 1) (by simp)
  simpa using this
@[simp] theorem atI_2 {α : Type} {a b c : α} {l : List α} : atI (a :: b :: c :: l) 2 = some c := by
  have := atI_nat (l := a :: b :: c :: l) (k := 2) (by simp)
  simpa using this
theorem atI_pos {α : Type} {l : List α} {i : Int} (h0 : 0 ≤ i) (h : i < l.length) : atI l i = l[i.toNat]? := by
  unfold atI ixN; rw [if_pos h0, if_pos h]; rfl
theorem cutL_map {α : Type} (f : α → D) (l : List α) (lo hi : Option Int) : cutL (l.map f) lo hi = ((l.drop (HT.sIx l.length 0 lo)).take (HT.sIx l.length l.length hi - HT.sIx l.length 0 lo)).map f := by
  unfold cutL; rw [List.length_map, ← List.map_drop, ← List.map_take]
@[simp] theorem pow10 {k : Nat} (h : k ≤ 1000 := by decide) : powD (.int 10) (.int k) = some (.int (10 ^ k)) := by
  show gd _ _ = _
  rw [decide_eq_true (show (0 : Int) ≤ (k : Int) by omega), decide_eq_true (show (k : Int) ≤ 1000 by omega)]; rfl
/-! ### comprehensions -/
theorem lc_map {α : Type} {t : Tg} {tt : State → R Bool} {ce : State → R D} {E0 : FW.Env} {S : Store} {f : α → D} {g : α → D}
    (h : ∀ x, ∃ s1 s2 s3, asg t (f x) ⟨E0, S⟩ = some s1 ∧ tt s1 = .ok true s2 ∧ ce s2 = .ok (g x) s3 ∧ s3.sto = S) : ∀ l : List α, lcGo t tt ce E0 (l.map f) S = some (l.map g, S)
  | [] => rfl
  | x :: l => by
    obtain ⟨s1, s2, s3, h1, h2, h3, h4⟩ := h x
    have ih := lc_map h l
    rw [List.map_cons, lcGo, h1]
    simp only [h2, h3, h4, ih, List.map_cons]
/-- the same, for the members of a list -/
theorem lc_mapM {α : Type} {t : Tg} {tt : State → R Bool} {ce : State → R D} {E0 : FW.Env} {S : Store} {f : α → D} {g : α → D} :
    ∀ l : List α, (∀ x ∈ l, ∃ s1 s2 s3, asg t (f x) ⟨E0, S⟩ = some s1 ∧ tt s1 = .ok true s2 ∧ ce s2 = .ok (g x) s3 ∧ s3.sto = S) → lcGo t tt ce E0 (l.map f) S = some (l.map g, S)
  | [], _ => rfl
  | x :: l, h => by
    obtain ⟨s1, s2, s3, h1, h2, h3, h4⟩ := h x (by simp)
    have ih := lc_mapM l fun y hy => h y (by simp [hy])
    rw [List.map_cons, lcGo, h1]
    simp only [h2, h3, h4, ih, List.map_cons]
theorem lc_filter {α : Type} {t : Tg} {tt : State → R Bool} {ce : State → R D} {E0 : FW.Env} {S : Store} {f : α → D} {g : α → D} {p : α → Bool}
    (h : ∀ x, ∃ s1 s2 s3, asg t (f x) ⟨E0, S⟩ = some s1 ∧ tt s1 = .ok (p x) s2 ∧ s2.sto = S ∧ (p x = true → ce s2 = .ok (g x) s3 ∧ s3.sto = S)) : ∀ l : List α, lcGo t tt ce E0 (l.map f) S = some ((l.filter p).map g, S)
  | [] => rfl
  | x :: l => by
    obtain ⟨s1, s2, s3, h1, h2, h3, h4⟩ := h x
    have ih := lc_filter h l
    rw [List.map_cons, lcGo, h1]
    cases hp : p x with
    | true =>
      obtain ⟨h5, h6⟩ := h4 hp
      rw [hp] at h2
      simp only [h2, h5, h6, ih, List.filter_cons, hp, if_true, List.map_cons]
    | false =>
      rw [hp] at h2
      simp only [h2, h3, ih, List.filter_cons, hp]
      simp
theorem ints_map (l : List Int) : intsD (l.map .int) = some l := by
  induction l with
  | nil => rfl
  | cons a l ih => rw [List.map_cons]; show (intsD (l.map .int)).map _ = _; rw [ih]; rfl
@[simp] theorem sum_map (l : List Int) : sumD [.lst (l.map .int)] = some (.int l.sum) := by
  show (intsD (l.map .int)).map _ = _; rw [ints_map]; rfl
theorem sum_mapF {α : Type} (g : α → Int) (l : List α) : sumD [.lst (l.map fun x => .int (g x))] = some (.int (l.map g).sum) := by
  have : (l.map fun x => D.int (g x)) = (l.map g).map .int := by simp [List.map_map]
  rw [this, sum_map]
theorem rng1_ok {n : Int} (h0 : -(2 ^ 62) < n) (h1 : n < 2 ^ 62) : rng1 [.int n] = some (rangeL 0 n.toNat) := by
  show (if inR n = true then _ else _) = _
  rw [if_pos]; unfold inR; exact decide_eq_true (by omega)
theorem rng1_nat {n : Nat} (h : n < 1000000) : rng1 [.int (n : Int)] = some (rangeL 0 n) := by
  have := rng1_ok (n := (n : Int)) (by omega) (by omega)
  rwa [Int.toNat_natCast] at this
theorem rng1_succ {n : Nat} (h : n < 999999) : rng1 [.int ((n : Int) + 1)] = some (rangeL 0 (n + 1)) := rng1_nat (n := n + 1) (by omega)
theorem rng2_ok {m n : Int} (h0 : -(2 ^ 62) < m) (h1 : m < 2 ^ 62) (h2 : -(2 ^ 62) < n) (h3 : n < 2 ^ 62) : rng2 [.int m, .int n] = some (rangeL m (n - m).toNat) := by
  show (if (inR m && inR n) = true then _ else _) = _
  rw [if_pos]; unfold inR; rw [decide_eq_true (show m.natAbs < 2 ^ 62 by omega), decide_eq_true (show n.natAbs < 2 ^ 62 by omega)]; rfl
theorem rangeL_at {a : Int} {n i : Nat} {d : D} (h : (rangeL a n)[i]? = some d) : i < n ∧ d = .int (a + i) := by
  have hi : i < n := by
    have := (List.getElem?_eq_some_iff.mp h).1
    rw [rangeL_len] at this; exact this
  rw [rangeL_get a n i hi] at h
  exact ⟨hi, (Option.some.inj h).symm⟩
/-! ### for -/
theorem forL_cons {t : Tg} {body els : State → R Fl} {d : D} {l : List D} {st s1 s2 : State} (h1 : asg t d st = some s1) (h2 : body s1 = .ok .nx s2) : forL t body els (d :: l) st = forL t body els l s2 := by
  rw [forL, h1]; simp only [h2]
theorem forL_ret {t : Tg} {body els : State → R Fl} {d x : D} {l : List D} {st s1 s2 : State} (h1 : asg t d st = some s1) (h2 : body s1 = .ok (.rt x) s2) : forL t body els (d :: l) st = .ok (.rt x) s2 := by
  rw [forL, h1]; simp only [h2]
/-- by an invariant of the turn; a turn may return -/
theorem forL_ind {t : Tg} {body els : State → R Fl} {l : List D} (I : Nat → State → Prop) (Ret : D → State → Prop)
    (step : ∀ i d st, l[i]? = some d → I i st → ∃ s1, asg t d st = some s1 ∧ ((∃ s2, body s1 = .ok .nx s2 ∧ I (i + 1) s2) ∨ ∃ x s2, body s1 = .ok (.rt x) s2 ∧ Ret x s2)) {st : State} (h0 : I 0 st) :
    (∃ s2, forL t body els l st = els s2 ∧ I l.length s2) ∨ ∃ x s2, forL t body els l st = .ok (.rt x) s2 ∧ Ret x s2 := by
  have go : ∀ k i st, l.length - i = k → i ≤ l.length → I i st → (∃ s2, forL t body els (l.drop i) st = els s2 ∧ I l.length s2) ∨ ∃ x s2, forL t body els (l.drop i) st = .ok (.rt x) s2 ∧ Ret x s2 := by
    intro k
    induction k with
    | zero =>
      intro i st hk hi h
      have : i = l.length := by omega
      subst this
      rw [List.drop_length]
      exact .inl ⟨st, rfl, h⟩
    | succ k ih =>
      intro i st hk hi h
      have hlt : i < l.length := by omega
      obtain ⟨s1, e1, e2⟩ := step i l[i] st (List.getElem?_eq_getElem hlt) h
      rw [List.drop_eq_getElem_cons hlt]
      rcases e2 with ⟨s2, e2, h2⟩ | ⟨x, s2, e2, h2⟩
      · rw [forL_cons e1 e2]
        exact ih (i + 1) s2 (by omega) hlt h2
      · rw [forL_ret e1 e2]
        exact .inr ⟨x, s2, rfl, h2⟩
  simpa using go _ 0 st rfl (Nat.zero_le _) h0
/-- the same where no turn returns -/
theorem forL_all {t : Tg} {body els : State → R Fl} {l : List D} (I : Nat → State → Prop)
    (step : ∀ i d st, l[i]? = some d → I i st → ∃ s1 s2, asg t d st = some s1 ∧ body s1 = .ok .nx s2 ∧ I (i + 1) s2) {st : State} (h0 : I 0 st) : ∃ s2, forL t body els l st = els s2 ∧ I l.length s2 := by
  rcases forL_ind (els := els) I (fun _ _ => False) (fun i d st e h => by
    obtain ⟨s1, s2, a, b, c⟩ := step i d st e h
    exact ⟨s1, a, .inl ⟨s2, b, c⟩⟩) h0 with h | ⟨_, _, _, h⟩
  · exact h
  · exact h.elim
/-- over a list's items, by what has gone -/
theorem forL_map {α : Type} {t : Tg} {body els : State → R Fl} (f : α → D) : ∀ (l : List α) (I : List α → State → Prop) (pre : List α) {st : State},
    (∀ p x q s0, pre ++ l = p ++ x :: q → I p s0 → ∃ s1 s2, asg t (f x) s0 = some s1 ∧ body s1 = .ok .nx s2 ∧ I (p ++ [x]) s2) → I pre st → ∃ s2, forL t body els (l.map f) st = els s2 ∧ I (pre ++ l) s2
  | [], I, pre, st, _, h0 => ⟨st, rfl, by simpa using h0⟩
  | x :: r, I, pre, st, step, h0 => by
    obtain ⟨s1, s2, e1, e2, h1⟩ := step pre x r st rfl h0
    obtain ⟨s3, e3, h3⟩ := forL_map f r I (pre ++ [x]) (st := s2) (els := els) (fun p y q s0 e h => step p y q s0 (by rw [← e]; simp) h) h1
    refine ⟨s3, ?_, by simpa using h3⟩
    rw [List.map_cons, forL_cons e1 e2, e3]
theorem ixN_neg1 {n : Nat} (h : 0 < n) : ixN n (-1) = some (n - 1) := by
  unfold ixN
  rw [if_neg (by decide), if_pos (by omega)]
  congr 1; omega
theorem atI_neg1 {α : Type} {l : List α} {a : α} (h : l.getLast? = some a) : atI l (-1) = some a := by
  have hn : l ≠ [] := fun z => by rw [z] at h; cases h
  have h0 : 0 < l.length := List.length_pos_iff.mpr hn
  unfold atI
  rw [ixN_neg1 h0]
  show l[l.length - 1]? = _
  rw [← List.getLast?_eq_getElem?]; exact h
end FW

namespace FW
open PySem
/-- last_place -/
def fn_last_place : Fn := ⟨"last_place", 1, ["data", "count", "price"], (.cons (.ret (.bin .add (.ix (.var 0) (.num 0)) (.blt .sum (.cons (.fz (.lc (.seq (.ix (.var 0) (.num 2))) (.tup [(.nm 1), (.nm 2)]) .none (.var 1) [("count", 1), ("price", 2)])) .nil)))) .nil), none⟩
def fn_cost_at_b1 : Ss := (.cons (.asg (.nm 4) (.bin .add (.var 4) (.bin .mul (.var 7) (.blt .min (.cons (.var 6) (.cons (.var 2) .nil)))))) (.cons (.asg (.nm 2) (.bin .sub (.var 2) (.blt .min (.cons (.var 6) (.cons (.var 2) .nil))))) .nil))
/-- cost_at -/
def fn_cost_at : Fn := ⟨"cost_at", 2, ["data", "place", "left", "low", "cost", "steps", "count", "price"], (.cons (.asg (.tup [(.nm 3), (.nm 4), (.nm 5)]) (.var 0)) (.cons (.asg (.nm 2) (.bin .sub (.var 1) (.var 3))) (.cons (.fr (.tup [(.nm 6), (.nm 7)]) (.seq (.var 5)) fn_cost_at_b1 .nil) (.cons (.ret (.var 4)) .nil)))), none⟩
def fn_price_after_b1 : Ss := (.cons (.ifs (.cmp .lt (.var 2) (.var 3)) (.cons (.ret (.var 4)) .nil) .nil) (.cons (.asg (.nm 2) (.bin .sub (.var 2) (.var 3))) .nil))
/-- price_after -/
def fn_price_after : Fn := ⟨"price_after", 2, ["data", "place", "left", "count", "price"], (.cons (.asg (.nm 2) (.bin .sub (.var 1) (.ix (.var 0) (.num 0)))) (.cons (.fr (.tup [(.nm 3), (.nm 4)]) (.seq (.ix (.var 0) (.num 2))) fn_price_after_b1 .nil) (.cons (.ret .non) .nil))), none⟩
def fn_joined_steps_b1 : Ss := (.cons (.ifs (.and (.cmpB .ne (.slot 1) (.fz (.lst .nil))) (.cmp .eq (.ix (.ixB (.slot 1) (.neg (.num 1))) (.num 1)) (.var 3))) (.cons (.setB (.tup (.cons (.bin .add (.ix (.ixB (.slot 1) (.neg (.num 1))) (.num 0)) (.var 2)) (.cons (.var 3) .nil))) (.slot 1) (.neg (.num 1))) .nil) (.cons (.ifs (.cmp .gt (.var 2) (.num 0)) (.cons (.app (.slot 1) (.tup (.cons (.var 2) (.cons (.var 3) .nil)))) .nil) .nil) .nil)) .nil)
/-- joined_steps -/
def fn_joined_steps : Fn := ⟨"joined_steps", 1, ["steps", "found", "count", "price"], (.cons (.own 1 (.lst .nil)) (.cons (.fr (.tup [(.nm 2), (.nm 3)]) (.seq (.var 0)) fn_joined_steps_b1 .nil) (.cons (.ret (.bltB .tuple (.slot 1))) .nil))), none⟩
def fn_sharing_of_e1 : E := (.tup (.cons (.var 4) (.cons (.var 3) .nil)))
def fn_sharing_of_e2 : E := (.tup (.cons (.var 3) (.cons (.var 4) .nil)))
/-- sharing_of -/
def fn_sharing_of : Fn := ⟨"sharing_of", 2, ["one", "other", "rows", "count", "price"], (.cons (.asg (.nm 2) (.fz (.srt (.fz (.lc (.seq (.bin .add (.ix (.var 0) (.num 2)) (.ix (.var 1) (.num 2)))) (.tup [(.nm 3), (.nm 4)]) .none fn_sharing_of_e1 [("count", 3), ("price", 4)]))))) (.cons (.ret (.tup (.cons (.bin .add (.ix (.var 0) (.num 0)) (.ix (.var 1) (.num 0))) (.cons (.bin .add (.ix (.var 0) (.num 1)) (.ix (.var 1) (.num 1))) (.cons (.call 11 (.cons (.fz (.lc (.seq (.var 2)) (.tup [(.nm 4), (.nm 3)]) .none fn_sharing_of_e2 [("price", 4), ("count", 3)])) .nil)) .nil))))) .nil)), none⟩
def fn_bends_of_b1 : Ss := (.cons (.app (.slot 1) (.bin .add (.ixB (.slot 1) (.neg (.num 1))) (.var 2))) .nil)
/-- bends_of -/
def fn_bends_of : Fn := ⟨"bends_of", 1, ["data", "found", "count", "price"], (.cons (.own 1 (.lst (.cons (.ix (.var 0) (.num 0)) .nil))) (.cons (.fr (.tup [(.nm 2), (.nm 3)]) (.seq (.ix (.var 0) (.num 2))) fn_bends_of_b1 .nil) (.cons (.ret (.frz 1)) .nil))), none⟩
def fn_sum_of_c1 : C := (.ch2 .le .le (.var 4) (.var 8) (.var 5))
def fn_sum_of_b2 : Ss := (.cons (.app (.slot 3) (.tup (.cons (.bin .sub (.var 7) (.var 6)) (.cons (.bin .add (.call 9 (.cons (.var 0) (.cons (.var 6) .nil))) (.call 9 (.cons (.var 1) (.cons (.var 6) .nil)))) .nil)))) .nil)
/-- sum_of -/
def fn_sum_of : Fn := ⟨"sum_of", 2, ["one", "other", "bends", "steps", "low", "high", "begin", "end", "place"], (.cons (.asg (.tup [(.nm 4), (.nm 5)]) (.tup (.cons (.blt .max (.cons (.ix (.var 0) (.num 0)) (.cons (.ix (.var 1) (.num 0)) .nil))) (.cons (.blt .min (.cons (.call 7 (.cons (.var 0) .nil)) (.cons (.call 7 (.cons (.var 1) .nil)) .nil))) .nil)))) (.cons (.asg (.nm 2) (.fz (.ssrt (.fz (.lc (.seq (.bin .add (.bin .add (.call 14 (.cons (.var 0) .nil)) (.call 14 (.cons (.var 1) .nil))) (.fz (.lst (.cons (.var 4) (.cons (.var 5) .nil)))))) (.nm 8) (.some fn_sum_of_c1) (.var 8) [("place", 8)]))))) (.cons (.own 3 (.lst .nil)) (.cons (.fr (.tup [(.nm 6), (.nm 7)]) (.zip (.var 2) (.sl (.var 2) (.some (.num 1)) .none)) fn_sum_of_b2 .nil) (.cons (.ret (.tup (.cons (.var 4) (.cons (.bin .add (.call 8 (.cons (.var 0) (.cons (.var 4) .nil))) (.call 8 (.cons (.var 1) (.cons (.var 4) .nil)))) (.cons (.call 11 (.cons (.frz 3) .nil)) .nil))))) .nil))))), none⟩
def fn_mirror_of_e1 : E := (.tup (.cons (.var 2) (.cons (.bin .sub (.num 0) (.var 3)) .nil)))
/-- mirror_of -/
def fn_mirror_of : Fn := ⟨"mirror_of", 1, ["data", "high", "count", "price"], (.cons (.asg (.nm 1) (.call 7 (.cons (.var 0) .nil))) (.cons (.ret (.tup (.cons (.bin .sub (.num 0) (.var 1)) (.cons (.call 8 (.cons (.var 0) (.cons (.var 1) .nil))) (.cons (.blt .tuple (.cons (.fz (.lc (.seq (.rev (.ix (.var 0) (.num 2)))) (.tup [(.nm 2), (.nm 3)]) .none fn_mirror_of_e1 [("count", 2), ("price", 3)])) .nil)) .nil))))) .nil)), none⟩
/-- moved_by -/
def fn_moved_by : Fn := ⟨"moved_by", 2, ["data", "shift"], (.cons (.ret (.tup (.cons (.bin .add (.ix (.var 0) (.num 0)) (.var 1)) (.cons (.ix (.var 0) (.num 1)) (.cons (.ix (.var 0) (.num 2)) .nil))))) .nil), none⟩
def fn_stocks_after_b1 : Ss := (.cons (.asg (.nm 2) (.tup (.star (.var 2) (.cons (.bin .sub (.bin .add (.ix (.var 2) (.neg (.num 1))) (.var 3)) (.var 5)) .nil)))) .nil)
/-- stocks_after -/
def fn_stocks_after : Fn := ⟨"stocks_after", 2, ["book", "plan", "found", "units", "buy", "want", "keep"], (.cons (.asg (.nm 2) (.tup (.cons (.ix (.var 0) (.num 0)) .nil))) (.cons (.fr (.tup [(.nm 3), (.tup [(.nm 4), (.nm 5), (.nm 6)])]) (.zip (.var 1) (.ix (.var 0) (.num 1))) fn_stocks_after_b1 .nil) (.cons (.ret (.sl (.var 2) (.some (.num 1)) .none)) .nil))), none⟩
/-- end_of -/
def fn_end_of : Fn := ⟨"end_of", 2, ["data", "word"], (.cons (.ret (.ite (.cmp .eq (.var 1) (.gl 9)) (.call 7 (.cons (.var 0) .nil)) (.ix (.var 0) (.num 0)))) .nil), none⟩
def fn_is_reason_e1 : E := (.bin .sub (.call 26 (.cons (.var 9) (.cons (.var 1) .nil))) (.var 10))
/-- is_reason -/
def fn_is_reason : Fn := ⟨"is_reason", 4, ["book", "word", "first", "last", "entry", "stock", "keep", "begin", "periods", "buy", "want"], (.cons (.asg (.tup [(.nm 7), (.nm 8)]) (.var 0)) (.cons (.asg (.nm 4) (.ite (.cmp .eq (.var 2) (.num 0)) (.var 7) (.call 26 (.cons (.ix (.ix (.var 8) (.bin .sub (.var 2) (.num 1))) (.num 2)) (.cons (.var 1) .nil))))) (.cons (.asg (.nm 5) (.bin .add (.var 4) (.blt .sum (.cons (.fz (.lc (.seq (.sl (.var 8) (.some (.var 2)) (.some (.bin .add (.var 3) (.num 1))))) (.tup [(.nm 9), (.nm 10), (.nm 6)]) .none fn_is_reason_e1 [("buy", 9), ("want", 10), ("keep", 6)])) .nil)))) (.cons (.asg (.nm 6) (.ix (.ix (.var 8) (.var 3)) (.num 2))) (.cons (.ret (.ite (.cmp .eq (.var 1) (.gl 9)) (.cmp .lt (.var 5) (.ix (.var 6) (.num 0))) (.cmp .gt (.var 5) (.call 7 (.cons (.var 6) .nil))))) .nil))))), none⟩
def fn_find_reason_b1 : Ss := (.cons (.ifs (.tru (.call 27 (.cons (.var 0) (.cons (.var 3) (.cons (.var 2) (.cons (.var 1) .nil)))))) (.cons (.ret (.tup (.cons (.var 3) (.cons (.var 2) (.cons (.var 1) .nil))))) .nil) .nil) .nil)
def fn_find_reason_b2 : Ss := (.cons (.fr (.nm 3) (.seq (.tup (.cons (.gl 9) (.cons (.gl 10) .nil)))) fn_find_reason_b1 .nil) .nil)
def fn_find_reason_b3 : Ss := (.cons (.fr (.nm 2) (.rng1 (.bin .add (.var 1) (.num 1))) fn_find_reason_b2 .nil) .nil)
/-- find_reason -/
def fn_find_reason : Fn := ⟨"find_reason", 1, ["book", "last", "first", "word"], (.cons (.fr (.nm 1) (.rng1 (.blt .len (.cons (.ix (.var 0) (.num 1)) .nil))) fn_find_reason_b3 .nil) (.cons (.ret .non) .nil)), none⟩
/-- check_way -/
def fn_check_way : Fn := ⟨"check_way", 1, ["book", "reason"], (.cons (.ifw 1 false (.call 28 (.cons (.var 0) .nil)) (.cons .hole .nil) .nil) .nil), none⟩
def fn_best_of_b1 : Ss := (.cons (.ifs (.cmp .lt (.var 5) (.var 1)) (.cons (.asg (.nm 2) (.bin .add (.var 2) (.var 4))) .nil) .nil) (.cons (.ifs (.cmp .le (.var 5) (.var 1)) (.cons (.asg (.nm 3) (.bin .add (.var 3) (.var 4))) .nil) .nil) .nil))
/-- best_of -/
def fn_best_of : Fn := ⟨"best_of", 2, ["data", "price", "first", "last", "count", "own"], (.cons (.par [2, 3] (.v (.ix (.var 0) (.num 0)) (.v (.ix (.var 0) (.num 0)) .nil))) (.cons (.fr (.tup [(.nm 4), (.nm 5)]) (.seq (.ix (.var 0) (.num 2))) fn_best_of_b1 .nil) (.cons (.ret (.tup (.cons (.var 2) (.cons (.var 3) .nil)))) .nil))), none⟩
/-- gain_of -/
def fn_gain_of : Fn := ⟨"gain_of", 2, ["data", "price", "place"], (.cons (.asg (.nm 2) (.ix (.call 30 (.cons (.var 0) (.cons (.var 1) .nil))) (.num 0))) (.cons (.ret (.bin .sub (.bin .mul (.var 1) (.var 2)) (.call 8 (.cons (.var 0) (.cons (.var 2) .nil))))) .nil)), none⟩
def fn_costs_so_far_b1 : Ss := (.cons (.app (.slot 1) (.call 15 (.cons (.call 17 (.cons (.call 12 (.cons (.ixB (.slot 1) (.neg (.num 1))) (.cons (.var 4) .nil))) (.cons (.bin .sub (.num 0) (.var 5)) .nil))) (.cons (.var 6) .nil)))) .nil)
/-- costs_so_far -/
def fn_costs_so_far : Fn := ⟨"costs_so_far", 1, ["book", "found", "begin", "periods", "buy", "want", "keep"], (.cons (.asg (.tup [(.nm 2), (.nm 3)]) (.var 0)) (.cons (.own 1 (.lst (.cons (.tup (.cons (.var 2) (.cons (.num 0) (.cons (.tup .nil) .nil)))) .nil))) (.cons (.fr (.tup [(.nm 4), (.nm 5), (.nm 6)]) (.seq (.var 3)) fn_costs_so_far_b1 .nil) (.cons (.ret (.frz 1)) .nil)))), none⟩
def fn_costs_to_go_b1 : Ss := (.cons (.app (.slot 1) (.ite (.cmp .is (.var 2) .non) (.var 5) (.call 15 (.cons (.var 5) (.cons (.var 2) .nil))))) (.cons (.asg (.nm 2) (.call 12 (.cons (.call 17 (.cons (.ixB (.slot 1) (.neg (.num 1))) (.cons (.var 4) .nil))) (.cons (.call 16 (.cons (.var 3) .nil)) .nil)))) .nil))
/-- costs_to_go -/
def fn_costs_to_go : Fn := ⟨"costs_to_go", 1, ["book", "found", "later", "buy", "want", "keep"], (.cons (.par [1, 2] (.f (.lst .nil) (.v .non .nil))) (.cons (.fr (.tup [(.nm 3), (.nm 4), (.nm 5)]) (.seq (.rev (.ix (.var 0) (.num 1)))) fn_costs_to_go_b1 .nil) (.cons (.ret (.rev (.frz 1))) .nil))), none⟩
/-- units_at -/
def fn_units_at : Fn := ⟨"units_at", 4, ["book", "rest", "index", "stock", "buy", "want", "keep"], (.cons (.asg (.tup [(.nm 4), (.nm 5), (.nm 6)]) (.ix (.ix (.var 0) (.num 1)) (.var 2))) (.cons (.ret (.call 30 (.cons (.call 15 (.cons (.var 4) (.cons (.call 17 (.cons (.ix (.var 1) (.var 2)) (.cons (.bin .sub (.var 5) (.var 3)) .nil))) .nil))) (.cons (.num 0) .nil)))) .nil)), none⟩
def fn_plan_from_b1 : Ss := (.cons (.asg (.nm 7) (.ix (.tup (.cons (.var 5) (.star (.call 24 (.cons (.var 0) (.cons (.var 3) .nil))) .nil))) (.neg (.num 1)))) (.cons (.asg (.nm 3) (.tup (.star (.var 3) (.cons (.ix (.call 295 (.cons (.var 0) (.cons (.var 1) (.cons (.var 4) (.cons (.var 7) .nil))))) (.num 0)) .nil)))) .nil))
/-- plan_from -/
def fn_plan_from : Fn := ⟨"plan_from", 3, ["book", "rest", "begun", "plan", "index", "begin", "periods", "stock"], (.cons (.asg (.tup [(.nm 5), (.nm 6)]) (.var 0)) (.cons (.asg (.nm 3) (.var 2)) (.cons (.fr (.nm 4) (.rng2 (.blt .len (.cons (.var 2) .nil)) (.blt .len (.cons (.var 6) .nil))) fn_plan_from_b1 .nil) (.cons (.ret (.var 3)) .nil)))), none⟩
/-- lowest_cost -/
def fn_lowest_cost : Fn := ⟨"lowest_cost", 1, ["book"], (.cons (.ret (.bin .sub (.num 0) (.call 31 (.cons (.ix (.call 32 (.cons (.var 0) .nil)) (.neg (.num 1))) (.cons (.num 0) .nil))))) .nil), none⟩
/-- least_cost -/
def fn_least_cost : Fn := ⟨"least_cost", 1, ["book"], (.cons (.expr (.call 29 (.cons (.var 0) .nil))) (.cons (.ret (.call 33 (.cons (.var 0) .nil))) .nil)), none⟩
/-- best_plan -/
def fn_best_plan : Fn := ⟨"best_plan", 1, ["book"], (.cons (.expr (.call 29 (.cons (.var 0) .nil))) (.cons (.ret (.call 296 (.cons (.var 0) (.cons (.call 294 (.cons (.var 0) .nil)) (.cons (.tup .nil) .nil))))) .nil)), none⟩
def fn_plan_ranges_b1 : Ss := (.cons (.asg (.nm 5) (.call 12 (.cons (.call 17 (.cons (.ix (.var 2) (.var 4)) (.cons (.var 7) .nil))) (.cons (.call 16 (.cons (.ix (.var 1) (.var 4)) .nil)) .nil)))) (.cons (.app (.slot 3) (.call 30 (.cons (.call 15 (.cons (.var 6) (.cons (.var 5) .nil))) (.cons (.num 0) .nil)))) .nil))
/-- plan_ranges -/
def fn_plan_ranges : Fn := ⟨"plan_ranges", 1, ["book", "before", "rest", "found", "index", "others", "buy", "want", "keep"], (.cons (.expr (.call 29 (.cons (.var 0) .nil))) (.cons (.par [1, 2, 3] (.v (.call 32 (.cons (.var 0) .nil)) (.v (.call 294 (.cons (.var 0) .nil)) (.f (.lst .nil) .nil)))) (.cons (.fr (.tup [(.nm 4), (.tup [(.nm 6), (.nm 7), (.nm 8)])]) (.enum (.ix (.var 0) (.num 1))) fn_plan_ranges_b1 .nil) (.cons (.ret (.bltB .tuple (.slot 3))) .nil)))), none⟩
def fn_law_deck_c1 : C := (.cmp .ge (.blt .abs (.cons (.var 3) .nil)) (.bin .pow (.num 10) (.num 18)))
def fn_law_deck_e2 : E := (.blt .abs (.cons (.var 3) .nil))
def fn_law_deck_c3 : C := (.cmp .lt (.blt .abs (.cons (.var 3) .nil)) (.bin .pow (.num 10) (.num 18)))
def fn_law_deck_e4 : E := (.blt .abs (.cons (.var 3) .nil))
/-- law_deck -/
def fn_law_deck : Fn := ⟨"_law_deck", 1, ["_law_script", "_law_great_here", "_law_small", "_law_cell"], (.cons (.asg (.nm 1) (.new (.lc (.seq (.sl (.var 0) .none (.some (.num 63)))) (.nm 3) (.some fn_law_deck_c1) fn_law_deck_e2 [("_law_cell", 3)]))) (.cons (.asg (.nm 2) (.fz (.lc (.seq (.sl (.var 0) .none (.some (.num 63)))) (.nm 3) (.some fn_law_deck_c3) fn_law_deck_e4 [("_law_cell", 3)]))) (.cons (.ret (.new (.lst (.cons (.var 1) (.cons (.bin .add (.var 2) (.bin .mul (.fz (.lst (.cons (.bin .add (.blt .len (.cons (.var 0) .nil)) (.num 29)) .nil))) (.blt .int (.cons (.cmp .eq (.var 2) (.fz (.lst .nil))) .nil)))) (.cons (.num 0) .nil)))))) .nil))), none⟩
def fn_law_next_c1 : C := (.cmpB .ne (.ref (.ixB (.ref (.var 0)) (.num 0))) (.fz (.lst .nil)))
def fn_law_next_b2 : Ss := (.cons (.asg (.nm 2) (.ixB (.ref (.ixB (.ref (.var 0)) (.num 0))) (.num 0))) (.cons (.ifs (.cmp .gt (.var 2) (.num 0)) (.cons (.setB (.bin .fdiv (.var 2) (.var 1)) (.ref (.ixB (.ref (.var 0)) (.num 0))) (.num 0)) (.cons (.ret (.bin .mod (.var 2) (.var 1))) .nil)) .nil) (.cons (.expr (.popB (.ref (.ixB (.ref (.var 0)) (.num 0))) (.num 0))) .nil)))
/-- law_next -/
def fn_law_next : Fn := ⟨"_law_next", 2, ["_law_deck_here", "_law_many", "_law_cell", "_law_pick"], (.cons (.setB (.bin .add (.ixB (.ref (.var 0)) (.num 2)) (.num 1)) (.ref (.var 0)) (.num 2)) (.cons (.whl fn_law_next_c1 fn_law_next_b2) (.cons (.asg (.nm 2) (.bin .mod (.ix (.ixB (.ref (.var 0)) (.num 1)) (.bin .mod (.ixB (.ref (.var 0)) (.num 2)) (.blt .len (.cons (.ixB (.ref (.var 0)) (.num 1)) .nil)))) (.num 2147483629))) (.cons (.asg (.nm 3) (.bin .add (.bin .add (.bin .mul (.var 2) (.bin .add (.num 16807) (.bin .mul (.num 39373) (.ixB (.ref (.var 0)) (.num 2))))) (.bin .mul (.bin .mul (.num 40692) (.ixB (.ref (.var 0)) (.num 2))) (.ixB (.ref (.var 0)) (.num 2)))) (.num 59))) (.cons (.asg (.nm 3) (.bin .add (.bin .mod (.bin .mul (.var 3) (.var 3)) (.num 2305843009213693951)) (.bin .mul (.num 69621) (.ixB (.ref (.var 0)) (.num 2))))) (.cons (.ret (.bin .mod (.bin .fdiv (.bin .mod (.bin .mul (.var 3) (.var 3)) (.num 2305843009213693951)) (.num 4099)) (.var 1))) .nil)))))), none⟩
/-- law_one -/
def fn_law_one : Fn := ⟨"_law_one", 2, ["_law_deck_here", "_law_items"], (.cons (.ret (.ix (.var 1) (.call 37 (.cons (.var 0) (.cons (.blt .len (.cons (.var 1) .nil)) .nil))))) .nil), none⟩
/-- law_whole -/
def fn_law_whole : Fn := ⟨"_law_whole", 1, ["_law_value"], (.cons (.ret (.andv (.isi (.var 0) [.int]) (.notv (.isi (.var 0) [.bool])))) .nil), none⟩
/-- law_great -/
def fn_law_great : Fn := ⟨"_law_great", 1, ["_law_deck_here"], (.cons (.ret (.ix (.fz (.lst (.cons (.num 1) (.cons (.num 2) (.cons (.num 5) (.cons (.bin .pow (.num 10) (.num 10)) .nil)))))) (.call 37 (.cons (.var 0) (.cons (.num 4) .nil))))) .nil), none⟩
def fn_law_steps_b1 : Ss := (.cons (.app (.slot 4) (.tup (.cons (.bin .add (.num 1) (.call 37 (.cons (.var 0) (.cons (.var 1) .nil)))) (.cons (.var 5) .nil)))) (.cons (.asg (.nm 5) (.bin .add (.bin .add (.var 5) (.num 1)) (.call 37 (.cons (.var 0) (.cons (.num 4) .nil))))) .nil))
/-- law_steps -/
def fn_law_steps : Fn := ⟨"_law_steps", 3, ["_law_deck_here", "_law_great_here", "_law_most", "_law_k", "_law_found", "_law_price"], (.cons (.par [4, 5] (.f (.lst .nil) (.v (.bin .sub (.call 37 (.cons (.var 0) (.cons (.num 13) .nil))) (.num 8)) .nil))) (.cons (.fr (.nm 3) (.rng1 (.call 37 (.cons (.var 0) (.cons (.bin .add (.var 2) (.num 1)) .nil)))) fn_law_steps_b1 .nil) (.cons (.ret (.bltB .tuple (.slot 4))) .nil))), none⟩
/-- law_units -/
def fn_law_units : Fn := ⟨"_law_units", 1, ["_law_steps_here", "_law_count", "_law_price"], (.cons (.ret (.blt .sum (.cons (.fz (.lc (.seq (.var 0)) (.tup [(.nm 1), (.nm 2)]) .none (.var 1) [("_law_count", 1), ("_law_price", 2)])) .nil))) .nil), none⟩
/-- law_data -/
def fn_law_data : Fn := ⟨"_law_data", 3, ["_law_deck_here", "_law_great_here", "_law_most", "_law_steps_here"], (.cons (.asg (.nm 3) (.call 49 (.cons (.var 0) (.cons (.var 1) (.cons (.var 2) .nil))))) (.cons (.ret (.tup (.cons (.bin .sub (.call 37 (.cons (.var 0) (.cons (.bin .add (.bin .mul (.num 2) (.var 1)) (.num 1)) .nil))) (.var 1)) (.cons (.bin .sub (.call 37 (.cons (.var 0) (.cons (.num 41) .nil))) (.num 20)) (.cons (.var 3) .nil))))) .nil)), none⟩
/-- law_last -/
def fn_law_last : Fn := ⟨"_law_last", 1, ["_law_data_here"], (.cons (.ret (.bin .add (.ix (.var 0) (.num 0)) (.call 50 (.cons (.ix (.var 0) (.num 2)) .nil)))) .nil), none⟩
def fn_law_cost_b1 : Ss := (.cons (.asg (.nm 2) (.bin .add (.var 2) (.bin .mul (.var 5) (.blt .max (.cons (.num 0) (.cons (.blt .min (.cons (.var 4) (.cons (.bin .sub (.var 1) (.var 3)) .nil))) .nil)))))) (.cons (.asg (.nm 3) (.bin .add (.var 3) (.var 4))) .nil))
/-- law_cost -/
def fn_law_cost : Fn := ⟨"_law_cost", 2, ["_law_data_here", "_law_place", "_law_cost_here", "_law_begin", "_law_count", "_law_price"], (.cons (.par [2, 3] (.v (.ix (.var 0) (.num 1)) (.v (.ix (.var 0) (.num 0)) .nil))) (.cons (.fr (.tup [(.nm 4), (.nm 5)]) (.seq (.ix (.var 0) (.num 2))) fn_law_cost_b1 .nil) (.cons (.ret (.var 2)) .nil))), none⟩
/-- law_is_place -/
def fn_law_is_place : Fn := ⟨"_law_is_place", 2, ["_law_data_here", "_law_value"], (.cons (.ret (.andv (.call 45 (.cons (.var 1) .nil)) (.ch2 .le .le (.ix (.var 0) (.num 0)) (.var 1) (.call 52 (.cons (.var 0) .nil))))) .nil), none⟩
/-- law_around -/
def fn_law_around : Fn := ⟨"_law_around", 4, ["_law_deck_here", "_law_great_here", "_law_stock", "_law_way", "_law_steps_here", "_law_units_here", "_law_low"], (.cons (.asg (.nm 4) (.call 49 (.cons (.var 0) (.cons (.var 1) (.cons (.num 3) .nil))))) (.cons (.asg (.nm 5) (.call 50 (.cons (.var 4) .nil))) (.cons (.asg (.nm 6) (.bin .sub (.var 2) (.call 37 (.cons (.var 0) (.cons (.bin .add (.var 5) (.num 1)) .nil))))) (.cons (.ifs (.cmp .eq (.var 3) (.num 0)) (.cons (.asg (.nm 6) (.call 38 (.cons (.var 0) (.cons (.fz (.lst (.cons (.bin .add (.bin .add (.var 2) (.num 1)) (.call 37 (.cons (.var 0) (.cons (.var 1) .nil)))) (.cons (.bin .sub (.bin .sub (.bin .sub (.var 2) (.var 5)) (.num 1)) (.call 37 (.cons (.var 0) (.cons (.var 1) .nil)))) .nil)))) .nil)))) .nil) .nil) (.cons (.ret (.tup (.cons (.var 6) (.cons (.bin .sub (.call 37 (.cons (.var 0) (.cons (.num 21) .nil))) (.num 10)) (.cons (.var 4) .nil))))) .nil))))), none⟩
def fn_law_book_b1 : Ss := (.cons (.par [9, 10] (.v (.call 51 (.cons (.var 0) (.cons (.var 1) (.cons (.num 3) .nil)))) (.v (.bin .sub (.call 37 (.cons (.var 0) (.cons (.bin .add (.bin .mul (.num 2) (.var 1)) (.num 2)) .nil))) (.bin .fdiv (.var 1) (.num 2))) .nil))) (.cons (.asg (.nm 4) (.bin .sub (.bin .add (.bin .add (.var 4) (.ix (.var 9) (.num 0))) (.call 37 (.cons (.var 0) (.cons (.bin .add (.call 50 (.cons (.ix (.var 9) (.num 2)) .nil)) (.num 1)) .nil)))) (.var 10))) (.cons (.asg (.nm 8) (.call 255 (.cons (.var 0) (.cons (.var 1) (.cons (.var 4) (.cons (.ite (.tru (.var 3)) (.num 1) (.call 37 (.cons (.var 0) (.cons (.num 9) .nil)))) .nil)))))) (.cons (.app (.slot 7) (.tup (.cons (.var 9) (.cons (.var 10) (.cons (.var 8) .nil))))) .nil))))
/-- law_book -/
def fn_law_book : Fn := ⟨"_law_book", 4, ["_law_deck_here", "_law_great_here", "_law_most", "_law_safe", "_law_stock", "_law_k", "_law_begin", "_law_found", "_law_keep", "_law_buy", "_law_want"], (.cons (.par [6, 7] (.v (.bin .sub (.call 37 (.cons (.var 0) (.cons (.bin .add (.bin .mul (.num 2) (.var 1)) (.num 1)) .nil))) (.var 1)) (.f (.lst .nil) .nil))) (.cons (.asg (.nm 4) (.var 6)) (.cons (.fr (.nm 5) (.rng1 (.bin .add (.num 1) (.call 37 (.cons (.var 0) (.cons (.var 2) .nil))))) fn_law_book_b1 .nil) (.cons (.ret (.tup (.cons (.var 6) (.cons (.bltB .tuple (.slot 7)) .nil)))) .nil)))), none⟩
/-- law_with_period -/
def fn_law_with_period : Fn := ⟨"_law_with_period", 3, ["_law_book_here", "_law_k", "_law_period"], (.cons (.ret (.tup (.cons (.ix (.var 0) (.num 0)) (.cons (.bin .add (.bin .add (.sl (.ix (.var 0) (.num 1)) .none (.some (.var 1))) (.tup (.cons (.var 2) .nil))) (.sl (.ix (.var 0) (.num 1)) (.some (.bin .add (.var 1) (.num 1))) .none)) .nil)))) .nil), none⟩
/-- law_fixed_v3 -/
def fn_law_fixed_v3 : Fn := ⟨"_law_fixed", 3, ["_law_book_here", "_law_k", "_law_units_here", "_law_buy", "_law_want", "_law_keep"], (.cons (.asg (.tup [(.nm 3), (.nm 4), (.nm 5)]) (.ix (.ix (.var 0) (.num 1)) (.var 1))) (.cons (.ret (.call 562 (.cons (.var 0) (.cons (.var 1) (.cons (.tup (.cons (.tup (.cons (.var 2) (.cons (.call 60 (.cons (.var 3) (.cons (.var 2) .nil))) (.cons (.tup .nil) .nil)))) (.cons (.var 4) (.cons (.var 5) .nil)))) .nil))))) .nil)), none⟩
/-- law_is_dearer -/
def fn_law_is_dearer : Fn := ⟨"_law_is_dearer", 4, ["_law_book_here", "_law_k", "_law_units_here", "_law_least", "_law_fixed_here"], (.cons (.ifs (.not (.tru (.call 62 (.cons (.ix (.ix (.ix (.var 0) (.num 1)) (.var 1)) (.num 0)) (.cons (.var 2) .nil))))) (.cons (.ret (.bl true)) .nil) .nil) (.cons (.asg (.nm 4) (.call 570 (.cons (.var 0) (.cons (.var 1) (.cons (.var 2) .nil))))) (.cons (.ret (.orv (.cmp .isnt (.call 28 (.cons (.var 4) .nil)) .non) (.cmp .gt (.call 34 (.cons (.var 4) .nil)) (.var 3)))) .nil))), none⟩
def fn_law_k81_b1 : Ss := (.cons (.asg (.nm 11) (.call 570 (.cons (.var 3) (.cons (.var 5) (.cons (.var 8) .nil))))) (.cons (.ifs (.or (.cmp .isnt (.call 28 (.cons (.var 11) .nil)) .non) (.or (.cmp .ne (.call 34 (.cons (.var 11) .nil)) (.var 6)) (.cmp .ne (.ix (.call 297 (.cons (.var 11) .nil)) (.var 5)) (.var 8)))) (.cons (.ret (.bl false)) .nil) .nil) .nil))
def fn_law_k81_b2 : Ss := (.cons (.fr (.nm 8) (.seq (.fz (.lst (.cons (.var 9) (.cons (.var 10) (.cons (.bin .add (.var 9) (.bin .fdiv (.bin .sub (.var 10) (.var 9)) (.num 2))) (.cons (.bin .add (.var 9) (.call 37 (.cons (.var 1) (.cons (.bin .add (.bin .sub (.var 10) (.var 9)) (.num 1)) .nil)))) .nil))))))) fn_law_k81_b1 .nil) (.cons (.ifs (.or (.not (.tru (.call 571 (.cons (.var 3) (.cons (.var 5) (.cons (.bin .sub (.var 9) (.num 1)) (.cons (.var 6) .nil))))))) (.not (.tru (.call 571 (.cons (.var 3) (.cons (.var 5) (.cons (.bin .add (.var 10) (.num 1)) (.cons (.var 6) .nil)))))))) (.cons (.ret (.bl false)) .nil) .nil) .nil))
def fn_law_k81_b3 : Ss := (.cons (.asg (.nm 4) (.call 570 (.cons (.var 4) (.cons (.var 5) (.cons (.ix (.ix (.call 340 (.cons (.var 4) .nil)) (.var 5)) (.num 0)) .nil))))) .nil)
def fn_law_k81_b4 : Ss := (.cons (.asg (.nm 3) (.call 256 (.cons (.var 1) (.cons (.call 48 (.cons (.var 1) .nil)) (.cons (.num 5) (.cons (.bl true) .nil)))))) (.cons (.par [6, 7] (.v (.call 34 (.cons (.var 3) .nil)) (.v (.call 340 (.cons (.var 3) .nil)) .nil))) (.cons (.fr (.tup [(.nm 5), (.tup [(.nm 9), (.nm 10)])]) (.enum (.var 7)) fn_law_k81_b2 .nil) (.cons (.ifs (.cmp .ne (.ix (.var 7) (.num 0)) (.tup (.cons (.ix (.call 297 (.cons (.var 3) .nil)) (.num 0)) (.cons (.ix (.ix (.var 7) (.num 0)) (.num 1)) .nil)))) (.cons (.ret (.bl false)) .nil) .nil) (.cons (.asg (.nm 4) (.var 3)) (.cons (.fr (.nm 5) (.rng1 (.blt .len (.cons (.ix (.var 3) (.num 1)) .nil))) fn_law_k81_b3 .nil) (.cons (.ifs (.or (.cmp .ne (.call 297 (.cons (.var 4) .nil)) (.call 297 (.cons (.var 3) .nil))) (.cmp .ne (.call 34 (.cons (.var 4) .nil)) (.var 6))) (.cons (.ret (.bl false)) .nil) .nil) .nil)))))))
/-- law_k81 -/
def fn_law_k81 : Fn := ⟨"law", 1, ["_law_script", "_law_deck_here", "_law_turn", "_law_book_here", "_law_chain", "_law_k", "_law_least", "_law_ranges", "_law_units_here", "_law_low", "_law_high", "_law_fixed_here"], (.cons (.asg (.nm 1) (.call 36 (.cons (.var 0) .nil))) (.cons (.fr (.nm 2) (.rng1 (.num 5)) fn_law_k81_b4 .nil) (.cons (.ret (.bl true)) .nil))), none⟩
end FW

namespace FW
open PySem PySem.Spec PyProof.Rows L2
def P : List (Nat × Fn) := [(7, fn_last_place), (8, fn_cost_at), (9, fn_price_after), (11, fn_joined_steps), (12, fn_sharing_of), (14, fn_bends_of), (15, fn_sum_of), (16, fn_mirror_of), (17, fn_moved_by), (24, fn_stocks_after), (26, fn_end_of), (27, fn_is_reason), (28, fn_find_reason), (29, fn_check_way), (30, fn_best_of), (31, fn_gain_of), (32, fn_costs_so_far), (294, fn_costs_to_go), (295, fn_units_at), (296, fn_plan_from), (33, fn_lowest_cost), (34, fn_least_cost), (297, fn_best_plan), (340, fn_plan_ranges), (36, fn_law_deck), (37, fn_law_next), (38, fn_law_one), (45, fn_law_whole), (48, fn_law_great), (49, fn_law_steps)] ++ [(50, fn_law_units), (51, fn_law_data), (52, fn_law_last), (60, fn_law_cost), (62, fn_law_is_place), (255, fn_law_around), (256, fn_law_book), (562, fn_law_with_period), (570, fn_law_fixed_v3), (571, fn_law_is_dearer), (572, fn_law_k81)]
def gvs : List (Nat × D) := [(9, .str "short"), (10, .str "over")]
def gv (k : Nat) : D := (gvs.lookup k).getD .non
def cls : CDs := []
end FW

namespace FW
open PySem PySem.Spec PyProof.Rows L2
def top (i : Nat) : Stmt := PySem.Challenge.pw_dearcurves_k81_whole_numbers_between.main.body.getD i (.Pass ⟨0, 0, 0, 0⟩)
def txOf (i : Nat) : Tx := ⟨defArgs (top i), defBody (top i), defScope (top i)⟩
def txM (i j : Nat) : Tx := ⟨defArgs (inCls (top i) j), defBody (inCls (top i) j), defScope (inCls (top i) j)⟩
def tx : List Tx := [txOf 4, txOf 5, txOf 6, txOf 7, txOf 8, txOf 9, txOf 10, txOf 11, txOf 12, txOf 16, txOf 17, txOf 18, txOf 19, txOf 20, txOf 22, txOf 23, txOf 25, txOf 26, txOf 27, txOf 28, txOf 29, txOf 30, txOf 31, txOf 32, txOf 34, txOf 35, txOf 36, txOf 37, txOf 38, txOf 39] ++ [txOf 40, txOf 41, txOf 42, txOf 43, txOf 44, txOf 45, txOf 46, txOf 47, txOf 48, txOf 49, txOf 50]
def tb : Tb := ⟨[("SHORT", 9), ("OVER", 10)], ([("last_place", 7), ("cost_at", 8), ("price_after", 9), ("joined_steps", 11), ("sharing_of", 12), ("bends_of", 14), ("sum_of", 15), ("mirror_of", 16), ("moved_by", 17), ("stocks_after", 24), ("end_of", 26), ("is_reason", 27), ("find_reason", 28), ("check_way", 29), ("best_of", 30), ("gain_of", 31), ("costs_so_far", 32), ("costs_to_go", 294), ("units_at", 295), ("plan_from", 296), ("lowest_cost", 33), ("least_cost", 34), ("best_plan", 297), ("plan_ranges", 340), ("_law_deck", 36), ("_law_next", 37), ("_law_one", 38), ("_law_whole", 45), ("_law_great", 48), ("_law_steps", 49)] : List (Str × Nat)) ++ ([("_law_units", 50), ("_law_data", 51), ("_law_last", 52), ("_law_cost", 60), ("_law_is_place", 62), ("_law_around", 255), ("_law_book", 256), ("_law_with_period", 562), ("_law_fixed", 570), ("_law_is_dearer", 571), ("law", 572)] : List (Str × Nat)), ["abs", "bool", "enumerate", "int", "isinstance", "len", "max", "min", "range", "set", "sorted", "sum", "tuple", "zip"], [(7, 1), (8, 2), (9, 2), (11, 1), (12, 2), (14, 1), (15, 2), (16, 1), (17, 2), (24, 2), (26, 2), (27, 4), (28, 1), (29, 1), (30, 2), (31, 2), (32, 1), (294, 1), (295, 4), (296, 3), (33, 1), (34, 1), (297, 1), (340, 1), (36, 1), (37, 2), (38, 2), (45, 1), (48, 1), (49, 3)] ++ [(50, 1), (51, 3), (52, 1), (60, 2), (62, 2), (255, 4), (256, 4), (562, 3), (570, 3), (571, 4), (572, 1)], cls, []⟩
theorem ck : (List.zipWith (fun p t => chkFn tb p.2 t) P tx).all id = true := by kernel_rfl
theorem ct : chkTb tb P = true := by kernel_rfl
abbrev Rw : PySem.W.OpenRow := PySem.W.OpenLaw.row PySem.Challenge.rw_dearcurves_k81_whole_numbers_between
abbrev hk : PySem.W.Hook := hookF 6 (ckK P tb gv) P (vals P tx)
def ob (s : PySem.W.SharedT) : Al := obsG 6 (ckK P tb gv) P (HandSHeadRun.getT s)
theorem ob_eq (s : PySem.W.SharedT) : ob s = hk.obs s.abs := obsG_eq (vs := vals P tx) (HandSHeadRun.getT_eq s)
def loose : List Str := (["CurveError", "NoWay", "last_place", "cost_at", "price_after", "joined_steps", "sharing_of", "bends_of", "sum_of", "mirror_of", "moved_by", "SHORT", "OVER", "stocks_after", "end_of", "is_reason", "find_reason", "check_way", "best_of", "gain_of", "costs_so_far", "costs_to_go", "units_at", "plan_from", "lowest_cost", "least_cost", "best_plan", "plan_ranges", "_law_deck", "_law_next"] : List Str) ++ (["_law_one", "_law_whole", "_law_great", "_law_steps", "_law_units", "_law_data", "_law_last", "_law_cost", "_law_is_place", "_law_around", "_law_book", "_law_with_period", "_law_fixed", "_law_is_dearer"] : List Str)
theorem run (w : World) : HandSHeadRun.RunEq Rw (PySem.W.view Rw.prog [50]) hk ob 6000 loose w := by
  intro os
  kernel_rfl
end FW

/-! PlC: calls within the law's own table. -/
namespace FW
open PySem L2
abbrev WF : Nat := 1000000
noncomputable def Vk (k : Nat) : Ev := ⟨callF P gv WF cls k, gv, WF, cls⟩
@[simp] theorem Vk_gv {k : Nat} : (Vk k).gv = gv := rfl
@[simp] theorem Vk_wf {k : Nat} : (Vk k).wf = WF := rfl
@[simp] theorem Vk_cl {k : Nat} : (Vk k).cl = cls := rfl
noncomputable def call (k i : Nat) (ds : List D) (S : Store) : R D := (callF P gv WF cls k i ds S).back []
@[simp] theorem ev_callV {k i : Nat} {es : Es} {st : State} : evE (Vk k) (.call i es) st = (evEs (Vk k) es st).bind fun ds s => (call k i ds s.sto).back s.env := by
  rw [ev_call]
  cases evEs (Vk k) es st with
  | ok ds s =>
    simp only [R.bind_ok]
    show (match callF P gv WF cls k i ds s.sto with
      | .ok d s' => _
      | .exc e s' => _
      | .bad => _) = ((callF P gv WF cls k i ds s.sto).back []).back s.env
    cases callF P gv WF cls k i ds s.sto <;> rfl
  | exc _ _ => rfl
  | bad => rfl
theorem call_def {k i : Nat} {ds : List D} {S : Store} (f : Fn) (h : P.lookup i = some f) (hl : ds.length = f.np) : call (k + 1) i ds S = (fin (evSs (Vk k) f.body ⟨argsEnv f.N.length ds, S⟩)).back [] := by
  unfold call; rw [call_of h hl]; rfl
theorem call_eq {k i : Nat} {ds : List D} {S : Store} {d : D} {s : State} (f : Fn) (h : P.lookup i = some f) (hl : ds.length = f.np) (e : fin (evSs (Vk k) f.body ⟨argsEnv f.N.length ds, S⟩) = .ok d s) : call (k + 1) i ds S = .ok d ⟨[], s.sto⟩ := by
  rw [call_def f h hl, e]; rfl
end FW

/-! PlDeck: the drawn numbers. -/
namespace FW
open PySem L2
/-- the deck in the store: its counter at most c -/
def Deck (c : Nat) (S : Store) : Prop := ∃ (gs sm : List Int) (n : Nat), S = [.lst (gs.map .int), .lst [.ref 0, .lst (sm.map .int), .int n]] ∧ sm ≠ [] ∧ n ≤ c ∧ gs.length ≤ 63
theorem Deck.mono {c c' : Nat} {S : Store} (h : Deck c S) (l : c ≤ c') : Deck c' S := by
  obtain ⟨gs, sm, n, h1, h2, h3, h4⟩ := h
  exact ⟨gs, sm, n, h1, h2, Nat.le_trans h3 l, h4⟩
section
variable {k : Nat}
theorem fdiv_ii {a m : Int} (hm : 0 < m) (hm2 : m < 2 ^ 1000) : fdivD (.int a) (.int m) = some (.int (a / m)) := by show gd _ _ = _; rw [decide_eq_true hm, decide_eq_true (show m.natAbs < 2 ^ 1000 by omega)]; rfl
theorem mod_ii {a m : Int} (hm : 0 < m) : modD (.int a) (.int m) = some (.int (a % m)) := by show gd _ _ = _; rw [decide_eq_true hm]; rfl
/-- the while of _law_next -/
theorem next_while {V : Ev} {m : Int} (hm : 0 < m) (hm2 : m < 2 ^ 1000) (sm : List Int) (n : Int) : ∀ (gs : List Int) (w : Nat) (x y : Slot), gs.length < w → gs.length ≤ 63 →
    (∃ (r : Int) (gs' : List Int) (E : FW.Env), cWhile (evC V fn_law_next_c1) (evSs V fn_law_next_b2) w ⟨[.val (.ref 1), .val (.int m), x, y], [.lst (gs.map .int), .lst [.ref 0, .lst (sm.map .int), .int n]]⟩ = .ok (.rt (.int r)) ⟨E, [.lst (gs'.map .int), .lst [.ref 0, .lst (sm.map .int), .int n]]⟩ ∧ 0 ≤ r ∧ r < m ∧ gs'.length ≤ gs.length) ∨
    (∃ x', cWhile (evC V fn_law_next_c1) (evSs V fn_law_next_b2) w ⟨[.val (.ref 1), .val (.int m), x, y], [.lst (gs.map .int), .lst [.ref 0, .lst (sm.map .int), .int n]]⟩ = .ok .nx ⟨[.val (.ref 1), .val (.int m), x', y], [.lst [], .lst [.ref 0, .lst (sm.map .int), .int n]]⟩)
  | [], 0, x, y, h, _ => by omega
  | g :: gs, 0, x, y, h, _ => by omega
  | [], w + 1, x, y, h, _ => by
    refine .inr ⟨x, ?_⟩
    rw [cWhile]
    have e := ne_empty []
    simp only [List.map_nil, List.isEmpty_nil, Bool.not_true] at e
    simp [fn_law_next_c1, e, szOk]
  | g :: gs, w + 1, x, y, h, hz => by
    have e := ne_empty (g :: gs)
    simp only [List.map_cons, List.isEmpty_cons, Bool.not_false] at e
    by_cases hg : 0 < g
    · refine .inl ⟨g % m, g / m :: gs, [.val (.ref 1), .val (.int m), .val (.int g), y], ?_, Int.emod_nonneg _ (by omega), Int.emod_lt_of_pos _ hm, by simp⟩
      rw [cWhile]
      simp [fn_law_next_c1, fn_law_next_b2, e, szOk, hg, fdiv_ii hm hm2, mod_ii hm, ixN]
    · have ih := next_while (V := V) hm hm2 sm n gs w (.val (.int g)) y (by simpa using h) (by simp at hz; omega)
      have hz2 : szOk (gs.length + 1) = true := by simp at hz; simp [szOk]; omega
      have st : cWhile (evC V fn_law_next_c1) (evSs V fn_law_next_b2) (w + 1) ⟨[.val (.ref 1), .val (.int m), x, y], [.lst ((g :: gs).map .int), .lst [.ref 0, .lst (sm.map .int), .int n]]⟩ =
          cWhile (evC V fn_law_next_c1) (evSs V fn_law_next_b2) w ⟨[.val (.ref 1), .val (.int m), .val (.int g), y], [.lst (gs.map .int), .lst [.ref 0, .lst (sm.map .int), .int n]]⟩ := by
        rw [cWhile]
        have q : gs.length ≤ 16777215 := by simp at hz; omega
        simp [fn_law_next_c1, fn_law_next_b2, e, szOk, hg, ixN, ev_popB, cPopB, q]
      rw [st]
      rcases ih with ⟨r, gs', E, h1, h2, h3, h4⟩ | ⟨x', h1⟩
      · exact .inl ⟨r, gs', E, h1, h2, h3, by simp; omega⟩
      · exact .inr ⟨x', h1⟩
theorem mul_small {a b : Int} (h : a.natAbs < 2 ^ 64) : mulD (.int a) (.int b) = some (.int (a * b)) := mul_ii (by unfold mulOk; rw [decide_eq_true h]; rfl)
theorem mul_mid {a b : Int} (h : a.natAbs < 2 ^ 1000) (h' : b.natAbs < 2 ^ 1000) : mulD (.int a) (.int b) = some (.int (a * b)) := mul_ii (by unfold mulOk; rw [decide_eq_true h, decide_eq_true h']; simp)
theorem next_ok {c : Nat} {S : Store} {m : Int} (hd : Deck c S) (hc : c < 2 ^ 60) (hm : 0 < m) (hm2 : m < 2 ^ 1000) :
    ∃ r S', call (k + 1) 37 [.ref 1, .int m] S = .ok (.int r) ⟨[], S'⟩ ∧ 0 ≤ r ∧ r < m ∧ Deck (c + 1) S' := by
  obtain ⟨gs, sm, n, rfl, hs, hn, hg⟩ := hd
  rw [call_def fn_law_next rfl rfl]
  have hw2 := next_while (V := Vk k) hm hm2 sm ((n : Int) + 1) gs WF .non .non (by show gs.length < 1000000; omega) hg
  have hl : 0 < sm.length := List.length_pos_iff.mpr hs
  have e0 : (n : Int) + 1 = ((n + 1 : Nat) : Int) := by omega
  rcases hw2 with ⟨r, gs', E, h1, h2, h3, h4⟩ | ⟨x', h1⟩
  · refine ⟨r, [.lst (gs'.map .int), .lst [.ref 0, .lst (sm.map .int), .int (n + 1 : Nat)]], ?_, h2, h3, gs', sm, n + 1, rfl, hs, by omega, by omega⟩
    simp [fn_law_next, argsEnv, ixN, ← e0]
    simp [h1]
  · -- the small numbers
    have k0 : 0 ≤ ((n : Int) + 1) % (sm.length : Int) := Int.emod_nonneg _ (by omega)
    have k1 : ((n : Int) + 1) % (sm.length : Int) < sm.length := Int.emod_lt_of_pos _ (by omega)
    obtain ⟨v, hv⟩ : ∃ v, sm[(((n : Int) + 1) % (sm.length : Int)).toNat]? = some v := ⟨_, List.getElem?_eq_getElem (by omega)⟩
    have ix : atI (sm.map D.int) (((n : Int) + 1) % (sm.length : Int)) = some (.int v) := by
      rw [atI_pos k0 (by simpa using k1), List.getElem?_map, hv]; rfl
    have cell0 : 0 ≤ v % 2147483629 := Int.emod_nonneg _ (by omega)
    have cell1 : v % 2147483629 < 2147483629 := Int.emod_lt_of_pos _ (by omega)
    generalize hcl : v % 2147483629 = cl at cell0 cell1
    generalize hN : (n : Int) + 1 = N at *
    have hN0 : 0 ≤ N ∧ N < 2 ^ 61 := by omega
    have hp1 : mulD (.int 39373) (.int N) = some (.int (39373 * N)) := mul_small (by decide)
    have hp2 : mulD (.int cl) (.int (16807 + 39373 * N)) = some (.int (cl * (16807 + 39373 * N))) := mul_small (by omega)
    have hp3 : mulD (.int 40692) (.int N) = some (.int (40692 * N)) := mul_small (by decide)
    have hp4 : mulD (.int (40692 * N)) (.int N) = some (.int (40692 * N * N)) := mul_mid (by omega) (by omega)
    generalize hA : cl * (16807 + 39373 * N) = A at *
    have hA1 : 0 ≤ A ∧ A < 2 ^ 200 := by
      subst hA
      refine ⟨Int.mul_nonneg cell0 (by omega), ?_⟩
      have : cl * (16807 + 39373 * N) ≤ 2147483629 * 2 ^ 100 := Int.mul_le_mul (by omega) (by omega) (by omega) (by decide)
      omega
    generalize hB : 40692 * N * N = B at *
    have hB1 : 0 ≤ B ∧ B < 2 ^ 200 := by
      subst hB
      refine ⟨Int.mul_nonneg (by omega) (by omega), ?_⟩
      have : 40692 * N * N ≤ 2 ^ 80 * 2 ^ 61 := Int.mul_le_mul (by omega) (by omega) (by omega) (by decide)
      omega
    have hp5 : mulD (.int (A + B + 59)) (.int (A + B + 59)) = some (.int ((A + B + 59) * (A + B + 59))) := mul_mid (by omega) (by omega)
    have q0 : 0 ≤ (A + B + 59) * (A + B + 59) % 2305843009213693951 := Int.emod_nonneg _ (by omega)
    have q1 : (A + B + 59) * (A + B + 59) % 2305843009213693951 < 2305843009213693951 := Int.emod_lt_of_pos _ (by omega)
    generalize hC : (A + B + 59) * (A + B + 59) % 2305843009213693951 = C1 at *
    have hp6 : mulD (.int 69621) (.int N) = some (.int (69621 * N)) := mul_small (by decide)
    have hp7 : mulD (.int (C1 + 69621 * N)) (.int (C1 + 69621 * N)) = some (.int ((C1 + 69621 * N) * (C1 + 69621 * N))) := mul_mid (by omega) (by omega)
    refine ⟨((C1 + 69621 * N) * (C1 + 69621 * N) % 2305843009213693951) / 4099 % m, [.lst [], .lst [.ref 0, .lst (sm.map .int), .int (n + 1 : Nat)]], ?_, Int.emod_nonneg _ (by omega), Int.emod_lt_of_pos _ hm, [], sm, n + 1, rfl, hs, by omega, by simp⟩
    have e1 : ((n + 1 : Nat) : Int) = N := by omega
    have m1 : modD (.int N) (.int (sm.length : Int)) = some (.int (N % (sm.length : Int))) := mod_ii (by omega)
    have m2 : modD (.int v) (.int 2147483629) = some (.int cl) := by rw [mod_ii (by decide), hcl]
    have m3 : modD (.int ((A + B + 59) * (A + B + 59))) (.int 2305843009213693951) = some (.int C1) := by rw [mod_ii (by decide), hC]
    have m4 : ∀ a, modD (.int a) (.int 2305843009213693951) = some (.int (a % 2305843009213693951)) := fun a => mod_ii (by decide)
    have m5 : ∀ a, fdivD (.int a) (.int 4099) = some (.int (a / 4099)) := fun a => fdiv_ii (by decide) (by decide)
    have m6 : ∀ a, modD (.int a) (.int m) = some (.int (a % m)) := fun a => mod_ii hm
    simp [fn_law_next, argsEnv, ixN, hN]
    simp [h1, ix, m1, m2, hp1, hp2, hp3, hp4, hp5, m3, hp6, hp7, m4, m5, m6, e1]
theorem deck1_ok {ns : List Int} (hn : ns.length ≤ 63) : ∃ S', call (k + 1) 36 [.scr (ns.map .int)] [] = .ok (.ref 1) ⟨[], S'⟩ ∧ Deck 0 S' := by
  rw [call_def fn_law_deck rfl rfl]
  let cut := (ns.drop (HT.sIx ns.length 0 none)).take (HT.sIx ns.length ns.length (some 63) - HT.sIx ns.length 0 none)
  have hcut : cut.length ≤ 63 := by
    show ((ns.drop _).take _).length ≤ 63
    rw [List.length_take, List.length_drop]; omega
  have hc : cutL (ns.map D.int) none (some 63) = cut.map D.int := cutL_map D.int ns none (some 63)
  have p18 : powD (.int 10) (.int 18) = some (.int (10 ^ 18)) := rfl
  let gs := (cut.filter fun x => decide ((10 : Int) ^ 18 ≤ (x.natAbs : Int))).map fun x => (x.natAbs : Int)
  let sm := (cut.filter fun x => decide ((x.natAbs : Int) < 10 ^ 18)).map fun x => (x.natAbs : Int)
  have hg : gs.length ≤ 63 := by
    show (List.map _ _).length ≤ 63
    rw [List.length_map]; exact Nat.le_trans (List.length_filter_le ..) hcut
  have hs : sm.length ≤ 63 := by
    show (List.map _ _).length ≤ 63
    rw [List.length_map]; exact Nat.le_trans (List.length_filter_le ..) hcut
  have env4 : ∀ E0 : FW.Env, E0.length = 4 → ∃ a b c d, E0 = [a, b, c, d] := fun E0 h0 => by
    rcases E0 with _ | ⟨a, _ | ⟨b, _ | ⟨c, _ | ⟨d, _ | ⟨e, r⟩⟩⟩⟩⟩ <;> simp at h0
    exact ⟨a, b, c, d, rfl⟩
  have l1 : ∀ (E0 : FW.Env) (S : Store), E0.length = 4 → lcGo (.nm 3) (evC (Vk k) fn_law_deck_c1) (evE (Vk k) fn_law_deck_e2) E0 (cut.map D.int) S = some (gs.map D.int, S) := fun E0 S h0 => by
    obtain ⟨a, b, c, d, rfl⟩ := env4 E0 h0
    rw [lc_filter (f := D.int) (g := fun x => .int (x.natAbs : Int)) (p := fun x => decide ((10 : Int) ^ 18 ≤ (x.natAbs : Int))) fun x =>
      ⟨⟨[a, b, c, .val (.int x)], S⟩, ⟨[a, b, c, .val (.int x)], S⟩, ⟨[a, b, c, .val (.int x)], S⟩, rfl, by simp [fn_law_deck_c1, p18], rfl, fun _ => ⟨by simp [fn_law_deck_e2], rfl⟩⟩]
    simp [gs]
  have l2 : ∀ (E0 : FW.Env) (S : Store), E0.length = 4 → lcGo (.nm 3) (evC (Vk k) fn_law_deck_c3) (evE (Vk k) fn_law_deck_e4) E0 (cut.map D.int) S = some (sm.map D.int, S) := fun E0 S h0 => by
    obtain ⟨a, b, c, d, rfl⟩ := env4 E0 h0
    rw [lc_filter (f := D.int) (g := fun x => .int (x.natAbs : Int)) (p := fun x => decide ((x.natAbs : Int) < 10 ^ 18)) fun x =>
      ⟨⟨[a, b, c, .val (.int x)], S⟩, ⟨[a, b, c, .val (.int x)], S⟩, ⟨[a, b, c, .val (.int x)], S⟩, rfl, by simp [fn_law_deck_c3, p18], rfl, fun _ => ⟨by simp [fn_law_deck_e4], rfl⟩⟩]
    simp [sm]
  have hg2 : gs.length < 16777216 := by omega
  have hs2 : sm.length < 16777216 := by omega
  have hx : ∃ sm2 : List Int, sm2 ≠ [] ∧ sm2.length ≤ 64 ∧ ∃ xs, mulD (.lst [.int (ns.length + 29 : Int)]) (.int (if sm = [] then 1 else 0)) = some (.lst xs) ∧ addD (.lst (sm.map .int)) (.lst xs) = some (.lst (sm2.map .int)) := by
    cases hsm : sm with
    | nil => exact ⟨[ns.length + 29], by simp, by simp, [.int (ns.length + 29 : Int)], rfl, rfl⟩
    | cons a r =>
      refine ⟨a :: r, by simp, by rw [hsm] at hs; omega, [], rfl, ?_⟩
      show gd (szOk _) _ = _
      have : szOk ((List.map D.int (a :: r)).length + ([] : List D).length) = true := by
        rw [hsm] at hs; simp at hs; simp [szOk]; omega
      rw [this]; simp
  obtain ⟨sm2, n1, n2, xs, m1, m2⟩ := hx
  refine ⟨[.lst (gs.map .int), .lst [.ref 0, .lst (sm2.map .int), .int (0 : Nat)]], ?_, gs, sm2, 0, rfl, n1, Nat.le_refl _, hg⟩
  have i1 : ∀ b : Bool, intD [.bl b] = some (.int (if b = true then 1 else 0)) := fun b => by cases b <;> rfl
  have s1 : ∀ l : List D, slD (.scr l) none (some 63) = some (.lst (cutL l none (some 63))) := fun l => rfl
  simp [fn_law_deck, argsEnv, s1, hc, hideFrom, l1, l2, hg2, hs2, eq_empty, i1, m1, m2]
end
end FW

/-! PlCrv: data of curves, drawn. -/
namespace FW
open PySem L2
structure Crv where
  lo : Int
  cost : Int
  st : List (Int × Int)
def dSt (s : Int × Int) : D := .tup [.int s.1, .int s.2]
def dC (c : Crv) : D := .tup [.int c.lo, .int c.cost, .tup (c.st.map dSt)]
def units (st : List (Int × Int)) : Int := (st.map (·.1)).sum
def Crv.last (c : Crv) : Int := c.lo + units c.st
variable {k : Nat} {S : Store}
theorem units_comp {V : Ev} {E0 : FW.Env} {a b : Nat} (ha : a < E0.length) (hab : a < b) (st : List (Int × Int)) : lcGo (.tup [.nm a, .nm b]) cYes (evE V (.var a)) E0 (st.map dSt) S = some (st.map fun s => .int s.1, S) := by
  refine lc_map (f := dSt) (g := fun s => .int s.1) (fun s => ⟨⟨(E0.set a (.val (.int s.1))).set b (.val (.int s.2)), S⟩, ⟨(E0.set a (.val (.int s.1))).set b (.val (.int s.2)), S⟩, ⟨(E0.set a (.val (.int s.1))).set b (.val (.int s.2)), S⟩, ?_, rfl, ?_, rfl⟩) st
  · simp [dSt, asg, asgs]
  · show getV ((E0.set a (.val (.int s.1))).set b (.val (.int s.2))) a _ = _
    unfold getV
    rw [List.getElem?_set_ne (by omega), List.getElem?_set_self ha]
theorem units_ok {st : List (Int × Int)} (h : st.length < 16777216) : call (k + 1) 50 [.tup (st.map dSt)] S = .ok (.int (units st)) ⟨[], S⟩ := by
  rw [call_def fn_law_units rfl rfl]
  simp [fn_law_units, argsEnv, hideFrom, units_comp, h, sum_mapF, units]
theorem last_ok {c : Crv} (h : c.st.length < 16777216) : call (k + 2) 52 [dC c] S = .ok (.int c.last) ⟨[], S⟩ := by
  rw [call_def fn_law_last rfl rfl]
  simp [fn_law_last, argsEnv, dC, units_ok h, Crv.last]
theorem last_place_ok {c : Crv} (h : c.st.length < 16777216) : call (k + 1) 7 [dC c] S = .ok (.int c.last) ⟨[], S⟩ := by
  rw [call_def fn_last_place rfl rfl]
  simp [fn_last_place, argsEnv, dC, hideFrom, units_comp, h, sum_mapF, Crv.last, units]
/-- what the steps' prices add up to, without signs -/
def absT (st : List (Int × Int)) : Int := (st.map fun s => s.1 * (s.2.natAbs : Int)).sum
def bnd : Nat → Int
  | 0 => 0
  | i + 1 => bnd i + max 8 (4 + 4 * (i : Int))
theorem absT_app (l m : List (Int × Int)) : absT (l ++ m) = absT l + absT m := by simp [absT]
structure StepsOk (g : Int) (m : Nat) (st : List (Int × Int)) : Prop where
  len : st.length ≤ m
  cnt : ∀ s ∈ st, 1 ≤ s.1 ∧ s.1 ≤ g
  rise : st.Pairwise fun a b => a.2 < b.2
  pr : ∀ s ∈ st, -8 ≤ s.2 ∧ s.2 ≤ 4 * (st.length : Int)
  abt : absT st ≤ g * bnd st.length
theorem steps_ok {c m : Nat} {g : Int} (hd : Deck c S) (hc : c + 2 + 2 * m < 2 ^ 60) (hg : 1 ≤ g) (hg2 : g < 2 ^ 500) (hm : m < 1000) :
    ∃ st S', call (k + 2) 49 [.ref 1, .int g, .int m] S = .ok (.tup (st.map dSt)) ⟨[], S'⟩ ∧ StepsOk g m st ∧ Deck (c + 2 + 2 * m) S' := by
  rw [call_def fn_law_steps rfl rfl]
  obtain ⟨r1, S1, h1, a1, b1, d1⟩ := next_ok (k := k) hd (m := 13) (by omega) (by decide) (by decide)
  obtain ⟨r2, S2, h2, a2, b2, d2⟩ := next_ok (k := k) d1 (m := (m : Int) + 1) (by omega) (by omega) (by omega)
  have hr := rng1_ok (n := r2) (by omega) (by omega)
  let I : Nat → State → Prop := fun i st => ∃ (a : Slot) (acc : List (Int × Int)) (p : Int) (S' : Store), st = ⟨[.val (.ref 1), .val (.int g), .val (.int m), a, .own (acc.map dSt), .val (.int p)], S'⟩ ∧
    acc.length = i ∧ (∀ s ∈ acc, 1 ≤ s.1 ∧ s.1 ≤ g) ∧ acc.Pairwise (fun a b => a.2 < b.2) ∧ (∀ s ∈ acc, -8 ≤ s.2 ∧ s.2 < p ∧ s.2 ≤ 4 * (i : Int)) ∧ -8 ≤ p ∧ p ≤ 4 + 4 * i ∧ absT acc ≤ g * bnd i ∧ Deck (c + 2 + 2 * i) S'
  obtain ⟨s3, e3, a, acc, p, S', rfl, q1, q2, q3, q4, q5, q6, qb, q7⟩ := forL_all (t := .nm 3) (body := evSs (Vk (k + 1)) fn_law_steps_b1) (els := evSs (Vk (k + 1)) .nil) (l := rangeL 0 r2.toNat) I (fun i d st hd hi => by
    obtain ⟨a, acc, p, S', rfl, q1, q2, q3, q4, q5, q6, qb, q7⟩ := hi
    obtain ⟨hi, rfl⟩ := rangeL_at hd
    obtain ⟨x, S3, h3, a3, b3, d3⟩ := next_ok (k := k) q7 (m := g) (by omega) (by omega) (by omega)
    obtain ⟨y, S4, h4, a4, b4, d4⟩ := next_ok (k := k) d3 (m := 4) (by omega) (by decide) (by decide)
    refine ⟨_, ⟨[.val (.ref 1), .val (.int g), .val (.int m), .val (.int (0 + (i : Int))), .own ((acc ++ [(1 + x, p)]).map dSt), .val (.int (p + 1 + y))], S4⟩, rfl, ?_, _, _, _, _, rfl, by simp [q1], ?_, ?_, ?_, by omega, by omega, ?_, d4.mono (by omega)⟩
    · have hz : acc.length < 16777216 := by omega
      simp [fn_law_steps_b1, h3, h4, hz, dSt]
    · intro s hs
      rcases List.mem_append.mp hs with hs | hs
      · exact q2 s hs
      · simp at hs; subst hs; exact ⟨by show 1 ≤ 1 + x; omega, by show 1 + x ≤ g; omega⟩
    · rw [List.pairwise_append]
      exact ⟨q3, by simp, fun s hs t ht => by simp at ht; subst ht; exact (q4 s hs).2.1⟩
    · intro s hs
      rcases List.mem_append.mp hs with hs | hs
      · have := q4 s hs; exact ⟨this.1, by omega, by omega⟩
      · simp at hs; subst hs; exact ⟨q5, by show p < p + 1 + y; omega, by show p ≤ _; omega⟩
    · rw [absT_app, bnd, Int.mul_add]
      have : absT [(1 + x, p)] = (1 + x) * (p.natAbs : Int) := by simp [absT]
      rw [this]
      have h1 : (1 + x) * (p.natAbs : Int) ≤ g * (p.natAbs : Int) := Int.mul_le_mul_of_nonneg_right (by omega) (by omega)
      have h2 : g * (p.natAbs : Int) ≤ g * max 8 (4 + 4 * (i : Int)) := Int.mul_le_mul_of_nonneg_left (by omega) (by omega)
      omega) (st := ⟨[.val (.ref 1), .val (.int g), .val (.int m), .non, .own [], .val (.int (r1 - 8))], S2⟩)
    ⟨.non, [], r1 - 8, S2, rfl, rfl, by simp, by simp, by simp, by omega, by omega, by simp [absT, bnd], d2.mono (by omega)⟩
  rw [rangeL_len] at q1 q6 q7 qb
  refine ⟨acc, S', ?_, ⟨by omega, q2, q3, fun s hs => ⟨(q4 s hs).1, by have := (q4 s hs).2.2; rw [rangeL_len] at this; omega⟩, by rw [q1]; exact qb⟩, q7.mono (by omega)⟩
  simp [fn_law_steps, argsEnv, h1, h2, hideFrom, hr, e3]
end FW

/-! PlBook: books, drawn. -/
namespace FW
open PySem L2
variable {k : Nat} {S : Store}
structure Per where
  buy : Crv
  want : Int
  keep : Crv
def dP (p : Per) : D := .tup [dC p.buy, .int p.want, dC p.keep]
structure Book where
  begin_ : Int
  ps : List Per
def dB (b : Book) : D := .tup [.int b.begin_, .tup (b.ps.map dP)]
/-- a curve's data as drawn -/
structure CrvOk (g : Int) (m : Nat) (c : Crv) : Prop where
  st : StepsOk g m c.st
  cost : -20 ≤ c.cost ∧ c.cost ≤ 20
theorem units_nn : ∀ {st : List (Int × Int)}, (∀ s ∈ st, 1 ≤ s.1) → 0 ≤ units st
  | [], _ => by simp [units]
  | s :: st, h => by
    have := units_nn (st := st) fun t ht => h t (by simp [ht])
    have := h s (by simp)
    simp only [units, List.map_cons, List.sum_cons] at *
    omega
theorem units_le {g : Int} : ∀ {st : List (Int × Int)}, (∀ s ∈ st, s.1 ≤ g) → units st ≤ g * st.length
  | [], _ => by simp [units]
  | s :: st, h => by
    have := units_le (st := st) fun t ht => h t (by simp [ht])
    have := h s (by simp)
    simp only [units, List.map_cons, List.sum_cons, List.length_cons] at *
    rw [show g * ((st.length + 1 : Nat) : Int) = g * st.length + g by rw [Int.natCast_add]; simp [Int.mul_add]]
    omega
theorem StepsOk.nn {g : Int} {m : Nat} {st : List (Int × Int)} (h : StepsOk g m st) : 0 ≤ units st := units_nn fun s hs => (h.cnt s hs).1
theorem StepsOk.le {g : Int} {m : Nat} {st : List (Int × Int)} (h : StepsOk g m st) (hg : 0 ≤ g) : units st ≤ g * m := by
  have h1 := units_le fun s hs => (h.cnt s hs).2
  have h2 := Int.mul_le_mul_of_nonneg_left (show (st.length : Int) ≤ m by have := h.len; omega) hg
  omega
theorem great_ok {c : Nat} (hd : Deck c S) (hc : c < 2 ^ 60) : ∃ g S', call (k + 2) 48 [.ref 1] S = .ok (.int g) ⟨[], S'⟩ ∧ 1 ≤ g ∧ g ≤ 10 ^ 10 ∧ Deck (c + 1) S' := by
  rw [call_def fn_law_great rfl rfl]
  obtain ⟨r, S1, h1, a1, b1, d1⟩ := next_ok (k := k) hd (m := 4) hc (by decide) (by decide)
  have hp : powD (.int 10) (.int 10) = some (.int (10 ^ 10)) := rfl
  have hr : r = 0 ∨ r = 1 ∨ r = 2 ∨ r = 3 := by omega
  rcases hr with rfl | rfl | rfl | rfl
  · exact ⟨1, S1, by simp [fn_law_great, argsEnv, h1, hp], by decide, by decide, d1⟩
  · exact ⟨2, S1, by simp [fn_law_great, argsEnv, h1, hp], by decide, by decide, d1⟩
  · exact ⟨5, S1, by simp [fn_law_great, argsEnv, h1, hp], by decide, by decide, d1⟩
  · have e : atI [D.int 1, D.int 2, D.int 5, D.int (10 ^ 10)] 3 = some (.int (10 ^ 10)) := rfl
    exact ⟨10 ^ 10, S1, by simp only [fn_law_great, argsEnv]; simp [h1, hp]; simp only [show (10000000000 : Int) = 10 ^ 10 from rfl, e]; rfl, by decide, by decide, d1⟩
theorem one_lst {c : Nat} {l : List D} (hd : Deck c S) (hc : c < 2 ^ 60) (hl : l ≠ []) (hz : l.length < 2 ^ 60) : ∃ d S', call (k + 2) 38 [.ref 1, .lst l] S = .ok d ⟨[], S'⟩ ∧ d ∈ l ∧ Deck (c + 1) S' := by
  rw [call_def fn_law_one rfl rfl]
  have h0 : 0 < l.length := List.length_pos_iff.mpr hl
  obtain ⟨r, S1, h1, a1, b1, d1⟩ := next_ok (k := k) hd (m := l.length) hc (by omega) (by omega)
  have hi : r.toNat < l.length := by omega
  refine ⟨l[r.toNat], S1, ?_, List.getElem_mem hi, d1⟩
  have e : atI l r = some l[r.toNat] := by rw [atI_pos a1 b1]; exact List.getElem?_eq_getElem hi
  simp [fn_law_one, argsEnv, h1, e]
theorem data_ok {c m : Nat} {g : Int} (hd : Deck c S) (hc : c + 4 + 2 * m < 2 ^ 60) (hg : 1 ≤ g) (hg2 : g < 2 ^ 500) (hm : m < 1000) :
    ∃ x S', call (k + 3) 51 [.ref 1, .int g, .int m] S = .ok (dC x) ⟨[], S'⟩ ∧ CrvOk g m x ∧ -g ≤ x.lo ∧ x.lo ≤ g ∧ Deck (c + 4 + 2 * m) S' := by
  rw [call_def fn_law_data rfl rfl]
  obtain ⟨st, S1, h1, q1, d1⟩ := steps_ok (k := k) hd (by omega) hg hg2 hm
  have hm2 : mulD (.int 2) (.int g) = some (.int (2 * g)) := mul_small (by decide)
  obtain ⟨r2, S2, h2, a2, b2, d2⟩ := next_ok (k := k + 1) d1 (m := 2 * g + 1) (by omega) (by omega) (by omega)
  obtain ⟨r3, S3, h3, a3, b3, d3⟩ := next_ok (k := k + 1) d2 (m := 41) (by omega) (by decide) (by decide)
  refine ⟨⟨r2 - g, r3 - 20, st⟩, S3, ?_, ⟨q1, by show -20 ≤ r3 - 20; omega, by show r3 - 20 ≤ 20; omega⟩, by show -g ≤ r2 - g; omega, by show r2 - g ≤ g; omega, d3.mono (by omega)⟩
  simp [fn_law_data, argsEnv, h1, h2, h3, hm2, dC]
theorem mul_mono3 {g : Int} (hg : 1 ≤ g) : g * ((3 : Nat) : Int) = 3 * g := by rw [Int.mul_comm]; rfl
theorem around_ok {c : Nat} {g stock way : Int} (hd : Deck c S) (hc : c + 20 < 2 ^ 60) (hg : 1 ≤ g) (hg2 : g < 2 ^ 400) :
    ∃ x S', call (k + 3) 255 [.ref 1, .int g, .int stock, .int way] S = .ok (dC x) ⟨[], S'⟩ ∧ CrvOk g 3 x ∧ stock - 5 * g ≤ x.lo ∧ x.lo ≤ stock + 5 * g ∧ (way ≠ 0 → x.lo ≤ stock ∧ stock ≤ x.last) ∧ Deck (c + 20) S' := by
  rw [call_def fn_law_around rfl rfl]
  obtain ⟨st, S1, h1, q1, d1⟩ := steps_ok (k := k) (m := 3) hd (by omega) hg (by omega) (by decide)
  have hu : st.length < 16777216 := by have := q1.len; omega
  have u0 := q1.nn
  have u1 := q1.le (by omega)
  rw [mul_mono3 hg] at u1
  obtain ⟨r2, S2, h2, a2, b2, d2⟩ := next_ok (k := k + 1) d1 (m := units st + 1) (by omega) (by omega) (by omega)
  have h1 : call (k + 2) 49 [.ref 1, .int g, .int 3] S = .ok (.tup (st.map dSt)) ⟨[], S1⟩ := h1
  by_cases hw : way = 0
  · obtain ⟨r3, S3, h3, a3, b3, d3⟩ := next_ok (k := k + 1) d2 (m := g) (by omega) (by omega) (by omega)
    obtain ⟨r4, S4, h4, a4, b4, d4⟩ := next_ok (k := k + 1) d3 (m := g) (by omega) (by omega) (by omega)
    obtain ⟨x, S5, h5, hx, d5⟩ := one_lst (k := k) (l := [.int (stock + 1 + r3), .int (stock - units st - 1 - r4)]) d4 (by omega) (by simp) (by simp)
    obtain ⟨r6, S6, h6, a6, b6, d6⟩ := next_ok (k := k + 1) d5 (m := 21) (by omega) (by decide) (by decide)
    obtain ⟨lo, rfl, hlo⟩ : ∃ lo, x = .int lo ∧ stock - 5 * g ≤ lo ∧ lo ≤ stock + 5 * g := by
      simp at hx
      rcases hx with rfl | rfl
      · exact ⟨_, rfl, by omega, by omega⟩
      · exact ⟨_, rfl, by omega, by omega⟩
    refine ⟨⟨lo, r6 - 10, st⟩, S6, ?_, ⟨q1, by show -20 ≤ r6 - 10; omega, by show r6 - 10 ≤ 20; omega⟩, hlo.1, hlo.2, fun z => absurd hw z, d6.mono (by omega)⟩
    simp [fn_law_around, argsEnv, h1, h2, h3, h4, h5, h6, units_ok hu, hw, dC]
  · obtain ⟨r6, S6, h6, a6, b6, d6⟩ := next_ok (k := k + 1) d2 (m := 21) (by omega) (by decide) (by decide)
    refine ⟨⟨stock - r2, r6 - 10, st⟩, S6, ?_, ⟨q1, by show -20 ≤ r6 - 10; omega, by show r6 - 10 ≤ 20; omega⟩, by show stock - 5 * g ≤ stock - r2; omega, by show stock - r2 ≤ stock + 5 * g; omega, fun _ => ⟨by show stock - r2 ≤ stock; omega, by show stock ≤ stock - r2 + units st; omega⟩, d6.mono (by omega)⟩
    simp [fn_law_around, argsEnv, h1, h2, h6, units_ok hu, hw, dC]
/-- units that keep every stock in its place -/
def fits : Int → List Per → List Int → Prop
  | _, [], us => us = []
  | s, p :: ps, us => ∃ u r, us = u :: r ∧ p.buy.lo ≤ u ∧ u ≤ p.buy.last ∧ p.keep.lo ≤ s + u - p.want ∧ s + u - p.want ≤ p.keep.last ∧ fits (s + u - p.want) ps r
def stockAt : Int → List Per → List Int → Int
  | s, p :: ps, u :: us => stockAt (s + u - p.want) ps us
  | s, _, _ => s
theorem fits_snoc {p : Per} {u : Int} : ∀ {ps : List Per} {us : List Int} {s : Int}, fits s ps us → p.buy.lo ≤ u → u ≤ p.buy.last → p.keep.lo ≤ stockAt s ps us + u - p.want → stockAt s ps us + u - p.want ≤ p.keep.last → fits s (ps ++ [p]) (us ++ [u])
  | [], us, s, h, h1, h2, h3, h4 => by
    have h : us = [] := h
    subst h
    exact ⟨u, [], rfl, h1, h2, h3, h4, rfl⟩
  | q :: ps, _, s, ⟨v, r, e, a, b, c, d, h⟩, h1, h2, h3, h4 => by
    subst e
    exact ⟨v, r ++ [u], rfl, a, b, c, d, fits_snoc h h1 h2 h3 h4⟩
theorem stockAt_snoc {p : Per} {u : Int} : ∀ {ps : List Per} {us : List Int} {s : Int}, ps.length = us.length → stockAt s (ps ++ [p]) (us ++ [u]) = stockAt s ps us + u - p.want
  | [], [], s, _ => rfl
  | [], _ :: _, _, h => by simp at h
  | _ :: _, [], _, h => by simp at h
  | q :: ps, v :: us, s, h => stockAt_snoc (s := s + v - q.want) (by simpa using h)
structure PerOk (g : Int) (m : Nat) (p : Per) : Prop where
  buy : CrvOk g 3 p.buy
  keep : CrvOk g 3 p.keep
  blo : -g ≤ p.buy.lo ∧ p.buy.lo ≤ g
  want : -g ≤ p.want ∧ p.want ≤ 2 * g + 2
  klo : -(10 * g * (m + 2)) ≤ p.keep.lo ∧ p.keep.lo ≤ 10 * g * (m + 2)
structure BookOk (g : Int) (m : Nat) (b : Book) : Prop where
  len : b.ps.length ≤ m
  pos : 1 ≤ b.ps.length
  beg : -g ≤ b.begin_ ∧ b.begin_ ≤ g
  per : ∀ p ∈ b.ps, PerOk g m p
theorem book_ok {c m : Nat} {g : Int} {safe : Bool} (hd : Deck c S) (hc : c + 10 + 60 * m < 2 ^ 60) (hg : 1 ≤ g) (hg2 : g ≤ 10 ^ 100) (hm : m < 1000) (hm0 : 1 ≤ m) :
    ∃ b S', call (k + 4) 256 [.ref 1, .int g, .int m, .bl safe] S = .ok (dB b) ⟨[], S'⟩ ∧ BookOk g m b ∧ (safe = true → ∃ us, fits b.begin_ b.ps us) ∧ Deck (c + 10 + 60 * m) S' := by
  rw [call_def fn_law_book rfl rfl]
  have hm2 : mulD (.int 2) (.int g) = some (.int (2 * g)) := mul_small (by decide)
  have hg5 : g < 2 ^ 400 := by omega
  have hf2 : fdivD (.int g) (.int 2) = some (.int (g / 2)) := fdiv_ii (by decide) (by decide)
  obtain ⟨r1, S1, h1, a1, b1, d1⟩ := next_ok (k := k + 2) hd (m := 2 * g + 1) (by omega) (by omega) (by omega)
  obtain ⟨r2, S2, h2, a2, b2, d2⟩ := next_ok (k := k + 2) d1 (m := m) (by omega) (by omega) (by omega)
  have hr := rng1_ok (n := 1 + r2) (by omega) (by omega)
  let I : Nat → State → Prop := fun i st => ∃ (a b d e : Slot) (ps : List Per) (us : List Int) (stock : Int) (S' : Store), st = ⟨[.val (.ref 1), .val (.int g), .val (.int m), .val (.bl safe), .val (.int stock), a, .val (.int (r1 - g)), .own (ps.map dP), b, d, e], S'⟩ ∧
    ps.length = i ∧ us.length = i ∧ (∀ p ∈ ps, PerOk g m p) ∧ stock = stockAt (r1 - g) ps us ∧ -(10 * g * (i + 1)) ≤ stock ∧ stock ≤ 10 * g * (i + 1) ∧ (safe = true → fits (r1 - g) ps us) ∧ Deck (c + 2 + 40 * i) S'
  have step : ∀ i d st, (rangeL 0 (1 + r2).toNat)[i]? = some d → I i st → ∃ s1 s2, asg (.nm 5) d st = some s1 ∧ evSs (Vk (k + 3)) fn_law_book_b1 s1 = .ok .nx s2 ∧ I (i + 1) s2 := by
    intro i d st hd hi
    obtain ⟨a, b, d', e, ps, us, stock, S', rfl, q1, q2, q3, q4, q5, q6, q7, q8⟩ := hi
    obtain ⟨hi, rfl⟩ := rangeL_at hd
    have him : i + 1 ≤ m := by omega
    obtain ⟨x, S3, h3, x1, x2, x3, d3⟩ := data_ok (k := k) (m := 3) q8 (by omega) hg (by omega) (by decide)
    have h3 : call (k + 3) 51 [.ref 1, .int g, .int 3] S' = .ok (dC x) ⟨[], S3⟩ := h3
    obtain ⟨w, S4, h4, a4, b4, d4⟩ := next_ok (k := k + 2) d3 (m := 2 * g + 2) (by omega) (by omega) (by omega)
    have hu : x.st.length < 16777216 := by have := x1.st.len; omega
    have u0 := x1.st.nn
    have u1 := x1.st.le (by omega)
    rw [mul_mono3 hg] at u1
    obtain ⟨n, S5, h5, a5, b5, d5⟩ := next_ok (k := k + 2) d4 (m := units x.st + 1) (by omega) (by omega) (by omega)
    have hB : 10 * g * ((i + 1 : Nat) + 1 : Int) = 10 * g * ((i : Int) + 1) + 10 * g := by rw [Int.natCast_add, Int.mul_add, Int.mul_one]; rfl
    have hM : 10 * g * ((i + 1 : Nat) + 1 : Int) ≤ 10 * g * ((m : Int) + 1) := Int.mul_le_mul_of_nonneg_left (by omega) (by omega)
    have hM2 : 10 * g * ((m : Int) + 2) = 10 * g * ((m : Int) + 1) + 10 * g := by rw [Int.mul_add, Int.mul_add]; omega
    obtain ⟨way, S6, hway, d6, hs⟩ : ∃ way S6, (∀ E, (evE (Vk (k + 3)) (.ite (.tru (.var 3)) (.num 1) (.call 37 (.cons (.var 0) (.cons (.num 9) .nil)))) ⟨.val (.ref 1) :: .val (.int g) :: .val (.int m) :: .val (.bl safe) :: E, S5⟩) = .ok (.int way) ⟨.val (.ref 1) :: .val (.int g) :: .val (.int m) :: .val (.bl safe) :: E, S6⟩) ∧ Deck (c + 2 + 40 * i + 4 + 2 * 3 + 1 + 1 + 1) S6 ∧ (safe = true → way ≠ 0) := by
      cases safe with
      | true => exact ⟨1, S5, fun E => by simp, d5.mono (by omega), fun _ => by decide⟩
      | false =>
        obtain ⟨r, S6, h6, a6, b6, d6⟩ := next_ok (k := k + 2) d5 (m := 9) (by omega) (by decide) (by decide)
        exact ⟨r, S6, fun E => by simp [h6], d6, fun z => by cases z⟩
    obtain ⟨kp, S7, h7, y1, y2, y3, y4, d7⟩ := around_ok (k := k) (stock := stock + x.lo + n - (w - g / 2)) (way := way) d6 (by omega) hg hg5
    refine ⟨_, ⟨[.val (.ref 1), .val (.int g), .val (.int m), .val (.bl safe), .val (.int (stock + x.lo + n - (w - g / 2))), .val (.int (0 + (i : Int))), .val (.int (r1 - g)), .own ((ps ++ [(⟨x, w - g / 2, kp⟩ : Per)]).map dP), .val (dC kp), .val (dC x), .val (.int (w - g / 2))], S7⟩, rfl, ?_, _, _, _, _, ps ++ [⟨x, w - g / 2, kp⟩], us ++ [x.lo + n], _, _, rfl, by simp [q1], by simp [q2], ?_, ?_, ?_, ?_, ?_, d7.mono (by omega)⟩
    · have hz : ps.length < 16777216 := by omega
      have hx : atI [D.int x.lo, D.int x.cost, D.tup (x.st.map dSt)] 2 = some (.tup (x.st.map dSt)) := rfl
      simp [-ev_ite, fn_law_book_b1, h3, h4, hm2, hf2, dC, units_ok hu, h5, hway]
      simp [h7, hz, dP, dC]
    · intro p hp
      rcases List.mem_append.mp hp with hp | hp
      · exact q3 p hp
      · simp at hp
        subst hp
        exact ⟨x1, y1, ⟨x2, x3⟩, ⟨by show -g ≤ w - g / 2; omega, by show w - g / 2 ≤ 2 * g + 2; omega⟩, ⟨by show -(10 * g * ((m : Int) + 2)) ≤ kp.lo; omega, by show kp.lo ≤ 10 * g * ((m : Int) + 2); omega⟩⟩
    · rw [stockAt_snoc (by omega), ← q4]; show _ = stock + (x.lo + n) - (w - g / 2); omega
    · omega
    · omega
    · intro hsafe
      have z := y4 (hs hsafe)
      refine fits_snoc (q7 hsafe) (by show x.lo ≤ x.lo + n; omega) (by show x.lo + n ≤ x.lo + units x.st; omega) ?_ ?_
      · rw [← q4]; show kp.lo ≤ stock + (x.lo + n) - (w - g / 2); omega
      · rw [← q4]; show stock + (x.lo + n) - (w - g / 2) ≤ kp.last; omega
  obtain ⟨s3, e3, a, b, d', e, ps, us, stock, S', rfl, q1, q2, q3, q4, q5, q6, q7, q8⟩ := forL_all (t := .nm 5) (body := evSs (Vk (k + 3)) fn_law_book_b1) (els := evSs (Vk (k + 3)) .nil) I step (st := ⟨[.val (.ref 1), .val (.int g), .val (.int m), .val (.bl safe), .val (.int (r1 - g)), .non, .val (.int (r1 - g)), .own [], .non, .non, .non], S2⟩)
    ⟨.non, .non, .non, .non, [], [], r1 - g, S2, rfl, rfl, rfl, by simp, rfl, by simp; omega, by simp; omega, fun _ => rfl, d2.mono (by omega)⟩
  rw [rangeL_len] at q1 q2 q8
  refine ⟨⟨r1 - g, ps⟩, S', ?_, ⟨by show ps.length ≤ m; omega, by show 1 ≤ ps.length; omega, ⟨by show -g ≤ r1 - g; omega, by show r1 - g ≤ g; omega⟩, q3⟩, fun h => ⟨us, q7 h⟩, q8.mono (by omega)⟩
  simp [fn_law_book, argsEnv, h1, h2, hideFrom, hr, hm2, e3, dB]
end FW

/-! PlGain: costs, gains. -/
namespace FW
open PySem L2
variable {k : Nat} {S : Store}
theorem lc_filterM {α : Type} {t : Tg} {tt : State → R Bool} {ce : State → R D} {E0 : FW.Env} {S : Store} {f : α → D} {g : α → D} {p : α → Bool} :
    ∀ l : List α, (∀ x ∈ l, ∃ s1 s2, asg t (f x) ⟨E0, S⟩ = some s1 ∧ tt s1 = .ok (p x) s2 ∧ s2.sto = S ∧ (p x = true → ∃ s3, ce s2 = .ok (g x) s3 ∧ s3.sto = S)) → lcGo t tt ce E0 (l.map f) S = some ((l.filter p).map g, S)
  | [], _ => rfl
  | x :: l, h => by
    obtain ⟨s1, s2, h1, h2, h3, h4⟩ := h x (by simp)
    have ih := lc_filterM l fun y hy => h y (by simp [hy])
    rw [List.map_cons, lcGo, h1]
    cases hp : p x with
    | true =>
      obtain ⟨s3, h5, h6⟩ := h4 hp
      rw [hp] at h2
      simp only [h2, h5, h6, ih, List.filter_cons, hp, if_true, List.map_cons]
    | false =>
      rw [hp] at h2
      simp only [h2, h3, ih, List.filter_cons, hp]
      simp
theorem mul_any {a b : Int} (ha : a.natAbs < 2 ^ 900) (hb : b.natAbs < 2 ^ 900) : mulD (.int a) (.int b) = some (.int (a * b)) := mul_mid (by omega) (by omega)
/-- what the units cost beyond the least -/
def rise : List (Int × Int) → Int → Int
  | [], _ => 0
  | (n, p) :: r, u => p * max 0 (min n u) + rise r (u - n)
def riseC : List (Int × Int) → Int → Int
  | [], _ => 0
  | (n, p) :: r, u => p * min n u + riseC r (u - min n u)
theorem rise_le0 : ∀ (st : List (Int × Int)) {u : Int}, (∀ s ∈ st, 0 ≤ s.1) → u ≤ 0 → rise st u = 0
  | [], u, _, _ => rfl
  | (n, p) :: r, u, h, hu => by
    have hn : 0 ≤ n := h (n, p) (by simp)
    have e : max 0 (min n u) = 0 := by omega
    rw [rise, e, Int.mul_zero, rise_le0 r (fun s hs => h s (by simp [hs])) (by omega)]; rfl
theorem riseC_0 : ∀ (st : List (Int × Int)), (∀ s ∈ st, 0 ≤ s.1) → riseC st 0 = 0
  | [], _ => rfl
  | (n, p) :: r, h => by
    have hn : 0 ≤ n := h (n, p) (by simp)
    have e : min n 0 = 0 := by omega
    rw [riseC, e, Int.mul_zero, Int.sub_zero, riseC_0 r fun s hs => h s (by simp [hs])]; rfl
theorem riseC_eq : ∀ (st : List (Int × Int)) {u : Int}, (∀ s ∈ st, 0 ≤ s.1) → 0 ≤ u → riseC st u = rise st u
  | [], u, _, _ => rfl
  | (n, p) :: r, u, h, hu => by
    have hn : 0 ≤ n := h (n, p) (by simp)
    have hr : ∀ s ∈ r, 0 ≤ s.1 := fun s hs => h s (by simp [hs])
    have e : max 0 (min n u) = min n u := by omega
    rw [rise, riseC, e]
    by_cases hm : n ≤ u
    · have e2 : min n u = n := by omega
      rw [e2, riseC_eq r hr (by omega)]
    · have e2 : min n u = u := by omega
      rw [e2, Int.sub_self, riseC_0 r hr, rise_le0 r hr (by omega)]
/-- the gain beyond the one at the low end -/
def gainF (pr : Int) : List (Int × Int) → Int → Int
  | [], _ => 0
  | (n, p) :: r, u => (pr - p) * max 0 (min n u) + gainF pr r (u - n)
theorem gainF_le0 {pr : Int} : ∀ (st : List (Int × Int)) {u : Int}, (∀ s ∈ st, 0 ≤ s.1) → u ≤ 0 → gainF pr st u = 0
  | [], u, _, _ => rfl
  | (n, p) :: r, u, h, hu => by
    have hn : 0 ≤ n := h (n, p) (by simp)
    have e : max 0 (min n u) = 0 := by omega
    rw [gainF, e, Int.mul_zero, gainF_le0 r (fun s hs => h s (by simp [hs])) (by omega)]; rfl
theorem gainF_eq {pr : Int} : ∀ (st : List (Int × Int)) {u : Int}, (∀ s ∈ st, 0 ≤ s.1) → 0 ≤ u → u ≤ units st → pr * u - rise st u = gainF pr st u
  | [], u, _, h0, h1 => by
    have : u = 0 := by simp [units] at h1; omega
    subst this; simp [rise, gainF]
  | (n, p) :: r, u, h, h0, h1 => by
    have hn : 0 ≤ n := h (n, p) (by simp)
    have hr : ∀ s ∈ r, 0 ≤ s.1 := fun s hs => h s (by simp [hs])
    have hu : units ((n, p) :: r) = n + units r := by simp [units]
    rw [hu] at h1
    rw [rise, gainF]
    by_cases hm : n ≤ u
    · have e2 : max 0 (min n u) = n := by omega
      have ih := gainF_eq (pr := pr) r hr (u := u - n) (by omega) (by omega)
      rw [e2, ← ih, Int.sub_mul, Int.mul_sub]; omega
    · have e2 : max 0 (min n u) = u := by omega
      rw [e2, rise_le0 r hr (by omega), gainF_le0 r hr (by omega), Int.sub_mul]; omega
/-- the units whose price is below -/
def firstF (pr : Int) : List (Int × Int) → Int
  | [] => 0
  | (n, p) :: r => (if p < pr then n else 0) + firstF pr r
theorem firstF_nn {pr : Int} : ∀ (st : List (Int × Int)), (∀ s ∈ st, 0 ≤ s.1) → 0 ≤ firstF pr st ∧ firstF pr st ≤ units st
  | [], _ => by simp [firstF, units]
  | (n, p) :: r, h => by
    have hn : 0 ≤ n := h (n, p) (by simp)
    have ih := firstF_nn (pr := pr) r fun s hs => h s (by simp [hs])
    have hu : units ((n, p) :: r) = n + units r := by simp [units]
    rw [firstF, hu]
    split <;> omega
theorem firstF_0 {pr : Int} : ∀ (st : List (Int × Int)), (∀ s ∈ st, pr ≤ s.2) → firstF pr st = 0
  | [], _ => rfl
  | (n, p) :: r, h => by
    have hp : pr ≤ p := h (n, p) (by simp)
    rw [firstF, if_neg (by omega), firstF_0 r fun s hs => h s (by simp [hs])]; rfl
theorem gain_best {pr : Int} : ∀ (st : List (Int × Int)), (∀ s ∈ st, 0 ≤ s.1) → (st.Pairwise fun a b => a.2 < b.2) → (0 ≤ gainF pr st (firstF pr st)) ∧ ∀ u, gainF pr st u ≤ gainF pr st (firstF pr st)
  | [], _, _ => ⟨Int.le_refl _, fun _ => Int.le_refl _⟩
  | (n, p) :: r, h, hs => by
    have hn : 0 ≤ n := h (n, p) (by simp)
    have hr : ∀ s ∈ r, 0 ≤ s.1 := fun s hs => h s (by simp [hs])
    obtain ⟨hp, hs⟩ := List.pairwise_cons.mp hs
    obtain ⟨i0, i1⟩ := gain_best (pr := pr) r hr hs
    obtain ⟨f0, f1⟩ := firstF_nn (pr := pr) r hr
    by_cases hpp : p < pr
    · have e : firstF pr ((n, p) :: r) = n + firstF pr r := by rw [firstF, if_pos hpp]
      have e2 : gainF pr ((n, p) :: r) (n + firstF pr r) = (pr - p) * n + gainF pr r (firstF pr r) := by
        rw [gainF, show max 0 (min n (n + firstF pr r)) = n by omega, show n + firstF pr r - n = firstF pr r by omega]
      have e3 : 0 ≤ (pr - p) * n := Int.mul_nonneg (by omega) hn
      rw [e, e2]
      refine ⟨by omega, fun u => ?_⟩
      rw [gainF]
      have m1 : (pr - p) * max 0 (min n u) ≤ (pr - p) * n := Int.mul_le_mul_of_nonneg_left (by omega) (by omega)
      have m2 := i1 (u - n)
      omega
    · have fz : firstF pr r = 0 := firstF_0 r fun s hs' => by have := hp s hs'; simp at this; omega
      have e : firstF pr ((n, p) :: r) = 0 := by rw [firstF, if_neg hpp, fz]; rfl
      have e2 : gainF pr ((n, p) :: r) 0 = 0 := gainF_le0 _ h (Int.le_refl _)
      rw [fz, gainF_le0 r hr (Int.le_refl _)] at i1
      rw [e, e2]
      refine ⟨Int.le_refl _, fun u => ?_⟩
      rw [gainF]
      have m1 : (pr - p) * max 0 (min n u) ≤ 0 := Int.mul_nonpos_of_nonpos_of_nonneg (by omega) (by omega)
      have m2 := i1 (u - n)
      omega
def bendsF : Int → List (Int × Int) → List Int
  | b, [] => [b]
  | b, (n, _) :: r => b :: bendsF (b + n) r
theorem bendsF_in {x : Int} : ∀ (st : List (Int × Int)) {b : Int}, (∀ s ∈ st, 0 ≤ s.1) → x ∈ bendsF b st → b ≤ x ∧ x ≤ b + units st
  | [], b, _, h => by simp [bendsF] at h; subst h; simp [units]
  | (n, p) :: r, b, hn, h => by
    have hn0 : 0 ≤ n := hn (n, p) (by simp)
    have hr : ∀ s ∈ r, 0 ≤ s.1 := fun s hs => hn s (by simp [hs])
    have hu : units ((n, p) :: r) = n + units r := by simp [units]
    rcases List.mem_cons.mp h with rfl | h
    · have : 0 ≤ units r := Int.le_trans (firstF_nn (pr := 0) r hr).1 (firstF_nn (pr := 0) r hr).2
      rw [hu]; omega
    · have := bendsF_in r hr h
      rw [hu]; omega
theorem bendsF_first {pr : Int} : ∀ (st : List (Int × Int)) {b : Int}, (st.Pairwise fun a b => a.2 < b.2) → b + firstF pr st ∈ bendsF b st
  | [], b, _ => by simp [bendsF, firstF]
  | (n, p) :: r, b, h => by
    obtain ⟨hp, hs⟩ := List.pairwise_cons.mp h
    rw [bendsF, firstF]
    by_cases hpp : p < pr
    · rw [if_pos hpp]
      have := bendsF_first (pr := pr) r (b := b + n) hs
      exact List.mem_cons_of_mem _ (by rwa [← Int.add_assoc])
    · rw [if_neg hpp, firstF_0 r fun s hs' => by have := hp s hs'; simp at this; omega]
      simp
theorem bendsF_len : ∀ (st : List (Int × Int)) (b : Int), (bendsF b st).length = st.length + 1
  | [], _ => rfl
  | (n, p) :: r, b => by simp [bendsF, bendsF_len r]
/-- the cost at a place; the greatest gain at a price -/
def Crv.costAt (c : Crv) (x : Int) : Int := c.cost + rise c.st (x - c.lo)
def Crv.best (c : Crv) (pr : Int) : Int := c.lo + firstF pr c.st
def Crv.gain (c : Crv) (pr : Int) : Int := pr * c.best pr - c.costAt (c.best pr)
structure Rises (c : Crv) : Prop where
  cnt : ∀ s ∈ c.st, 0 ≤ s.1
  rise : c.st.Pairwise fun a b => a.2 < b.2
theorem gain_at {c : Crv} (h : Rises c) {pr x : Int} (h0 : c.lo ≤ x) (h1 : x ≤ c.last) : pr * x - c.costAt x = pr * c.lo - c.cost + gainF pr c.st (x - c.lo) := by
  have h1 : x ≤ c.lo + units c.st := h1
  have e := gainF_eq (pr := pr) c.st h.cnt (u := x - c.lo) (by omega) (by omega)
  unfold Crv.costAt
  rw [← e, Int.mul_sub]; omega
theorem gain_max {c : Crv} (h : Rises c) {pr : Int} : c.gain pr ∈ (bendsF c.lo c.st).map (fun x => pr * x - c.costAt x) ∧ ∀ y ∈ (bendsF c.lo c.st).map (fun x => pr * x - c.costAt x), y ≤ c.gain pr := by
  have f := firstF_nn (pr := pr) c.st h.cnt
  refine ⟨List.mem_map.mpr ⟨c.best pr, bendsF_first c.st h.rise, rfl⟩, fun y hy => ?_⟩
  obtain ⟨x, hx, rfl⟩ := List.mem_map.mp hy
  obtain ⟨x1, x2⟩ := bendsF_in c.st h.cnt hx
  show _ ≤ pr * c.best pr - c.costAt (c.best pr)
  rw [gain_at h x1 x2, gain_at h (show c.lo ≤ c.best pr by unfold Crv.best; omega) (show c.lo + firstF pr c.st ≤ c.lo + units c.st by omega)]
  have := (gain_best (pr := pr) c.st h.cnt h.rise).2 (x - c.lo)
  have e : c.best pr - c.lo = firstF pr c.st := by unfold Crv.best; omega
  rw [e]; omega
theorem maxI_is {m : Int} {l : List Int} {v : Int} (h1 : v ∈ m :: l) (h2 : ∀ y ∈ m :: l, y ≤ v) : maxI m l = v := Int.le_antisymm (h2 _ (maxI_mem m l)) (maxI_le m l v h1)
/-! ### the code's words -/
/-- counts and prices of a sane size -/
structure Sane (c : Crv) : Prop where
  len : c.st.length < 1000
  cnt : ∀ s ∈ c.st, s.1.natAbs < 2 ^ 600
  pr : ∀ s ∈ c.st, s.2.natAbs < 2 ^ 600
theorem cost_for {k : Nat} {S : Store} {D0 X0 : D} : ∀ (st : List (Int × Int)) (u acc : Int) (a b lo stp : Slot), (∀ s ∈ st, s.1.natAbs < 2 ^ 600) → (∀ s ∈ st, s.2.natAbs < 2 ^ 600) → u.natAbs < 2 ^ 700 + 0 * st.length → (∀ s ∈ st, 0 ≤ s.1) → 0 ≤ u →
    ∃ u' a' b', forL (.tup [.nm 6, .nm 7]) (evSs (Vk k) fn_cost_at_b1) (evSs (Vk k) .nil) (st.map dSt) ⟨[.val D0, .val X0, .val (.int u), lo, .val (.int acc), stp, a, b], S⟩ = .ok .nx ⟨[.val D0, .val X0, .val (.int u'), lo, .val (.int (acc + riseC st u)), stp, a', b'], S⟩
  | [], u, acc, a, b, lo, stp, _, _, _, _, _ => ⟨u, a, b, by simp [forL, riseC]⟩
  | (n, p) :: r, u, acc, a, b, lo, stp, h1, h2, h3, h4, h5 => by
    have hn := h1 (n, p) (by simp)
    have hp := h2 (n, p) (by simp)
    have hn0 := h4 (n, p) (by simp)
    simp only at hn hp hn0
    obtain ⟨u', a', b', e⟩ := cost_for r (u - min n u) (acc + p * min n u) (.val (.int n)) (.val (.int p)) lo stp (fun s hs => h1 s (by simp [hs])) (fun s hs => h2 s (by simp [hs])) (by omega) (fun s hs => h4 s (by simp [hs])) (by omega)
    refine ⟨u', a', b', ?_⟩
    have hm : mulD (.int p) (.int (min n u)) = some (.int (p * min n u)) := mul_any (by omega) (by omega)
    rw [List.map_cons, forL_cons (s1 := ⟨[.val D0, .val X0, .val (.int u), lo, .val (.int acc), stp, .val (.int n), .val (.int p)], S⟩) (by simp [dSt, asg, asgs]) (s2 := ⟨[.val D0, .val X0, .val (.int (u - min n u)), lo, .val (.int (acc + p * min n u)), stp, .val (.int n), .val (.int p)], S⟩) ?_, e]
    · rw [riseC, Int.add_assoc]
    · simp [fn_cost_at_b1, hm]
theorem cost_at_ok {c : Crv} {x : Int} (hs : Sane c) (hr : Rises c) (h0 : c.lo ≤ x) (hx : (x - c.lo).natAbs < 2 ^ 700) : call (k + 1) 8 [dC c, .int x] S = .ok (.int (c.costAt x)) ⟨[], S⟩ := by
  rw [call_def fn_cost_at rfl rfl]
  obtain ⟨u', a', b', e⟩ := cost_for (k := k) (S := S) (D0 := dC c) (X0 := .int x) c.st (x - c.lo) c.cost .non .non (.val (.int c.lo)) (.val (.tup (c.st.map dSt))) hs.cnt hs.pr (by omega) hr.cnt (by omega)
  have dc : dC c = .tup [.int c.lo, .int c.cost, .tup (c.st.map dSt)] := rfl
  rw [dc] at e
  simp [fn_cost_at, argsEnv, dC, asg, asgs, e, Crv.costAt, riseC_eq c.st hr.cnt (show 0 ≤ x - c.lo by omega)]
theorem law_cost_for {k : Nat} {S : Store} {D0 : D} {x : Int} : ∀ (st : List (Int × Int)) (beg acc : Int) (a b : Slot), (∀ s ∈ st, s.1.natAbs < 2 ^ 600) → (∀ s ∈ st, s.2.natAbs < 2 ^ 600) →
    ∃ u' a' b', forL (.tup [.nm 4, .nm 5]) (evSs (Vk k) fn_law_cost_b1) (evSs (Vk k) .nil) (st.map dSt) ⟨[.val D0, .val (.int x), .val (.int acc), .val (.int beg), a, b], S⟩ = .ok .nx ⟨[.val D0, .val (.int x), .val (.int (acc + rise st (x - beg))), u', a', b'], S⟩
  | [], beg, acc, a, b, _, _ => ⟨.val (.int beg), a, b, by simp [forL, rise]⟩
  | (n, p) :: r, beg, acc, a, b, h1, h2 => by
    have hn := h1 (n, p) (by simp)
    have hp := h2 (n, p) (by simp)
    simp only at hn hp
    obtain ⟨u', a', b', e⟩ := law_cost_for r (beg + n) (acc + p * max 0 (min n (x - beg))) (.val (.int n)) (.val (.int p)) (fun s hs => h1 s (by simp [hs])) (fun s hs => h2 s (by simp [hs]))
    refine ⟨u', a', b', ?_⟩
    have hm : mulD (.int p) (.int (max 0 (min n (x - beg)))) = some (.int (p * max 0 (min n (x - beg)))) := mul_any (by omega) (by omega)
    rw [List.map_cons, forL_cons (s1 := ⟨[.val D0, .val (.int x), .val (.int acc), .val (.int beg), .val (.int n), .val (.int p)], S⟩) (by simp [dSt, asg, asgs]) (s2 := ⟨[.val D0, .val (.int x), .val (.int (acc + p * max 0 (min n (x - beg)))), .val (.int (beg + n)), .val (.int n), .val (.int p)], S⟩) ?_, e]
    · rw [rise, Int.add_assoc, show x - (beg + n) = x - beg - n by omega]
    · simp [fn_law_cost_b1, hm]
theorem law_cost_ok {c : Crv} {x : Int} (hs : Sane c) : call (k + 1) 60 [dC c, .int x] S = .ok (.int (c.costAt x)) ⟨[], S⟩ := by
  rw [call_def fn_law_cost rfl rfl]
  obtain ⟨u', a', b', e⟩ := law_cost_for (k := k) (S := S) (D0 := dC c) (x := x) c.st c.lo c.cost .non .non hs.cnt hs.pr
  have dc : dC c = .tup [.int c.lo, .int c.cost, .tup (c.st.map dSt)] := rfl
  rw [dc] at e
  simp [fn_law_cost, argsEnv, dC, e, Crv.costAt]
theorem intsO_map (l : List Int) : intsO (l.map .int) = some l := by
  induction l with
  | nil => rfl
  | cons a l ih => rw [List.map_cons]; show (intsO (l.map .int)).map _ = _; rw [ih]; rfl
theorem max_list {l : List Int} {v : Int} (h1 : v ∈ l) (h2 : ∀ y ∈ l, y ≤ v) : max2D [.lst (l.map .int)] = some (.int v) := by
  cases l with
  | nil => cases h1
  | cons m r =>
    show (match intsO ((m :: r).map .int) with
      | some (m :: r) => some (D.int (maxI m r))
      | _ => none) = _
    rw [intsO_map]
    show some (D.int (maxI m r)) = _
    rw [maxI_is h1 h2]
theorem best_for {k : Nat} {S : Store} {D0 : D} {pr : Int} : ∀ (st : List (Int × Int)) (f l : Int) (a b : Slot),
    ∃ l' a' b', forL (.tup [.nm 4, .nm 5]) (evSs (Vk k) fn_best_of_b1) (evSs (Vk k) .nil) (st.map dSt) ⟨[.val D0, .val (.int pr), .val (.int f), .val (.int l), a, b], S⟩ = .ok .nx ⟨[.val D0, .val (.int pr), .val (.int (f + firstF pr st)), .val (.int l'), a', b'], S⟩
  | [], f, l, a, b => ⟨l, a, b, by simp [forL, firstF]⟩
  | (n, p) :: r, f, l, a, b => by
    by_cases h1 : p < pr
    · obtain ⟨l', a', b', e⟩ := best_for r (f + n) (l + n) (.val (.int n)) (.val (.int p))
      refine ⟨l', a', b', ?_⟩
      rw [List.map_cons, forL_cons (s1 := ⟨[.val D0, .val (.int pr), .val (.int f), .val (.int l), .val (.int n), .val (.int p)], S⟩) (by simp [dSt, asg, asgs]) (s2 := ⟨[.val D0, .val (.int pr), .val (.int (f + n)), .val (.int (l + n)), .val (.int n), .val (.int p)], S⟩) ?_, e]
      · rw [firstF, if_pos h1, Int.add_assoc]
      · simp [fn_best_of_b1, h1, show p ≤ pr by omega]
    · by_cases h2 : p ≤ pr
      · obtain ⟨l', a', b', e⟩ := best_for r f (l + n) (.val (.int n)) (.val (.int p))
        refine ⟨l', a', b', ?_⟩
        rw [List.map_cons, forL_cons (s1 := ⟨[.val D0, .val (.int pr), .val (.int f), .val (.int l), .val (.int n), .val (.int p)], S⟩) (by simp [dSt, asg, asgs]) (s2 := ⟨[.val D0, .val (.int pr), .val (.int f), .val (.int (l + n)), .val (.int n), .val (.int p)], S⟩) ?_, e]
        · rw [firstF, if_neg h1, Int.zero_add]
        · simp [fn_best_of_b1, h1, h2]
      · obtain ⟨l', a', b', e⟩ := best_for r f l (.val (.int n)) (.val (.int p))
        refine ⟨l', a', b', ?_⟩
        rw [List.map_cons, forL_cons (s1 := ⟨[.val D0, .val (.int pr), .val (.int f), .val (.int l), .val (.int n), .val (.int p)], S⟩) (by simp [dSt, asg, asgs]) (s2 := ⟨[.val D0, .val (.int pr), .val (.int f), .val (.int l), .val (.int n), .val (.int p)], S⟩) ?_, e]
        · rw [firstF, if_neg h1, Int.zero_add]
        · simp [fn_best_of_b1, h1, h2]
theorem best_of_ok {c : Crv} {pr : Int} : ∃ l, call (k + 1) 30 [dC c, .int pr] S = .ok (.tup [.int (c.best pr), .int l]) ⟨[], S⟩ := by
  rw [call_def fn_best_of rfl rfl]
  obtain ⟨l', a', b', e⟩ := best_for (k := k) (S := S) (D0 := dC c) (pr := pr) c.st c.lo c.lo .non .non
  have dc : dC c = .tup [.int c.lo, .int c.cost, .tup (c.st.map dSt)] := rfl
  rw [dc] at e
  exact ⟨l', by simp [fn_best_of, argsEnv, dC, e, Crv.best]⟩
theorem gain_of_ok {c : Crv} {pr : Int} (hs : Sane c) (hr : Rises c) (hp : pr.natAbs < 2 ^ 600) (hx : ∀ x, c.lo ≤ x → x ≤ c.last → x.natAbs < 2 ^ 600) : call (k + 2) 31 [dC c, .int pr] S = .ok (.int (c.gain pr)) ⟨[], S⟩ := by
  rw [call_def fn_gain_of rfl rfl]
  obtain ⟨l, h1⟩ := best_of_ok (k := k) (S := S) (c := c) (pr := pr)
  have f := firstF_nn (pr := pr) c.st hr.cnt
  have b0 : c.lo ≤ c.best pr := by unfold Crv.best; omega
  have b1 : c.best pr ≤ c.last := by unfold Crv.best Crv.last; omega
  have hb := hx _ b0 b1
  have hl := hx c.lo (Int.le_refl _) (by unfold Crv.last; omega)
  have h2 := cost_at_ok (k := k) (S := S) hs hr b0 (by omega)
  have hm : mulD (.int pr) (.int (c.best pr)) = some (.int (pr * c.best pr)) := mul_any (by omega) (by omega)
  simp [fn_gain_of, argsEnv, h1, h2, hm, Crv.gain]
end FW

/-! PlCur: joined steps, sharing. -/
namespace FW
open PySem L2
variable {k : Nat} {S : Store}
theorem okDs_st {n : Nat} (h : 1 ≤ n) (l : List (Int × Int)) : okDs n (l.map dSt) = true := okDs_map (fun x => by cases n with
  | zero => omega
  | succ n => simp [dSt, okD, okDs]) l
theorem ne_empty_st (l : List (Int × Int)) : neD (.lst (l.map dSt)) (.lst []) = some (.bl (!l.isEmpty)) := by
  rw [ne_ok (by simp [okD, okDs_st]) (by simp [okD, okDs])]
  cases l <;> simp [D.py, D.pys, PyData.eqv, PyData.eqvAll]
/-- the last step -/
theorem last_st {l : List (Int × Int)} {s : Int × Int} (h : l.getLast? = some s) : atI (l.map dSt) (-1) = some (dSt s) := atI_neg1 (by rw [List.getLast?_map, h]; rfl)
def joinA (acc : List (Int × Int)) (s : Int × Int) : List (Int × Int) := match acc.getLast? with
  | some l => if l.2 = s.2 then acc.dropLast ++ [(l.1 + s.1, s.2)] else acc ++ [s]
  | none => acc ++ [s]
def joinP (acc : List (Int × Int)) (s : Int × Int) : List (Int × Int) := match acc.getLast? with
  | some l => if l.2 = s.2 then acc.dropLast ++ [(l.1 + s.1, s.2)] else if 0 < s.1 then acc ++ [s] else acc
  | none => if 0 < s.1 then acc ++ [s] else acc
def joinS (l : List (Int × Int)) : List (Int × Int) := l.foldl joinP []
theorem joinP_len (acc : List (Int × Int)) (s : Int × Int) : (joinP acc s).length ≤ acc.length + 1 := by
  unfold joinP
  split
  · split
    · simp
    · split <;> simp
  · split <;> simp
theorem joinS_len (l : List (Int × Int)) : (joinS l).length ≤ l.length := by
  suffices h : ∀ (l acc : List (Int × Int)), (l.foldl joinP acc).length ≤ acc.length + l.length by simpa [joinS] using h l []
  intro l
  induction l with
  | nil => intro acc; simp
  | cons s r ih => intro acc; rw [List.foldl_cons, List.length_cons]; have := ih (joinP acc s); have := joinP_len acc s; omega
theorem dropLast_set {α β : Type} (f : α → β) {l : List α} (h : l ≠ []) (y : β) : (l.map f).set (l.length - 1) y = l.dropLast.map f ++ [y] := by
  rcases List.eq_nil_or_concat l with rfl | ⟨i, a, rfl⟩
  · exact absurd rfl h
  · rw [List.concat_eq_append, List.dropLast_concat, List.map_append, List.length_append]
    rw [List.set_append_right _ _ (by simp)]
    simp
theorem joined_ok {l : List (Int × Int)} (h : l.length < 16777216) : call (k + 1) 11 [.lst (l.map dSt)] S = .ok (.tup ((joinS l).map dSt)) ⟨[], S⟩ := by
  rw [call_def fn_joined_steps rfl rfl]
  obtain ⟨s2, e2, x, y, rfl⟩ := forL_map (t := .tup [.nm 2, .nm 3]) (body := evSs (Vk k) fn_joined_steps_b1) (els := evSs (Vk k) .nil) dSt l
    (fun p st => ∃ x y, st = ⟨[.val (.lst (l.map dSt)), .own ((p.foldl joinP []).map dSt), x, y], S⟩) [] (st := ⟨[.val (.lst (l.map dSt)), .own [], .non, .non], S⟩) (fun p s q st e ⟨x, y, hst⟩ => by
    subst hst
    refine ⟨⟨[.val (.lst (l.map dSt)), .own ((p.foldl joinP []).map dSt), .val (.int s.1), .val (.int s.2)], S⟩, ⟨[.val (.lst (l.map dSt)), .own (((p ++ [s]).foldl joinP []).map dSt), .val (.int s.1), .val (.int s.2)], S⟩, by simp [dSt, asg, asgs], ?_, _, _, rfl⟩
    rw [List.foldl_append]
    show _ = R.ok Fl.nx ⟨[_, .own ((joinP (p.foldl joinP []) s).map dSt), _, _], S⟩
    have hz : (p.foldl joinP []).length < 16777216 := by
      have := joinS_len p
      have e := congrArg List.length e
      simp at e
      unfold joinS at this
      omega
    generalize p.foldl joinP [] = acc at hz
    unfold joinP
    cases hl : acc.getLast? with
    | none =>
      have := List.getLast?_eq_none_iff.mp hl
      subst this
      have n0 := ne_empty_st []
      simp only [List.map_nil, List.isEmpty_nil] at n0
      by_cases hs : 0 < s.1
      · simp [fn_joined_steps_b1, n0, hs, dSt]
      · simp [fn_joined_steps_b1, n0, hs, dSt]
    | some t =>
      have hne : acc ≠ [] := fun z => by rw [z] at hl; cases hl
      have n0 := ne_empty_st acc
      have he : acc.isEmpty = false := by cases acc <;> simp_all
      rw [he] at n0
      have l1 := last_st hl
      have l2 : atI [D.int t.1, D.int t.2] 1 = some (.int t.2) := by simp
      have l0 : atI [D.int t.1, D.int t.2] 0 = some (.int t.1) := by simp
      have li := ixN_neg1 (n := acc.length) (List.length_pos_iff.mpr hne)
      have d1 : dSt t = .tup [.int t.1, .int t.2] := rfl
      by_cases h1 : t.2 = s.2
      · have ds := dropLast_set dSt hne (.tup [.int (t.1 + s.1), .int s.2])
        simp [fn_joined_steps_b1, n0, he, hne, l1, d1, l2, l0, h1, li, ds]
        simp [dSt]
      · by_cases hs : 0 < s.1
        · simp [fn_joined_steps_b1, n0, he, hne, l1, d1, l2, l0, h1, hs, hz]
          simp [dSt]
        · simp [fn_joined_steps_b1, n0, he, hne, l1, d1, l2, l0, h1, hs]) ⟨_, _, rfl⟩
  simp only [List.nil_append] at e2
  simp [fn_joined_steps, argsEnv, hideFrom, e2, joinS]
/-- rows (price, count) -/
def swp (s : Int × Int) : Int × Int := (s.2, s.1)
theorem swp_swp (s : Int × Int) : swp (swp s) = s := rfl
theorem listD_l {l : List D} : listD (.lst l) = some l := rfl
theorem pairsD_st (l : List (Int × Int)) : pairsD (l.map dSt) = some l := by
  induction l with
  | nil => rfl
  | cons s r ih => rw [List.map_cons]; show (pairD (dSt s)).bind _ = _; rw [ih]; rfl
theorem sort_st (l : List (Int × Int)) : sortD (l.map dSt) = some ((isortP l).map dSt) := by
  unfold sortD
  cases l with
  | nil => simp [intsD, isortI, isortP]
  | cons s r =>
    have e : intsD ((s :: r).map dSt) = none := rfl
    rw [e, pairsD_st]; rfl
theorem isortP_len (l : List (Int × Int)) : (isortP l).length = l.length := (isortP_perm l).length_eq
def joinAll (l : List (Int × Int)) : List (Int × Int) := l.foldl joinA []
theorem joinA_len (acc : List (Int × Int)) (s : Int × Int) : (joinA acc s).length ≤ acc.length + 1 := by
  unfold joinA
  split
  · split <;> simp
  · simp
theorem joinAll_len (l : List (Int × Int)) : (joinAll l).length ≤ l.length := by
  suffices h : ∀ (l acc : List (Int × Int)), (l.foldl joinA acc).length ≤ acc.length + l.length by simpa [joinAll] using h l []
  intro l
  induction l with
  | nil => intro acc; simp
  | cons s r ih => intro acc; rw [List.foldl_cons, List.length_cons]; have := ih (joinA acc s); have := joinA_len acc s; omega
theorem joinP_A {acc : List (Int × Int)} {s : Int × Int} (h : 0 < s.1) : joinP acc s = joinA acc s := by
  unfold joinP joinA
  simp only [if_pos h]
theorem joinA_none {acc : List (Int × Int)} {s : Int × Int} (h : acc.getLast? = none) : joinA acc s = acc ++ [s] := by unfold joinA; rw [h]
theorem joinA_some {acc : List (Int × Int)} {s t : Int × Int} (h : acc.getLast? = some t) : joinA acc s = if t.2 = s.2 then acc.dropLast ++ [(t.1 + s.1, s.2)] else acc ++ [s] := by unfold joinA; rw [h]
theorem join_pos : ∀ {l : List (Int × Int)} {acc : List (Int × Int)}, (∀ s ∈ l, 0 < s.1) → l.foldl joinP acc = l.foldl joinA acc
  | [], _, _ => rfl
  | s :: r, acc, h => by rw [List.foldl_cons, List.foldl_cons, joinP_A (h s (by simp)), join_pos fun t ht => h t (by simp [ht])]
/-- the sharing of two data -/
def shareC (a b : Crv) : Crv := ⟨a.lo + b.lo, a.cost + b.cost, joinS ((isortP ((a.st ++ b.st).map swp)).map swp)⟩
theorem swap_comp {V : Ev} {E0 : FW.Env} {a b : Nat} {e : E} (ha : a < E0.length) (hb : b < E0.length) (hab : a ≠ b) (he : e = .tup (.cons (.var b) (.cons (.var a) .nil))) (st : List (Int × Int)) :
    lcGo (.tup [.nm a, .nm b]) cYes (evE V e) E0 (st.map dSt) S = some ((st.map swp).map dSt, S) := by
  rw [List.map_map]
  refine lc_map (f := dSt) (g := fun s => dSt (swp s)) (fun s => ⟨⟨(E0.set a (.val (.int s.1))).set b (.val (.int s.2)), S⟩, ⟨(E0.set a (.val (.int s.1))).set b (.val (.int s.2)), S⟩, ⟨(E0.set a (.val (.int s.1))).set b (.val (.int s.2)), S⟩, ?_, rfl, ?_, rfl⟩) st
  · simp [dSt, asg, asgs]
  · subst he
    have g1 : getV ((E0.set a (.val (.int s.1))).set b (.val (.int s.2))) a ⟨(E0.set a (.val (.int s.1))).set b (.val (.int s.2)), S⟩ = .ok (.int s.1) ⟨(E0.set a (.val (.int s.1))).set b (.val (.int s.2)), S⟩ := by
      unfold getV; rw [List.getElem?_set_ne (Ne.symm hab), List.getElem?_set_self ha]
    have g2 : getV ((E0.set a (.val (.int s.1))).set b (.val (.int s.2))) b ⟨(E0.set a (.val (.int s.1))).set b (.val (.int s.2)), S⟩ = .ok (.int s.2) ⟨(E0.set a (.val (.int s.1))).set b (.val (.int s.2)), S⟩ := by
      unfold getV; rw [List.getElem?_set_self (by simpa using hb)]
    simp only [ev_tup, ev_cons, ev_nil, ev_var, g1, g2, R.bind_ok]
    simp [dSt, swp]
theorem sharing_ok {a b : Crv} (h : a.st.length + b.st.length < 16777216) : call (k + 2) 12 [dC a, dC b] S = .ok (dC (shareC a b)) ⟨[], S⟩ := by
  rw [call_def fn_sharing_of rfl rfl]
  have c1 : ∀ (E0 : FW.Env) (S : Store), E0.length = 5 → lcGo (.tup [.nm 3, .nm 4]) cYes (evE (Vk (k + 1)) fn_sharing_of_e1) E0 ((a.st ++ b.st).map dSt) S = some (((a.st ++ b.st).map swp).map dSt, S) := fun E0 S hE => swap_comp (by omega) (by omega) (by decide) rfl _
  have c2 : ∀ (E0 : FW.Env) (S : Store) (l : List (Int × Int)), E0.length = 5 → lcGo (.tup [.nm 4, .nm 3]) cYes (evE (Vk (k + 1)) fn_sharing_of_e2) E0 (l.map dSt) S = some ((l.map swp).map dSt, S) := fun E0 S l hE => swap_comp (by omega) (by omega) (by decide) rfl _
  have ha : addD (.tup (a.st.map dSt)) (.tup (b.st.map dSt)) = some (.tup ((a.st ++ b.st).map dSt)) := by
    show gd _ _ = _
    rw [szOk_le (by simp; omega), List.map_append]; rfl
  have hz : (a.st ++ b.st).length < 16777216 := by simp; omega
  unfold shareC
  generalize a.st ++ b.st = m at c1 ha hz
  have hs := sort_st (m.map swp)
  have hl : (isortP (m.map swp)).length < 16777216 := by simp [isortP_len]; omega
  have j := joined_ok (k := k) (S := S) (l := (isortP (m.map swp)).map swp) (by simpa using hl)
  have c2' := fun E0 S hE => c2 E0 S (isortP (m.map swp)) hE
  generalize isortP (m.map swp) = r at hs hl j c2'
  have hz2 : (m.map swp).length < 16777216 := by simpa using hz
  have hz3 : (r.map swp).length < 16777216 := by simpa using hl
  generalize m.map swp = m2 at c1 hs hz2
  generalize r.map swp = r2 at j c2' hz3
  simp only [fn_sharing_of, argsEnv]
  simp [dC, ha, hideFrom, c1, hz, hz2, listD_l, hs, c2', hl, hz3, j]
def shareL (a b : Crv) : Crv := ⟨a.lo + b.lo, a.cost + b.cost, joinAll ((isortP ((a.st ++ b.st).map swp)).map swp)⟩
/-- every count is above 0 -/
def PosC (c : Crv) : Prop := ∀ s ∈ c.st, 0 < s.1
theorem share_eq {a b : Crv} (ha : PosC a) (hb : PosC b) : shareL a b = shareC a b := by
  unfold shareL shareC joinAll joinS
  rw [join_pos fun s hs => ?_]
  obtain ⟨t, ht, rfl⟩ := List.mem_map.mp hs
  have ht := (isortP_perm _).mem_iff.mp ht
  obtain ⟨u, hu, rfl⟩ := List.mem_map.mp ht
  rcases List.mem_append.mp hu with hu | hu
  · exact ha u hu
  · exact hb u hu
theorem share_comm (a b : Crv) : shareC a b = shareC b a := by
  unfold shareC
  have e : isortP ((a.st ++ b.st).map swp) = isortP ((b.st ++ a.st).map swp) :=
    perm_uniq (r := fun x y => leP x y = true) leP_anti (isortP_le _) (isortP_le _) ((isortP_perm _).trans ((List.perm_append_comm.map swp).trans (isortP_perm _).symm))
  rw [e, Int.add_comm a.lo, Int.add_comm a.cost]
theorem joinA_pos {acc : List (Int × Int)} {s : Int × Int} (h : ∀ t ∈ acc, 0 < t.1) (hs : 0 < s.1) : ∀ t ∈ joinA acc s, 0 < t.1 := by
  intro t ht
  cases hl : acc.getLast? with
  | none =>
    rw [joinA_none hl] at ht
    rcases List.mem_append.mp ht with ht | ht
    · exact h t ht
    · rw [List.mem_singleton.mp ht]; exact hs
  | some u =>
    rw [joinA_some hl] at ht
    have hu := h u (List.mem_of_getLast? hl)
    split at ht
    · rcases List.mem_append.mp ht with ht | ht
      · exact h t ((List.dropLast_sublist _).mem ht)
      · rw [List.mem_singleton.mp ht]; show 0 < u.1 + s.1; omega
    · rcases List.mem_append.mp ht with ht | ht
      · exact h t ht
      · rw [List.mem_singleton.mp ht]; exact hs
theorem joinAll_pos : ∀ {l acc : List (Int × Int)}, (∀ s ∈ l, 0 < s.1) → (∀ t ∈ acc, 0 < t.1) → ∀ t ∈ l.foldl joinA acc, 0 < t.1
  | [], acc, _, h => h
  | s :: r, acc, hl, h => by rw [List.foldl_cons]; exact joinAll_pos (fun t ht => hl t (by simp [ht])) (joinA_pos h (hl s (by simp)))
theorem share_pos {a b : Crv} (ha : PosC a) (hb : PosC b) : PosC (shareC a b) := by
  rw [← share_eq ha hb]
  refine joinAll_pos (fun s hs => ?_) (by simp)
  obtain ⟨t, ht, rfl⟩ := List.mem_map.mp hs
  have ht := (isortP_perm _).mem_iff.mp ht
  obtain ⟨u, hu, rfl⟩ := List.mem_map.mp ht
  rcases List.mem_append.mp hu with hu | hu
  · exact ha u hu
  · exact hb u hu
theorem share_len (a b : Crv) : (shareC a b).st.length ≤ a.st.length + b.st.length := by
  refine Nat.le_trans (joinS_len _) ?_
  rw [List.length_map, isortP_len, List.length_map, List.length_append]
  exact Nat.le_refl _
end FW

/-! PlPair: pairs of curves' data, drawn; data judged. -/
namespace FW
open PySem L2
variable {k : Nat} {S : Store}
/-- data within the bounds -/
structure DatOk (c : Crv) : Prop where
  lo : -10 ^ 12 ≤ c.lo ∧ c.lo ≤ 10 ^ 12
  cost : -10 ^ 12 ≤ c.cost ∧ c.cost ≤ 10 ^ 12
  len : c.st.length ≤ 6
  cnt : ∀ s ∈ c.st, 1 ≤ s.1
  rise : c.st.Pairwise fun a b => a.2 < b.2
  pr : ∀ s ∈ c.st, -10 ^ 6 ≤ s.2 ∧ s.2 ≤ 10 ^ 6
  last : c.last ≤ 10 ^ 12
theorem atI_st {st : List (Int × Int)} {i : Nat} (h : i < st.length) : atI (st.map dSt) (i : Int) = some (.tup [.int st[i].1, .int st[i].2]) := by
  rw [atI_nat (by simpa using h)]; simp [dSt]
end FW

/-! PlObj: objects of the curve class. -/
namespace FW
open PySem L2
variable {k : Nat} {S : Store}
theorem back_back {α : Type} (r : R α) (E E' : FW.Env) : (r.back E).back E' = r.back E' := by cases r <;> rfl
noncomputable def setK (f : Str) (v d : D) (s : State) : R Fl := match d with
  | .ref n => (match s.sto[n]? with
    | some (.ins c fs) => if fldOf cls f c && decide (fs.length < 1000) then .ok .nx ⟨s.env, s.sto.set n (.ins c (putD f v fs))⟩ else .bad
    | _ => .bad)
  | _ => .bad
@[simp] theorem es_setK {f o a st} : evS (Vk k) (.setA f o a) st = (evE (Vk k) a st).bind fun v s1 => (evE (Vk k) o s1).bind fun d s2 => setK f v d s2 := rfl
@[simp] theorem ec_eqo {a b st} : evC (Vk k) (.eqo a b) st = (evE (Vk k) (.eqo a b) st).bind fun d s => match d with
  | .bl b => .ok b s
  | _ => .bad := rfl
theorem st_rfs {n : Nat} (l : List (Int × Int)) : D.rfs n (l.map dSt) = true := by
  induction l with
  | nil => rfl
  | cons a l ih => simp [D.rfs, D.rf, dSt, ih]
theorem dC_rf {n : Nat} {c : Crv} : D.rf n (dC c) = true := by simp [dC, D.rf, D.rfs, st_rfs]
theorem put_end {f : Str} {v d : D} {c : Nat} {E : FW.Env} (h : fldOf cls f c = true) : setK f v (.ref S.length) ⟨E, S ++ [.ins c []]⟩ = .ok .nx ⟨E, S ++ [.ins c [(f, v)]]⟩ := by
  unfold setK
  simp [h]
  rfl
end FW

/-! PlSame: a thing is the same as itself; texts of data. -/
namespace FW
open PySem L2
variable {k : Nat} {S : Store}
mutual
/-- lists are short -/
def smD : D → Bool
  | .tup l => decide (l.length < 1000000) && smDs l
  | .lst l => decide (l.length < 1000000) && smDs l
  | _ => true
def smDs : List D → Bool
  | [] => true
  | d :: r => smD d && smDs r
end
theorem smDs_mem : ∀ {l : List D}, smDs l = true → ∀ x ∈ l, smD x = true
  | [], _, x, hx => by cases hx
  | d :: l, h, x, hx => by
    obtain ⟨h1, h2⟩ := band (show (smD d && smDs l) = true from by simpa only [smDs] using h)
    rcases List.mem_cons.mp hx with rfl | hx
    · exact h1
    · exact smDs_mem h2 x hx
theorem okDs_mem {n : Nat} : ∀ {l : List D}, okDs n l = true → ∀ x ∈ l, okD n x = true
  | [], _, x, hx => by cases hx
  | d :: l, h, x, hx => by
    obtain ⟨h1, h2⟩ := band (show (okD n d && okDs n l) = true from by simpa only [okDs] using h)
    rcases List.mem_cons.mp hx with rfl | hx
    · exact h1
    · exact okDs_mem h2 x hx
theorem smDs_of {l : List D} (h : ∀ x ∈ l, smD x = true) : smDs l = true := by
  induction l with
  | nil => rfl
  | cons d l ih => simp only [smDs, h d (by simp), ih fun x hx => h x (by simp [hx]), Bool.and_self]
theorem okDs_of {n : Nat} {l : List D} (h : ∀ x ∈ l, okD n x = true) : okDs n l = true := by
  induction l with
  | nil => rfl
  | cons d l ih => simp only [okDs, h d (by simp), ih fun x hx => h x (by simp [hx]), Bool.and_self]
@[simp] theorem eq_bb {a b : Bool} : eqD (.bl a) (.bl b) = some (.bl (decide (a = b))) := by cases a <;> cases b <;> rfl
@[simp] theorem ne_bb {a b : Bool} : neD (.bl a) (.bl b) = some (.bl (!decide (a = b))) := by cases a <;> cases b <;> rfl
theorem zip_self : ∀ l : List D, zipL l l = l.map fun x => .tup [x, x]
  | [] => rfl
  | d :: l => by simp [zipL, zip_self l]
theorem all_true (l : List D) : allD [.lst (l.map fun _ => .bl true)] = some (.bl true) := by
  have h : blsD (l.map fun _ => D.bl true) = some (l.map fun _ => true) := by
    induction l with
    | nil => rfl
    | cons d l ih => rw [List.map_cons]; show (blsD _).map _ = _; rw [ih]; rfl
  show (blsD _).map _ = _
  rw [h]; simp
mutual
/-- neat data, small dicts too -/
def okW : Nat → D → Bool
  | _, .non => true
  | _, .bl _ => true
  | _, .int _ => true
  | _, .str x => PyData.strOk x
  | _, .dic l => decide (l.length ≤ 1)
  | 0, .tup _ => false
  | n + 1, .tup l => okWs n l
  | 0, .lst _ => false
  | n + 1, .lst l => okWs n l
  | _, _ => false
def okWs : Nat → List D → Bool
  | _, [] => true
  | n, d :: r => okW n d && okWs n r
end
mutual
theorem okW_of : ∀ (n : Nat) (d : D), okD n d = true → okW n d = true
  | n, .non, _ => by simp [okW]
  | n, .bl _, _ => by simp [okW]
  | n, .int _, _ => by simp [okW]
  | n, .str x, h => by simpa [okW, okD] using h
  | 0, .tup _, h => by simp [okD] at h
  | n + 1, .tup l, h => by simpa only [okW] using okWs_of n l (by simpa only [okD] using h)
  | 0, .lst _, h => by simp [okD] at h
  | n + 1, .lst l, h => by simpa only [okW] using okWs_of n l (by simpa only [okD] using h)
  | n, .scr _, h => by simp [okD] at h
  | n, .obj _ _, h => by simp [okD] at h
  | n, .ref _, h => by simp [okD] at h
  | n, .dic _, h => by simp [okD] at h
theorem okWs_of : ∀ (n : Nat) (l : List D), okDs n l = true → okWs n l = true
  | _, [], _ => by simp [okWs]
  | n, d :: l, h => by
    obtain ⟨h1, h2⟩ := band (show (okD n d && okDs n l) = true from by simpa only [okDs] using h)
    simp only [okWs, okW_of n d h1, okWs_of n l h2, Bool.and_self]
end
theorem okWs_mem {n : Nat} : ∀ {l : List D}, okWs n l = true → ∀ x ∈ l, okW n x = true
  | [], _, x, hx => by cases hx
  | d :: l, h, x, hx => by
    obtain ⟨h1, h2⟩ := band (show (okW n d && okWs n l) = true from by simpa only [okWs] using h)
    rcases List.mem_cons.mp hx with rfl | hx
    · exact h1
    · exact okWs_mem h2 x hx
theorem okWs_all {n : Nat} {l : List D} (h : ∀ x ∈ l, okW n x = true) : okWs n l = true := by
  induction l with
  | nil => simp [okWs]
  | cons d l ih => simp only [okWs, h d (by simp), ih fun x hx => h x (by simp [hx]), Bool.and_self]
/-! ### texts -/
mutual
/-- at most so long is the text of a thing -/
def wt : D → Nat
  | .int _ => 1921
  | .tup l => wts l + 3
  | .lst l => wts l + 3
  | .str _ => 4000
  | .dic _ => 4000
  | _ => 5
def wts : List D → Nat
  | [] => 0
  | d :: r => wt d + 2 + wts r
end
mutual
/-- short strings, whole numbers of a fit size, small dicts -/
def fitD : D → Bool
  | .int i => decide (i.natAbs < 2 ^ 1900)
  | .non => true
  | .bl _ => true
  | .str x => decide ((PyData.str x).shown.length ≤ 4000)
  | .dic l => PyData.showable (D.dic l).py && decide ((D.dic l).py.shown.length ≤ 4000)
  | .tup l => fitDs l
  | .lst l => fitDs l
  | _ => false
def fitDs : List D → Bool
  | [] => true
  | d :: r => fitD d && fitDs r
end
theorem fitDs_of {l : List D} (h : ∀ x ∈ l, fitD x = true) : fitDs l = true := by
  induction l with
  | nil => rfl
  | cons d l ih => simp only [fitDs, h d (by simp), ih fun x hx => h x (by simp [hx]), Bool.and_self]
theorem wts_of {l : List D} {n : Nat} (h : ∀ x ∈ l, wt x ≤ n) : wts l ≤ (n + 2) * l.length := by
  induction l with
  | nil => simp [wts]
  | cons d l ih =>
    have h1 := h d (by simp)
    have h2 := ih fun x hx => h x (by simp [hx])
    simp only [wts, List.length_cons, Nat.mul_succ]; omega
theorem piled_eq (ts : List Str) : (ts.map (·.length)).sum + 2 * ts.length = piled ts := by
  induction ts with
  | nil => rfl
  | cons t ts ih => rw [piled_cons, ← ih, List.map_cons, List.sum_cons, List.length_cons]; omega
mutual
theorem fit_text : ∀ d : D, fitD d = true → PyData.showable d.py = true ∧ d.py.shown.length ≤ wt d ∧ d.shw = true
  | .non, _ => ⟨rfl, by decide, rfl⟩
  | .bl b, _ => ⟨rfl, by cases b <;> decide, rfl⟩
  | .int i, h => by
    have h : i.natAbs < 2 ^ 1900 := of_decide_eq_true (by simpa only [fitD] using h)
    have h2 : i.natAbs.log2 < 1920 := Nat.lt_trans (log2_lt (k := 1900) (by decide) h) (by decide)
    exact ⟨by simpa only [D.py, PyData.showable] using decide_eq_true h2, by simpa only [D.py, PyData.shown, wt] using PyProof.Rows.int_text_len_1921 h2, by simp [D.shw]⟩
  | .str x, h => by
    have h : (PyData.str x).shown.length ≤ 4000 := of_decide_eq_true (by simpa only [fitD] using h)
    exact ⟨by simp [D.py, PyData.showable], by simpa only [D.py, wt] using h, by simp [D.shw]⟩
  | .dic l, h => by
    obtain ⟨h1, h2⟩ := band (show (PyData.showable (D.dic l).py && decide ((D.dic l).py.shown.length ≤ 4000)) = true from by simpa only [fitD] using h)
    exact ⟨h1, by simpa only [wt] using of_decide_eq_true h2, by simp [D.shw]⟩
  | .tup l, h => by
    obtain ⟨h1, h2, h3⟩ := fits_text l (by simpa only [fitD] using h)
    refine ⟨by simpa only [D.py, PyData.showable] using h1, ?_, by simpa only [D.shw] using h3⟩
    simp only [D.py, PyData.shown, wt]
    have := tupleText_len_le (PyData.shownAll (D.pys l))
    have := piled_eq (PyData.shownAll (D.pys l))
    omega
  | .lst l, h => by
    obtain ⟨h1, h2, h3⟩ := fits_text l (by simpa only [fitD] using h)
    refine ⟨by simpa only [D.py, PyData.showable] using h1, ?_, by simpa only [D.shw] using h3⟩
    simp only [D.py, PyData.shown, wt]
    have := listText_len_le (PyData.shownAll (D.pys l))
    have := piled_eq (PyData.shownAll (D.pys l))
    omega
  | .scr _, h => by simp [fitD] at h
  | .obj _ _, h => by simp [fitD] at h
  | .ref _, h => by simp [fitD] at h
theorem fits_text : ∀ l : List D, fitDs l = true → PyData.showableAll (D.pys l) = true ∧ piled (PyData.shownAll (D.pys l)) ≤ wts l ∧ D.shws l = true
  | [], _ => ⟨rfl, by decide, rfl⟩
  | d :: l, h => by
    obtain ⟨h1, h2⟩ := band (show (fitD d && fitDs l) = true from by simpa only [fitDs] using h)
    obtain ⟨a1, a2, a3⟩ := fit_text d h1
    obtain ⟨b1, b2, b3⟩ := fits_text l h2
    refine ⟨by simp only [D.pys, PyData.showableAll, a1, b1, Bool.and_self], ?_, by simp only [D.shws, a3, b3, Bool.and_self]⟩
    simp only [D.pys, PyData.shownAll, wts, piled_cons]; omega
end
theorem dic_depth (l : List (Str × Int)) : (D.dic l).py.depth ≤ 2 := by
  simp only [D.py, PyData.depth]
  have : ∀ l : List (Str × Int), PyData.depthKv (l.map fun p => (PyData.str p.1, PyData.int p.2)) ≤ 1 := fun l => by
    induction l with
    | nil => simp [PyData.depthKv]
    | cons p l ih => simp [PyData.depthKv, PyData.depth]; omega
  have := this l
  omega
mutual
theorem okW_depth : ∀ (n : Nat) (d : D), okW n d = true → d.py.depth ≤ n + 2
  | n, .non, _ => by simp [D.py, PyData.depth]
  | n, .bl _, _ => by simp [D.py, PyData.depth]
  | n, .int _, _ => by simp [D.py, PyData.depth]
  | n, .str x, _ => by simp [D.py, PyData.depth]
  | n, .dic l, _ => by have := dic_depth l; omega
  | 0, .tup _, h => by simp [okW] at h
  | n + 1, .tup l, h => by
    have := okWs_depth n l (by simpa only [okW] using h)
    simp only [D.py, PyData.depth]; omega
  | 0, .lst _, h => by simp [okW] at h
  | n + 1, .lst l, h => by
    have := okWs_depth n l (by simpa only [okW] using h)
    simp only [D.py, PyData.depth]; omega
  | n, .scr _, h => by simp [okW] at h
  | n, .obj _ _, h => by simp [okW] at h
  | n, .ref _, h => by simp [okW] at h
theorem okWs_depth : ∀ (n : Nat) (l : List D), okWs n l = true → PyData.depthAll (D.pys l) ≤ n + 2
  | n, [], _ => by simp [D.pys, PyData.depthAll]
  | n, d :: l, h => by
    obtain ⟨h1, h2⟩ := band (show (okW n d && okWs n l) = true from by simpa only [okWs] using h)
    have := okW_depth n d h1
    have := okWs_depth n l h2
    simp only [D.pys, PyData.depthAll]; omega
end
theorem repr_okW {d : D} (h1 : fitD d = true) (h2 : okW 50 d = true) (h3 : wt d ≤ 16777216) : reprD [d] = some (.str d.py.shown) := by
  obtain ⟨a1, a2, a3⟩ := fit_text d h1
  have b3 := okW_depth 50 d h2
  have h : reprOk d = true := by
    unfold reprOk
    rw [a3, a1, szOk_le (by omega), decide_eq_true (show d.py.depth ≤ 60 by omega)]; rfl
  show (if reprOk d = true then _ else _) = _
  rw [if_pos h]
theorem repr_ok {d : D} (h1 : fitD d = true) (h2 : okD 50 d = true) (h3 : wt d ≤ 16777216) : reprD [d] = some (.str d.py.shown) := repr_okW h1 (okW_of 50 d h2) h3
end FW

/-! PlView: best places; sharings and mirrored ones rise. -/
namespace FW
open PySem L2
variable {k : Nat} {S : Store}
/-- the units whose price is at most -/
def lastF (pr : Int) : List (Int × Int) → Int
  | [] => 0
  | (n, p) :: r => (if p ≤ pr then n else 0) + lastF pr r
theorem lastF_0 {pr : Int} : ∀ (st : List (Int × Int)), (∀ s ∈ st, pr < s.2) → lastF pr st = 0
  | [], _ => rfl
  | (n, p) :: r, h => by
    have hp : pr < p := h (n, p) (by simp)
    rw [lastF, if_neg (by omega), lastF_0 r fun s hs => h s (by simp [hs])]; rfl
theorem lastF_nn {pr : Int} : ∀ (st : List (Int × Int)), (∀ s ∈ st, 0 ≤ s.1) → 0 ≤ lastF pr st ∧ lastF pr st ≤ units st
  | [], _ => by simp [lastF, units]
  | (n, p) :: r, h => by
    have hn : 0 ≤ n := h (n, p) (by simp)
    have ih := lastF_nn (pr := pr) r fun s hs => h s (by simp [hs])
    have hu : units ((n, p) :: r) = n + units r := by simp [units]
    rw [lastF, hu]
    split <;> omega
theorem bendsF_last {pr : Int} : ∀ (st : List (Int × Int)) {b : Int}, (st.Pairwise fun a b => a.2 < b.2) → b + lastF pr st ∈ bendsF b st
  | [], b, _ => by simp [bendsF, lastF]
  | (n, p) :: r, b, h => by
    obtain ⟨hp, hs⟩ := List.pairwise_cons.mp h
    rw [bendsF, lastF]
    by_cases hpp : p ≤ pr
    · rw [if_pos hpp]
      have := bendsF_last (pr := pr) r (b := b + n) hs
      exact List.mem_cons_of_mem _ (by rwa [← Int.add_assoc])
    · rw [if_neg hpp, lastF_0 r fun s hs' => by have := hp s hs'; simp at this; omega]
      simp
theorem gain_lastF {pr : Int} : ∀ (st : List (Int × Int)), (∀ s ∈ st, 0 ≤ s.1) → (st.Pairwise fun a b => a.2 < b.2) → gainF pr st (lastF pr st) = gainF pr st (firstF pr st)
  | [], _, _ => rfl
  | (n, p) :: r, h, hs => by
    have hn : 0 ≤ n := h (n, p) (by simp)
    have hr : ∀ s ∈ r, 0 ≤ s.1 := fun s hs => h s (by simp [hs])
    obtain ⟨hp, hs⟩ := List.pairwise_cons.mp hs
    have ih := gain_lastF (pr := pr) r hr hs
    have f0 := (firstF_nn (pr := pr) r hr).1
    have l0 := (lastF_nn (pr := pr) r hr).1
    rw [lastF, firstF]
    by_cases h1 : p < pr
    · rw [if_pos h1, if_pos (by omega), gainF, gainF, show max 0 (min n (n + lastF pr r)) = n by omega, show max 0 (min n (n + firstF pr r)) = n by omega, show n + lastF pr r - n = lastF pr r by omega, show n + firstF pr r - n = firstF pr r by omega, ih]
    · have fz : firstF pr r = 0 := firstF_0 r fun s hs' => by have := hp s hs'; simp at this; omega
      by_cases h2 : p = pr
      · have lz : lastF pr r = 0 := lastF_0 r fun s hs' => by have := hp s hs'; simp at this; omega
        rw [if_neg h1, if_pos (by omega), fz, lz, gainF, gainF, h2, Int.sub_self, Int.zero_mul, Int.zero_mul, gainF_le0 r hr (by omega), gainF_le0 r hr (by omega)]
      · have lz : lastF pr r = 0 := lastF_0 r fun s hs' => by have := hp s hs'; simp at this; omega
        rw [if_neg h1, if_neg (by omega), fz, lz]
theorem gain_below {pr : Int} : ∀ (st : List (Int × Int)) {u : Int}, (∀ s ∈ st, 0 < s.1) → (st.Pairwise fun a b => a.2 < b.2) → 0 ≤ u → u < firstF pr st → gainF pr st u < gainF pr st (firstF pr st)
  | [], u, _, _, h0, h1 => by simp [firstF] at h1; omega
  | (n, p) :: r, u, h, hs, h0, h1 => by
    have hn : 0 < n := h (n, p) (by simp)
    have hr' : ∀ s ∈ r, 0 < s.1 := fun s hs => h s (by simp [hs])
    have hr : ∀ s ∈ r, 0 ≤ s.1 := fun s hs => by have := hr' s hs; omega
    obtain ⟨hp, hs⟩ := List.pairwise_cons.mp hs
    have f0 := (firstF_nn (pr := pr) r hr).1
    rw [firstF] at h1 ⊢
    by_cases h2 : p < pr
    · rw [if_pos h2] at h1 ⊢
      rw [gainF, gainF, show max 0 (min n (n + firstF pr r)) = n by omega, show n + firstF pr r - n = firstF pr r by omega]
      by_cases h3 : n ≤ u
      · have ih := gain_below (pr := pr) r (u := u - n) hr' hs (by omega) (by omega)
        rw [show max 0 (min n u) = n by omega]; omega
      · rw [show max 0 (min n u) = u by omega, gainF_le0 r hr (by omega)]
        have g0 := (gain_best (pr := pr) r hr hs).1
        have : (pr - p) * u < (pr - p) * n := Int.mul_lt_mul_of_pos_left (by omega) (by omega)
        omega
    · rw [if_neg h2, firstF_0 r fun s hs' => by have := hp s hs'; simp at this; omega] at h1
      omega
theorem gain_above {pr : Int} : ∀ (st : List (Int × Int)) {u : Int}, (∀ s ∈ st, 0 < s.1) → (st.Pairwise fun a b => a.2 < b.2) → u ≤ units st → lastF pr st < u → gainF pr st u < gainF pr st (firstF pr st)
  | [], u, _, _, h0, h1 => by simp [lastF, units] at h0 h1; omega
  | (n, p) :: r, u, h, hs, h0, h1 => by
    have hn : 0 < n := h (n, p) (by simp)
    have hr' : ∀ s ∈ r, 0 < s.1 := fun s hs => h s (by simp [hs])
    have hr : ∀ s ∈ r, 0 ≤ s.1 := fun s hs => by have := hr' s hs; omega
    obtain ⟨hp, hs⟩ := List.pairwise_cons.mp hs
    have f0 := (firstF_nn (pr := pr) r hr).1
    have l0 := (lastF_nn (pr := pr) r hr).1
    have hu : units ((n, p) :: r) = n + units r := by simp [units]
    rw [hu] at h0
    rw [lastF] at h1
    rw [firstF]
    by_cases h2 : p < pr
    · rw [if_pos (by omega)] at h1
      rw [if_pos h2, gainF, gainF, show max 0 (min n (n + firstF pr r)) = n by omega, show n + firstF pr r - n = firstF pr r by omega, show max 0 (min n u) = n by omega]
      have ih := gain_above (pr := pr) r (u := u - n) hr' hs (by omega) (by omega)
      omega
    · have fz : firstF pr r = 0 := firstF_0 r fun s hs' => by have := hp s hs'; simp at this; omega
      have gz : gainF pr ((n, p) :: r) (0 + firstF pr r) = 0 := gainF_le0 _ (fun s hs => by have := h s hs; omega) (by omega)
      rw [if_neg h2, gz, gainF]
      by_cases h3 : p = pr
      · rw [if_pos (by omega)] at h1
        have ih := gain_above (pr := pr) r (u := u - n) hr' hs (by omega) (by omega)
        rw [fz, gainF_le0 (pr := pr) r hr (Int.le_refl 0)] at ih
        rw [h3, Int.sub_self, Int.zero_mul]; omega
      · rw [if_neg (by omega)] at h1
        have b := (gain_best (pr := pr) r hr hs).2 (u - n)
        rw [fz, gainF_le0 (pr := pr) r hr (Int.le_refl 0)] at b
        have hu0 : 0 < u := by omega
        have e : 0 < max 0 (min n u) := by omega
        have : (pr - p) * max 0 (min n u) < 0 := Int.mul_neg_of_neg_of_pos (by omega) e
        omega
def Crv.bestL (c : Crv) (pr : Int) : Int := c.lo + lastF pr c.st
theorem gain_ends {c : Crv} (hr : Rises c) (hp : ∀ s ∈ c.st, 0 < s.1) {pr : Int} : c.best pr ∈ (bendsF c.lo c.st).filter (fun x => decide (pr * x - c.costAt x = c.gain pr)) ∧ c.bestL pr ∈ (bendsF c.lo c.st).filter (fun x => decide (pr * x - c.costAt x = c.gain pr)) ∧
    ∀ x ∈ (bendsF c.lo c.st).filter (fun x => decide (pr * x - c.costAt x = c.gain pr)), c.best pr ≤ x ∧ x ≤ c.bestL pr := by
  have f := firstF_nn (pr := pr) c.st hr.cnt
  have l := lastF_nn (pr := pr) c.st hr.cnt
  have gb : c.gain pr = pr * c.lo - c.cost + gainF pr c.st (firstF pr c.st) := by
    show pr * c.best pr - c.costAt (c.best pr) = _
    rw [gain_at hr (show c.lo ≤ c.best pr by unfold Crv.best; omega) (show c.lo + firstF pr c.st ≤ c.lo + units c.st by omega), show c.best pr - c.lo = firstF pr c.st by unfold Crv.best; omega]
  refine ⟨List.mem_filter.mpr ⟨bendsF_first c.st hr.rise, decide_eq_true rfl⟩, List.mem_filter.mpr ⟨bendsF_last c.st hr.rise, decide_eq_true ?_⟩, fun x hx => ?_⟩
  · show pr * c.bestL pr - c.costAt (c.bestL pr) = _
    rw [gain_at hr (show c.lo ≤ c.bestL pr by unfold Crv.bestL; omega) (show c.lo + lastF pr c.st ≤ c.lo + units c.st by omega), show c.bestL pr - c.lo = lastF pr c.st by unfold Crv.bestL; omega, gain_lastF c.st hr.cnt hr.rise, gb]
  · obtain ⟨h1, h2⟩ := List.mem_filter.mp hx
    have h2 := of_decide_eq_true h2
    obtain ⟨x1, x2⟩ := bendsF_in c.st hr.cnt h1
    rw [gain_at hr x1 x2, gb] at h2
    constructor
    · by_cases z : c.best pr ≤ x
      · exact z
      · have := gain_below (pr := pr) c.st (u := x - c.lo) hp hr.rise (by omega) (by unfold Crv.best at z; omega)
        omega
    · by_cases z : x ≤ c.bestL pr
      · exact z
      · have := gain_above (pr := pr) c.st (u := x - c.lo) hp hr.rise (by omega) (by unfold Crv.bestL at z; omega)
        omega
/-! ### sharings rise -/
theorem drop_last {α : Type} {l : List α} {t : α} (h : l.getLast? = some t) : l.dropLast ++ [t] = l := by
  rcases List.eq_nil_or_concat l with rfl | ⟨i, a, rfl⟩
  · cases h
  · rw [List.concat_eq_append] at h ⊢
    simp at h
    subst h
    simp
theorem perm_sum {l m : List Int} (h : l.Perm m) : l.sum = m.sum := by
  induction h with
  | nil => rfl
  | cons a _ ih => simp [ih]
  | swap a b l => simp; omega
  | trans _ _ h1 h2 => exact h1.trans h2
theorem joinA_units (acc : List (Int × Int)) (s : Int × Int) : units (joinA acc s) = units acc + s.1 := by
  cases hl : acc.getLast? with
  | none => rw [joinA_none hl]; simp [units]
  | some t =>
    rw [joinA_some hl]
    split
    · have hd := drop_last hl
      have e : units acc = units acc.dropLast + t.1 := by
        conv => lhs; rw [← hd]
        simp [units]
      rw [e]; simp [units]; omega
    · simp [units]
theorem join_units : ∀ (l acc : List (Int × Int)), units (l.foldl joinA acc) = units acc + units l
  | [], acc => by simp [units]
  | s :: r, acc => by rw [List.foldl_cons, join_units r, joinA_units]; simp [units]; omega
theorem joinA_rise {acc : List (Int × Int)} {s : Int × Int} (h : acc.Pairwise fun a b => a.2 < b.2) (hs : ∀ t ∈ acc, t.2 ≤ s.2) : ((joinA acc s).Pairwise fun a b => a.2 < b.2) ∧ ∀ t ∈ joinA acc s, t.2 ≤ s.2 := by
  cases hl : acc.getLast? with
  | none =>
    rw [joinA_none hl]
    have := List.getLast?_eq_none_iff.mp hl
    subst this
    simp
  | some t =>
    rw [joinA_some hl]
    have hd := drop_last hl
    have ht : t ∈ acc := List.mem_of_getLast? hl
    have hp : ∀ a ∈ acc.dropLast, a.2 < t.2 := by
      rw [← hd, List.pairwise_append] at h
      exact fun a ha => h.2.2 a ha t (by simp)
    split
    · rename_i e
      refine ⟨List.pairwise_append.mpr ⟨h.sublist (List.dropLast_sublist _), by simp, fun a ha b hb => ?_⟩, fun a ha => ?_⟩
      · rw [List.mem_singleton.mp hb]; show a.2 < s.2; have := hp a ha; omega
      · rcases List.mem_append.mp ha with ha | ha
        · exact hs a ((List.dropLast_sublist _).mem ha)
        · rw [List.mem_singleton.mp ha]; exact Int.le_refl _
    · rename_i e
      have h1 := hs t ht
      refine ⟨List.pairwise_append.mpr ⟨h, by simp, fun a ha b hb => ?_⟩, fun a ha => ?_⟩
      · rw [List.mem_singleton.mp hb]
        rw [← hd] at ha
        rcases List.mem_append.mp ha with ha | ha
        · have := hp a ha; omega
        · rw [List.mem_singleton.mp ha]; omega
      · rcases List.mem_append.mp ha with ha | ha
        · exact hs a ha
        · rw [List.mem_singleton.mp ha]; exact Int.le_refl _
theorem join_rise : ∀ (l acc : List (Int × Int)), (acc.Pairwise fun a b => a.2 < b.2) → (l.Pairwise fun a b => a.2 ≤ b.2) → (∀ t ∈ acc, ∀ s ∈ l, t.2 ≤ s.2) → (l.foldl joinA acc).Pairwise fun a b => a.2 < b.2
  | [], acc, h, _, _ => h
  | s :: r, acc, h, hl, ha => by
    obtain ⟨h1, h2⟩ := List.pairwise_cons.mp hl
    obtain ⟨q1, q2⟩ := joinA_rise h fun t ht => ha t ht s (by simp)
    rw [List.foldl_cons]
    exact join_rise r _ q1 h2 fun t ht u hu => Int.le_trans (q2 t ht) (h1 u hu)
theorem joinA_pr {P : Int → Prop} {acc : List (Int × Int)} {s : Int × Int} (h : ∀ t ∈ acc, P t.2) (hs : P s.2) : ∀ t ∈ joinA acc s, P t.2 := by
  intro t ht
  cases hl : acc.getLast? with
  | none =>
    rw [joinA_none hl] at ht
    rcases List.mem_append.mp ht with ht | ht
    · exact h t ht
    · rw [List.mem_singleton.mp ht]; exact hs
  | some u =>
    rw [joinA_some hl] at ht
    split at ht
    · rcases List.mem_append.mp ht with ht | ht
      · exact h t ((List.dropLast_sublist _).mem ht)
      · rw [List.mem_singleton.mp ht]; exact hs
    · rcases List.mem_append.mp ht with ht | ht
      · exact h t ht
      · rw [List.mem_singleton.mp ht]; exact hs
theorem join_pr {P : Int → Prop} : ∀ (l acc : List (Int × Int)), (∀ t ∈ acc, P t.2) → (∀ t ∈ l, P t.2) → ∀ t ∈ l.foldl joinA acc, P t.2
  | [], acc, h, _ => h
  | s :: r, acc, h, hl => by rw [List.foldl_cons]; exact join_pr r _ (joinA_pr h (hl s (by simp))) fun t ht => hl t (by simp [ht])
theorem units_perm {l m : List (Int × Int)} (h : l.Perm m) : units l = units m := by
  unfold units
  exact perm_sum (h.map _)
theorem share_st {a b : Crv} (ha : PosC a) (hb : PosC b) : (shareC a b).st = joinAll ((isortP ((a.st ++ b.st).map swp)).map swp) := by rw [← share_eq ha hb]; rfl
theorem share_rows {a b : Crv} : (((isortP ((a.st ++ b.st).map swp)).map swp)).Perm (a.st ++ b.st) := by
  have := (isortP_perm ((a.st ++ b.st).map swp)).map swp
  rw [List.map_map] at this
  have e : (a.st ++ b.st).map (swp ∘ swp) = a.st ++ b.st := by
    have : swp ∘ swp = id := rfl
    rw [this, List.map_id]
  rw [e] at this; exact this
theorem share_units {a b : Crv} (ha : PosC a) (hb : PosC b) : units (shareC a b).st = units a.st + units b.st := by
  rw [share_st ha hb, joinAll, join_units, units_perm share_rows]
  simp [units]
theorem share_rises {a b : Crv} (ha : PosC a) (hb : PosC b) : (shareC a b).st.Pairwise fun a b => a.2 < b.2 := by
  rw [share_st ha hb, joinAll]
  refine join_rise _ _ .nil ?_ (by simp)
  refine List.pairwise_map.mpr ((isortP_le _).imp fun {x y} h => ?_)
  show x.1 ≤ y.1
  have h : x.1 < y.1 ∨ (x.1 = y.1 ∧ x.2 ≤ y.2) := of_decide_eq_true h
  omega
theorem share_prices {P : Int → Prop} {a b : Crv} (ha : PosC a) (hb : PosC b) (h1 : ∀ s ∈ a.st, P s.2) (h2 : ∀ s ∈ b.st, P s.2) : ∀ s ∈ (shareC a b).st, P s.2 := by
  rw [share_st ha hb, joinAll]
  refine join_pr _ _ (by simp) fun t ht => ?_
  have ht := share_rows.mem_iff.mp ht
  rcases List.mem_append.mp ht with ht | ht
  · exact h1 t ht
  · exact h2 t ht
theorem cnt_units {st : List (Int × Int)} (h : ∀ s ∈ st, 0 < s.1) : ∀ s ∈ st, s.1 ≤ units st := by
  induction st with
  | nil => intro s hs; cases hs
  | cons a r ih =>
    intro s hs
    have hu : units (a :: r) = a.1 + units r := by simp [units]
    have h0 := units_nn (st := r) fun t ht => by have := h t (by simp [ht]); omega
    have ha := h a (by simp)
    rcases List.mem_cons.mp hs with rfl | hs
    · omega
    · have := ih (fun t ht => h t (by simp [ht])) s hs; omega
/-! ### mirrored ones -/
def neP (s : Int × Int) : Int × Int := (s.1, 0 - s.2)
def mirC (c : Crv) : Crv := ⟨0 - c.last, c.costAt c.last, c.st.reverse.map neP⟩
theorem mir_units (c : Crv) : units (mirC c).st = units c.st := by
  show units (c.st.reverse.map neP) = _
  unfold units
  rw [List.map_map]
  exact perm_sum ((List.reverse_perm c.st).map _)
theorem mir_rises {c : Crv} (h : Rises c) : Rises (mirC c) := by
  refine ⟨fun s hs => ?_, ?_⟩
  · obtain ⟨t, ht, rfl⟩ := List.mem_map.mp hs
    exact h.cnt t (List.mem_reverse.mp ht)
  · refine List.pairwise_map.mpr (List.pairwise_reverse.mpr (h.rise.imp fun {a b} hab => ?_))
    show 0 - b.2 < 0 - a.2
    omega
end FW

/-! PlK05: sharing is as the rule says. -/
namespace FW
open PySem L2
variable {k : Nat} {S : Store}
/-- data as a pair draws it -/
structure PairC (c : Crv) : Prop where
  lo : -(2 * 10 ^ 11) ≤ c.lo ∧ c.lo ≤ 2 * 10 ^ 11
  cost : -20 ≤ c.cost ∧ c.cost ≤ 20
  len : c.st.length ≤ 6
  cnt : ∀ s ∈ c.st, 1 ≤ s.1 ∧ s.1 ≤ 10 ^ 10
  rise : c.st.Pairwise fun a b => a.2 < b.2
  pr : ∀ s ∈ c.st, -960000 ≤ s.2 ∧ s.2 ≤ 960000
  abt : absT c.st ≤ 9 * 10 ^ 11
theorem units_most {st : List (Int × Int)} {g : Int} {m : Nat} (h : ∀ s ∈ st, s.1 ≤ g) (hl : st.length ≤ m) (hg : 0 ≤ g) : units st ≤ g * m := by
  have h1 := units_le h
  have h2 := Int.mul_le_mul_of_nonneg_left (show (st.length : Int) ≤ m by omega) hg
  omega
theorem PairC.dat {c : Crv} (h : PairC c) : DatOk c := by
  have u := units_most (fun s hs => (h.cnt s hs).2) h.len (by decide)
  have := h.lo; have := h.cost
  exact ⟨by omega, by omega, h.len, fun s hs => (h.cnt s hs).1, h.rise, fun s hs => by have := h.pr s hs; omega, by show c.lo + units c.st ≤ _; omega⟩
theorem PairC.pos {c : Crv} (h : PairC c) : PosC c := fun s hs => by have := h.cnt s hs; omega
def scl (sc : Int) (s : Int × Int) : Int × Int := (s.1, s.2 * sc)
theorem scl_ok {g sc : Int} {x : Crv} (h : CrvOk g 6 x) (h1 : -g ≤ x.lo) (h2 : x.lo ≤ g) (hg : g ≤ 10 ^ 10) (hs : sc = 1 ∨ (sc = 40000 ∧ g < 10)) (g0 : 1 ≤ g) (l : -g ≤ x.lo ∧ x.lo ≤ g) : PairC ⟨x.lo, x.cost, x.st.map (scl sc)⟩ := by
  have hl := h.st.len
  refine ⟨⟨by show _ ≤ x.lo; omega, by show x.lo ≤ _; omega⟩, h.cost, by show (x.st.map _).length ≤ 6; simpa using hl, fun s hs => ?_, ?_, fun s hs' => ?_, ?_⟩
  · obtain ⟨t, ht, rfl⟩ := List.mem_map.mp hs
    have := h.st.cnt t ht
    exact ⟨this.1, by show t.1 ≤ _; omega⟩
  · refine List.pairwise_map.mpr (h.st.rise.imp fun {a b} hab => ?_)
    show a.2 * sc < b.2 * sc
    rcases hs with rfl | ⟨rfl, _⟩ <;> omega
  · obtain ⟨t, ht, rfl⟩ := List.mem_map.mp hs'
    have := h.st.pr t ht
    show -960000 ≤ t.2 * sc ∧ t.2 * sc ≤ 960000
    rcases hs with rfl | ⟨rfl, _⟩ <;> omega
  · have ab := h.st.abt
    have bl : ∀ n : Nat, n ≤ 6 → bnd n ≤ 88 := fun n hn => by
      have : n = 0 ∨ n = 1 ∨ n = 2 ∨ n = 3 ∨ n = 4 ∨ n = 5 ∨ n = 6 := by omega
      rcases this with rfl | rfl | rfl | rfl | rfl | rfl | rfl <;> decide
    have b := bl _ hl
    have b2 : g * bnd x.st.length ≤ g * 88 := Int.mul_le_mul_of_nonneg_left b (by omega)
    have e : ∀ l : List (Int × Int), absT (l.map (scl sc)) = (sc.natAbs : Int) * absT l := fun l => by
      induction l with
      | nil => simp [absT]
      | cons s l ih =>
        have e1 : absT ((s :: l).map (scl sc)) = s.1 * ((s.2 * sc).natAbs : Int) + absT (l.map (scl sc)) := by simp [absT, scl]
        have e2 : absT (s :: l) = s.1 * (s.2.natAbs : Int) + absT l := by simp [absT]
        rw [e1, e2, ih, Int.natAbs_mul, Int.mul_add, Int.natCast_mul, Int.mul_comm (s.2.natAbs : Int), ← Int.mul_assoc, ← Int.mul_assoc, Int.mul_comm s.1]
    show absT (x.st.map (scl sc)) ≤ _
    rw [e]
    rcases hs with rfl | ⟨rfl, h9⟩
    · simp; omega
    · simp; omega
theorem okD_C {n : Nat} {c : Crv} : okD (n + 3) (dC c) = true := by simp [dC, okD, okDs, okDs_st]
theorem smDs_st (l : List (Int × Int)) : smDs (l.map dSt) = true := by
  induction l with
  | nil => rfl
  | cons a l ih => simp [smDs, smD, dSt, ih]
theorem smD_C {c : Crv} (h : c.st.length < 1000000) : smD (dC c) = true := by simp [dC, smD, smDs, smDs_st, h]
theorem turn_mod (i : Nat) : modD (.int (0 + (i : Int))) (.int 4) = some (.int ((i : Int) % 4)) := by rw [mod_ii (by decide)]; simp
end FW

/-! PlVOk: views, best places, mirrors. -/
namespace FW
open PySem L2
variable {k : Nat} {S : Store}
structure VOk (c : Crv) : Prop where
  len : c.st.length ≤ 12
  pos : PosC c
  rise : c.st.Pairwise fun a b => a.2 < b.2
  pr : ∀ s ∈ c.st, -10 ^ 6 ≤ s.2 ∧ s.2 ≤ 10 ^ 6
  lo : -10 ^ 13 ≤ c.lo ∧ c.lo ≤ 10 ^ 13
  un : units c.st ≤ 10 ^ 13
/-- a curve as it must be -/
structure Cn (c : Crv) : Prop where
  pos : PosC c
  rise : c.st.Pairwise fun a b => a.2 < b.2
/-- a curve of a wider size -/
structure Wk (n : Nat) (c : Crv) : Prop where
  len : c.st.length ≤ n
  pos : PosC c
  rise : c.st.Pairwise fun a b => a.2 < b.2
  pr : ∀ s ∈ c.st, -10 ^ 9 ≤ s.2 ∧ s.2 ≤ 10 ^ 9
  lo : -10 ^ 14 ≤ c.lo ∧ c.lo ≤ 10 ^ 14
  un : units c.st ≤ 10 ^ 14
theorem Wk.cn {n : Nat} {c : Crv} (h : Wk n c) : Cn c := ⟨h.pos, h.rise⟩
theorem VOk.wk {c : Crv} (h : VOk c) : Wk 12 c := by
  have := h.lo; have := h.un
  exact ⟨h.len, h.pos, h.rise, fun s hs => by have := h.pr s hs; omega, by omega, by omega⟩
theorem VOk.cn {c : Crv} (h : VOk c) : Cn c := ⟨h.pos, h.rise⟩
theorem Cn.rises {c : Crv} (h : Cn c) : Rises c := ⟨fun s hs => by have := h.pos s hs; omega, h.rise⟩
theorem Cn.nn {c : Crv} (h : Cn c) : 0 ≤ units c.st := units_nn fun s hs => by have := h.pos s hs; omega
theorem Wk.rises {n : Nat} {c : Crv} (h : Wk n c) : Rises c := h.cn.rises
theorem Wk.nn {n : Nat} {c : Crv} (h : Wk n c) : 0 ≤ units c.st := h.cn.nn
theorem Wk.sane {n : Nat} {c : Crv} (hn : n ≤ 100) (h : Wk n c) : Sane c := by
  have := h.len; have := h.un
  exact ⟨by omega, fun s hs => by have := h.pos s hs; have := cnt_units h.pos s hs; omega, fun s hs => by have := h.pr s hs; omega⟩
theorem Wk.pl {n : Nat} {c : Crv} (h : Wk n c) : ∀ x, c.lo ≤ x → x ≤ c.last → x.natAbs < 2 ^ 600 := fun x h1 h2 => by
  have h2 : x ≤ c.lo + units c.st := h2
  have := h.lo; have := h.un
  omega
theorem Wk.mono {n m : Nat} {c : Crv} (h : Wk n c) (l : n ≤ m) : Wk m c := ⟨Nat.le_trans h.len l, h.pos, h.rise, h.pr, h.lo, h.un⟩
theorem VOk.rises {c : Crv} (h : VOk c) : Rises c := ⟨fun s hs => by have := h.pos s hs; omega, h.rise⟩
theorem VOk.sane {c : Crv} (h : VOk c) : Sane c := by
  have := h.len; have := h.un
  exact ⟨by omega, fun s hs => by have := h.pos s hs; have := cnt_units h.pos s hs; omega, fun s hs => by have := h.pr s hs; omega⟩
theorem VOk.pl {c : Crv} (h : VOk c) : ∀ x, c.lo ≤ x → x ≤ c.last → x.natAbs < 2 ^ 600 := fun x h1 h2 => by
  have h2 : x ≤ c.lo + units c.st := h2
  have := h.lo; have := h.un
  omega
theorem VOk.nn {c : Crv} (h : VOk c) : 0 ≤ units c.st := units_nn fun s hs => by have := h.pos s hs; omega
theorem PairC.vok {c : Crv} (h : PairC c) : VOk c := by
  have u := units_most (fun s hs => (h.cnt s hs).2) h.len (by decide)
  have := h.lo; have := h.len
  exact ⟨by omega, h.pos, h.rise, fun s hs => by have := h.pr s hs; omega, by omega, by omega⟩
theorem share_vok {a b : Crv} (ha : PairC a) (hb : PairC b) : VOk (shareC a b) := by
  have ua := units_most (fun s hs => (ha.cnt s hs).2) ha.len (by decide)
  have ub := units_most (fun s hs => (hb.cnt s hs).2) hb.len (by decide)
  have := ha.lo; have := hb.lo; have := ha.len; have := hb.len
  have sl := share_len a b
  have su := share_units ha.pos hb.pos
  have sp := share_prices (P := fun p => -10 ^ 6 ≤ p ∧ p ≤ 10 ^ 6) ha.pos hb.pos (fun s hs => by have := ha.pr s hs; omega) (fun s hs => by have := hb.pr s hs; omega)
  exact ⟨by omega, share_pos ha.pos hb.pos, share_rises ha.pos hb.pos, sp, ⟨by show _ ≤ a.lo + b.lo; omega, by show a.lo + b.lo ≤ _; omega⟩, by omega⟩
theorem mir_vok {c : Crv} (h : PairC c) : VOk (mirC c) := by
  have v := h.vok
  have ua := units_most (fun s hs => (h.cnt s hs).2) h.len (by decide)
  have := h.lo; have := h.len
  have u0 := v.nn
  refine ⟨by show (c.st.reverse.map neP).length ≤ 12; rw [List.length_map, List.length_reverse]; omega, fun s hs => ?_, (mir_rises v.rises).rise, fun s hs => ?_, ⟨by show _ ≤ 0 - (c.lo + units c.st); omega, by show 0 - (c.lo + units c.st) ≤ _; omega⟩, by rw [mir_units]; omega⟩
  · obtain ⟨t, ht, rfl⟩ := List.mem_map.mp hs
    exact v.pos t (List.mem_reverse.mp ht)
  · obtain ⟨t, ht, rfl⟩ := List.mem_map.mp hs
    have := v.pr t (List.mem_reverse.mp ht)
    show _ ≤ 0 - t.2 ∧ 0 - t.2 ≤ _
    omega
/-! ### words -/
theorem best_for2 {k : Nat} {S : Store} {D0 : D} {pr : Int} : ∀ (st : List (Int × Int)) (f l : Int) (a b : Slot),
    ∃ a' b', forL (.tup [.nm 4, .nm 5]) (evSs (Vk k) fn_best_of_b1) (evSs (Vk k) .nil) (st.map dSt) ⟨[.val D0, .val (.int pr), .val (.int f), .val (.int l), a, b], S⟩ = .ok .nx ⟨[.val D0, .val (.int pr), .val (.int (f + firstF pr st)), .val (.int (l + lastF pr st)), a', b'], S⟩
  | [], f, l, a, b => ⟨a, b, by simp [forL, firstF, lastF]⟩
  | (n, p) :: r, f, l, a, b => by
    obtain ⟨a', b', e⟩ := best_for2 (k := k) (S := S) (D0 := D0) (pr := pr) r (f + if p < pr then n else 0) (l + if p ≤ pr then n else 0) (.val (.int n)) (.val (.int p))
    refine ⟨a', b', ?_⟩
    rw [List.map_cons, forL_cons (s1 := ⟨[.val D0, .val (.int pr), .val (.int f), .val (.int l), .val (.int n), .val (.int p)], S⟩) (by simp [dSt, asg, asgs]) (s2 := ⟨[.val D0, .val (.int pr), .val (.int (f + if p < pr then n else 0)), .val (.int (l + if p ≤ pr then n else 0)), .val (.int n), .val (.int p)], S⟩) ?_, e]
    · rw [firstF, lastF, Int.add_assoc, Int.add_assoc]
    · by_cases h1 : p < pr
      · simp [fn_best_of_b1, h1, show p ≤ pr by omega]
      · by_cases h2 : p ≤ pr
        · simp [fn_best_of_b1, h1, h2]
        · simp [fn_best_of_b1, h1, h2]
theorem best_of_ok2 {c : Crv} {pr : Int} : call (k + 1) 30 [dC c, .int pr] S = .ok (.tup [.int (c.best pr), .int (c.bestL pr)]) ⟨[], S⟩ := by
  rw [call_def fn_best_of rfl rfl]
  obtain ⟨a', b', e⟩ := best_for2 (k := k) (S := S) (D0 := dC c) (pr := pr) c.st c.lo c.lo .non .non
  have dc : dC c = .tup [.int c.lo, .int c.cost, .tup (c.st.map dSt)] := rfl
  rw [dc] at e
  simp [fn_best_of, argsEnv, dC, e, Crv.best, Crv.bestL]
theorem minI_is {m : Int} {l : List Int} {v : Int} (h1 : v ∈ m :: l) (h2 : ∀ y ∈ m :: l, v ≤ y) : minI m l = v := Int.le_antisymm (minI_le m l v h1) (h2 _ (minI_mem m l))
theorem min_list {l : List Int} {v : Int} (h1 : v ∈ l) (h2 : ∀ y ∈ l, v ≤ y) : min2D [.lst (l.map .int)] = some (.int v) := by
  cases l with
  | nil => cases h1
  | cons m r =>
    show (match intsO ((m :: r).map .int) with
      | some (m :: r) => some (D.int (minI m r))
      | _ => none) = _
    rw [intsO_map]
    show some (D.int (minI m r)) = _
    rw [minI_is h1 h2]
theorem zip_map {α : Type} (f g : α → D) : ∀ l : List α, zipL (l.map f) (l.map g) = l.map fun x => .tup [f x, g x]
  | [] => rfl
  | a :: l => by simp only [List.map_cons, zipL, zip_map f g l]
theorem neg_comp {V : Ev} {E0 : FW.Env} (hE : E0.length = 4) {e : E} (he : e = .tup (.cons (.var 2) (.cons (.bin .sub (.num 0) (.var 3)) .nil))) (st : List (Int × Int)) :
    lcGo (.tup [.nm 2, .nm 3]) cYes (evE V e) E0 (st.map dSt) S = some ((st.map neP).map dSt, S) := by
  rw [List.map_map]
  subst he
  rcases E0 with _ | ⟨a0, _ | ⟨a1, _ | ⟨a2, _ | ⟨a3, _ | ⟨a4, r⟩⟩⟩⟩⟩ <;> simp at hE
  exact lc_map (f := dSt) (g := fun s => dSt (neP s)) (fun s => ⟨⟨[a0, a1, .val (.int s.1), .val (.int s.2)], S⟩, ⟨[a0, a1, .val (.int s.1), .val (.int s.2)], S⟩, ⟨[a0, a1, .val (.int s.1), .val (.int s.2)], S⟩, by simp [dSt, asg, asgs], rfl, by simp [dSt, neP], rfl⟩) st
theorem mirror_of_okW {n : Nat} {c : Crv} (hn : n ≤ 100) (h : Wk n c) : call (k + 2) 16 [dC c] S = .ok (dC (mirC c)) ⟨[], S⟩ := by
  rw [call_def fn_mirror_of rfl rfl]
  have hl := h.len; have u0 := h.nn; have hu := h.un; have hlo := h.lo
  have l1 := last_place_ok (k := k) (S := S) (c := c) (by omega)
  have e : c.last = c.lo + units c.st := rfl
  have l2 := cost_at_ok (k := k) (S := S) (x := c.last) (h.sane hn) h.rises (by omega) (by omega)
  have c1 : ∀ E0 : FW.Env, E0.length = 4 → lcGo (.tup [.nm 2, .nm 3]) cYes (evE (Vk (k + 1)) fn_mirror_of_e1) E0 (c.st.reverse.map dSt) S = some ((c.st.reverse.map neP).map dSt, S) := fun E0 hE => neg_comp hE rfl _
  have er : (c.st.map dSt).reverse = c.st.reverse.map dSt := by simp
  have hz : (c.st.reverse.map neP).length < 16777216 := by rw [List.length_map, List.length_reverse]; omega
  have i2 : ixD (dC c) (.int 2) = some (.tup (c.st.map dSt)) := rfl
  have dm : dC (mirC c) = .tup [.int (0 - c.last), .int (c.costAt c.last), .tup ((c.st.reverse.map neP).map dSt)] := rfl
  rw [dm]
  generalize c.st.reverse.map neP = m at c1 hz
  have rv : revD (.tup (c.st.map dSt)) = some (.tup (c.st.reverse.map dSt)) := by rw [rev_t, er]
  generalize c.st.reverse.map dSt = m2 at c1 rv
  simp [-rev_t, fn_mirror_of, argsEnv, l1, l2, i2, rv, hideFrom, c1, hz]
theorem mirror_of_ok {c : Crv} (h : VOk c) : call (k + 2) 16 [dC c] S = .ok (dC (mirC c)) ⟨[], S⟩ := mirror_of_okW (by decide) h.wk
end FW

/-! PlSum: sums of curves, plain. -/
namespace FW
open PySem L2
variable {k : Nat} {S : Store}
/-- the price of the unit behind u units -/
def pAfter : List (Int × Int) → Int → Option Int
  | [], _ => none
  | (n, p) :: r, u => if u < n then some p else pAfter r (u - n)
theorem pAfter_mem {p : Int} : ∀ {st : List (Int × Int)} {u : Int}, pAfter st u = some p → ∃ s ∈ st, s.2 = p
  | [], u, h => by cases h
  | (n, q) :: r, u, h => by
    rw [pAfter] at h
    split at h
    · exact ⟨(n, q), by simp, Option.some.inj h⟩
    · obtain ⟨s, h1, h2⟩ := pAfter_mem h
      exact ⟨s, by simp [h1], h2⟩
theorem pAfter_some : ∀ {st : List (Int × Int)} {u : Int}, 0 ≤ u → u < units st → ∃ p, pAfter st u = some p
  | [], u, h0, h => by simp [units] at h; omega
  | (n, q) :: r, u, h0, h => by
    have hu : units ((n, q) :: r) = n + units r := by simp [units]
    rw [pAfter]
    split
    · exact ⟨_, rfl⟩
    · exact pAfter_some (by omega) (by omega)
theorem pAfter_mono {p q : Int} : ∀ {st : List (Int × Int)} {u v : Int}, (st.Pairwise fun a b => a.2 < b.2) → u ≤ v → pAfter st u = some p → pAfter st v = some q → p ≤ q
  | [], u, v, _, _, h, _ => by cases h
  | (n, x) :: r, u, v, hs, huv, h1, h2 => by
    obtain ⟨hp, hs⟩ := List.pairwise_cons.mp hs
    rw [pAfter] at h1 h2
    split at h1
    · cases h1
      split at h2
      · cases h2; exact Int.le_refl _
      · obtain ⟨s, q1, q2⟩ := pAfter_mem h2
        have := hp s q1
        simp at this
        omega
    · rw [if_neg (by omega)] at h2
      exact pAfter_mono hs (by omega) h1 h2
/-- between two places without a bend between them the cost runs straight -/
theorem rise_line {p : Int} : ∀ {st : List (Int × Int)} {b u v t : Int}, (∀ s ∈ st, 0 < s.1) → 0 ≤ u → pAfter st u = some p → u ≤ t → t ≤ v → (∀ x ∈ bendsF b st, ¬ (b + u < x ∧ x < b + v)) → rise st t = rise st u + p * (t - u)
  | [], b, u, v, t, _, _, h, _, _, _ => by cases h
  | (n, q) :: r, b, u, v, t, hn, h0, h, hut, htv, hb => by
    have hn0 : 0 < n := hn (n, q) (by simp)
    have hr : ∀ s ∈ r, 0 < s.1 := fun s hs => hn s (by simp [hs])
    have hr0 : ∀ s ∈ r, 0 ≤ s.1 := fun s hs => by have := hr s hs; omega
    rw [pAfter] at h
    rw [rise, rise]
    split at h
    · rename_i hun
      cases h
      have hmem : b + n ∈ bendsF b ((n, p) :: r) := by
        rw [bendsF]
        refine List.mem_cons_of_mem _ ?_
        cases r with
        | nil => simp [bendsF]
        | cons a r => simp [bendsF]
      have hbn := hb _ hmem
      have htn : t ≤ n := by
        by_cases z : t ≤ n
        · exact z
        · exact absurd ⟨by omega, by omega⟩ hbn
      rw [show max 0 (min n t) = t by omega, show max 0 (min n u) = u by omega, rise_le0 r hr0 (by omega), rise_le0 r hr0 (by omega), Int.mul_sub]
      omega
    · rename_i hun
      have ih := rise_line (p := p) (st := r) (b := b + n) (u := u - n) (v := v - n) (t := t - n) hr (by omega) h (by omega) (by omega) fun x hx z => hb x (by rw [bendsF]; exact List.mem_cons_of_mem _ hx) ⟨by omega, by omega⟩
      rw [show max 0 (min n t) = n by omega, show max 0 (min n u) = n by omega, ih, show t - n - (u - n) = t - u by omega]
      omega
/-- a curve's cost between two places without a bend between them -/
theorem cost_line {c : Crv} (hc : PosC c) {x y t p : Int} (h0 : c.lo ≤ x) (h : pAfter c.st (x - c.lo) = some p) (hxt : x ≤ t) (hty : t ≤ y) (hb : ∀ z ∈ bendsF c.lo c.st, ¬ (x < z ∧ z < y)) : c.costAt t = c.costAt x + p * (t - x) := by
  unfold Crv.costAt
  have e := rise_line (st := c.st) (b := c.lo) (u := x - c.lo) (v := y - c.lo) (t := t - c.lo) hc (by omega) h (by omega) (by omega) fun z hz q => hb z hz ⟨by omega, by omega⟩
  rw [e, show t - c.lo - (x - c.lo) = t - x by omega]
  omega
/-- gains at places for prices that do not fall -/
theorem gain_bestW {pr : Int} : ∀ (st : List (Int × Int)), (∀ s ∈ st, 0 ≤ s.1) → (st.Pairwise fun a b => a.2 ≤ b.2) → (0 ≤ gainF pr st (firstF pr st)) ∧ ∀ u, gainF pr st u ≤ gainF pr st (firstF pr st)
  | [], _, _ => ⟨Int.le_refl _, fun _ => Int.le_refl _⟩
  | (n, p) :: r, h, hs => by
    have hn : 0 ≤ n := h (n, p) (by simp)
    have hr : ∀ s ∈ r, 0 ≤ s.1 := fun s hs => h s (by simp [hs])
    obtain ⟨hp, hs⟩ := List.pairwise_cons.mp hs
    obtain ⟨i0, i1⟩ := gain_bestW (pr := pr) r hr hs
    obtain ⟨f0, f1⟩ := firstF_nn (pr := pr) r hr
    by_cases hpp : p < pr
    · have e : firstF pr ((n, p) :: r) = n + firstF pr r := by rw [firstF, if_pos hpp]
      have e2 : gainF pr ((n, p) :: r) (n + firstF pr r) = (pr - p) * n + gainF pr r (firstF pr r) := by
        rw [gainF, show max 0 (min n (n + firstF pr r)) = n by omega, show n + firstF pr r - n = firstF pr r by omega]
      have e3 : 0 ≤ (pr - p) * n := Int.mul_nonneg (by omega) hn
      rw [e, e2]
      refine ⟨by omega, fun u => ?_⟩
      rw [gainF]
      have m1 : (pr - p) * max 0 (min n u) ≤ (pr - p) * n := Int.mul_le_mul_of_nonneg_left (by omega) (by omega)
      have m2 := i1 (u - n)
      omega
    · have fz : firstF pr r = 0 := firstF_0 r fun s hs' => by have := hp s hs'; simp at this; omega
      have e : firstF pr ((n, p) :: r) = 0 := by rw [firstF, if_neg hpp, fz]; rfl
      have e2 : gainF pr ((n, p) :: r) 0 = 0 := gainF_le0 _ h (Int.le_refl _)
      rw [fz, gainF_le0 r hr (Int.le_refl _)] at i1
      rw [e, e2]
      refine ⟨Int.le_refl _, fun u => ?_⟩
      rw [gainF]
      have m1 : (pr - p) * max 0 (min n u) ≤ 0 := Int.mul_nonpos_of_nonpos_of_nonneg (by omega) (by omega)
      have m2 := i1 (u - n)
      omega
/-! ### the sum's steps -/
def lowOf (a b : Crv) : Int := max a.lo b.lo
def highOf (a b : Crv) : Int := min a.last b.last
def sBends (a b : Crv) : List Int := ssrtI ((bendsF a.lo a.st ++ bendsF b.lo b.st ++ [lowOf a b, highOf a b]).filter fun x => decide (lowOf a b ≤ x ∧ x ≤ highOf a b))
theorem sBends_mem {a b : Crv} {x : Int} : x ∈ sBends a b ↔ (x ∈ bendsF a.lo a.st ∨ x ∈ bendsF b.lo b.st ∨ x = lowOf a b ∨ x = highOf a b) ∧ lowOf a b ≤ x ∧ x ≤ highOf a b := by
  unfold sBends
  rw [ssrtI_mem, List.mem_filter]
  simp [or_assoc]
/-- steps between neighbours -/
def stepsOf (f : Int → Int) : List Int → List (Int × Int)
  | x :: y :: r => (y - x, f x) :: stepsOf f (y :: r)
  | _ => []
/-- both prices behind a place -/
def slope (a b : Crv) (x : Int) : Int := (pAfter a.st (x - a.lo)).getD 0 + (pAfter b.st (x - b.lo)).getD 0
def sumC (a b : Crv) : Crv := ⟨lowOf a b, a.costAt (lowOf a b) + b.costAt (lowOf a b), joinS (stepsOf (slope a b) (sBends a b))⟩
/-- firstF does not mind joining -/
theorem firstF_app {pr : Int} (l m : List (Int × Int)) : firstF pr (l ++ m) = firstF pr l + firstF pr m := by
  induction l with
  | nil => simp [firstF]
  | cons s l ih => obtain ⟨n, p⟩ := s; simp only [List.cons_append, firstF, ih]; omega
theorem firstF_joinP {pr : Int} {acc : List (Int × Int)} {s : Int × Int} (hs : 0 < s.1) : firstF pr (joinP acc s) = firstF pr acc + firstF pr [s] := by
  rw [joinP_A hs]
  cases hl : acc.getLast? with
  | none => rw [joinA_none hl, firstF_app]
  | some t =>
    rw [joinA_some hl]
    split
    · rename_i e
      have hd := drop_last hl
      rw [firstF_app]
      conv => rhs; rw [← hd, firstF_app]
      obtain ⟨n, p⟩ := s
      obtain ⟨m, q⟩ := t
      have e : q = p := e
      subst e
      simp only [firstF]
      split <;> omega
    · rw [firstF_app]
theorem firstF_join {pr : Int} : ∀ (l acc : List (Int × Int)), (∀ s ∈ l, 0 < s.1) → firstF pr (l.foldl joinP acc) = firstF pr acc + firstF pr l
  | [], acc, _ => by simp [firstF]
  | s :: r, acc, h => by
    rw [List.foldl_cons, firstF_join r _ fun t ht => h t (by simp [ht]), firstF_joinP (h s (by simp))]
    obtain ⟨n, p⟩ := s
    simp only [firstF]; omega
theorem stepsOf_pos {f : Int → Int} : ∀ {l : List Int}, l.Pairwise (· < ·) → ∀ s ∈ stepsOf f l, 0 < s.1
  | [], _, s, hs => by cases hs
  | [x], _, s, hs => by cases hs
  | x :: y :: r, h, s, hs => by
    rw [stepsOf] at hs
    rcases List.mem_cons.mp hs with rfl | hs
    · have := (List.pairwise_cons.mp h).1 y (by simp)
      show 0 < y - x
      omega
    · exact stepsOf_pos (List.pairwise_cons.mp h).2 s hs
theorem stepsOf_mem {f : Int → Int} : ∀ {l : List Int} {s : Int × Int}, s ∈ stepsOf f l → ∃ x ∈ l.dropLast, s.2 = f x
  | [], s, hs => by cases hs
  | [x], s, hs => by cases hs
  | x :: y :: r, s, hs => by
    rw [stepsOf] at hs
    rcases List.mem_cons.mp hs with rfl | hs
    · exact ⟨x, by simp, rfl⟩
    · obtain ⟨z, hz, e⟩ := stepsOf_mem hs
      exact ⟨z, by rw [List.dropLast_cons₂]; exact List.mem_cons_of_mem _ hz, e⟩
theorem stepsOf_rise {f : Int → Int} : ∀ {l : List Int}, l.Pairwise (· < ·) → (∀ x ∈ l.dropLast, ∀ y ∈ l.dropLast, x ≤ y → f x ≤ f y) → (stepsOf f l).Pairwise fun a b => a.2 ≤ b.2
  | [], _, _ => .nil
  | [x], _, _ => .nil
  | x :: y :: r, h, hf => by
    rw [stepsOf]
    obtain ⟨h1, h2⟩ := List.pairwise_cons.mp h
    have hd : (x :: y :: r).dropLast = x :: (y :: r).dropLast := List.dropLast_cons₂
    rw [hd] at hf
    refine List.pairwise_cons.mpr ⟨fun s hs => ?_, stepsOf_rise h2 fun u hu v hv => hf u (by simp [hu]) v (by simp [hv])⟩
    obtain ⟨z, hz, e⟩ := stepsOf_mem hs
    rw [e]
    have := h1 z ((List.dropLast_sublist _).mem hz)
    exact hf x (by simp) z (by simp [hz]) (by omega)
/-- a function that runs straight between neighbours is the rise over their steps -/
theorem steps_cost {F f : Int → Int} : ∀ {l : List Int} {x0 : Int}, (x0 :: l).Pairwise (· < ·) → (∀ x y, (∃ p q, x0 :: l = p ++ x :: y :: q) → ∀ t, x ≤ t → t ≤ y → F t = F x + f x * (t - x)) →
    ∀ t, x0 ≤ t → t ≤ (x0 :: l).getLast (by simp) → F t = F x0 + rise (stepsOf f (x0 :: l)) (t - x0)
  | [], x0, _, _, t, h0, h1 => by
    have : t = x0 := by simp at h1; omega
    subst this
    simp [stepsOf, rise]
  | y :: r, x0, hp, hF, t, h0, h1 => by
    obtain ⟨q1, q2⟩ := List.pairwise_cons.mp hp
    have hxy := q1 y (by simp)
    rw [stepsOf, rise]
    have line := hF x0 y ⟨[], r, rfl⟩
    have hpos : ∀ s ∈ stepsOf f (y :: r), 0 ≤ s.1 := fun s hs => by have := stepsOf_pos q2 s hs; omega
    by_cases ht : t ≤ y
    · rw [show max 0 (min (y - x0) (t - x0)) = t - x0 by omega, rise_le0 _ hpos (by omega), line t h0 ht]; omega
    · have ih := steps_cost (F := F) (f := f) (l := r) (x0 := y) q2 (fun x z ⟨p, q, e⟩ => hF x z ⟨x0 :: p, q, by rw [e]; rfl⟩) t (by omega) (by simpa using h1)
      rw [ih, line y (by omega) (Int.le_refl _), show max 0 (min (y - x0) (t - x0)) = y - x0 by omega, show t - x0 - (y - x0) = t - y by omega]; omega
theorem gain0 : ∀ (st : List (Int × Int)) (u : Int), gainF 0 st u = - rise st u
  | [], u => rfl
  | (n, p) :: r, u => by rw [gainF, rise, gain0 r, Int.zero_sub, Int.neg_mul]; omega
theorem ssrt_head {l : List Int} {m : Int} (h1 : m ∈ l) (h2 : ∀ x ∈ l, m ≤ x) (hs : l.Pairwise (· < ·)) : ∃ r, l = m :: r := by
  cases l with
  | nil => cases h1
  | cons x r =>
    refine ⟨r, ?_⟩
    have := h2 x (by simp)
    rcases List.mem_cons.mp h1 with e | e
    · rw [e]
    · have := (List.pairwise_cons.mp hs).1 m e
      omega
theorem last_max : ∀ {l : List Int} (hl : l ≠ []), l.Pairwise (· < ·) → ∀ x ∈ l, x ≤ l.getLast hl
  | [x], _, _, y, hy => by simp at hy; subst hy; simp
  | x :: y :: r, _, h, z, hz => by
    obtain ⟨h1, h2⟩ := List.pairwise_cons.mp h
    rw [List.getLast_cons (by simp)]
    have ih := last_max (l := y :: r) (by simp) h2
    rcases List.mem_cons.mp hz with rfl | hz
    · have := h1 y (by simp); have := ih y (by simp); omega
    · exact ih z hz
theorem first_mem {l : List Int} : ∀ {x0 : Int} {f : Int → Int}, (x0 :: l).Pairwise (· < ·) → (stepsOf f (x0 :: l)).Pairwise (fun a b => a.2 ≤ b.2) → x0 + firstF 0 (stepsOf f (x0 :: l)) ∈ x0 :: l := by
  induction l with
  | nil => intro x0 f _ _; simp [stepsOf, firstF]
  | cons y r ih =>
    intro x0 f h hs
    rw [stepsOf] at hs ⊢
    obtain ⟨s1, s2⟩ := List.pairwise_cons.mp hs
    rw [firstF]
    by_cases hp : f x0 < 0
    · rw [if_pos hp]
      have := ih (List.pairwise_cons.mp h).2 s2
      rw [show x0 + (y - x0 + firstF 0 (stepsOf f (y :: r))) = y + firstF 0 (stepsOf f (y :: r)) by omega]
      exact List.mem_cons_of_mem _ this
    · rw [if_neg hp, firstF_0 _ fun s hs => by have := s1 s hs; simp at this; omega]
      simp
/-- the sum's steps: where they begin and end, how their prices rise, what they cost -/
theorem sum_shape {a b : Crv} (ha : Cn a) (hb : Cn b) (h : lowOf a b ≤ highOf a b) : (sBends a b).Pairwise (· < ·) ∧ (∃ r, sBends a b = lowOf a b :: r) ∧ (∀ hne : sBends a b ≠ [], (sBends a b).getLast hne = highOf a b) ∧ (∀ s ∈ stepsOf (slope a b) (sBends a b), 0 < s.1) ∧
    ((stepsOf (slope a b) (sBends a b)).Pairwise fun a b => a.2 ≤ b.2) ∧ (∀ t, lowOf a b ≤ t → t ≤ highOf a b → a.costAt t + b.costAt t = a.costAt (lowOf a b) + b.costAt (lowOf a b) + rise (stepsOf (slope a b) (sBends a b)) (t - lowOf a b)) := by
  have hlt : (sBends a b).Pairwise (· < ·) := ssrtI_lt _
  have ml : lowOf a b ∈ sBends a b := sBends_mem.mpr ⟨.inr (.inr (.inl rfl)), Int.le_refl _, h⟩
  have mh : highOf a b ∈ sBends a b := sBends_mem.mpr ⟨.inr (.inr (.inr rfl)), h, Int.le_refl _⟩
  obtain ⟨r, hr⟩ := ssrt_head ml (fun x hx => (sBends_mem.mp hx).2.1) hlt
  have hmax := last_max (l := sBends a b) (by rw [hr]; simp) hlt
  have hlast : (sBends a b).getLast (by rw [hr]; simp) = highOf a b := Int.le_antisymm (sBends_mem.mp (List.getLast_mem _)).2.2 (hmax _ mh)
  have hpos : ∀ s ∈ stepsOf (slope a b) (sBends a b), 0 < s.1 := stepsOf_pos hlt
  have inner : ∀ x ∈ (sBends a b).dropLast, lowOf a b ≤ x ∧ x < highOf a b := fun x hx => by
    have hm := (List.dropLast_sublist _).mem hx
    refine ⟨(sBends_mem.mp hm).2.1, ?_⟩
    have hd := List.dropLast_concat_getLast (l := sBends a b) (by rw [hr]; simp)
    rw [← hd, List.pairwise_append] at hlt
    have := hlt.2.2 x hx ((sBends a b).getLast (by rw [hr]; simp)) (List.mem_singleton.mpr rfl)
    rw [hlast] at this; exact this
  have some_ : ∀ x, lowOf a b ≤ x → x < highOf a b → ∃ p q, pAfter a.st (x - a.lo) = some p ∧ pAfter b.st (x - b.lo) = some q ∧ slope a b x = p + q := fun x h1 h2 => by
    unfold lowOf at h1; unfold highOf at h2
    have e1 : a.last = a.lo + units a.st := rfl
    have e2 : b.last = b.lo + units b.st := rfl
    obtain ⟨p, hp⟩ := pAfter_some (st := a.st) (u := x - a.lo) (by omega) (by omega)
    obtain ⟨q, hq⟩ := pAfter_some (st := b.st) (u := x - b.lo) (by omega) (by omega)
    exact ⟨p, q, hp, hq, by unfold slope; rw [hp, hq]; rfl⟩
  have mono : (stepsOf (slope a b) (sBends a b)).Pairwise fun a b => a.2 ≤ b.2 := stepsOf_rise hlt fun x hx y hy hxy => by
    obtain ⟨x1, x2⟩ := inner x hx
    obtain ⟨y1, y2⟩ := inner y hy
    obtain ⟨p, q, hp, hq, e⟩ := some_ x x1 x2
    obtain ⟨p', q', hp', hq', e'⟩ := some_ y y1 y2
    have := pAfter_mono ha.rise (by omega) hp hp'
    have := pAfter_mono hb.rise (by omega) hq hq'
    omega
  have hF : ∀ t, lowOf a b ≤ t → t ≤ highOf a b → a.costAt t + b.costAt t = a.costAt (lowOf a b) + b.costAt (lowOf a b) + rise (stepsOf (slope a b) (sBends a b)) (t - lowOf a b) := fun t h1 h2 => by
    have := steps_cost (F := fun t => a.costAt t + b.costAt t) (f := slope a b) (l := r) (x0 := lowOf a b) (by rw [← hr]; exact hlt) (fun x y ⟨p, q, e⟩ t hx hy => by
      rw [← hr] at e
      have mx : x ∈ sBends a b := by rw [e]; simp
      have my : y ∈ sBends a b := by rw [e]; simp
      have hxy : x < y := by
        rw [e, List.pairwise_append] at hlt
        exact (List.pairwise_cons.mp hlt.2.1).1 y (by simp)
      have gap : ∀ z ∈ sBends a b, ¬ (x < z ∧ z < y) := fun z hz ⟨z1, z2⟩ => by
        rw [e] at hz hlt
        rw [List.pairwise_append] at hlt
        obtain ⟨p1, p2, p3⟩ := hlt
        rcases List.mem_append.mp hz with hz | hz
        · have := p3 z hz x (by simp); omega
        · obtain ⟨r1, r2⟩ := List.pairwise_cons.mp p2
          obtain ⟨r3, r4⟩ := List.pairwise_cons.mp r2
          rcases List.mem_cons.mp hz with rfl | hz
          · omega
          · rcases List.mem_cons.mp hz with rfl | hz
            · omega
            · have := r3 z hz; omega
      have x1 := (sBends_mem.mp mx).2
      have y1 := (sBends_mem.mp my).2
      obtain ⟨pa, pb, hpa, hpb, es⟩ := some_ x x1.1 (by omega)
      have l1 := cost_line ha.pos (x := x) (y := y) (t := t) (by unfold lowOf at x1; omega) hpa hx hy fun z hz q => gap z (sBends_mem.mpr ⟨.inl hz, by omega, by omega⟩) q
      have l2 := cost_line hb.pos (x := x) (y := y) (t := t) (by unfold lowOf at x1; omega) hpb hx hy fun z hz q => gap z (sBends_mem.mpr ⟨.inr (.inl hz), by omega, by omega⟩) q
      show a.costAt t + b.costAt t = a.costAt x + b.costAt x + slope a b x * (t - x)
      rw [l1, l2, es, Int.add_mul]; omega) t h1 (by
        have : (lowOf a b :: r).getLast (by simp) = highOf a b := by rw [← hlast]; congr 1; exact hr.symm
        rw [this]; exact h2)
    rw [hr]; exact this
  exact ⟨hlt, ⟨r, hr⟩, fun _ => hlast, hpos, mono, hF⟩
/-- the least place of the sum: a bend, and no place costs less -/
theorem sum_leastC {a b : Crv} (ha : Cn a) (hb : Cn b) (h : lowOf a b ≤ highOf a b) : (sumC a b).best 0 ∈ sBends a b ∧ ∀ t, lowOf a b ≤ t → t ≤ highOf a b → a.costAt ((sumC a b).best 0) + b.costAt ((sumC a b).best 0) ≤ a.costAt t + b.costAt t := by
  obtain ⟨hlt, ⟨r, hr⟩, _, hpos, mono, hF⟩ := sum_shape ha hb h
  have ebest : (sumC a b).best 0 = lowOf a b + firstF 0 (stepsOf (slope a b) (sBends a b)) := by
    show lowOf a b + firstF 0 (joinS _) = _
    unfold joinS
    rw [firstF_join _ _ hpos]; simp [firstF]
  have hmem : (sumC a b).best 0 ∈ sBends a b := by
    rw [ebest, hr]
    exact first_mem (by rw [← hr]; exact hlt) (by rw [← hr]; exact mono)
  refine ⟨hmem, fun t h1 h2 => ?_⟩
  obtain ⟨b1, b2⟩ := (sBends_mem.mp hmem).2
  rw [hF _ b1 b2, hF t h1 h2, ebest]
  have g := (gain_bestW (pr := 0) (stepsOf (slope a b) (sBends a b)) (fun s hs => by have := hpos s hs; omega) mono).2 (t - lowOf a b)
  rw [gain0, gain0] at g
  rw [show lowOf a b + firstF 0 (stepsOf (slope a b) (sBends a b)) - lowOf a b = firstF 0 (stepsOf (slope a b) (sBends a b)) by omega]
  omega
theorem sum_least {a b : Crv} (ha : VOk a) (hb : VOk b) (h : lowOf a b ≤ highOf a b) : (sumC a b).best 0 ∈ sBends a b ∧ ∀ t, lowOf a b ≤ t → t ≤ highOf a b → a.costAt ((sumC a b).best 0) + b.costAt ((sumC a b).best 0) ≤ a.costAt t + b.costAt t := sum_leastC ha.cn hb.cn h
end FW

/-! PlEnds: prices before and behind a place, common prices, plain. -/
namespace FW
open PySem L2
variable {k : Nat} {S : Store}
/-- the price of the last unit of u -/
def pBefore : List (Int × Int) → Int → Option Int
  | [], _ => none
  | (n, p) :: r, u => if 0 < u then (match pBefore r (u - n) with
    | some q => some q
    | none => some p) else none
theorem pBefore_le0 : ∀ (st : List (Int × Int)) {u : Int}, u ≤ 0 → pBefore st u = none
  | [], u, _ => rfl
  | (n, p) :: r, u, h => by rw [pBefore, if_neg (by omega)]
theorem pBefore_eq : ∀ {st : List (Int × Int)} {u : Int}, (∀ s ∈ st, 0 < s.1) → 0 < u → u ≤ units st → pBefore st u = pAfter st (u - 1)
  | [], u, _, h0, h1 => by simp [units] at h1; omega
  | (n, p) :: r, u, hn, h0, h1 => by
    have hn0 : 0 < n := hn (n, p) (by simp)
    have hr : ∀ s ∈ r, 0 < s.1 := fun s hs => hn s (by simp [hs])
    have hu : units ((n, p) :: r) = n + units r := by simp [units]
    rw [pBefore, pAfter, if_pos h0]
    by_cases z : u ≤ n
    · rw [pBefore_le0 r (by omega), if_pos (by omega)]
    · rw [if_neg (by omega), pBefore_eq hr (by omega) (by omega), show u - n - 1 = u - 1 - n by omega]
      obtain ⟨q, e⟩ := pAfter_some (st := r) (u := u - 1 - n) (by omega) (by omega)
      rw [e]
/-- a price between the ends: no place gains more -/
theorem gain_sub {p : Int} : ∀ {st : List (Int × Int)} {u : Int}, (∀ s ∈ st, 0 < s.1) → (st.Pairwise fun a b => a.2 < b.2) → (∀ l, pBefore st u = some l → l ≤ p) → (∀ h, pAfter st u = some h → p ≤ h) → ∀ v, gainF p st v ≤ gainF p st u
  | [], u, _, _, _, _, v => Int.le_refl _
  | (n, q) :: r, u, hn, hs, hl, hh, v => by
    have hn0 : 0 < n := hn (n, q) (by simp)
    have hr : ∀ s ∈ r, 0 < s.1 := fun s hs => hn s (by simp [hs])
    have hr0 : ∀ s ∈ r, 0 ≤ s.1 := fun s hs => by have := hr s hs; omega
    obtain ⟨hp, hs⟩ := List.pairwise_cons.mp hs
    rw [pBefore] at hl
    rw [pAfter] at hh
    rw [gainF, gainF]
    by_cases hun : u < n
    · rw [if_pos hun] at hh
      have hpq : p ≤ q := hh q rfl
      have best := (gain_best (pr := p) r hr0 hs).2 (v - n)
      have fz : firstF p r = 0 := firstF_0 r fun s hs' => by have := hp s hs'; simp at this; omega
      rw [fz, gainF_le0 (pr := p) r hr0 (Int.le_refl 0)] at best
      rw [gainF_le0 (pr := p) r hr0 (u := u - n) (by omega)]
      have m1 : (p - q) * max 0 (min n v) ≤ 0 := Int.mul_nonpos_of_nonpos_of_nonneg (by omega) (by omega)
      by_cases hu0 : 0 < u
      · rw [if_pos hu0, pBefore_le0 r (by omega)] at hl
        have hqp : q ≤ p := hl q rfl
        have : p - q = 0 := by omega
        rw [this, Int.zero_mul, Int.zero_mul]; omega
      · rw [show max 0 (min n u) = 0 by omega, Int.mul_zero]; omega
    · rw [if_neg hun] at hh
      rw [if_pos (by omega)] at hl
      have ih := gain_sub (p := p) (st := r) (u := u - n) hr hs (fun l h => hl l (by rw [h])) hh (v - n)
      have hqp : q ≤ p := by
        cases hb : pBefore r (u - n) with
        | none => exact hl q (by rw [hb])
        | some l =>
          have := hl l (by rw [hb])
          by_cases hu1 : 0 < u - n
          · by_cases hu2 : u - n ≤ units r
            · rw [pBefore_eq hr hu1 hu2] at hb
              obtain ⟨s, h1, h2⟩ := pAfter_mem hb
              have := hp s h1
              simp at this; omega
            · have lm : ∀ {st : List (Int × Int)} {w l : Int}, pBefore st w = some l → ∃ s ∈ st, s.2 = l := fun {st} => by
                induction st with
                | nil => intro w l h; cases h
                | cons s st ih =>
                  intro w l h
                  obtain ⟨m, x⟩ := s
                  rw [pBefore] at h
                  split at h
                  · split at h
                    · rename_i e
                      obtain ⟨s', a1, a2⟩ := ih e
                      exact ⟨s', by simp [a1], by rw [a2]; exact Option.some.inj h⟩
                    · exact ⟨(m, x), by simp, Option.some.inj h⟩
                  · cases h
              obtain ⟨s, h1, h2⟩ := lm hb
              have := hp s h1
              simp at this; omega
          · rw [pBefore_le0 r (by omega)] at hb; cases hb
      have m1 : (p - q) * max 0 (min n v) ≤ (p - q) * n := Int.mul_le_mul_of_nonneg_left (by omega) (by omega)
      rw [show max 0 (min n u) = n by omega]
      omega
def Crv.before (c : Crv) (x : Int) : Option Int := pBefore c.st (x - c.lo)
def Crv.after (c : Crv) (x : Int) : Option Int := pAfter c.st (x - c.lo)
/-- at a price between the ends the gain is the one at the place -/
theorem gain_hereC {c : Crv} (h : Cn c) {p x : Int} (h0 : c.lo ≤ x) (h1 : x ≤ c.last) (hl : ∀ l, c.before x = some l → l ≤ p) (hh : ∀ t, c.after x = some t → p ≤ t) : c.gain p = p * x - c.costAt x := by
  have f := firstF_nn (pr := p) c.st h.rises.cnt
  have g1 : c.gain p = p * c.lo - c.cost + gainF p c.st (firstF p c.st) := by
    show p * c.best p - c.costAt (c.best p) = _
    rw [gain_at h.rises (show c.lo ≤ c.best p by unfold Crv.best; omega) (show c.lo + firstF p c.st ≤ c.lo + units c.st by omega), show c.best p - c.lo = firstF p c.st by unfold Crv.best; omega]
  rw [g1, gain_at h.rises h0 h1]
  have a := gain_sub (p := p) (st := c.st) (u := x - c.lo) h.pos h.rise hl hh (firstF p c.st)
  have b := (gain_best (pr := p) c.st h.rises.cnt h.rise).2 (x - c.lo)
  omega
theorem after_someC {c : Crv} (h : Cn c) {x : Int} (h0 : c.lo ≤ x) (h1 : x < c.last) : c.after x = some (c.costAt (x + 1) - c.costAt x) := by
  have e1 : c.last = c.lo + units c.st := rfl
  obtain ⟨p, e⟩ := pAfter_some (st := c.st) (u := x - c.lo) (by omega) (by omega)
  have l := cost_line h.pos (x := x) (y := x + 1) (t := x + 1) h0 e (by omega) (Int.le_refl _) fun z _ => by omega
  show pAfter c.st (x - c.lo) = _
  rw [e, l]
  congr 1
  rw [show x + 1 - x = 1 by omega, Int.mul_one]; omega
theorem after_noneC {c : Crv} (h : Cn c) {x : Int} (h1 : c.last ≤ x) : c.after x = none := by
  have e1 : c.last = c.lo + units c.st := rfl
  have : ∀ {st : List (Int × Int)} {u : Int}, units st ≤ u → (∀ s ∈ st, 0 < s.1) → pAfter st u = none := fun {st} => by
    induction st with
    | nil => intro u _ _; rfl
    | cons s r ih =>
      intro u hu hp
      obtain ⟨n, p⟩ := s
      have e : units ((n, p) :: r) = n + units r := by simp [units]
      have hr : ∀ s ∈ r, 0 < s.1 := fun s hs => hp s (by simp [hs])
      have h0 := units_nn (st := r) fun s hs => by have := hr s hs; omega
      rw [pAfter, if_neg (by omega)]
      exact ih (by omega) hr
  exact this (by omega) h.pos
theorem before_someC {c : Crv} (h : Cn c) {x : Int} (h0 : c.lo < x) (h1 : x ≤ c.last) : c.before x = some (c.costAt x - c.costAt (x - 1)) := by
  have e1 : c.last = c.lo + units c.st := rfl
  show pBefore c.st (x - c.lo) = _
  rw [pBefore_eq h.pos (by omega) (by omega)]
  have := after_someC h (x := x - 1) (by omega) (by omega)
  rw [show x - 1 + 1 = x by omega] at this
  rw [show x - c.lo - 1 = x - 1 - c.lo by omega]
  exact this
theorem gain_here {c : Crv} (h : VOk c) {p x : Int} (h0 : c.lo ≤ x) (h1 : x ≤ c.last) (hl : ∀ l, c.before x = some l → l ≤ p) (hh : ∀ t, c.after x = some t → p ≤ t) : c.gain p = p * x - c.costAt x := gain_hereC h.cn h0 h1 hl hh
theorem after_some {c : Crv} (h : VOk c) {x : Int} (h0 : c.lo ≤ x) (h1 : x < c.last) : c.after x = some (c.costAt (x + 1) - c.costAt x) := after_someC h.cn h0 h1
theorem after_none {c : Crv} (h : VOk c) {x : Int} (h1 : c.last ≤ x) : c.after x = none := after_noneC h.cn h1
theorem before_some {c : Crv} (h : VOk c) {x : Int} (h0 : c.lo < x) (h1 : x ≤ c.last) : c.before x = some (c.costAt x - c.costAt (x - 1)) := before_someC h.cn h0 h1
theorem before_none {c : Crv} {x : Int} (h1 : x ≤ c.lo) : c.before x = none := pBefore_le0 c.st (by omega)
/-! ### mirrors -/
theorem units_nn' : ∀ {st : List (Int × Int)}, (∀ s ∈ st, 0 ≤ s.1) → 0 ≤ units st
  | [], _ => by simp [units]
  | (n, p) :: r, h => by
    have hu : units ((n, p) :: r) = n + units r := by simp [units]
    have := units_nn' (st := r) fun s hs => h s (by simp [hs])
    have : 0 ≤ n := h (n, p) (by simp)
    omega
theorem rise_app (l m : List (Int × Int)) (u : Int) : rise (l ++ m) u = rise l u + rise m (u - units l) := by
  induction l generalizing u with
  | nil => simp [rise, units]
  | cons s l ih =>
    obtain ⟨n, p⟩ := s
    have e : units ((n, p) :: l) = n + units l := by simp [units]
    rw [List.cons_append, rise, rise, ih, e, show u - n - units l = u - (n + units l) by omega]; omega
theorem rise_mirror : ∀ (st : List (Int × Int)) (u : Int), (∀ s ∈ st, 0 ≤ s.1) → rise (st.reverse.map neP) (units st - u) = rise st u - rise st (units st)
  | [], u, _ => by simp [rise]
  | (n, p) :: r, u, h => by
    have hn : 0 ≤ n := h (n, p) (by simp)
    have hr : ∀ s ∈ r, 0 ≤ s.1 := fun s hs => h s (by simp [hs])
    have hu : units ((n, p) :: r) = n + units r := by simp [units]
    have u0 := units_nn' hr
    have ur : units (r.reverse.map neP) = units r := by
      unfold units
      rw [List.map_map]
      exact perm_sum ((List.reverse_perm r).map _)
    have ih := rise_mirror r (u - n) hr
    rw [List.reverse_cons, List.map_append, rise_app, ur, hu, show n + units r - u = units r - (u - n) by omega, ih]
    simp only [List.map_cons, List.map_nil, neP, rise]
    rw [show units r - (u - n) - units r = n - u by omega, show max 0 (min n (n + units r)) = n by omega, show n + units r - n = units r by omega, show max 0 (min n (n - u)) = n - max 0 (min n u) by omega, Int.zero_sub, Int.neg_mul, Int.mul_sub]
    omega
theorem mir_cost {c : Crv} (h : Rises c) (x : Int) : (mirC c).costAt (0 - x) = c.costAt x := by
  show c.costAt c.last + rise (c.st.reverse.map neP) (0 - x - (0 - c.last)) = _
  have e : (0 : Int) - x - (0 - c.last) = units c.st - (x - c.lo) := by unfold Crv.last; omega
  rw [e, rise_mirror c.st _ h.cnt]
  unfold Crv.costAt
  rw [show c.last - c.lo = units c.st by unfold Crv.last; omega]
  omega
end FW

/-! PlTh: curves as such: weights of steps, supports, uniqueness. -/
namespace FW
open PySem L2
/-- the sum over the units of a weight of their prices -/
def wsum (w : Int → Int) : List (Int × Int) → Int
  | [] => 0
  | (n, p) :: r => n * w p + wsum w r
theorem wsum_app (w : Int → Int) (l m : List (Int × Int)) : wsum w (l ++ m) = wsum w l + wsum w m := by
  induction l with
  | nil => simp [wsum]
  | cons s l ih => obtain ⟨n, p⟩ := s; rw [List.cons_append, wsum, wsum, ih]; omega
theorem wsum_perm (w : Int → Int) {l m : List (Int × Int)} (h : l.Perm m) : wsum w l = wsum w m := by
  have e : ∀ l : List (Int × Int), wsum w l = (l.map fun s => s.1 * w s.2).sum := fun l => by
    induction l with
    | nil => rfl
    | cons s l ih => obtain ⟨n, p⟩ := s; rw [wsum, ih]; simp
  rw [e, e]
  exact perm_sum (h.map _)
theorem wsum_joinA (w : Int → Int) (acc : List (Int × Int)) (s : Int × Int) : wsum w (joinA acc s) = wsum w acc + wsum w [s] := by
  cases hl : acc.getLast? with
  | none => rw [joinA_none hl, wsum_app]
  | some t =>
    rw [joinA_some hl]
    split
    · rename_i e
      have hd := drop_last hl
      rw [wsum_app]
      conv => rhs; rw [← hd, wsum_app]
      obtain ⟨n, p⟩ := s
      obtain ⟨m, q⟩ := t
      have e : q = p := e
      subst e
      simp only [wsum, Int.add_mul]
      omega
    · rw [wsum_app]
theorem wsum_join (w : Int → Int) : ∀ (l acc : List (Int × Int)), wsum w (l.foldl joinA acc) = wsum w acc + wsum w l
  | [], acc => by simp [wsum]
  | s :: r, acc => by
    rw [List.foldl_cons, wsum_join w r, wsum_joinA]
    obtain ⟨n, p⟩ := s
    simp only [wsum]; omega
theorem wsum_share (w : Int → Int) {a b : Crv} (ha : PosC a) (hb : PosC b) : wsum w (shareC a b).st = wsum w a.st + wsum w b.st := by
  rw [share_st ha hb, joinAll, wsum_join, wsum_perm w share_rows, wsum_app]
  simp [wsum]
theorem wsum_mir (w : Int → Int) (st : List (Int × Int)) : wsum w (st.reverse.map neP) = wsum (fun p => w (0 - p)) st := by
  rw [wsum_perm w ((List.reverse_perm st).map neP)]
  induction st with
  | nil => rfl
  | cons s l ih => obtain ⟨n, p⟩ := s; rw [List.map_cons, wsum, ih]; rfl
theorem units_w (st : List (Int × Int)) : units st = wsum (fun _ => 1) st := by
  induction st with
  | nil => rfl
  | cons s l ih => obtain ⟨n, p⟩ := s; rw [wsum, ← ih]; simp [units]
theorem firstF_w (pr : Int) (st : List (Int × Int)) : firstF pr st = wsum (fun p => if p < pr then 1 else 0) st := by
  induction st with
  | nil => rfl
  | cons s l ih => obtain ⟨n, p⟩ := s; rw [wsum, ← ih, firstF]; split <;> omega
theorem lastF_w (pr : Int) (st : List (Int × Int)) : lastF pr st = wsum (fun p => if p ≤ pr then 1 else 0) st := by
  induction st with
  | nil => rfl
  | cons s l ih => obtain ⟨n, p⟩ := s; rw [wsum, ← ih, lastF]; split <;> omega
/-- what the units gain at a price -/
def conv (pr : Int) (st : List (Int × Int)) : Int := wsum (fun p => max 0 (pr - p)) st
theorem gainF_conv {pr : Int} : ∀ (st : List (Int × Int)), (∀ s ∈ st, 0 ≤ s.1) → (st.Pairwise fun a b => a.2 < b.2) → gainF pr st (firstF pr st) = conv pr st
  | [], _, _ => rfl
  | (n, p) :: r, h, hs => by
    have hn : 0 ≤ n := h (n, p) (by simp)
    have hr : ∀ s ∈ r, 0 ≤ s.1 := fun s hs => h s (by simp [hs])
    obtain ⟨hp, hs⟩ := List.pairwise_cons.mp hs
    have ih := gainF_conv (pr := pr) r hr hs
    have f := firstF_nn (pr := pr) r hr
    unfold conv at ih ⊢
    rw [wsum, ← ih]
    by_cases hpp : p < pr
    · rw [firstF, if_pos hpp, gainF, show max 0 (min n (n + firstF pr r)) = n by omega, show n + firstF pr r - n = firstF pr r by omega, show max 0 (pr - p) = pr - p by omega, Int.mul_comm]
    · have fz : firstF pr r = 0 := firstF_0 r fun s hs' => by have := hp s hs'; simp at this; omega
      rw [firstF, if_neg hpp, fz, gainF, show max 0 (min n (0 + 0)) = 0 by omega, show max 0 (pr - p) = 0 by omega, gainF_le0 r hr (by omega), gainF_le0 r hr (by omega)]
      simp
variable {a b c : Crv}
theorem gain_conv (h : Cn c) (pr : Int) : c.gain pr = pr * c.lo - c.cost + conv pr c.st := by
  have f := firstF_nn (pr := pr) c.st h.rises.cnt
  show pr * c.best pr - c.costAt (c.best pr) = _
  rw [gain_at h.rises (show c.lo ≤ c.best pr by unfold Crv.best; omega) (show c.lo + firstF pr c.st ≤ c.lo + units c.st by omega), show c.best pr - c.lo = firstF pr c.st by unfold Crv.best; omega, gainF_conv _ h.rises.cnt h.rise]
/-! ### supports -/
/-- a price supports a place -/
def Sup (c : Crv) (p x : Int) : Prop := c.best p ≤ x ∧ x ≤ c.bestL p
theorem best_ge (h : Cn c) (p : Int) : c.lo ≤ c.best p ∧ c.best p ≤ c.bestL p ∧ c.bestL p ≤ c.last := by
  have f := firstF_nn (pr := p) c.st h.rises.cnt
  have l := lastF_nn (pr := p) c.st h.rises.cnt
  have fl : ∀ (st : List (Int × Int)), (∀ s ∈ st, 0 < s.1) → firstF p st ≤ lastF p st := fun st => by
    induction st with
    | nil => intro _; exact Int.le_refl _
    | cons s r ih =>
      obtain ⟨n, q⟩ := s
      intro hp
      have := ih fun s hs => hp s (by simp [hs])
      have hn : 0 < n := hp (n, q) (by simp)
      rw [firstF, lastF]
      split <;> split <;> omega
  have := fl c.st h.pos
  unfold Crv.best Crv.bestL Crv.last
  omega
theorem gain_ge (h : Cn c) {p x : Int} (h0 : c.lo ≤ x) (h1 : x ≤ c.last) : p * x - c.costAt x ≤ c.gain p := by
  have f := firstF_nn (pr := p) c.st h.rises.cnt
  have g1 : c.gain p = p * c.lo - c.cost + gainF p c.st (firstF p c.st) := by
    show p * c.best p - c.costAt (c.best p) = _
    rw [gain_at h.rises (show c.lo ≤ c.best p by unfold Crv.best; omega) (show c.lo + firstF p c.st ≤ c.lo + units c.st by omega), show c.best p - c.lo = firstF p c.st by unfold Crv.best; omega]
  rw [g1, gain_at h.rises h0 h1]
  have := (gain_best (pr := p) c.st h.rises.cnt h.rise).2 (x - c.lo)
  omega
theorem sup_of_gain (h : Cn c) {p x : Int} (h0 : c.lo ≤ x) (h1 : x ≤ c.last) (g : c.gain p ≤ p * x - c.costAt x) : Sup c p x := by
  have f := firstF_nn (pr := p) c.st h.rises.cnt
  have g1 : c.gain p = p * c.lo - c.cost + gainF p c.st (firstF p c.st) := by
    show p * c.best p - c.costAt (c.best p) = _
    rw [gain_at h.rises (show c.lo ≤ c.best p by unfold Crv.best; omega) (show c.lo + firstF p c.st ≤ c.lo + units c.st by omega), show c.best p - c.lo = firstF p c.st by unfold Crv.best; omega]
  rw [g1, gain_at h.rises h0 h1] at g
  have h1' : x ≤ c.lo + units c.st := h1
  unfold Sup Crv.best Crv.bestL
  refine ⟨?_, ?_⟩
  · by_cases z : c.lo + firstF p c.st ≤ x
    · exact z
    · have := gain_below (pr := p) c.st (u := x - c.lo) h.pos h.rise (by omega) (by omega)
      omega
  · by_cases z : x ≤ c.lo + lastF p c.st
    · exact z
    · have := gain_above (pr := p) c.st (u := x - c.lo) h.pos h.rise (by omega) (by omega)
      omega
/-- between the first and the last best place all are best -/
theorem gainF_mid {p : Int} : ∀ (st : List (Int × Int)) (u : Int), (∀ s ∈ st, 0 < s.1) → (st.Pairwise fun a b => a.2 < b.2) → firstF p st ≤ u → u ≤ lastF p st → gainF p st u = gainF p st (firstF p st)
  | [], u, _, _, _, _ => rfl
  | (n, q) :: r, u, hn, hs, h0, h1 => by
    have hn0 : 0 < n := hn (n, q) (by simp)
    have hr : ∀ s ∈ r, 0 < s.1 := fun s hs => hn s (by simp [hs])
    have hr0 : ∀ s ∈ r, 0 ≤ s.1 := fun s hs => by have := hr s hs; omega
    obtain ⟨hp, hs⟩ := List.pairwise_cons.mp hs
    have f := firstF_nn (pr := p) r hr0
    rw [firstF] at h0 ⊢
    rw [lastF] at h1
    by_cases z : q < p
    · rw [if_pos z] at h0 ⊢
      rw [if_pos (by omega)] at h1
      rw [gainF, gainF, show max 0 (min n u) = n by omega, show max 0 (min n (n + firstF p r)) = n by omega, show n + firstF p r - n = firstF p r by omega, gainF_mid r (u - n) hr hs (by omega) (by omega)]
    · have fz : firstF p r = 0 := firstF_0 r fun s hs' => by have := hp s hs'; simp at this; omega
      rw [if_neg z, fz] at h0 ⊢
      by_cases y : q ≤ p
      · rw [if_pos y] at h1
        have lz : lastF p r = 0 := lastF_0 r fun s hs' => by have := hp s hs'; simp at this; omega
        rw [lz] at h1
        have : p - q = 0 := by omega
        rw [gainF, gainF, this, gainF_le0 r hr0 (by omega), gainF_le0 r hr0 (by omega)]; omega
      · rw [if_neg y] at h1
        have lz : lastF p r = 0 := lastF_0 r fun s hs' => by have := hp s hs'; simp at this; omega
        rw [lz] at h1
        have : u = 0 + 0 := by omega
        rw [this]
theorem sup_gain (h : Cn c) {p x : Int} (s : Sup c p x) : c.gain p = p * x - c.costAt x ∧ c.lo ≤ x ∧ x ≤ c.last := by
  obtain ⟨b1, b2, b3⟩ := best_ge h p
  obtain ⟨s1, s2⟩ := s
  refine ⟨?_, by omega, by omega⟩
  have e1 : c.last = c.lo + units c.st := rfl
  rw [gain_at h.rises (by omega) (by omega)]
  have f := firstF_nn (pr := p) c.st h.rises.cnt
  have g1 : c.gain p = p * c.lo - c.cost + gainF p c.st (firstF p c.st) := by
    show p * c.best p - c.costAt (c.best p) = _
    rw [gain_at h.rises (by omega) (by omega), show c.best p - c.lo = firstF p c.st by unfold Crv.best; omega]
  unfold Crv.best at s1
  unfold Crv.bestL at s2
  rw [g1, gainF_mid c.st (x - c.lo) h.pos h.rise (by omega) (by omega)]
/-- a price that supports a place, within the prices of the steps -/
theorem sup_some (h : Cn c) {x : Int} (h0 : c.lo ≤ x) (h1 : x ≤ c.last) : ∃ p, Sup c p x ∧ (c.st = [] ∨ ∃ s ∈ c.st, s.2 = p) := by
  have e1 : c.last = c.lo + units c.st := rfl
  have go : ∀ (st : List (Int × Int)) (u : Int), (∀ s ∈ st, 0 < s.1) → (st.Pairwise fun a b => a.2 < b.2) → 0 ≤ u → u ≤ units st → st ≠ [] → ∃ s ∈ st, firstF s.2 st ≤ u ∧ u ≤ lastF s.2 st := fun st => by
    induction st with
    | nil => intro u _ _ _ _ z; exact absurd rfl z
    | cons s r ih =>
      obtain ⟨n, q⟩ := s
      intro u hp hs hu0 hu1 _
      have hn : 0 < n := hp (n, q) (by simp)
      have hr : ∀ s ∈ r, 0 < s.1 := fun s hs => hp s (by simp [hs])
      have hr0 : ∀ s ∈ r, 0 ≤ s.1 := fun s hs => by have := hr s hs; omega
      obtain ⟨hq, hs⟩ := List.pairwise_cons.mp hs
      have hu : units ((n, q) :: r) = n + units r := by simp [units]
      by_cases z : u ≤ n
      · refine ⟨(n, q), by simp, ?_, ?_⟩
        · rw [firstF, if_neg (by show ¬ q < q; omega), firstF_0 r fun s hs' => by have := hq s hs'; simp at this; show q ≤ s.2; omega]; omega
        · have := lastF_nn (pr := q) r hr0
          rw [lastF, if_pos (by show q ≤ q; omega)]; show u ≤ n + lastF q r; omega
      · have hne : r ≠ [] := fun e => by subst e; simp [units] at hu1; omega
        obtain ⟨s, hs1, hs2, hs3⟩ := ih (u - n) hr hs (by omega) (by omega) hne
        have := hq s hs1
        simp at this
        refine ⟨s, by simp [hs1], ?_, ?_⟩
        · rw [firstF, if_pos this]; omega
        · rw [lastF, if_pos (by omega)]; omega
  by_cases hne : c.st = []
  · refine ⟨0, ?_, .inl hne⟩
    unfold Sup Crv.best Crv.bestL
    rw [hne] at e1 ⊢
    simp [units] at e1
    simp [firstF, lastF]; omega
  · obtain ⟨s, s1, s2, s3⟩ := go c.st (x - c.lo) h.pos h.rise (by omega) (by omega) hne
    exact ⟨s.2, ⟨by unfold Crv.best; omega, by unfold Crv.bestL; omega⟩, .inr ⟨s, s1, rfl⟩⟩
/-! ### sharings -/
theorem share_cn (ha : Cn a) (hb : Cn b) : Cn (shareC a b) := ⟨share_pos ha.pos hb.pos, share_rises ha.pos hb.pos⟩
theorem share_lo : (shareC a b).lo = a.lo + b.lo := rfl
theorem share_last (ha : Cn a) (hb : Cn b) : (shareC a b).last = a.last + b.last := by
  have := share_units ha.pos hb.pos
  show a.lo + b.lo + units (shareC a b).st = a.lo + units a.st + (b.lo + units b.st)
  omega
theorem share_best (ha : Cn a) (hb : Cn b) (p : Int) : (shareC a b).best p = a.best p + b.best p := by
  show a.lo + b.lo + firstF p _ = a.lo + firstF p _ + (b.lo + firstF p _)
  rw [firstF_w, firstF_w, firstF_w, wsum_share _ ha.pos hb.pos]; omega
theorem share_bestL (ha : Cn a) (hb : Cn b) (p : Int) : (shareC a b).bestL p = a.bestL p + b.bestL p := by
  show a.lo + b.lo + lastF p _ = a.lo + lastF p _ + (b.lo + lastF p _)
  rw [lastF_w, lastF_w, lastF_w, wsum_share _ ha.pos hb.pos]; omega
theorem share_gain (ha : Cn a) (hb : Cn b) (p : Int) : (shareC a b).gain p = a.gain p + b.gain p := by
  rw [gain_conv (share_cn ha hb), gain_conv ha, gain_conv hb]
  unfold conv
  rw [wsum_share _ ha.pos hb.pos]
  show p * (a.lo + b.lo) - (a.cost + b.cost) + _ = _
  rw [Int.mul_add]; omega
theorem share_le (ha : Cn a) (hb : Cn b) {x y : Int} (x0 : a.lo ≤ x) (x1 : x ≤ a.last) (y0 : b.lo ≤ y) (y1 : y ≤ b.last) : (shareC a b).costAt (x + y) ≤ a.costAt x + b.costAt y := by
  have hs := share_cn ha hb
  obtain ⟨p, hp, _⟩ := sup_some hs (x := x + y) (by rw [share_lo]; omega) (by rw [share_last ha hb]; omega)
  have g := (sup_gain hs hp).1
  rw [share_gain ha hb] at g
  have g1 := gain_ge ha (p := p) x0 x1
  have g2 := gain_ge hb (p := p) y0 y1
  rw [Int.mul_add] at g
  omega
/-- a place of the sharing falls into two; each price that supports it supports both -/
theorem share_split (ha : Cn a) (hb : Cn b) {x p : Int} (hp : Sup (shareC a b) p x) : ∃ y z, x = y + z ∧ Sup a p y ∧ Sup b p z ∧ (shareC a b).costAt x = a.costAt y + b.costAt z := by
  have hs := share_cn ha hb
  have g := (sup_gain hs hp).1
  obtain ⟨h1, h2⟩ := hp
  rw [share_best ha hb] at h1
  rw [share_bestL ha hb] at h2
  have a1 := best_ge ha p
  have b1 := best_ge hb p
  obtain ⟨y, hy0, hy1, hz0, hz1⟩ : ∃ y, a.best p ≤ y ∧ y ≤ a.bestL p ∧ b.best p ≤ x - y ∧ x - y ≤ b.bestL p := by
    by_cases z : x - b.best p ≤ a.bestL p
    · exact ⟨x - b.best p, by omega, z, by omega, by omega⟩
    · exact ⟨a.bestL p, by omega, by omega, by omega, by omega⟩
  refine ⟨y, x - y, by omega, ⟨hy0, hy1⟩, ⟨hz0, hz1⟩, ?_⟩
  have g1 := (sup_gain ha ⟨hy0, hy1⟩).1
  have g2 := (sup_gain hb ⟨hz0, hz1⟩).1
  rw [share_gain ha hb, g1, g2] at g
  rw [Int.mul_sub] at g
  omega
theorem share_split' (ha : Cn a) (hb : Cn b) {x : Int} (x0 : (shareC a b).lo ≤ x) (x1 : x ≤ (shareC a b).last) : ∃ y z, x = y + z ∧ a.lo ≤ y ∧ y ≤ a.last ∧ b.lo ≤ z ∧ z ≤ b.last ∧ (shareC a b).costAt x = a.costAt y + b.costAt z := by
  obtain ⟨p, hp, _⟩ := sup_some (share_cn ha hb) x0 x1
  obtain ⟨y, z, e, s1, s2, e2⟩ := share_split ha hb hp
  have g1 := (sup_gain ha s1).2
  have g2 := (sup_gain hb s2).2
  exact ⟨y, z, e, g1.1, g1.2, g2.1, g2.2, e2⟩
/-! ### mirrors, moves -/
theorem mir_cn (h : Cn c) : Cn (mirC c) := ⟨fun s hs => by
  obtain ⟨t, ht, rfl⟩ := List.mem_map.mp hs
  exact h.pos t (List.mem_reverse.mp ht), (mir_rises h.rises).rise⟩
theorem mir_lo : (mirC c).lo = 0 - c.last := rfl
theorem mir_last : (mirC c).last = 0 - c.lo := by
  show 0 - c.last + units (mirC c).st = _
  rw [mir_units]
  show 0 - (c.lo + units c.st) + units c.st = _
  omega
theorem mir_sup (h : Cn c) {p x : Int} : Sup (mirC c) (0 - p) (0 - x) ↔ Sup c p x := by
  have key : ∀ {q y : Int}, Sup c q y → Sup (mirC c) (0 - q) (0 - y) := fun {q y} s => by
    obtain ⟨g, s1, s2⟩ := sup_gain h s
    refine sup_of_gain (mir_cn h) (by rw [mir_lo]; omega) (by rw [mir_last]; omega) ?_
    rw [mir_cost h.rises]
    obtain ⟨b1, b2, b3⟩ := best_ge (mir_cn h) (0 - q)
    have e : (mirC c).gain (0 - q) = (0 - q) * (mirC c).best (0 - q) - (mirC c).costAt (mirC c |>.best (0 - q)) := rfl
    rw [mir_lo] at b1
    rw [mir_last] at b3
    have ec := mir_cost h.rises (0 - (mirC c).best (0 - q))
    rw [show (0 : Int) - (0 - (mirC c).best (0 - q)) = (mirC c).best (0 - q) by omega] at ec
    have gg := gain_ge h (p := q) (x := 0 - (mirC c).best (0 - q)) (by omega) (by omega)
    rw [e, ec]
    have m1 : (0 - q) * (mirC c).best (0 - q) = q * (0 - (mirC c).best (0 - q)) := by rw [Int.zero_sub, Int.zero_sub, Int.neg_mul, Int.mul_neg]
    have m2 : (0 - q) * (0 - y) = q * y := by rw [Int.zero_sub, Int.zero_sub, Int.neg_mul_neg]
    rw [m1, m2]; omega
  refine ⟨fun s => ?_, key⟩
  obtain ⟨g, s1, s2⟩ := sup_gain (mir_cn h) s
  rw [mir_lo] at s1
  rw [mir_last] at s2
  refine sup_of_gain h (by omega) (by omega) ?_
  rw [mir_cost h.rises] at g
  obtain ⟨b1, b2, b3⟩ := best_ge h p
  have gg := gain_ge (mir_cn h) (p := 0 - p) (x := 0 - c.best p) (by rw [mir_lo]; omega) (by rw [mir_last]; omega)
  rw [mir_cost h.rises, g] at gg
  show p * c.best p - c.costAt (c.best p) ≤ _
  have m1 : (0 - p) * (0 - c.best p) = p * c.best p := by rw [Int.zero_sub, Int.zero_sub, Int.neg_mul_neg]
  have m2 : (0 - p) * (0 - x) = p * x := by rw [Int.zero_sub, Int.zero_sub, Int.neg_mul_neg]
  rw [m1, m2] at gg
  omega
theorem mir_gain (h : Cn c) (p : Int) : (mirC c).gain (0 - p) = c.gain p := by
  obtain ⟨b1, b2, b3⟩ := best_ge h p
  have s : Sup c p (c.best p) := ⟨Int.le_refl _, b2⟩
  have g := (sup_gain (mir_cn h) ((mir_sup h).mpr s)).1
  rw [mir_cost h.rises] at g
  rw [g]
  show _ = p * c.best p - c.costAt (c.best p)
  rw [Int.zero_sub, Int.zero_sub, Int.neg_mul_neg]
def movC (c : Crv) (s : Int) : Crv := ⟨c.lo + s, c.cost, c.st⟩
theorem mov_cn (h : Cn c) (s : Int) : Cn (movC c s) := ⟨h.pos, h.rise⟩
theorem mov_lo (s : Int) : (movC c s).lo = c.lo + s := rfl
theorem mov_last (s : Int) : (movC c s).last = c.last + s := by show c.lo + s + units c.st = c.lo + units c.st + s; omega
theorem mov_cost (s x : Int) : (movC c s).costAt x = c.costAt (x - s) := by
  show c.cost + rise c.st (x - (c.lo + s)) = c.cost + rise c.st (x - s - c.lo)
  rw [show x - (c.lo + s) = x - s - c.lo by omega]
theorem mov_sup (s p x : Int) : Sup (movC c s) p x ↔ Sup c p (x - s) := by
  show (c.lo + s + firstF p c.st ≤ x ∧ x ≤ c.lo + s + lastF p c.st) ↔ (c.lo + firstF p c.st ≤ x - s ∧ x - s ≤ c.lo + lastF p c.st)
  omega
theorem mov_gain (s p : Int) : (movC c s).gain p = c.gain p + p * s := by
  show p * (c.lo + s + firstF p c.st) - (movC c s).costAt (c.lo + s + firstF p c.st) = p * (c.lo + firstF p c.st) - c.costAt (c.lo + firstF p c.st) + p * s
  rw [mov_cost, show c.lo + s + firstF p c.st - s = c.lo + firstF p c.st by omega, show c.lo + s + firstF p c.st = (c.lo + firstF p c.st) + s by omega, Int.mul_add p (c.lo + firstF p c.st) s]
  omega
/-! ### sums -/
theorem rise_one (n m p u : Int) (hn : 0 ≤ n) (hm : 0 ≤ m) : rise [(n + m, p)] u = rise [(n, p)] u + rise [(m, p)] (u - n) := by
  simp only [rise]
  have : max 0 (min (n + m) u) = max 0 (min n u) + max 0 (min m (u - n)) := by omega
  rw [this, Int.mul_add]; omega
theorem rise_joinA {acc : List (Int × Int)} {s : Int × Int} (h : ∀ t ∈ acc, 0 ≤ t.1) (hs : 0 ≤ s.1) (u : Int) : rise (joinA acc s) u = rise (acc ++ [s]) u := by
  cases hl : acc.getLast? with
  | none => rw [joinA_none hl]
  | some t =>
    rw [joinA_some hl]
    split
    · rename_i e
      have hd := drop_last hl
      have ht := h t (List.mem_of_getLast? hl)
      conv => rhs; rw [← hd, List.append_assoc]
      rw [rise_app, rise_app]
      obtain ⟨n, p⟩ := s
      obtain ⟨m, q⟩ := t
      have e : q = p := e
      subst e
      rw [rise_one _ _ _ _ ht hs]
      simp only [List.cons_append, List.nil_append, rise]
      omega
    · rfl
theorem rise_join : ∀ (l acc : List (Int × Int)), (∀ s ∈ l, 0 < s.1) → (∀ t ∈ acc, 0 < t.1) → ∀ u, rise (l.foldl joinA acc) u = rise (acc ++ l) u
  | [], acc, _, _, u => by simp
  | s :: r, acc, hl, ha, u => by
    have hs := hl s (by simp)
    rw [List.foldl_cons, rise_join r _ (fun t ht => hl t (by simp [ht])) (joinA_pos ha hs), rise_app, rise_joinA (fun t ht => by have := ha t ht; omega) (by omega), joinA_units, show acc ++ s :: r = (acc ++ [s]) ++ r by simp, rise_app (acc ++ [s]) r]
    have : units (acc ++ [s]) = units acc + s.1 := by simp [units]
    rw [this]
theorem sum_st (ha : Cn a) (hb : Cn b) (h : lowOf a b ≤ highOf a b) : (sumC a b).st = joinAll (stepsOf (slope a b) (sBends a b)) := by
  obtain ⟨_, _, _, hpos, _, _⟩ := sum_shape ha hb h
  show joinS _ = _
  unfold joinS joinAll
  exact join_pos hpos
theorem sum_cn (ha : Cn a) (hb : Cn b) (h : lowOf a b ≤ highOf a b) : Cn (sumC a b) := by
  obtain ⟨_, _, _, hpos, mono, _⟩ := sum_shape ha hb h
  refine ⟨?_, ?_⟩
  · unfold PosC
    rw [sum_st ha hb h]
    exact joinAll_pos hpos (by simp)
  · rw [sum_st ha hb h]
    exact join_rise _ _ .nil mono (by simp)
theorem steps_units {f : Int → Int} : ∀ (l : List Int) (x0 : Int), units (stepsOf f (x0 :: l)) = (x0 :: l).getLast (by simp) - x0
  | [], x0 => by simp [stepsOf, units]
  | y :: r, x0 => by
    have ih := steps_units (f := f) r y
    have e : units (stepsOf f (x0 :: y :: r)) = y - x0 + units (stepsOf f (y :: r)) := by rw [stepsOf]; simp [units]
    rw [e, ih, List.getLast_cons (List.cons_ne_nil _ _)]
    omega
theorem sum_lo : (sumC a b).lo = lowOf a b := rfl
theorem sum_last (ha : Cn a) (hb : Cn b) (h : lowOf a b ≤ highOf a b) : (sumC a b).last = highOf a b := by
  obtain ⟨_, ⟨r, hr⟩, hl, _, _, _⟩ := sum_shape ha hb h
  show lowOf a b + units (sumC a b).st = _
  rw [sum_st ha hb h, joinAll, join_units]
  have hl := hl (by rw [hr]; simp)
  have : units (stepsOf (slope a b) (sBends a b)) = highOf a b - lowOf a b := by
    have e := steps_units (f := slope a b) r (lowOf a b)
    have e2 : (lowOf a b :: r).getLast (by simp) = highOf a b := by rw [← hl]; congr 1; exact hr.symm
    rw [e2] at e
    rw [hr]; exact e
  rw [this]; simp [units]; omega
theorem sum_cost (ha : Cn a) (hb : Cn b) {t : Int} (h0 : lowOf a b ≤ t) (h1 : t ≤ highOf a b) : (sumC a b).costAt t = a.costAt t + b.costAt t := by
  obtain ⟨_, _, _, hpos, _, hF⟩ := sum_shape ha hb (by omega)
  rw [hF t h0 h1]
  show a.costAt (lowOf a b) + b.costAt (lowOf a b) + rise (sumC a b).st (t - lowOf a b) = _
  rw [sum_st ha hb (by omega), joinAll, rise_join _ _ hpos (by simp)]
  simp
/-! ### uniqueness -/
theorem st_ext : ∀ (l m : List (Int × Int)), (∀ s ∈ l, 0 < s.1) → (l.Pairwise fun a b => a.2 < b.2) → (∀ s ∈ m, 0 < s.1) → (m.Pairwise fun a b => a.2 < b.2) → (∀ q, firstF q l = firstF q m) → l = m
  | [], [], _, _, _, _, _ => rfl
  | [], (n, p) :: r, _, _, hm, _, e => by
    have := e (p + 1)
    have hn : 0 < n := hm (n, p) (by simp)
    have h0 := firstF_nn (pr := p + 1) r fun s hs => by have := hm s (by simp [hs]); omega
    rw [firstF, firstF, if_pos (by omega)] at this
    omega
  | (n, p) :: r, [], hl, _, _, _, e => by
    have := e (p + 1)
    have hn : 0 < n := hl (n, p) (by simp)
    have h0 := firstF_nn (pr := p + 1) r fun s hs => by have := hl s (by simp [hs]); omega
    rw [firstF, firstF, if_pos (by omega)] at this
    omega
  | (n, p) :: r, (m, q) :: t, hl, sl, hm, sm, e => by
    have hn : 0 < n := hl (n, p) (by simp)
    have hm0 : 0 < m := hm (m, q) (by simp)
    have hr : ∀ s ∈ r, 0 < s.1 := fun s hs => hl s (by simp [hs])
    have ht : ∀ s ∈ t, 0 < s.1 := fun s hs => hm s (by simp [hs])
    obtain ⟨l1, l2⟩ := List.pairwise_cons.mp sl
    obtain ⟨m1, m2⟩ := List.pairwise_cons.mp sm
    have r0 : ∀ x, x ≤ p + 1 → firstF x r = 0 := fun x hx => firstF_0 r fun s hs => by have := l1 s hs; simp at this; omega
    have t0 : ∀ x, x ≤ q + 1 → firstF x t = 0 := fun x hx => firstF_0 t fun s hs => by have := m1 s hs; simp at this; omega
    have pq : p = q := by
      rcases Int.lt_trichotomy p q with z | z | z
      · have := e (p + 1)
        rw [firstF, firstF, if_pos (by omega), if_neg (by omega), t0 _ (by omega), r0 _ (by omega)] at this
        omega
      · exact z
      · have := e (q + 1)
        rw [firstF, firstF, if_neg (by omega), if_pos (by omega), t0 _ (by omega), r0 _ (by omega)] at this
        omega
    subst pq
    have nm : n = m := by
      have := e (p + 1)
      rw [firstF, firstF, if_pos (by omega), if_pos (by omega), t0 _ (by omega), r0 _ (by omega)] at this
      omega
    subst nm
    have : r = t := st_ext r t hr l2 ht m2 fun x => by
      have := e x
      rw [firstF, firstF] at this
      omega
    rw [this]
/-- the same by weights -/
theorem ext_w (ha : Cn a) (hb : Cn b) (h1 : a.lo = b.lo) (h2 : a.cost = b.cost) (h3 : ∀ w, wsum w a.st = wsum w b.st) : a = b := by
  have e := st_ext a.st b.st ha.pos ha.rise hb.pos hb.rise fun q => by rw [firstF_w, firstF_w, h3]
  cases a; cases b
  simp only at h1 h2 e
  subst h1; subst h2; subst e; rfl
/-- the same by costs -/
theorem ext_c (ha : Cn a) (hb : Cn b) (h1 : a.lo = b.lo) (h2 : a.last = b.last) (h3 : ∀ x, a.lo ≤ x → x ≤ a.last → a.costAt x = b.costAt x) : a = b := by
  have c0 : ∀ {c : Crv}, Cn c → c.costAt c.lo = c.cost := fun {c} h => by
    unfold Crv.costAt
    rw [rise_le0 c.st h.rises.cnt (by omega)]; omega
  have bl : ∀ {c d : Crv}, Cn c → Cn d → c.lo = d.lo → c.last = d.last → (∀ x, c.lo ≤ x → x ≤ c.last → c.costAt x = d.costAt x) → ∀ p, d.best p ≤ c.best p := fun {c d} hc hd e1 e2 e3 p => by
    obtain ⟨b1, b2, b3⟩ := best_ge hc p
    obtain ⟨d1, d2, d3⟩ := best_ge hd p
    refine (sup_of_gain hd (p := p) (x := c.best p) (by omega) (by omega) ?_).1
    have g := gain_ge hc (p := p) (x := d.best p) (by omega) (by omega)
    rw [e3 _ (by omega) (by omega)] at g
    rw [← e3 _ (by omega) (by omega)]
    show p * d.best p - d.costAt (d.best p) ≤ c.gain p
    exact g
  have e := st_ext a.st b.st ha.pos ha.rise hb.pos hb.rise fun q => by
    have i1 := bl ha hb h1 h2 h3 q
    have i2 := bl hb ha h1.symm h2.symm (fun x x0 x1 => (h3 x (by omega) (by omega)).symm) q
    unfold Crv.best at i1 i2
    omega
  have ec : a.cost = b.cost := by
    have nn := ha.nn
    have := h3 a.lo (Int.le_refl _) (by show a.lo ≤ a.lo + units a.st; omega)
    rw [c0 ha] at this
    rw [this, h1, c0 hb]
  cases a; cases b
  simp only at h1 ec e
  subst h1; subst ec; subst e; rfl
end FW

/-! PlDP: least costs of plans as curves. No program in sight. -/
namespace FW
open PySem L2
variable {c : Crv} {p : Per}
def In (c : Crv) (x : Int) : Prop := c.lo ≤ x ∧ x ≤ c.last
def ovl (a b : Crv) : Prop := lowOf a b ≤ highOf a b
theorem ovl_iff (ha : 0 ≤ units a.st) (hb : 0 ≤ units b.st) : ovl a b ↔ ∃ x, In a x ∧ In b x := by
  have l0 : lowOf a b = max a.lo b.lo := rfl
  have h0 : highOf a b = min a.last b.last := rfl
  have e1 : a.last = a.lo + units a.st := rfl
  have e2 : b.last = b.lo + units b.st := rfl
  unfold ovl In
  constructor
  · intro h; exact ⟨lowOf a b, by omega, by omega⟩
  · rintro ⟨x, h1, h2⟩; omega
structure PCn (p : Per) : Prop where
  buy : Cn p.buy
  keep : Cn p.keep
def mid (c : Crv) (p : Per) : Crv := movC (shareC c p.buy) (0 - p.want)
def stp (c : Crv) (p : Per) : Crv := sumC (mid c p) p.keep
theorem mid_cn (hc : Cn c) (hp : PCn p) : Cn (mid c p) := mov_cn (share_cn hc hp.buy) _
theorem mid_in (hc : Cn c) (hp : PCn p) {t : Int} : In (mid c p) t ↔ ∃ s x, In c s ∧ In p.buy x ∧ t = s + x - p.want := by
  have e1 : (mid c p).lo = c.lo + p.buy.lo + (0 - p.want) := rfl
  have e2 : (mid c p).last = c.last + p.buy.last + (0 - p.want) := by unfold mid; rw [mov_last, share_last hc hp.buy]
  have n1 := hc.nn; have n2 := hp.buy.nn
  have q1 : c.last = c.lo + units c.st := rfl
  have q2 : p.buy.last = p.buy.lo + units p.buy.st := rfl
  unfold In
  rw [e1, e2]
  constructor
  · rintro ⟨h1, h2⟩
    by_cases z : t + p.want - p.buy.lo ≤ c.last
    · exact ⟨t + p.want - p.buy.lo, p.buy.lo, by omega, by omega, by omega⟩
    · exact ⟨c.last, t + p.want - c.last, by omega, by omega, by omega⟩
  · rintro ⟨s, x, h1, h2, rfl⟩; omega
theorem mid_le (hc : Cn c) (hp : PCn p) {s x : Int} (h1 : In c s) (h2 : In p.buy x) : (mid c p).costAt (s + x - p.want) ≤ c.costAt s + p.buy.costAt x := by
  unfold mid
  rw [mov_cost, show s + x - p.want - (0 - p.want) = s + x by omega]
  exact share_le hc hp.buy h1.1 h1.2 h2.1 h2.2
theorem mid_ex (hc : Cn c) (hp : PCn p) {t : Int} (h : In (mid c p) t) : ∃ s x, In c s ∧ In p.buy x ∧ t = s + x - p.want ∧ (mid c p).costAt t = c.costAt s + p.buy.costAt x := by
  have e1 : (mid c p).lo = (shareC c p.buy).lo + (0 - p.want) := rfl
  have e2 : (mid c p).last = (shareC c p.buy).last + (0 - p.want) := by unfold mid; rw [mov_last]
  have h1 := h.1; have h2 := h.2
  obtain ⟨y, z, e, y0, y1, z0, z1, ec⟩ := share_split' hc hp.buy (x := t + p.want) (by omega) (by omega)
  refine ⟨y, z, ⟨y0, y1⟩, ⟨z0, z1⟩, by omega, ?_⟩
  unfold mid
  rw [mov_cost, show t - (0 - p.want) = t + p.want by omega, ec]
theorem stp_cn (hc : Cn c) (hp : PCn p) (o : ovl (mid c p) p.keep) : Cn (stp c p) := sum_cn (mid_cn hc hp) hp.keep o
theorem stp_in (hc : Cn c) (hp : PCn p) (o : ovl (mid c p) p.keep) {t : Int} : In (stp c p) t ↔ In (mid c p) t ∧ In p.keep t := by
  have e1 : (stp c p).lo = max (mid c p).lo p.keep.lo := rfl
  have e2 : (stp c p).last = min (mid c p).last p.keep.last := sum_last (mid_cn hc hp) hp.keep o
  unfold In
  omega
theorem stp_cost (hc : Cn c) (hp : PCn p) {t : Int} (h1 : In (mid c p) t) (h2 : In p.keep t) : (stp c p).costAt t = (mid c p).costAt t + p.keep.costAt t := by
  have l0 : lowOf (mid c p) p.keep = max (mid c p).lo p.keep.lo := rfl
  have h0 : highOf (mid c p) p.keep = min (mid c p).last p.keep.last := rfl
  have := h1.1; have := h1.2; have := h2.1; have := h2.2
  exact sum_cost (mid_cn hc hp) hp.keep (by omega) (by omega)
/-- the least costs of the stocks after the periods -/
def far : Crv → List Per → Crv
  | c, [] => c
  | c, p :: ps => far (stp c p) ps
def Way : Crv → List Per → Prop
  | _, [] => True
  | c, p :: ps => ovl (mid c p) p.keep ∧ Way (stp c p) ps
def pcost : Int → List Per → List Int → Int
  | s, p :: ps, x :: xs => p.buy.costAt x + p.keep.costAt (s + x - p.want) + pcost (s + x - p.want) ps xs
  | _, _, _ => 0
theorem far_way : ∀ {ps : List Per} {c : Crv} {s : Int} {us : List Int}, Cn c → (∀ p ∈ ps, PCn p) → In c s → fits s ps us → Way c ps
  | [], _, _, _, _, _, _, _ => trivial
  | p :: ps, c, s, us, hc, hp, hs, ⟨u, r, e, h1, h2, h3, h4, h5⟩ => by
    have pp := hp p (by simp)
    have m : In (mid c p) (s + u - p.want) := (mid_in hc pp).mpr ⟨s, u, hs, ⟨h1, h2⟩, rfl⟩
    have o : ovl (mid c p) p.keep := (ovl_iff (mid_cn hc pp).nn pp.keep.nn).mpr ⟨_, m, h3, h4⟩
    exact ⟨o, far_way (stp_cn hc pp o) (fun q hq => hp q (by simp [hq])) ((stp_in hc pp o).mpr ⟨m, h3, h4⟩) h5⟩
theorem far_cn : ∀ {ps : List Per} {c : Crv}, Cn c → (∀ p ∈ ps, PCn p) → Way c ps → Cn (far c ps)
  | [], _, h, _, _ => h
  | p :: ps, c, hc, hp, ⟨o, w⟩ => far_cn (ps := ps) (c := stp c p) (stp_cn hc (hp p (by simp)) o) (fun q hq => hp q (by simp [hq])) w
theorem far_le : ∀ {ps : List Per} {c : Crv} {s : Int} {us : List Int}, Cn c → (∀ p ∈ ps, PCn p) → In c s → fits s ps us → In (far c ps) (stockAt s ps us) ∧ (far c ps).costAt (stockAt s ps us) ≤ c.costAt s + pcost s ps us
  | [], c, s, us, _, _, hs, h => by
    have h : us = [] := h
    subst h
    exact ⟨hs, by show c.costAt s ≤ c.costAt s + 0; omega⟩
  | p :: ps, c, s, us, hc, hp, hs, ⟨u, r, e, h1, h2, h3, h4, h5⟩ => by
    subst e
    have pp := hp p (by simp)
    have m : In (mid c p) (s + u - p.want) := (mid_in hc pp).mpr ⟨s, u, hs, ⟨h1, h2⟩, rfl⟩
    have o : ovl (mid c p) p.keep := (ovl_iff (mid_cn hc pp).nn pp.keep.nn).mpr ⟨_, m, h3, h4⟩
    obtain ⟨i, l⟩ := far_le (stp_cn hc pp o) (fun q hq => hp q (by simp [hq])) ((stp_in hc pp o).mpr ⟨m, h3, h4⟩) h5
    refine ⟨i, ?_⟩
    have e1 := stp_cost hc pp m ⟨h3, h4⟩
    have e2 := mid_le hc pp hs ⟨h1, h2⟩
    show (far (stp c p) ps).costAt (stockAt (s + u - p.want) ps r) ≤ c.costAt s + (p.buy.costAt u + p.keep.costAt (s + u - p.want) + pcost (s + u - p.want) ps r)
    omega
theorem far_ex : ∀ {ps : List Per} {c : Crv} {t : Int}, Cn c → (∀ p ∈ ps, PCn p) → Way c ps → In (far c ps) t → ∃ s us, In c s ∧ fits s ps us ∧ stockAt s ps us = t ∧ (far c ps).costAt t = c.costAt s + pcost s ps us
  | [], c, t, _, _, _, h => ⟨t, [], h, rfl, rfl, by show c.costAt t = c.costAt t + 0; omega⟩
  | p :: ps, c, t, hc, hp, ⟨o, w⟩, h => by
    have pp := hp p (by simp)
    obtain ⟨s1, us, i1, f1, e1, c1⟩ := far_ex (stp_cn hc pp o) (fun q hq => hp q (by simp [hq])) w h
    obtain ⟨m, k⟩ := (stp_in hc pp o).mp i1
    obtain ⟨s, x, i2, i3, rfl, c2⟩ := mid_ex hc pp m
    refine ⟨s, x :: us, i2, ⟨x, us, rfl, i3.1, i3.2, k.1, k.2, f1⟩, e1, ?_⟩
    have c3 := stp_cost hc pp m k
    show (far (stp c p) ps).costAt t = c.costAt s + (p.buy.costAt x + p.keep.costAt (s + x - p.want) + pcost (s + x - p.want) ps us)
    omega
def pt (s : Int) : Crv := ⟨s, 0, []⟩
theorem pt_cn (s : Int) : Cn (pt s) := ⟨fun _ h => absurd h List.not_mem_nil, List.Pairwise.nil⟩
theorem pt_in {s x : Int} : In (pt s) x ↔ x = s := by
  have e : (pt s).last = s + 0 := rfl
  have e2 : (pt s).lo = s := rfl
  unfold In
  omega
theorem pt_cost (s : Int) : (pt s).costAt s = 0 := by
  show (0 : Int) + rise [] (s - s) = 0
  simp [rise]
/-- the cost of the cheapest plans -/
def leastC (s : Int) (ps : List Per) : Int := 0 - (far (pt s) ps).gain 0
theorem neg_gain (h : Cn c) : (∀ x, In c x → 0 - c.gain 0 ≤ c.costAt x) ∧ ∃ x, In c x ∧ 0 - c.gain 0 = c.costAt x := by
  refine ⟨fun x hx => ?_, ?_⟩
  · have := gain_ge h (p := 0) hx.1 hx.2
    rw [Int.zero_mul] at this
    omega
  · have b := best_ge h 0
    obtain ⟨g, i⟩ := sup_gain h (p := 0) (x := c.best 0) ⟨Int.le_refl _, b.2.1⟩
    exact ⟨_, i, by rw [g, Int.zero_mul]; omega⟩
theorem least_le {s : Int} {ps : List Per} {us : List Int} (hp : ∀ p ∈ ps, PCn p) (h : fits s ps us) : leastC s ps ≤ pcost s ps us := by
  obtain ⟨i, l⟩ := far_le (pt_cn s) hp (pt_in.mpr rfl) h
  have w := far_way (pt_cn s) hp (pt_in.mpr rfl) h
  have := (neg_gain (far_cn (pt_cn s) hp w)).1 _ i
  rw [pt_cost] at l
  unfold leastC
  omega
theorem least_ex {s : Int} {ps : List Per} (hp : ∀ p ∈ ps, PCn p) (w : Way (pt s) ps) : ∃ us, fits s ps us ∧ leastC s ps = pcost s ps us := by
  obtain ⟨x, i, e⟩ := (neg_gain (far_cn (pt_cn s) hp w)).2
  obtain ⟨s', us, i1, f, e2, ec⟩ := far_ex (pt_cn s) hp w i
  rw [pt_in] at i1
  subst i1
  rw [pt_cost] at ec
  exact ⟨us, f, by unfold leastC; omega⟩
theorem way_ex {s : Int} {ps : List Per} (hp : ∀ p ∈ ps, PCn p) (w : Way (pt s) ps) : ∃ us, fits s ps us := by
  obtain ⟨us, f, _⟩ := least_ex hp w
  exact ⟨us, f⟩
/-! ### from a stock on -/
def laterOf (r : Crv) (p : Per) : Crv := shareC (movC r p.want) (mirC p.buy)
def toGo : Per → List Per → Crv
  | p, [] => p.keep
  | p, q :: ps => sumC p.keep (laterOf (toGo q ps) q)
def WayB : Per → List Per → Prop
  | _, [] => True
  | p, q :: ps => WayB q ps ∧ ovl p.keep (laterOf (toGo q ps) q)
theorem mir_in {b : Crv} {x : Int} : In (mirC b) (0 - x) ↔ In b x := by
  unfold In
  rw [mir_lo, mir_last]
  omega
theorem later_cn {r : Crv} (hr : Cn r) (hp : PCn p) : Cn (laterOf r p) := share_cn (mov_cn hr _) (mir_cn hp.buy)
theorem later_le {r : Crv} (hr : Cn r) (hp : PCn p) {s x : Int} (h1 : In p.buy x) (h2 : In r (s + x - p.want)) : In (laterOf r p) s ∧ (laterOf r p).costAt s ≤ p.buy.costAt x + r.costAt (s + x - p.want) := by
  have m : In (movC r p.want) (s + x) := by
    unfold In at *
    rw [mov_lo, mov_last]; omega
  have n : In (mirC p.buy) (0 - x) := mir_in.mpr h1
  have le := share_le (mov_cn hr p.want) (mir_cn hp.buy) m.1 m.2 n.1 n.2
  rw [mov_cost, mir_cost hp.buy.rises, show s + x + (0 - x) = s by omega] at le
  have m1 := m.1; have m2 := m.2; have n1 := n.1; have n2 := n.2
  refine ⟨⟨?_, ?_⟩, ?_⟩
  · show (movC r p.want).lo + (mirC p.buy).lo ≤ s; omega
  · show s ≤ (laterOf r p).last
    unfold laterOf
    rw [share_last (mov_cn hr _) (mir_cn hp.buy)]; omega
  · show (shareC (movC r p.want) (mirC p.buy)).costAt s ≤ _
    omega
theorem later_ex {r : Crv} (hr : Cn r) (hp : PCn p) {s : Int} (h : In (laterOf r p) s) : ∃ x, In p.buy x ∧ In r (s + x - p.want) ∧ (laterOf r p).costAt s = p.buy.costAt x + r.costAt (s + x - p.want) := by
  obtain ⟨y, z, e, y0, y1, z0, z1, ec⟩ := share_split' (mov_cn hr p.want) (mir_cn hp.buy) h.1 h.2
  rw [mov_lo] at y0
  rw [mov_last] at y1
  have ix : In p.buy (0 - z) := mir_in.mp (by rw [show (0 : Int) - (0 - z) = z by omega]; exact ⟨z0, z1⟩)
  refine ⟨0 - z, ix, ⟨by omega, by omega⟩, ?_⟩
  have mc := mir_cost hp.buy.rises (0 - z)
  rw [show (0 : Int) - (0 - z) = z by omega] at mc
  rw [mov_cost, mc] at ec
  have e5 : s + (0 - z) - p.want = y - p.want := by omega
  rw [e5]
  unfold laterOf
  omega
theorem sum_in {a b : Crv} (ha : Cn a) (hb : Cn b) (o : ovl a b) {t : Int} : In (sumC a b) t ↔ In a t ∧ In b t := by
  have e1 : (sumC a b).lo = max a.lo b.lo := rfl
  have e2 : (sumC a b).last = min a.last b.last := sum_last ha hb o
  unfold In
  omega
theorem sum_costI {a b : Crv} (ha : Cn a) (hb : Cn b) {t : Int} (h1 : In a t) (h2 : In b t) : (sumC a b).costAt t = a.costAt t + b.costAt t := by
  have l0 : lowOf a b = max a.lo b.lo := rfl
  have h0 : highOf a b = min a.last b.last := rfl
  have := h1.1; have := h1.2; have := h2.1; have := h2.2
  exact sum_cost ha hb (by omega) (by omega)
theorem toGo_cn : ∀ {ps : List Per} {p : Per}, PCn p → (∀ q ∈ ps, PCn q) → WayB p ps → Cn (toGo p ps)
  | [], p, hp, _, _ => hp.keep
  | q :: ps, p, hp, hq, ⟨w, o⟩ => sum_cn hp.keep (later_cn (toGo_cn (hq q (by simp)) (fun x hx => hq x (by simp [hx])) w) (hq q (by simp))) o
theorem toGo_le : ∀ {ps : List Per} {p : Per} {s : Int} {us : List Int}, PCn p → (∀ q ∈ ps, PCn q) → In p.keep s → fits s ps us → WayB p ps ∧ In (toGo p ps) s ∧ (toGo p ps).costAt s ≤ p.keep.costAt s + pcost s ps us
  | [], p, s, us, hp, _, hs, h => ⟨trivial, hs, by
    have h : us = [] := h
    subst h
    show p.keep.costAt s ≤ p.keep.costAt s + 0; omega⟩
  | q :: ps, p, s, us, hp, hq, hs, ⟨u, r, e, h1, h2, h3, h4, h5⟩ => by
    subst e
    have pq := hq q (by simp)
    have hq' : ∀ x ∈ ps, PCn x := fun x hx => hq x (by simp [hx])
    obtain ⟨w, i, l⟩ := toGo_le pq hq' ⟨h3, h4⟩ h5
    have cn := toGo_cn pq hq' w
    obtain ⟨i2, l2⟩ := later_le (p := q) cn pq ⟨h1, h2⟩ i
    have lc := later_cn (p := q) cn pq
    have o : ovl p.keep (laterOf (toGo q ps) q) := (ovl_iff hp.keep.nn lc.nn).mpr ⟨s, hs, i2⟩
    refine ⟨⟨w, o⟩, (sum_in hp.keep lc o).mpr ⟨hs, i2⟩, ?_⟩
    have e := sum_costI hp.keep lc hs i2
    show (sumC p.keep (laterOf (toGo q ps) q)).costAt s ≤ p.keep.costAt s + (q.buy.costAt u + q.keep.costAt (s + u - q.want) + pcost (s + u - q.want) ps r)
    omega
theorem toGo_ex : ∀ {ps : List Per} {p : Per} {s : Int}, PCn p → (∀ q ∈ ps, PCn q) → WayB p ps → In (toGo p ps) s → In p.keep s ∧ ∃ us, fits s ps us ∧ (toGo p ps).costAt s = p.keep.costAt s + pcost s ps us
  | [], p, s, hp, _, _, h => ⟨h, [], rfl, by show p.keep.costAt s = p.keep.costAt s + 0; omega⟩
  | q :: ps, p, s, hp, hq, ⟨w, o⟩, h => by
    have pq := hq q (by simp)
    have hq' : ∀ x ∈ ps, PCn x := fun x hx => hq x (by simp [hx])
    have cn := toGo_cn pq hq' w
    have lc := later_cn (p := q) cn pq
    obtain ⟨i1, i2⟩ := (sum_in hp.keep lc o).mp h
    obtain ⟨x, ix, it, ec⟩ := later_ex (p := q) cn pq i2
    obtain ⟨ik, us, f, e2⟩ := toGo_ex pq hq' w it
    refine ⟨i1, x :: us, ⟨x, us, rfl, ix.1, ix.2, ik.1, ik.2, f⟩, ?_⟩
    have e := sum_costI hp.keep lc i1 i2
    show (sumC p.keep (laterOf (toGo q ps) q)).costAt s = p.keep.costAt s + (q.buy.costAt x + q.keep.costAt (s + x - q.want) + pcost (s + x - q.want) ps us)
    omega
/-! ### cutting plans -/
theorem fits_app : ∀ {ps : List Per} {qs : List Per} {s : Int} {us : List Int}, fits s (ps ++ qs) us ↔ ∃ u1 u2, us = u1 ++ u2 ∧ fits s ps u1 ∧ fits (stockAt s ps u1) qs u2
  | [], qs, s, us => ⟨fun h => ⟨[], us, rfl, rfl, h⟩, fun ⟨u1, u2, e, h1, h2⟩ => by
    have h1 : u1 = [] := h1
    subst h1
    subst e
    exact h2⟩
  | p :: ps, qs, s, us => by
    constructor
    · rintro ⟨u, r, e, h1, h2, h3, h4, h5⟩
      obtain ⟨u1, u2, e2, f1, f2⟩ := fits_app.mp h5
      subst e; subst e2
      exact ⟨u :: u1, u2, rfl, ⟨u, u1, rfl, h1, h2, h3, h4, f1⟩, f2⟩
    · rintro ⟨u1, u2, e, ⟨u, r, e2, h1, h2, h3, h4, h5⟩, f2⟩
      subst e2
      exact ⟨u, r ++ u2, e, h1, h2, h3, h4, fits_app.mpr ⟨r, u2, rfl, h5, f2⟩⟩
theorem fits_len : ∀ {ps : List Per} {s : Int} {us : List Int}, fits s ps us → us.length = ps.length
  | [], _, us, h => by
    have h : us = [] := h
    subst h; rfl
  | p :: ps, s, us, ⟨u, r, e, _, _, _, _, h⟩ => by
    subst e
    simp [fits_len h]
theorem pcost_app : ∀ {ps : List Per} {qs : List Per} {s : Int} {u1 u2 : List Int}, fits s ps u1 → pcost s (ps ++ qs) (u1 ++ u2) = pcost s ps u1 + pcost (stockAt s ps u1) qs u2
  | [], qs, s, u1, u2, h => by
    have h : u1 = [] := h
    subst h
    show pcost s qs u2 = 0 + pcost s qs u2; omega
  | p :: ps, qs, s, u1, u2, ⟨u, r, e, _, _, _, _, h⟩ => by
    subst e
    have ih := pcost_app (qs := qs) (u2 := u2) h
    show p.buy.costAt u + p.keep.costAt (s + u - p.want) + pcost (s + u - p.want) (ps ++ qs) (r ++ u2) = p.buy.costAt u + p.keep.costAt (s + u - p.want) + pcost (s + u - p.want) ps r + pcost (stockAt (s + u - p.want) ps r) qs u2
    omega
theorem stock_app : ∀ {ps : List Per} {qs : List Per} {s : Int} {u1 u2 : List Int}, fits s ps u1 → stockAt s (ps ++ qs) (u1 ++ u2) = stockAt (stockAt s ps u1) qs u2
  | [], qs, s, u1, u2, h => by
    have h : u1 = [] := h
    subst h
    rfl
  | p :: ps, qs, s, u1, u2, ⟨u, r, e, _, _, _, _, h⟩ => by
    subst e
    exact stock_app (ps := ps) (s := s + u - p.want) (qs := qs) (u2 := u2) h
theorem far_app : ∀ {ps : List Per} {qs : List Per} {c : Crv}, far c (ps ++ qs) = far (far c ps) qs
  | [], _, _ => rfl
  | p :: ps, qs, c => far_app (ps := ps)
theorem way_app : ∀ {ps : List Per} {qs : List Per} {c : Crv}, Way c (ps ++ qs) ↔ Way c ps ∧ Way (far c ps) qs
  | [], _, _ => ⟨fun h => ⟨trivial, h⟩, fun h => h.2⟩
  | p :: ps, qs, c => ⟨fun ⟨o, w⟩ => ⟨⟨o, (way_app.mp w).1⟩, (way_app.mp w).2⟩, fun ⟨⟨o, w1⟩, w2⟩ => ⟨o, way_app.mpr ⟨w1, w2⟩⟩⟩
end FW

/-! PlBent: odd things, bent things. -/
namespace FW
open PySem L2
variable {k : Nat} {S : Store}
mutual
/-- things that are neither objects nor deep: ints of at most b -/
def th (b : Nat) : Nat → D → Bool
  | _, .non => true
  | _, .bl _ => true
  | _, .int i => decide (i.natAbs ≤ b)
  | _, .str x => PyData.strOk x && decide ((PyData.str x).shown.length ≤ 4000)
  | _, .dic l => decide (l.length ≤ 1) && (PyData.showable (D.dic l).py && decide ((D.dic l).py.shown.length ≤ 4000))
  | 0, .tup _ => false
  | n + 1, .tup l => ths b n l
  | 0, .lst _ => false
  | n + 1, .lst l => ths b n l
  | _, _ => false
def ths (b : Nat) : Nat → List D → Bool
  | _, [] => true
  | n, d :: r => th b n d && ths b n r
end
theorem ths_mem {b n : Nat} : ∀ {l : List D}, ths b n l = true → ∀ x ∈ l, th b n x = true
  | [], _, x, hx => by cases hx
  | d :: l, h, x, hx => by
    obtain ⟨h1, h2⟩ := band (show (th b n d && ths b n l) = true from by simpa only [ths] using h)
    rcases List.mem_cons.mp hx with rfl | hx
    · exact h1
    · exact ths_mem h2 x hx
theorem ths_of {b n : Nat} {l : List D} (h : ∀ x ∈ l, th b n x = true) : ths b n l = true := by
  induction l with
  | nil => simp [ths]
  | cons d l ih => simp only [ths, h d (by simp), ih fun x hx => h x (by simp [hx]), Bool.and_self]
mutual
theorem th_mono {b b' : Nat} (hb : b ≤ b') : ∀ (n n' : Nat) (d : D), n ≤ n' → th b n d = true → th b' n' d = true
  | n, n', .non, _, _ => by simp [th]
  | n, n', .bl _, _, _ => by simp [th]
  | n, n', .int i, _, h => by simp [th] at h ⊢; omega
  | n, n', .str x, _, h => by simpa [th] using h
  | n, n', .dic l, _, h => by simpa [th] using h
  | 0, n', .tup _, _, h => by simp [th] at h
  | n + 1, 0, .tup _, z, _ => by omega
  | n + 1, n' + 1, .tup l, z, h => by simpa only [th] using ths_mono hb n n' l (by omega) (by simpa only [th] using h)
  | 0, n', .lst _, _, h => by simp [th] at h
  | n + 1, 0, .lst _, z, _ => by omega
  | n + 1, n' + 1, .lst l, z, h => by simpa only [th] using ths_mono hb n n' l (by omega) (by simpa only [th] using h)
  | n, n', .scr _, _, h => by simp [th] at h
  | n, n', .obj _ _, _, h => by simp [th] at h
  | n, n', .ref _, _, h => by simp [th] at h
theorem ths_mono {b b' : Nat} (hb : b ≤ b') : ∀ (n n' : Nat) (l : List D), n ≤ n' → ths b n l = true → ths b' n' l = true
  | n, n', [], _, _ => by simp [ths]
  | n, n', d :: l, z, h => by
    obtain ⟨h1, h2⟩ := band (show (th b n d && ths b n l) = true from by simpa only [ths] using h)
    simp only [ths, th_mono hb n n' d z h1, ths_mono hb n n' l z h2, Bool.and_self]
end
mutual
theorem th_okW {b : Nat} : ∀ (n : Nat) (d : D), th b n d = true → okW n d = true
  | n, .non, _ => by simp [okW]
  | n, .bl _, _ => by simp [okW]
  | n, .int _, _ => by simp [okW]
  | n, .str x, h => by simp [th] at h; simpa [okW] using h.1
  | n, .dic l, h => by simp [th] at h; simpa [okW] using h.1
  | 0, .tup _, h => by simp [th] at h
  | n + 1, .tup l, h => by simpa only [okW] using ths_okW n l (by simpa only [th] using h)
  | 0, .lst _, h => by simp [th] at h
  | n + 1, .lst l, h => by simpa only [okW] using ths_okW n l (by simpa only [th] using h)
  | n, .scr _, h => by simp [th] at h
  | n, .obj _ _, h => by simp [th] at h
  | n, .ref _, h => by simp [th] at h
theorem ths_okW {b : Nat} : ∀ (n : Nat) (l : List D), ths b n l = true → okWs n l = true
  | n, [], _ => by simp [okWs]
  | n, d :: l, h => by
    obtain ⟨h1, h2⟩ := band (show (th b n d && ths b n l) = true from by simpa only [ths] using h)
    simp only [okWs, th_okW n d h1, ths_okW n l h2, Bool.and_self]
end
mutual
theorem th_fit {b : Nat} (hb : b < 2 ^ 1900) : ∀ (n : Nat) (d : D), th b n d = true → fitD d = true
  | n, .non, _ => by simp [fitD]
  | n, .bl _, _ => by simp [fitD]
  | n, .int i, h => by
    have h : i.natAbs ≤ b := of_decide_eq_true (by simpa only [th] using h)
    simpa only [fitD] using decide_eq_true (Nat.lt_of_le_of_lt h hb)
  | n, .str x, h => by
    obtain ⟨h1, h2⟩ := band (show (PyData.strOk x && decide ((PyData.str x).shown.length ≤ 4000)) = true from by simpa only [th] using h)
    simpa only [fitD] using h2
  | n, .dic l, h => by
    obtain ⟨h1, h2⟩ := band (show (decide (l.length ≤ 1) && (PyData.showable (D.dic l).py && decide ((D.dic l).py.shown.length ≤ 4000))) = true from by simpa only [th] using h)
    simpa only [fitD] using h2
  | 0, .tup _, h => by simp [th] at h
  | n + 1, .tup l, h => by simpa only [fitD] using ths_fit hb n l (by simpa only [th] using h)
  | 0, .lst _, h => by simp [th] at h
  | n + 1, .lst l, h => by simpa only [fitD] using ths_fit hb n l (by simpa only [th] using h)
  | n, .scr _, h => by simp [th] at h
  | n, .obj _ _, h => by simp [th] at h
  | n, .ref _, h => by simp [th] at h
theorem ths_fit {b : Nat} (hb : b < 2 ^ 1900) : ∀ (n : Nat) (l : List D), ths b n l = true → fitDs l = true
  | n, [], _ => by simp [fitDs]
  | n, d :: l, h => by
    obtain ⟨h1, h2⟩ := band (show (th b n d && ths b n l) = true from by simpa only [ths] using h)
    simp only [fitDs, th_fit hb n d h1, ths_fit hb n l h2, Bool.and_self]
end
@[simp] theorem wts_append (l m : List D) : wts (l ++ m) = wts l + wts m := by
  induction l with
  | nil => simp [wts]
  | cons d l ih => simp [wts, ih]; omega
theorem wts_mem {l : List D} {x : D} (h : x ∈ l) : wt x + 2 ≤ wts l := by
  induction l with
  | nil => cases h
  | cons d l ih =>
    simp only [wts]
    rcases List.mem_cons.mp h with rfl | h
    · omega
    · have := ih h; omega
theorem wts_len (l : List D) : 2 * l.length ≤ wts l := by
  induction l with
  | nil => simp [wts]
  | cons d l ih => simp only [wts, List.length_cons]; omega
theorem wts_drop (l : List D) (i : Nat) : wts (l.drop i) ≤ wts l := by
  have := wts_append (l.take i) (l.drop i)
  rw [List.take_append_drop] at this; omega
theorem wts_take (l : List D) (i : Nat) : wts (l.take i) ≤ wts l := by
  have := wts_append (l.take i) (l.drop i)
  rw [List.take_append_drop] at this; omega
theorem wts_rev (l : List D) : wts l.reverse = wts l := by
  induction l with
  | nil => rfl
  | cons d l ih => simp [wts, ih]; omega
theorem cut_wts (l : List D) (lo hi : Option Int) : wts (cutL l lo hi) ≤ wts l := by
  unfold cutL; exact Nat.le_trans (wts_take _ _) (wts_drop _ _)
theorem cut_mem {l : List D} {lo hi : Option Int} {x : D} (h : x ∈ cutL l lo hi) : x ∈ l := by
  unfold cutL at h; exact List.mem_of_mem_drop (List.mem_of_mem_take h)
theorem cut_take (l : List D) {i : Nat} (h : i ≤ l.length) : cutL l none (some (i : Int)) = l.take i := by
  unfold cutL
  have e : HT.sIx l.length l.length (some (i : Int)) = i := by rw [HT.sIx_nat, Nat.min_eq_left h]
  have e2 : HT.sIx l.length 0 none = 0 := rfl
  rw [e, e2, List.drop_zero, Nat.sub_zero]
theorem cut_drop (l : List D) {i : Nat} (h : i ≤ l.length) : cutL l (some (i : Int)) none = l.drop i := by
  unfold cutL
  have e : HT.sIx l.length 0 (some (i : Int)) = i := by rw [HT.sIx_nat, Nat.min_eq_left h]
  have e2 : HT.sIx l.length l.length none = l.length := rfl
  rw [e, e2, List.take_of_length_le (by rw [List.length_drop]; exact Nat.le_refl _)]
mutual
theorem th_sm {b : Nat} : ∀ (n : Nat) (d : D), th b n d = true → wt d < 1000000 → smD d = true
  | n, .non, _, _ => by simp [smD]
  | n, .bl _, _, _ => by simp [smD]
  | n, .int i, _, _ => by simp [smD]
  | n, .str x, _, _ => by simp [smD]
  | n, .dic l, _, _ => by simp [smD]
  | 0, .tup _, h, _ => by simp [th] at h
  | n + 1, .tup l, h, w => by
    have w : wts l + 3 < 1000000 := by simpa only [wt] using w
    have := wts_len l
    simp only [smD, decide_eq_true (show l.length < 1000000 by omega), ths_sm n l (by simpa only [th] using h) (by omega), Bool.and_self]
  | 0, .lst _, h, _ => by simp [th] at h
  | n + 1, .lst l, h, w => by
    have w : wts l + 3 < 1000000 := by simpa only [wt] using w
    have := wts_len l
    simp only [smD, decide_eq_true (show l.length < 1000000 by omega), ths_sm n l (by simpa only [th] using h) (by omega), Bool.and_self]
  | n, .scr _, h, _ => by simp [th] at h
  | n, .obj _ _, h, _ => by simp [th] at h
  | n, .ref _, h, _ => by simp [th] at h
theorem ths_sm {b : Nat} : ∀ (n : Nat) (l : List D), ths b n l = true → wts l < 1000000 → smDs l = true
  | n, [], _, _ => by simp [smDs]
  | n, d :: l, h, w => by
    obtain ⟨h1, h2⟩ := band (show (th b n d && ths b n l) = true from by simpa only [ths] using h)
    simp only [wts] at w
    simp only [smDs, th_sm n d h1 (by omega), ths_sm n l h2 (by omega), Bool.and_self]
end
/-- a thing: depth, ints, weight -/
structure Th (n b w : Nat) (d : D) : Prop where
  t : th b n d = true
  w : wt d ≤ w
theorem Th.mono {n b w n' b' w' : Nat} {d : D} (h : Th n b w d) (h1 : n ≤ n') (h2 : b ≤ b') (h3 : w ≤ w') : Th n' b' w' d := ⟨th_mono h2 n n' d h1 h.t, Nat.le_trans h.w h3⟩
theorem Th.tup {n b w : Nat} {l : List D} (h : ∀ x ∈ l, th b n x = true) (hw : wts l + 3 ≤ w) : Th (n + 1) b w (.tup l) := ⟨by simpa only [th] using ths_of h, by simpa only [wt] using hw⟩
theorem Th.lst {n b w : Nat} {l : List D} (h : ∀ x ∈ l, th b n x = true) (hw : wts l + 3 ≤ w) : Th (n + 1) b w (.lst l) := ⟨by simpa only [th] using ths_of h, by simpa only [wt] using hw⟩
theorem Th.int {n b w : Nat} {i : Int} (h : i.natAbs ≤ b) (hw : 1921 ≤ w) : Th n b w (.int i) := ⟨by simpa only [th] using decide_eq_true h, by simpa only [wt] using hw⟩
theorem Th.mem {n b w : Nat} {l : List D} (h : Th n b w (.tup l)) : ∃ m, n = m + 1 ∧ (∀ x ∈ l, th b m x = true) ∧ wts l + 3 ≤ w := by
  cases n with
  | zero => have := h.t; simp [th] at this
  | succ m => exact ⟨m, rfl, ths_mem (by simpa only [th] using h.t), by simpa only [wt] using h.w⟩
theorem digits_th {n b w : Nat} {i : Int} (h : i.natAbs < 10 ^ 300) (hw : 4000 ≤ w) : Th n b w (.str (toString i)) := by
  have hl : ((toString i : String) : Str).length ≤ 301 := by
    have := int_text_length_le10 (k := 300) (by decide) h
    show (PySem.Str.ofString (toString i)).length ≤ 301
    rw [PySem.ofString_length]; exact this
  have hs : ∀ c ∈ ((toString i : String) : Str).cps.toList, c < 0x110000 := fun c hc => by
    by_cases z : c < 0x110000
    · exact z
    · exact absurd hc (PyProof.Rows.int_text_free' c ⟨by omega, by omega⟩ i)
  refine ⟨?_, by simpa only [wt] using hw⟩
  have h1 : PyData.strOk ((toString i : String) : Str) = true := by
    unfold PyData.strOk
    rw [← Array.all_toList]
    exact List.all_eq_true.mpr fun c hc => decide_eq_true (hs c hc)
  have h2 := StrLaws.reprText_len ((toString i : String) : Str) fun c hc => by have := hs c hc; omega
  simp only [th, h1, Bool.true_and]
  exact decide_eq_true (by rw [PyData.shown_str]; omega)
/-! ### odd things -/
def oddL : List D := [.non, .bl true, .bl false, .int (-1), .int 0, .int 1, .int 7, .int (10 ^ 12 + 1), .int (10 ^ 60), .str "", .str "0", .str "a", .tup [], .lst [], .dic [], .tup [.int 0], .lst [.int 0], .tup [.int 0, .int 0, .tup []],
  .tup [.int 1, .int 2], .tup [.int 1, .int 2, .int 3], .dic [("a", 0)], .tup [.tup []], .str "line"]
theorem oddL_th : (oddL.all fun d => th (10 ^ 60) 2 d && decide (wt d ≤ 6000)) = true := by decide +kernel
/-! ### bent things -/
def D.isI : D → Bool
  | .int _ => true
  | _ => false
theorem whole_any {b n : Nat} {d : D} (h : th b n d = true) : call (k + 1) 45 [d] S = .ok (.bl d.isI) ⟨[], S⟩ := by
  rw [call_def fn_law_whole rfl rfl]
  cases d <;> first | (simp [th] at h; done) | simp [fn_law_whole, argsEnv, isiD, D.tn, D.isTy, D.isI]
theorem sl_tup (l : List D) (a b : Option Int) : slD (.tup l) a b = some (.tup (cutL l a b)) := rfl
theorem add_tup {l m : List D} (h : l.length + m.length ≤ 16777216) : addD (.tup l) (.tup m) = some (.tup (l ++ m)) := by
  show gd (szOk _) _ = _
  rw [szOk_le h]; rfl
theorem cut_len (l : List D) (a b : Option Int) : (cutL l a b).length ≤ l.length := by
  unfold cutL; rw [List.length_take, List.length_drop]; omega
theorem pick6 {L : List D} {r : Int} (h0 : 0 ≤ r) (h1 : r < L.length) : ∃ e, atI L r = some e ∧ e ∈ L :=
  ⟨L[r.toNat], by rw [atI_pos h0 h1]; exact List.getElem?_eq_getElem (by omega), List.getElem_mem (by omega)⟩
end FW

/-! PlLine: the code's words for sums and meetings. -/
namespace FW
open PySem L2
variable {k : Nat} {S : Store}
theorem add_lst' {l m : List D} (h : l.length + m.length ≤ 16777216) : addD (.lst l) (.lst m) = some (.lst (l ++ m)) := by
  show gd (szOk _) _ = _
  rw [szOk_le h]; rfl
def oI : Option Int → D
  | some p => .int p
  | none => .non
theorem pa_for {k : Nat} {S : Store} {D0 X0 : D} : ∀ (st : List (Int × Int)) (u : Int) (a b : Slot),
    (∃ p, pAfter st u = some p ∧ ∃ E, forL (.tup [.nm 3, .nm 4]) (evSs (Vk k) fn_price_after_b1) (evSs (Vk k) .nil) (st.map dSt) ⟨[.val D0, .val X0, .val (.int u), a, b], S⟩ = .ok (.rt (.int p)) ⟨E, S⟩) ∨
    (pAfter st u = none ∧ ∃ E, forL (.tup [.nm 3, .nm 4]) (evSs (Vk k) fn_price_after_b1) (evSs (Vk k) .nil) (st.map dSt) ⟨[.val D0, .val X0, .val (.int u), a, b], S⟩ = .ok .nx ⟨E, S⟩)
  | [], u, a, b => .inr ⟨rfl, _, by simp [forL]; rfl⟩
  | (n, p) :: r, u, a, b => by
    by_cases h : u < n
    · refine .inl ⟨p, by rw [pAfter, if_pos h], [.val D0, .val X0, .val (.int u), .val (.int n), .val (.int p)], ?_⟩
      rw [List.map_cons, forL_ret (s1 := ⟨[.val D0, .val X0, .val (.int u), .val (.int n), .val (.int p)], S⟩) (by simp [dSt, asg, asgs]) (x := .int p) (s2 := ⟨[.val D0, .val X0, .val (.int u), .val (.int n), .val (.int p)], S⟩) (by simp [fn_price_after_b1, h])]
    · have step : forL (.tup [.nm 3, .nm 4]) (evSs (Vk k) fn_price_after_b1) (evSs (Vk k) .nil) (((n, p) :: r).map dSt) ⟨[.val D0, .val X0, .val (.int u), a, b], S⟩ = forL (.tup [.nm 3, .nm 4]) (evSs (Vk k) fn_price_after_b1) (evSs (Vk k) .nil) (r.map dSt) ⟨[.val D0, .val X0, .val (.int (u - n)), .val (.int n), .val (.int p)], S⟩ := by
        rw [List.map_cons, forL_cons (s1 := ⟨[.val D0, .val X0, .val (.int u), .val (.int n), .val (.int p)], S⟩) (by simp [dSt, asg, asgs]) (by simp [fn_price_after_b1, h]; rfl)]
      rw [pAfter, if_neg h, step]
      exact pa_for r (u - n) _ _
theorem price_after_ok {c : Crv} {x : Int} : call (k + 1) 9 [dC c, .int x] S = .ok (oI (c.after x)) ⟨[], S⟩ := by
  rw [call_def fn_price_after rfl rfl]
  have i0 : ixD (dC c) (.int 0) = some (.int c.lo) := rfl
  have i2 : ixD (dC c) (.int 2) = some (.tup (c.st.map dSt)) := rfl
  show _ = R.ok (oI (pAfter c.st (x - c.lo))) _
  rcases pa_for (k := k) (S := S) (D0 := dC c) (X0 := .int x) c.st (x - c.lo) .non .non with ⟨p, e1, E, e⟩ | ⟨e1, E, e⟩
  · rw [e1]
    simp [fn_price_after, argsEnv, i0, i2, e, oI]
  · rw [e1]
    simp [fn_price_after, argsEnv, i0, i2, e, oI]
theorem bends_for {k : Nat} {S : Store} {D0 : D} : ∀ (st : List (Int × Int)) (acc : List Int) (b : Int) (x y : Slot), acc.length + st.length < 100000 →
    ∃ x' y', forL (.tup [.nm 2, .nm 3]) (evSs (Vk k) fn_bends_of_b1) (evSs (Vk k) .nil) (st.map dSt) ⟨[.val D0, .own ((acc ++ [b]).map .int), x, y], S⟩ = .ok .nx ⟨[.val D0, .own ((acc ++ bendsF b st).map .int), x', y'], S⟩
  | [], acc, b, x, y, _ => ⟨x, y, by simp [forL, bendsF]⟩
  | (n, p) :: r, acc, b, x, y, hz => by
    simp only [List.length_cons] at hz
    obtain ⟨x', y', e⟩ := bends_for r (acc ++ [b]) (b + n) (.val (.int n)) (.val (.int p)) (by simp; omega)
    refine ⟨x', y', ?_⟩
    have hat : atI ((acc ++ [b]).map D.int) (-1) = some (.int b) := atI_neg1 (by simp)
    have hz2 : (acc ++ [b]).length < 16777216 := by simp; omega
    rw [List.map_cons, forL_cons (s1 := ⟨[.val D0, .own ((acc ++ [b]).map .int), .val (.int n), .val (.int p)], S⟩) (by simp [dSt, asg, asgs]) (s2 := ⟨[.val D0, .own ((acc ++ [b] ++ [b + n]).map .int), .val (.int n), .val (.int p)], S⟩) ?_, e]
    · rw [bendsF]; simp
    · generalize acc ++ [b] = m at hat hz2
      simp [fn_bends_of_b1, hat, hz2]
theorem bends_of_ok {c : Crv} (hs : c.st.length < 10000) : call (k + 1) 14 [dC c] S = .ok (.lst ((bendsF c.lo c.st).map .int)) ⟨[], S⟩ := by
  rw [call_def fn_bends_of rfl rfl]
  obtain ⟨x', y', e⟩ := bends_for (k := k) (S := S) (D0 := dC c) c.st [] c.lo .non .non (by simp; omega)
  have dc : dC c = .tup [.int c.lo, .int c.cost, .tup (c.st.map dSt)] := rfl
  rw [dc] at e
  simp at e
  simp [fn_bends_of, argsEnv, dC, e, ev_frz, cFrz]
theorem zip_for {k : Nat} {S : Store} {a b : Crv} {f : Int → Int} {s2 s4 s5 : Slot} : ∀ (l : List Int) (x0 : Int) (acc : List (Int × Int)) (x6 x7 x8 : Slot), acc.length + l.length < 1000 → (∀ x ∈ (x0 :: l).dropLast, ∃ p q, a.after x = some p ∧ b.after x = some q ∧ f x = p + q) →
    ∃ y6 y7, forL (.tup [.nm 6, .nm 7]) (evSs (Vk (k + 1)) fn_sum_of_b2) (evSs (Vk (k + 1)) .nil) (zipL ((x0 :: l).map .int) (l.map .int)) ⟨[.val (dC a), .val (dC b), s2, .own (acc.map dSt), s4, s5, x6, x7, x8], S⟩ = .ok .nx ⟨[.val (dC a), .val (dC b), s2, .own ((acc ++ stepsOf f (x0 :: l)).map dSt), s4, s5, y6, y7, x8], S⟩
  | [], x0, acc, x6, x7, x8, _, _ => ⟨x6, x7, by simp [zipL, forL, stepsOf]⟩
  | y :: r, x0, acc, x6, x7, x8, hl, h => by
    simp only [List.length_cons] at hl
    have hd : (x0 :: y :: r).dropLast = x0 :: (y :: r).dropLast := List.dropLast_cons₂
    rw [hd] at h
    obtain ⟨p, q, h1, h2, h3⟩ := h x0 (by simp)
    obtain ⟨y6, y7, e⟩ := zip_for (k := k) (S := S) (a := a) (b := b) (f := f) (s2 := s2) (s4 := s4) (s5 := s5) r y (acc ++ [(y - x0, f x0)]) (.val (.int x0)) (.val (.int y)) x8 (by simp; omega) fun z hz => h z (by simp [hz])
    refine ⟨y6, y7, ?_⟩
    have c1 := price_after_ok (k := k) (S := S) (c := a) (x := x0)
    have c2 := price_after_ok (k := k) (S := S) (c := b) (x := x0)
    rw [h1] at c1
    rw [h2] at c2
    have hz : acc.length < 16777216 := by omega
    have ez : zipL ((x0 :: y :: r).map D.int) ((y :: r).map D.int) = .tup [.int x0, .int y] :: zipL ((y :: r).map .int) (r.map .int) := rfl
    rw [ez, forL_cons (s1 := ⟨[.val (dC a), .val (dC b), s2, .own (acc.map dSt), s4, s5, .val (.int x0), .val (.int y), x8], S⟩) (by simp [asg, asgs]) (s2 := ⟨[.val (dC a), .val (dC b), s2, .own ((acc ++ [(y - x0, f x0)]).map dSt), s4, s5, .val (.int x0), .val (.int y), x8], S⟩) ?_, e]
    · rw [stepsOf, List.append_assoc]; rfl
    · simp [fn_sum_of_b2, c1, c2, oI, hz, h3]
      simp [dSt]
theorem sum_of_okW {n m : Nat} {a b : Crv} (hn : n + m ≤ 58) (ha : Wk n a) (hb : Wk m b) (h : lowOf a b ≤ highOf a b) : call (k + 2) 15 [dC a, dC b] S = .ok (dC (sumC a b)) ⟨[], S⟩ := by
  rw [call_def fn_sum_of rfl rfl]
  have la := ha.len; have lb := hb.len
  have loa := ha.lo; have lob := hb.lo; have ua := ha.un; have ub := hb.un
  have na := ha.nn; have nb := hb.nn
  have e1 : a.last = a.lo + units a.st := rfl
  have e2 : b.last = b.lo + units b.st := rfl
  have i0 : ixD (dC a) (.int 0) = some (.int a.lo) := rfl
  have i1 : ixD (dC b) (.int 0) = some (.int b.lo) := rfl
  have l1 := last_place_ok (k := k) (S := S) (c := a) (by omega)
  have l2 := last_place_ok (k := k) (S := S) (c := b) (by omega)
  have b1 := bends_of_ok (k := k) (S := S) (c := a) (by omega)
  have b2 := bends_of_ok (k := k) (S := S) (c := b) (by omega)
  have low : lowOf a b = max a.lo b.lo := rfl
  have high : highOf a b = min a.last b.last := rfl
  have c1 := cost_at_ok (k := k) (S := S) (x := lowOf a b) (ha.sane (by omega)) ha.rises (by omega) (by omega)
  have c2 := cost_at_ok (k := k) (S := S) (x := lowOf a b) (hb.sane (by omega)) hb.rises (by omega) (by omega)
  have hlt : (sBends a b).Pairwise (· < ·) := ssrtI_lt _
  have ml : lowOf a b ∈ sBends a b := sBends_mem.mpr ⟨.inr (.inr (.inl rfl)), Int.le_refl _, h⟩
  obtain ⟨r, hr⟩ := ssrt_head ml (fun x hx => (sBends_mem.mp hx).2.1) hlt
  have ad1 : addD (.lst ((bendsF a.lo a.st).map .int)) (.lst ((bendsF b.lo b.st).map .int)) = some (.lst ((bendsF a.lo a.st ++ bendsF b.lo b.st).map .int)) := by
    show gd (szOk _) _ = _
    rw [szOk_le (by rw [List.length_map, List.length_map, bendsF_len, bendsF_len]; omega), List.map_append]; rfl
  have ad2 : addD (.lst ((bendsF a.lo a.st ++ bendsF b.lo b.st).map .int)) (.lst [.int (lowOf a b), .int (highOf a b)]) = some (.lst ((bendsF a.lo a.st ++ bendsF b.lo b.st ++ [lowOf a b, highOf a b]).map .int)) := by
    have := add_lst' (l := (bendsF a.lo a.st ++ bendsF b.lo b.st).map D.int) (m := [.int (lowOf a b), .int (highOf a b)]) (by rw [List.length_map, List.length_append, bendsF_len, bendsF_len]; simp; omega)
    rw [this, List.map_append (l₁ := bendsF a.lo a.st ++ bendsF b.lo b.st)]; rfl
  have zl : (bendsF a.lo a.st ++ bendsF b.lo b.st ++ [lowOf a b, highOf a b]).length ≤ 62 := by
    rw [List.length_append, List.length_append, bendsF_len, bendsF_len]; simp; omega
  have comp : ∀ E0 : FW.Env, E0.length = 9 → E0[4]? = some (.val (.int (lowOf a b))) → E0[5]? = some (.val (.int (highOf a b))) → lcGo (.nm 8) (evC (Vk (k + 1)) fn_sum_of_c1) (evE (Vk (k + 1)) (.var 8)) E0 ((bendsF a.lo a.st ++ bendsF b.lo b.st ++ [lowOf a b, highOf a b]).map .int) S =
      some (((bendsF a.lo a.st ++ bendsF b.lo b.st ++ [lowOf a b, highOf a b]).filter fun x => decide (lowOf a b ≤ x ∧ x ≤ highOf a b)).map .int, S) := fun E0 hE h4 h5 => by
    refine lc_filterM (f := D.int) (g := D.int) (p := fun x => decide (lowOf a b ≤ x ∧ x ≤ highOf a b)) _ fun x _ => ?_
    rcases E0 with _ | ⟨a0, _ | ⟨a1, _ | ⟨a2, _ | ⟨a3, _ | ⟨a4, _ | ⟨a5, _ | ⟨a6, _ | ⟨a7, _ | ⟨a8, _ | ⟨a9, r⟩⟩⟩⟩⟩⟩⟩⟩⟩⟩ <;> simp at hE
    simp at h4 h5
    subst h4 h5
    refine ⟨⟨[a0, a1, a2, a3, .val (.int (lowOf a b)), .val (.int (highOf a b)), a6, a7, .val (.int x)], S⟩, ⟨[a0, a1, a2, a3, .val (.int (lowOf a b)), .val (.int (highOf a b)), a6, a7, .val (.int x)], S⟩, rfl, ?_, rfl, fun _ => ⟨⟨[a0, a1, a2, a3, .val (.int (lowOf a b)), .val (.int (highOf a b)), a6, a7, .val (.int x)], S⟩, by simp, rfl⟩⟩
    by_cases q : lowOf a b ≤ x <;> simp [fn_sum_of_c1, q]
  have hz1 : ((bendsF a.lo a.st ++ bendsF b.lo b.st ++ [lowOf a b, highOf a b]).filter fun x => decide (lowOf a b ≤ x ∧ x ≤ highOf a b)).length ≤ 62 := Nat.le_trans (List.length_filter_le ..) zl
  have hss : ssrtI ((bendsF a.lo a.st ++ bendsF b.lo b.st ++ [lowOf a b, highOf a b]).filter fun x => decide (lowOf a b ≤ x ∧ x ≤ highOf a b)) = sBends a b := rfl
  generalize ((bendsF a.lo a.st ++ bendsF b.lo b.st ++ [lowOf a b, highOf a b]).filter fun x => decide (lowOf a b ≤ x ∧ x ≤ highOf a b)) = fl at comp hz1 hss
  have im := ints_map fl
  have slen : (sBends a b).length ≤ 62 := by
    rw [← hss]
    have : ∀ l : List Int, (ssrtI l).length ≤ l.length := fun l => by
      induction l with
      | nil => simp [ssrtI]
      | cons x l ih =>
        have hi : ∀ (m : List Int), (insU x m).length ≤ m.length + 1 := fun m => by
          induction m with
          | nil => simp [insU]
          | cons y m ihm => unfold insU; split <;> (try split) <;> simp <;> omega
        rw [ssrtI, List.length_cons]
        have := hi (ssrtI l); omega
    have := this fl; omega
  have some_ : ∀ x ∈ (sBends a b).dropLast, ∃ p q, a.after x = some p ∧ b.after x = some q ∧ slope a b x = p + q := fun x hx => by
    have hm := (List.dropLast_sublist _).mem hx
    have x1 := (sBends_mem.mp hm).2.1
    have mh : highOf a b ∈ sBends a b := sBends_mem.mpr ⟨.inr (.inr (.inr rfl)), h, Int.le_refl _⟩
    have hne : sBends a b ≠ [] := by rw [hr]; simp
    have hmax := last_max (l := sBends a b) hne hlt _ mh
    have hd := List.dropLast_concat_getLast (l := sBends a b) hne
    have x2 : x < (sBends a b).getLast hne := by
      have hlt2 := hlt
      rw [← hd, List.pairwise_append] at hlt2
      exact hlt2.2.2 x hx _ (List.mem_singleton.mpr rfl)
    have x3 := (sBends_mem.mp (List.getLast_mem hne)).2.2
    obtain ⟨p, hp⟩ := pAfter_some (st := a.st) (u := x - a.lo) (by omega) (by omega)
    obtain ⟨q, hq⟩ := pAfter_some (st := b.st) (u := x - b.lo) (by omega) (by omega)
    exact ⟨p, q, hp, hq, by unfold slope; rw [hp, hq]; rfl⟩
  rw [hr] at some_ slen
  obtain ⟨y6, y7, ez⟩ := zip_for (k := k) (S := S) (a := a) (b := b) (f := slope a b) (s2 := .val (.lst ((lowOf a b :: r).map .int))) (s4 := .val (.int (lowOf a b))) (s5 := .val (.int (highOf a b))) r (lowOf a b) [] .non .non .non (by simp at slen ⊢; omega) some_
  have j := joined_ok (k := k) (S := S) (l := stepsOf (slope a b) (lowOf a b :: r)) (by
    have : ∀ (f : Int → Int) (l : List Int), (stepsOf f l).length ≤ l.length := fun f l => by
      induction l with
      | nil => simp [stepsOf]
      | cons x l ih => cases l with
        | nil => simp [stepsOf]
        | cons y l => rw [stepsOf]; simp at ih ⊢; omega
    have := this (slope a b) (lowOf a b :: r); omega)
  have ds : dC (sumC a b) = .tup [.int (lowOf a b), .int (a.costAt (lowOf a b) + b.costAt (lowOf a b)), .tup ((joinS (stepsOf (slope a b) (lowOf a b :: r))).map dSt)] := by rw [← hr]; rfl
  rw [ds]
  have sl : cutL ((lowOf a b :: r).map D.int) (some 1) none = r.map D.int := by
    have := cut_drop ((lowOf a b :: r).map D.int) (i := 1) (by simp)
    simpa using this
  rw [hr] at hss
  have hz64 : fl.length < 64 := by omega
  generalize hbs : (lowOf a b :: r).map D.int = bsD at ez sl
  simp only [List.nil_append, List.map_nil] at ez
  generalize stepsOf (slope a b) (lowOf a b :: r) = stD at ez j
  generalize ((bendsF a.lo a.st ++ bendsF b.lo b.st ++ [lowOf a b, highOf a b]).map D.int) = allB at ad2 comp
  generalize (bendsF a.lo a.st ++ bendsF b.lo b.st).map D.int = mid at ad1 ad2
  have rz : bsD.length < 16777216 := by rw [← hbs, List.length_map]; omega
  have rz2 : (r.map D.int).length < 16777216 := by rw [List.length_map]; simp at slen; omega
  generalize r.map D.int = rD at ez sl rz2
  have hss2 : (ssrtI fl).map D.int = bsD := by rw [hss, hbs]
  have flz : (fl.map D.int).length < 16777216 := by rw [List.length_map]; omega
  generalize hfd : fl.map D.int = fD at comp im flz
  have lsl : slD (.lst bsD) (some 1) none = some (.lst rD) := by show some (D.lst (cutL bsD (some 1) none)) = _; rw [sl]
  simp only [fn_sum_of, argsEnv]
  simp [l1, l2, i0, i1, b1, b2, ad1, ← low, ← high, asg, asgs, ad2, hideFrom, comp, flz, listD_l, im, hz64, hss2, rz, lsl, ez, c1, c2, ev_frz, cFrz, j]
theorem sum_of_ok {a b : Crv} (ha : VOk a) (hb : VOk b) (h : lowOf a b ≤ highOf a b) : call (k + 2) 15 [dC a, dC b] S = .ok (dC (sumC a b)) ⟨[], S⟩ := sum_of_okW (by decide) ha.wk hb.wk h
end FW

/-! PlMeet: ends of prices, common prices, meetings. -/
namespace FW
open PySem L2
variable {k : Nat} {S : Store}
def orO : Option Int → Option Int → Option Int
  | some q, _ => some q
  | none, o => o
theorem oI_isN (o : Option Int) : (oI o).isN = o.isNone := by cases o <;> rfl
def commonP : Option Int → Option Int → Option Int → Option Int → Int
  | some a, _, some b, _ => maxI a [b]
  | some a, _, none, _ => a
  | none, _, some b, _ => b
  | none, some a, none, some b => minI a [b]
  | none, some a, none, none => a
  | none, none, none, some b => b
  | none, none, none, none => 0
/-- lows below highs: the common price lies between -/
theorem commonP_ok {l1 h1 l2 h2 : Option Int} (c : ∀ l h, (l1 = some l ∨ l2 = some l) → (h1 = some h ∨ h2 = some h) → l ≤ h) :
    (∀ l, (l1 = some l ∨ l2 = some l) → l ≤ commonP l1 h1 l2 h2) ∧ (∀ h, (h1 = some h ∨ h2 = some h) → commonP l1 h1 l2 h2 ≤ h) := by
  cases l1 with
  | some a =>
    cases l2 with
    | some b =>
      have e : commonP (some a) h1 (some b) h2 = if b > a then b else a := by cases h1 <;> cases h2 <;> rfl
      rw [e]
      refine ⟨fun l hl => ?_, fun h hh => ?_⟩
      · rcases hl with hl | hl <;> cases hl <;> split <;> omega
      · have := c a h (.inl rfl) hh; have := c b h (.inr rfl) hh
        split <;> omega
    | none =>
      have e : commonP (some a) h1 none h2 = a := by cases h1 <;> cases h2 <;> rfl
      rw [e]
      refine ⟨fun l hl => ?_, fun h hh => c a h (.inl rfl) hh⟩
      rcases hl with hl | hl <;> cases hl
      exact Int.le_refl _
  | none =>
    cases l2 with
    | some b =>
      have e : commonP none h1 (some b) h2 = b := by cases h1 <;> cases h2 <;> rfl
      rw [e]
      refine ⟨fun l hl => ?_, fun h hh => c b h (.inr rfl) hh⟩
      rcases hl with hl | hl <;> cases hl
      exact Int.le_refl _
    | none =>
      refine ⟨fun l hl => (by rcases hl with hl | hl <;> cases hl), fun h hh => ?_⟩
      cases h1 with
      | some a =>
        cases h2 with
        | some b =>
          have e : commonP none (some a) none (some b) = if b < a then b else a := rfl
          rw [e]
          rcases hh with hh | hh <;> cases hh <;> split <;> omega
        | none =>
          rcases hh with hh | hh <;> cases hh
          exact Int.le_refl _
      | none =>
        cases h2 with
        | some b =>
          rcases hh with hh | hh <;> cases hh
          exact Int.le_refl _
        | none => rcases hh with hh | hh <;> cases hh
/-- the meeting's place, its price -/
def meetX (a b : Crv) : Int := (sumC a b).best 0
def meetP (a b : Crv) : Int := commonP (a.before (meetX a b)) (a.after (meetX a b)) ((mirC b).before (0 - meetX a b)) ((mirC b).after (0 - meetX a b))
theorem mirC_vok {c : Crv} (v : VOk c) (h : -10 ^ 12 ≤ c.lo ∧ c.last ≤ 10 ^ 13) : VOk (mirC c) := by
  have := v.lo; have := v.len; have hu := v.un
  have u0 := v.nn
  have e : c.last = c.lo + units c.st := rfl
  refine ⟨by show (c.st.reverse.map neP).length ≤ 12; rw [List.length_map, List.length_reverse]; omega, fun s hs => ?_, (mir_rises v.rises).rise, fun s hs => ?_, ⟨by show _ ≤ 0 - c.last; omega, by show 0 - c.last ≤ _; omega⟩, by rw [mir_units]; omega⟩
  · obtain ⟨t, ht, rfl⟩ := List.mem_map.mp hs
    exact v.pos t (List.mem_reverse.mp ht)
  · obtain ⟨t, ht, rfl⟩ := List.mem_map.mp hs
    have := v.pr t (List.mem_reverse.mp ht)
    show _ ≤ 0 - t.2 ∧ 0 - t.2 ≤ _
    omega
/-- at a meeting that costs at least 0 in sum, the meeting's price separates -/
theorem meet_line {a b : Crv} (ha : VOk a) (hb : VOk b) (hm : VOk (mirC b)) (h : lowOf a b ≤ highOf a b) : a.gain (meetP a b) + b.gain (0 - meetP a b) = -(a.costAt (meetX a b) + b.costAt (meetX a b)) := by
  obtain ⟨m1, m2⟩ := sum_least ha hb h
  obtain ⟨r1, r2⟩ := (sBends_mem.mp m1).2
  have ex : (sumC a b).best 0 = meetX a b := rfl
  rw [ex] at m2 r1 r2
  have elo : lowOf a b = max a.lo b.lo := rfl
  have ehi : highOf a b = min a.last b.last := rfl
  have mlo : (mirC b).lo = 0 - b.last := rfl
  have mla : (mirC b).last = 0 - b.lo := by
    show (0 - b.last) + units (mirC b).st = _
    rw [mir_units]; unfold Crv.last; omega
  generalize hx : meetX a b = x at *
  -- ends told by costs
  have A1 : ∀ l, a.before x = some l → a.lo < x ∧ l = a.costAt x - a.costAt (x - 1) := fun l e => by
    by_cases z : a.lo < x
    · rw [before_some ha z (by omega)] at e; exact ⟨z, (Option.some.inj e).symm⟩
    · rw [before_none (by omega)] at e; cases e
  have A2 : ∀ l, a.after x = some l → x < a.last ∧ l = a.costAt (x + 1) - a.costAt x := fun l e => by
    by_cases z : x < a.last
    · rw [after_some ha (by omega) z] at e; exact ⟨z, (Option.some.inj e).symm⟩
    · rw [after_none ha (by omega)] at e; cases e
  have B1 : ∀ l, b.before x = some l → b.lo < x ∧ l = b.costAt x - b.costAt (x - 1) := fun l e => by
    by_cases z : b.lo < x
    · rw [before_some hb z (by omega)] at e; exact ⟨z, (Option.some.inj e).symm⟩
    · rw [before_none (by omega)] at e; cases e
  have B2 : ∀ l, b.after x = some l → x < b.last ∧ l = b.costAt (x + 1) - b.costAt x := fun l e => by
    by_cases z : x < b.last
    · rw [after_some hb (by omega) z] at e; exact ⟨z, (Option.some.inj e).symm⟩
    · rw [after_none hb (by omega)] at e; cases e
  have mc := fun y => mir_cost hb.rises y
  have M1 : x < b.last → (mirC b).before (0 - x) = some (b.costAt x - b.costAt (x + 1)) := fun z => by
    rw [before_some hm (by omega) (by omega), mc x, show (0 : Int) - x - 1 = 0 - (x + 1) by omega, mc]
  have M2 : b.lo < x → (mirC b).after (0 - x) = some (b.costAt (x - 1) - b.costAt x) := fun z => by
    rw [after_some hm (by omega) (by omega), mc x, show (0 : Int) - x + 1 = 0 - (x - 1) by omega, mc]
  have M1n : ¬ x < b.last → (mirC b).before (0 - x) = none := fun z => before_none (by omega)
  have M2n : ¬ b.lo < x → (mirC b).after (0 - x) = none := fun z => after_none hm (by omega)
  -- slopes do not fall
  have mono : ∀ {c : Crv}, VOk c → c.lo < x → x < c.last → c.costAt x - c.costAt (x - 1) ≤ c.costAt (x + 1) - c.costAt x := fun {c} hc z1 z2 => by
    have e1 := after_some hc (x := x - 1) (by omega) (by omega)
    have e2 := after_some hc (x := x) (by omega) z2
    rw [show x - 1 + 1 = x by omega] at e1
    exact pAfter_mono hc.rise (show x - 1 - c.lo ≤ x - c.lo by omega) e1 e2
  have cross : ∀ l t, (a.before x = some l ∨ (mirC b).before (0 - x) = some l) → (a.after x = some t ∨ (mirC b).after (0 - x) = some t) → l ≤ t := fun l t hl ht => by
    rcases hl with hl | hl
    · obtain ⟨z1, rfl⟩ := A1 l hl
      rcases ht with ht | ht
      · obtain ⟨z2, rfl⟩ := A2 t ht
        exact mono ha z1 z2
      · by_cases z2 : b.lo < x
        · rw [M2 z2] at ht
          have := m2 (x - 1) (by omega) (by omega)
          have := Option.some.inj ht
          omega
        · rw [M2n z2] at ht; cases ht
    · by_cases z1 : x < b.last
      · rw [M1 z1] at hl
        have hl := Option.some.inj hl
        rcases ht with ht | ht
        · obtain ⟨z2, rfl⟩ := A2 t ht
          have := m2 (x + 1) (by omega) (by omega)
          omega
        · by_cases z2 : b.lo < x
          · rw [M2 z2] at ht
            have ht := Option.some.inj ht
            have := mono hb z2 z1
            omega
          · rw [M2n z2] at ht; cases ht
      · rw [M1n z1] at hl; cases hl
  obtain ⟨k1, k2⟩ := commonP_ok cross
  have ep : meetP a b = commonP (a.before x) (a.after x) ((mirC b).before (0 - x)) ((mirC b).after (0 - x)) := by unfold meetP; rw [hx]
  rw [← ep] at k1 k2
  generalize meetP a b = p at *
  have g1 := gain_here ha (p := p) (x := x) (by omega) (by omega) (fun l e => k1 l (.inl e)) (fun t e => k2 t (.inl e))
  have g2 := gain_here hb (p := 0 - p) (x := x) (by omega) (by omega) (fun l e => by
    obtain ⟨z, rfl⟩ := B1 l e
    have := k2 _ (.inr (M2 z))
    omega) (fun t e => by
    obtain ⟨z, rfl⟩ := B2 t e
    have := k1 _ (.inr (M1 z))
    omega)
  rw [g1, g2, Int.sub_mul, Int.zero_mul]; omega
end FW

/-! PlIn: a place in a curve. -/
namespace FW
open PySem L2
variable {k : Nat} {S : Store}
@[simp] theorem ec_ino {a b st} : evC (Vk k) (.ino a b) st = (evE (Vk k) (.ino a b) st).bind fun d s => match d with
  | .bl b => .ok b s
  | _ => .bad := rfl
end FW

/-! PlOps: operators of the curve class, any size. -/
namespace FW
open PySem L2
variable {k : Nat} {S : Store}
/-! ### operators -/
def timesC (c : Crv) (f : Int) : Crv := ⟨c.lo * f, c.cost * f, c.st.map fun s => (s.1 * f, s.2)⟩
theorem times_comp {V : Ev} {E0 : FW.Env} {f : Int} (hE : E0.length = 7) (h1 : E0[1]? = some (.val (.int f))) (hf : f.natAbs < 2 ^ 64) {e : E} (he : e = .tup (.cons (.bin .mul (.var 5) (.var 1)) (.cons (.var 6) .nil))) (st : List (Int × Int)) :
    lcGo (.tup [.nm 5, .nm 6]) cYes (evE V e) E0 (st.map dSt) S = some ((st.map fun s => (s.1 * f, s.2)).map dSt, S) := by
  rw [List.map_map]
  refine lc_map (f := dSt) (g := fun s => dSt (s.1 * f, s.2)) (fun s => ⟨⟨(E0.set 5 (.val (.int s.1))).set 6 (.val (.int s.2)), S⟩, ⟨(E0.set 5 (.val (.int s.1))).set 6 (.val (.int s.2)), S⟩, ⟨(E0.set 5 (.val (.int s.1))).set 6 (.val (.int s.2)), S⟩, ?_, rfl, ?_, rfl⟩) st
  · simp [dSt, asg, asgs]
  · subst he
    rcases E0 with _ | ⟨a0, _ | ⟨a1, _ | ⟨a2, _ | ⟨a3, _ | ⟨a4, _ | ⟨a5, _ | ⟨a6, _ | ⟨a7, r⟩⟩⟩⟩⟩⟩⟩⟩ <;> simp at hE
    simp at h1
    subst h1
    have m : mulD (.int s.1) (.int f) = some (.int (s.1 * f)) := mul_ii (by unfold mulOk; rw [decide_eq_true hf]; simp)
    simp [dSt, m]
theorem moved_by_ok {c : Crv} {x : Int} : call (k + 1) 17 [dC c, .int x] S = .ok (dC (movC c x)) ⟨[], S⟩ := by
  rw [call_def fn_moved_by rfl rfl]
  simp [fn_moved_by, argsEnv, dC, movC]
/-! ### own == -/
theorem eqv_st : ∀ (l m : List (Int × Int)), PyData.eqvAll (D.pys (l.map dSt)) (D.pys (m.map dSt)) = decide (l = m)
  | [], [] => rfl
  | [], t :: m => rfl
  | s :: l, [] => rfl
  | (n, p) :: l, (m, q) :: r => by
    simp only [List.map_cons, D.pys, PyData.eqvAll, eqv_st l r, dSt, D.py, PyData.eqv, Bool.and_true]
    by_cases h1 : n = m <;> by_cases h2 : p = q <;> simp [h1, h2]
theorem eqv_C (x y : Crv) : PyData.eqv (dC x).py (dC y).py = decide (x.lo = y.lo ∧ x.cost = y.cost ∧ x.st = y.st) := by
  simp only [dC, D.py, D.pys, PyData.eqv, PyData.eqvAll, eqv_st, Bool.and_true]
  by_cases h1 : x.lo = y.lo <;> by_cases h2 : x.cost = y.cost <;> by_cases h3 : x.st = y.st <;> simp [h1, h2, h3]
open Classical in
theorem eqv_C' (x y : Crv) : PyData.eqv (dC x).py (dC y).py = decide (x = y) := by
  rw [eqv_C]
  refine decide_eq_decide.mpr ⟨fun h => ?_, fun h => by subst h; simp⟩
  obtain ⟨h1, h2, h3⟩ := h
  cases x; cases y
  simp only at h1 h2 h3
  subst h1; subst h2; subst h3; rfl
end FW

/-! PlTh2: supports by the prices before and behind a place; sums' views; multiplied curves. -/
namespace FW
open PySem L2
variable {a b c : Crv}
theorem sup_iff (h : Cn c) {p x : Int} (h0 : c.lo ≤ x) (h1 : x ≤ c.last) : Sup c p x ↔ (∀ l, c.before x = some l → l ≤ p) ∧ (∀ t, c.after x = some t → p ≤ t) := by
  constructor
  · intro s
    have g := (sup_gain h s).1
    refine ⟨fun l e => ?_, fun t e => ?_⟩
    · by_cases z : c.lo < x
      · rw [before_someC h z h1] at e
        have e := Option.some.inj e
        have gg := gain_ge h (p := p) (x := x - 1) (by omega) (by omega)
        rw [Int.mul_sub, Int.mul_one] at gg
        omega
      · rw [before_none (by omega)] at e; cases e
    · by_cases z : x < c.last
      · rw [after_someC h h0 z] at e
        have e := Option.some.inj e
        have gg := gain_ge h (p := p) (x := x + 1) (by omega) (by omega)
        rw [Int.mul_add, Int.mul_one] at gg
        omega
      · rw [after_noneC h (by omega)] at e; cases e
  · rintro ⟨h2, h3⟩
    have g := gain_hereC h h0 h1 h2 h3
    exact sup_of_gain h h0 h1 (by omega)
theorem before_mem {x l : Int} (h : c.before x = some l) : ∃ s ∈ c.st, s.2 = l := by
  have lm : ∀ {st : List (Int × Int)} {w l : Int}, pBefore st w = some l → ∃ s ∈ st, s.2 = l := fun {st} => by
    induction st with
    | nil => intro w l h; cases h
    | cons s st ih =>
      intro w l h
      obtain ⟨m, x⟩ := s
      rw [pBefore] at h
      split at h
      · split at h
        · rename_i e
          obtain ⟨s', a1, a2⟩ := ih e
          exact ⟨s', by simp [a1], by rw [a2]; exact Option.some.inj h⟩
        · exact ⟨(m, x), by simp, Option.some.inj h⟩
      · cases h
  exact lm h
theorem after_mem {x l : Int} (h : c.after x = some l) : ∃ s ∈ c.st, s.2 = l := pAfter_mem h
theorem ends_le (h : Cn c) {x l t : Int} (h0 : c.lo ≤ x) (h1 : x ≤ c.last) (e1 : c.before x = some l) (e2 : c.after x = some t) : l ≤ t := by
  obtain ⟨p, s, _⟩ := sup_some h h0 h1
  obtain ⟨q1, q2⟩ := (sup_iff h h0 h1).mp s
  have := q1 l e1; have := q2 t e2; omega
/-- no split of a price gives a less sum of views than the sum's view -/
theorem sum_gain_le (ha : Cn a) (hb : Cn b) (h : lowOf a b ≤ highOf a b) (p q : Int) : (sumC a b).gain p ≤ a.gain q + b.gain (p - q) := by
  have hs := sum_cn ha hb h
  obtain ⟨b1, b2, b3⟩ := best_ge hs p
  rw [sum_lo] at b1
  rw [sum_last ha hb h] at b3
  have e : (sumC a b).gain p = p * (sumC a b).best p - (sumC a b).costAt ((sumC a b).best p) := rfl
  rw [e, sum_cost ha hb b1 (by omega)]
  unfold lowOf at b1
  unfold highOf at b3
  have g1 := gain_ge ha (p := q) (x := (sumC a b).best p) (by omega) (by omega)
  have g2 := gain_ge hb (p := p - q) (x := (sumC a b).best p) (by omega) (by omega)
  rw [Int.sub_mul] at g2
  omega
/-- at a place that p supports, a split of p whose parts support it -/
theorem sum_split (ha : Cn a) (hb : Cn b) (h : lowOf a b ≤ highOf a b) {p x : Int} (s : Sup (sumC a b) p x) :
    (∀ l t, (a.before x = some l ∨ b.after x = some (p - l)) → (a.after x = some t ∨ b.before x = some (p - t)) → l ≤ t) := by
  have hs := sum_cn ha hb h
  obtain ⟨g, s1, s2⟩ := sup_gain hs s
  rw [sum_lo] at s1
  rw [sum_last ha hb h] at s2
  have c0 := sum_cost ha hb s1 s2
  have l0 : lowOf a b = max a.lo b.lo := rfl
  have h0 : highOf a b = min a.last b.last := rfl
  intro l t hl ht
  rcases hl with hl | hl <;> rcases ht with ht | ht
  · exact ends_le ha (by omega) (by omega) hl ht
  · by_cases z1 : a.lo < x
    · by_cases z2 : b.lo < x
      · rw [before_someC ha z1 (by omega)] at hl
        rw [before_someC hb z2 (by omega)] at ht
        have hl := Option.some.inj hl
        have ht := Option.some.inj ht
        have gg := gain_ge hs (p := p) (x := x - 1) (by rw [sum_lo]; omega) (by rw [sum_last ha hb h]; omega)
        rw [sum_cost ha hb (by omega) (by omega), Int.mul_sub, Int.mul_one] at gg
        omega
      · rw [before_none (by omega)] at ht; cases ht
    · rw [before_none (by omega)] at hl; cases hl
  · by_cases z1 : x < a.last
    · by_cases z2 : x < b.last
      · rw [after_someC hb (by omega) z2] at hl
        rw [after_someC ha (by omega) z1] at ht
        have hl := Option.some.inj hl
        have ht := Option.some.inj ht
        have gg := gain_ge hs (p := p) (x := x + 1) (by rw [sum_lo]; omega) (by rw [sum_last ha hb h]; omega)
        rw [sum_cost ha hb (by omega) (by omega), Int.mul_add, Int.mul_one] at gg
        omega
      · rw [after_noneC hb (by omega)] at hl; cases hl
    · rw [after_noneC ha (by omega)] at ht; cases ht
  · have := ends_le hb (x := x) (by omega) (by omega) ht hl
    omega
theorem split_gain (ha : Cn a) (hb : Cn b) (h : lowOf a b ≤ highOf a b) {p q x : Int} (s : Sup (sumC a b) p x) (h1 : ∀ l, (a.before x = some l ∨ b.after x = some (p - l)) → l ≤ q) (h2 : ∀ t, (a.after x = some t ∨ b.before x = some (p - t)) → q ≤ t) : a.gain q + b.gain (p - q) = (sumC a b).gain p := by
  have hs := sum_cn ha hb h
  obtain ⟨g, s1, s2⟩ := sup_gain hs s
  rw [sum_lo] at s1
  rw [sum_last ha hb h] at s2
  have c0 := sum_cost ha hb s1 s2
  have l0 : lowOf a b = max a.lo b.lo := rfl
  have h0 : highOf a b = min a.last b.last := rfl
  have sa : Sup a q x := (sup_iff ha (by omega) (by omega)).mpr ⟨fun l e => h1 l (.inl e), fun t e => h2 t (.inl e)⟩
  have sb : Sup b (p - q) x := (sup_iff hb (by omega) (by omega)).mpr ⟨fun l e => by
    have := h2 (p - l) (.inr (by rw [show p - (p - l) = l by omega]; exact e)); omega, fun t e => by
    have := h1 (p - t) (.inr (by rw [show p - (p - t) = t by omega]; exact e)); omega⟩
  have g1 := (sup_gain ha sa).1
  have g2 := (sup_gain hb sb).1
  rw [Int.sub_mul] at g2
  omega
/-! ### sizes of sums -/
theorem ssrtI_len : ∀ l : List Int, (ssrtI l).length ≤ l.length
  | [] => by simp [ssrtI]
  | x :: l => by
    have hi : ∀ (m : List Int), (insU x m).length ≤ m.length + 1 := fun m => by
      induction m with
      | nil => simp [insU]
      | cons y m ihm => unfold insU; split <;> (try split) <;> simp <;> omega
    rw [ssrtI, List.length_cons]
    have := hi (ssrtI l); have := ssrtI_len l; omega
theorem stepsOf_len (f : Int → Int) : ∀ l : List Int, (stepsOf f l).length ≤ l.length - 1
  | [] => by simp [stepsOf]
  | [x] => by simp [stepsOf]
  | x :: y :: l => by
    have := stepsOf_len f (y :: l)
    rw [stepsOf]; simp at this ⊢; omega
theorem sum_len (ha : Cn a) (hb : Cn b) (h : lowOf a b ≤ highOf a b) : (sumC a b).st.length ≤ a.st.length + b.st.length + 3 := by
  rw [sum_st ha hb h]
  have h1 := joinAll_len (stepsOf (slope a b) (sBends a b))
  have h2 := stepsOf_len (slope a b) (sBends a b)
  have h3 : (sBends a b).length ≤ a.st.length + b.st.length + 4 := by
    refine Nat.le_trans (ssrtI_len _) (Nat.le_trans (List.length_filter_le ..) ?_)
    rw [List.length_append, List.length_append, bendsF_len, bendsF_len]; simp; omega
  omega
theorem sum_pr (ha : Cn a) (hb : Cn b) (h : lowOf a b ≤ highOf a b) {M N : Int} (h1 : ∀ s ∈ a.st, -M ≤ s.2 ∧ s.2 ≤ M) (h2 : ∀ s ∈ b.st, -N ≤ s.2 ∧ s.2 ≤ N) : ∀ s ∈ (sumC a b).st, -(M + N) ≤ s.2 ∧ s.2 ≤ M + N := by
  obtain ⟨hlt, ⟨r, hr⟩, hl, _, _, _⟩ := sum_shape ha hb h
  rw [sum_st ha hb h]
  refine join_pr (P := fun p => -(M + N) ≤ p ∧ p ≤ M + N) _ _ (by simp) fun t ht => ?_
  obtain ⟨x, hx, e⟩ := stepsOf_mem ht
  have hm := (List.dropLast_sublist _).mem hx
  have hne : sBends a b ≠ [] := by rw [hr]; simp
  have hd := List.dropLast_concat_getLast (l := sBends a b) hne
  have x2 : x < (sBends a b).getLast hne := by
    have hlt2 := hlt
    rw [← hd, List.pairwise_append] at hlt2
    exact hlt2.2.2 x hx _ (List.mem_singleton.mpr rfl)
  rw [hl hne] at x2
  have x1 := (sBends_mem.mp hm).2.1
  have l0 : lowOf a b = max a.lo b.lo := rfl
  have h0 : highOf a b = min a.last b.last := rfl
  have e1 : a.last = a.lo + units a.st := rfl
  have e2 : b.last = b.lo + units b.st := rfl
  obtain ⟨p, hp⟩ := pAfter_some (st := a.st) (u := x - a.lo) (by omega) (by omega)
  obtain ⟨q, hq⟩ := pAfter_some (st := b.st) (u := x - b.lo) (by omega) (by omega)
  have es : slope a b x = p + q := by unfold slope; rw [hp, hq]; rfl
  obtain ⟨s1, m1, f1⟩ := pAfter_mem hp
  obtain ⟨s2, m2, f2⟩ := pAfter_mem hq
  have := h1 s1 m1; have := h2 s2 m2
  rw [e, es]; omega
end FW

/-! PlPrice: prices of a book, their bound. -/
namespace FW
open PySem L2
variable {k : Nat} {S : Store}
theorem es_augT {V : Ev} {i : Nat} {a : E} {st : State} : evS V (.aug i true a) st = cAug i (fun i j => i + j) (evE V a) st := rfl
theorem ev_star {V : Ev} {a : E} {es : Es} {st : State} : evEs V (.star a es) st = cStar (evE V a) (evEs V es) st := rfl
structure CGood (c : Crv) : Prop where
  sane : Sane c
  rises : Rises c
  pl : ∀ x, c.lo ≤ x → x ≤ c.last → x.natAbs < 2 ^ 600
structure PGood (p : Per) : Prop where
  buy : CGood p.buy
  keep : CGood p.keep
  want : p.want.natAbs < 2 ^ 600
theorem crv_good {g : Int} {m : Nat} {c : Crv} (h : CrvOk g m c) (hg : 0 ≤ g) (hg2 : g ≤ 10 ^ 100) (hm : m < 1000) (hl : -(10 ^ 120) ≤ c.lo) (hl2 : c.lo ≤ 10 ^ 120) : CGood c := by
  have hlen := h.st.len
  have hu := h.st.le hg
  have hn := h.st.nn
  have e1 : g * (m : Int) ≤ 10 ^ 100 * 1000 := Int.mul_le_mul hg2 (by omega) (by omega) (by decide)
  refine ⟨⟨by omega, fun s hs => ?_, fun s hs => ?_⟩, ⟨fun s hs => ?_, h.st.rise⟩, fun x h1 h2 => ?_⟩
  · have := h.st.cnt s hs; omega
  · have := h.st.pr s hs; omega
  · have := h.st.cnt s hs; omega
  · have h2 : x ≤ c.lo + units c.st := h2
    omega
theorem book_good {g : Int} {m : Nat} {b : Book} (h : BookOk g m b) (hg : 1 ≤ g) (hg2 : g ≤ 10 ^ 100) (hm : m < 1000) : ∀ p ∈ b.ps, PGood p := fun p hp => by
  have q := h.per p hp
  have e1 : 10 * g * ((m : Int) + 2) ≤ 10 * 10 ^ 100 * 1002 := Int.mul_le_mul (by omega) (by omega) (by omega) (by decide)
  have := q.blo; have := q.klo; have := q.want
  exact ⟨crv_good q.buy (by omega) hg2 (by decide) (by omega) (by omega), crv_good q.keep (by omega) hg2 (by decide) (by omega) (by omega), by omega⟩
/-! ### what prices are -/
def okPrice : D → Bool
  | .int i => decide (-10 ^ 30 < i ∧ i < 10 ^ 30)
  | _ => false
def isPrices (n : Nat) : D → Bool
  | .tup l => decide (l.length = n) && l.all okPrice
  | _ => false
theorem isPrices_ints {n : Nat} {d : D} (h : isPrices n d = true) : ∃ pr : List Int, d = .tup (pr.map .int) ∧ pr.length = n ∧ ∀ i ∈ pr, -10 ^ 30 < i ∧ i < 10 ^ 30 := by
  cases d <;> first | (cases h; done) | skip
  rename_i l
  obtain ⟨h1, h2⟩ := band h
  replace h1 := of_decide_eq_true h1
  clear h
  induction l generalizing n with
  | nil => exact ⟨[], rfl, h1, by simp⟩
  | cons d l ih =>
    rw [List.all_cons] at h2
    obtain ⟨h3, h4⟩ := band h2
    cases n with
    | zero => simp at h1
    | succ n =>
      obtain ⟨pr, e1, e2, e3⟩ := ih h4 (by simpa using h1)
      injection e1 with e1
      cases d <;> first | (cases h3; done) | skip
      rename_i i
      have h3 : -10 ^ 30 < i ∧ i < 10 ^ 30 := of_decide_eq_true h3
      exact ⟨i :: pr, by rw [e1]; rfl, by simp [e2], fun x hx => by
        rcases List.mem_cons.mp hx with rfl | hx
        · exact h3
        · exact e3 x hx⟩
theorem bls_map {α : Type} (f : α → Bool) (l : List α) : allD [.lst (l.map fun x => .bl (f x))] = some (.bl (l.all f)) := by
  have e : blsD (l.map fun x => .bl (f x)) = some (l.map f) := by
    induction l with
    | nil => rfl
    | cons a l ih => rw [List.map_cons]; show (blsD (l.map _)).map _ = _; rw [ih]; rfl
  show (blsD _).map _ = _
  rw [e]; simp [List.all_map]
/-! ### the bound -/
def nextP : List Int → Int
  | [] => 0
  | b :: _ => b
def boundF : List Per → List Int → Int → Int
  | p :: ps, a :: r, acc => boundF ps r (acc + a * p.want - p.buy.gain a - p.keep.gain (nextP r - a))
  | _, _, acc => acc
def bound (B : Book) (pr : List Int) : Int := boundF B.ps pr (0 - B.begin_ * nextP pr)
theorem zipL3_nil {m n : List D} : zipL3 [] m n = [] := by cases m <;> rfl
end FW

/-! PlReason: reasons why no plan fits. -/
namespace FW
open PySem L2
variable {k : Nat} {S : Store}
def dW (w : Bool) : D := .str (if w then "short" else "over")
def endOf (w : Bool) (c : Crv) : Int := if w then c.last else c.lo
def slc (ps : List Per) (f l : Nat) : List Per := (ps.drop f).take (l + 1 - f)
theorem slc_mem {ps : List Per} {f l : Nat} {p : Per} (h : p ∈ slc ps f l) : p ∈ ps := List.mem_of_mem_drop (List.mem_of_mem_take h)
def sumFT (w : Bool) (ps : List Per) (f l : Nat) : Int := ((slc ps f l).map fun p => endOf w p.buy - p.want).sum
def entry (b : Book) (w : Bool) (f : Nat) : Int := if f = 0 then b.begin_ else match b.ps[f - 1]? with
  | some p => endOf w p.keep
  | none => 0
def over (b : Book) (w : Bool) (f l : Nat) : Int := entry b w f + sumFT w b.ps f l
def isReason (b : Book) (w : Bool) (f l : Nat) : Prop := match b.ps[l]? with
  | some p => if w then over b w f l < p.keep.lo else p.keep.last < over b w f l
  | none => False
instance {b w f l} : Decidable (isReason b w f l) := by unfold isReason; split <;> infer_instance
/-- lists of steps are short -/
def Fit (b : Book) : Prop := b.ps.length < 1000 ∧ ∀ p ∈ b.ps, p.buy.st.length < 1000 ∧ p.keep.st.length < 1000
@[simp] theorem gv_0 : gv 9 = .str "short" := rfl
@[simp] theorem gv_1 : gv 10 = .str "over" := rfl
@[simp] theorem isiO_dW {ok s ts} {w : Bool} : isiO ok s (dW w) ts = isiD (dW w) ts := rfl
theorem dW_short {w : Bool} : eqD (dW w) (.str "short") = some (.bl w) := by cases w <;> rfl
theorem end_of_ok {c : Crv} {w : Bool} (h : c.st.length < 16777216) : call (k + 2) 26 [dC c, dW w] S = .ok (.int (endOf w c)) ⟨[], S⟩ := by
  rw [call_def fn_end_of rfl rfl]
  have e : ixD (dC c) (.int 0) = some (.int c.lo) := by simp [dC]
  cases w <;> simp [fn_end_of, argsEnv, dW_short, last_place_ok h, endOf, e]
theorem cut_nat {α : Type} (f : α → D) (l : List α) (a b : Nat) (h : a ≤ b) (hb : b ≤ l.length) : cutL (l.map f) (some (a : Int)) (some (b : Int)) = ((l.drop a).take (b - a)).map f := by
  have e : HT.sIx l.length l.length (some (b : Int)) = b := by rw [HT.sIx_nat, Nat.min_eq_left hb]
  have e2 : HT.sIx l.length 0 (some (a : Int)) = a := by rw [HT.sIx_nat, Nat.min_eq_left (by omega)]
  rw [cutL_map, e, e2]
theorem is_reason_ok {b : Book} {w : Bool} {f l : Nat} (hb : Fit b) (hf : f ≤ l) (hl : l < b.ps.length) : call (k + 3) 27 [dB b, dW w, .int f, .int l] S = .ok (.bl (decide (isReason b w f l))) ⟨[], S⟩ := by
  rw [call_def fn_is_reason rfl rfl]
  have pl : b.ps[l]? = some b.ps[l] := List.getElem?_eq_getElem hl
  have hp : ∀ p ∈ b.ps, p.buy.st.length < 16777216 ∧ p.keep.st.length < 16777216 := fun p hp => by have := hb.2 p hp; omega
  have ixl : atI (b.ps.map dP) (l : Int) = some (dP b.ps[l]) := by rw [atI_nat (by simpa using hl)]; simp
  have entry_ok : ∀ E : FW.Env, evE (Vk (k + 2)) (.ite (.cmp .eq (.var 2) (.num 0)) (.var 7) (.call 26 (.cons (.ix (.ix (.var 8) (.bin .sub (.var 2) (.num 1))) (.num 2)) (.cons (.var 1) .nil))))
      ⟨.val (dB b) :: .val (dW w) :: .val (.int f) :: .val (.int l) :: .non :: .non :: .non :: .val (.int b.begin_) :: .val (.tup (b.ps.map dP)) :: E, S⟩ = .ok (.int (entry b w f)) ⟨.val (dB b) :: .val (dW w) :: .val (.int f) :: .val (.int l) :: .non :: .non :: .non :: .val (.int b.begin_) :: .val (.tup (b.ps.map dP)) :: E, S⟩ := fun E => by
    by_cases h0 : f = 0
    · subst h0; simp [entry]
    · have hf1 : f - 1 < b.ps.length := by omega
      have e1 : (f : Int) - 1 = ((f - 1 : Nat) : Int) := by omega
      have ix : atI (b.ps.map dP) ((f : Int) - 1) = some (dP b.ps[f - 1]) := by rw [e1, atI_nat (by simpa using hf1)]; simp
      have ne : ¬ (f : Int) = 0 := by omega
      have ix2 : ixD (dP b.ps[f - 1]) (.int 2) = some (dC b.ps[f - 1].keep) := by simp [dP]
      simp [h0, ix, ix2, end_of_ok (hp _ (List.getElem_mem hf1)).2, entry, List.getElem?_eq_getElem hf1]
  have comp : ∀ E0 : FW.Env, E0.length = 11 → (∀ d, E0[1]? = some (.val d) → d = dW w) → E0[1]? = some (.val (dW w)) → lcGo (.tup [.nm 9, .nm 10, .nm 6]) cYes (evE (Vk (k + 2)) fn_is_reason_e1) E0 ((slc b.ps f l).map dP) S = some (((slc b.ps f l).map fun p => .int (endOf w p.buy - p.want)), S) := fun E0 h0 _ h1 => by
    refine lc_mapM (f := dP) (g := fun p => .int (endOf w p.buy - p.want)) _ fun p hpm => ?_
    have hp' := (hp p (slc_mem hpm)).1
    rcases E0 with _ | ⟨a0, _ | ⟨a1, _ | ⟨a2, _ | ⟨a3, _ | ⟨a4, _ | ⟨a5, _ | ⟨a6, _ | ⟨a7, _ | ⟨a8, _ | ⟨a9, _ | ⟨a10, _ | ⟨a11, r⟩⟩⟩⟩⟩⟩⟩⟩⟩⟩⟩⟩ <;> simp at h0
    simp at h1
    subst h1
    refine ⟨⟨[a0, .val (dW w), a2, a3, a4, a5, .val (dC p.keep), a7, a8, .val (dC p.buy), .val (.int p.want)], S⟩, ⟨[a0, .val (dW w), a2, a3, a4, a5, .val (dC p.keep), a7, a8, .val (dC p.buy), .val (.int p.want)], S⟩, ⟨[a0, .val (dW w), a2, a3, a4, a5, .val (dC p.keep), a7, a8, .val (dC p.buy), .val (.int p.want)], S⟩, by simp [dP, asg, asgs], rfl, by simp [fn_is_reason_e1, end_of_ok hp'], rfl⟩
  have hz : (slc b.ps f l).length < 16777216 := by
    unfold slc; rw [List.length_take, List.length_drop]; have := hb.1; omega
  have cut : cutL (b.ps.map dP) (some (f : Int)) (some ((l : Int) + 1)) = (slc b.ps f l).map dP := by
    rw [show (l : Int) + 1 = ((l + 1 : Nat) : Int) by omega]; exact cut_nat dP b.ps f (l + 1) (by omega) (by omega)
  have slt : ∀ (l : List D) (a b : Option Int), slD (.tup l) a b = some (.tup (cutL l a b)) := fun _ _ _ => rfl
  have kp0 : ixD (dC b.ps[l].keep) (.int 0) = some (.int b.ps[l].keep.lo) := by simp [dC]
  have kp2 : ixD (dP b.ps[l]) (.int 2) = some (dC b.ps[l].keep) := by simp [dP]
  have lk := last_place_ok (k := k + 1) (S := S) (hp _ (List.getElem_mem hl)).2
  have ab : asg (.tup [.nm 7, .nm 8]) (dB b) ⟨[.val (dB b), .val (dW w), .val (.int f), .val (.int l), .non, .non, .non, .non, .non, .non, .non], S⟩ = some ⟨[.val (dB b), .val (dW w), .val (.int f), .val (.int l), .non, .non, .non, .val (.int b.begin_), .val (.tup (b.ps.map dP)), .non, .non], S⟩ := by simp [dB, asg, asgs]
  simp [-ev_ite, fn_is_reason, argsEnv, ab, entry_ok, slt, cut, hideFrom, comp, hz, sum_mapF, ixl, kp2]
  cases w with
  | true => simp [dW_short, kp0, isReason, pl, over, sumFT]
  | false => simp [dW_short, lk, isReason, pl, over, sumFT]
def RetR (b : Book) (S : Store) (x : D) (s : State) : Prop := s.sto = S ∧ ∃ w f l, x = .tup [dW w, .int (f : Nat), .int (l : Nat)] ∧ f ≤ l ∧ l < b.ps.length ∧ isReason b w f l
theorem find_reason_ok {b : Book} (hb : Fit b) : ∃ d, call (k + 4) 28 [dB b] S = .ok d ⟨[], S⟩ ∧ ((d = .non ∧ ∀ w f l, f ≤ l → l < b.ps.length → ¬ isReason b w f l) ∨ ∃ w f l, d = .tup [dW w, .int (f : Nat), .int (l : Nat)] ∧ f ≤ l ∧ l < b.ps.length ∧ isReason b w f l) := by
  rw [call_def fn_find_reason rfl rfl]
  have hn := hb.1
  -- both words
  have words : ∀ (f l : Nat) (x : Slot), f ≤ l → l < b.ps.length → (∃ y, forL (.nm 3) (evSs (Vk (k + 3)) fn_find_reason_b1) (evSs (Vk (k + 3)) .nil) [dW true, dW false] ⟨[.val (dB b), .val (.int l), .val (.int f), x], S⟩ = .ok .nx ⟨[.val (dB b), .val (.int l), .val (.int f), y], S⟩ ∧ ¬ isReason b true f l ∧ ¬ isReason b false f l) ∨
      ∃ d s, forL (.nm 3) (evSs (Vk (k + 3)) fn_find_reason_b1) (evSs (Vk (k + 3)) .nil) [dW true, dW false] ⟨[.val (dB b), .val (.int l), .val (.int f), x], S⟩ = .ok (.rt d) s ∧ RetR b S d s := fun f l x hf hl => by
    have one : ∀ (w : Bool) (x : Slot), (¬ isReason b w f l → evSs (Vk (k + 3)) fn_find_reason_b1 ⟨[.val (dB b), .val (.int l), .val (.int f), .val (dW w)], S⟩ = .ok .nx ⟨[.val (dB b), .val (.int l), .val (.int f), .val (dW w)], S⟩) ∧
        (isReason b w f l → evSs (Vk (k + 3)) fn_find_reason_b1 ⟨[.val (dB b), .val (.int l), .val (.int f), .val (dW w)], S⟩ = .ok (.rt (.tup [dW w, .int f, .int l])) ⟨[.val (dB b), .val (.int l), .val (.int f), .val (dW w)], S⟩) := fun w x => by
      have h := is_reason_ok (k := k) (S := S) (w := w) hb hf hl
      exact ⟨fun n => by simp [fn_find_reason_b1, h, n], fun n => by simp [fn_find_reason_b1, h, n]⟩
    by_cases h1 : isReason b true f l
    · refine .inr ⟨_, _, forL_ret rfl ((one true x).2 h1), rfl, true, f, l, rfl, hf, hl, h1⟩
    · by_cases h2 : isReason b false f l
      · refine .inr ⟨_, _, (forL_cons rfl ((one true x).1 h1)).trans (forL_ret rfl ((one false x).2 h2)), rfl, false, f, l, rfl, hf, hl, h2⟩
      · exact .inl ⟨_, (forL_cons rfl ((one true x).1 h1)).trans ((forL_cons rfl ((one false x).1 h2)).trans rfl), h1, h2⟩
  -- all first periods
  have firsts : ∀ (l : Nat) (x y : Slot), l < b.ps.length → (∃ x' y', forL (.nm 2) (evSs (Vk (k + 3)) fn_find_reason_b2) (evSs (Vk (k + 3)) .nil) (rangeL 0 (l + 1)) ⟨[.val (dB b), .val (.int l), x, y], S⟩ = .ok .nx ⟨[.val (dB b), .val (.int l), x', y'], S⟩ ∧ ∀ w f, f ≤ l → ¬ isReason b w f l) ∨
      ∃ d s, forL (.nm 2) (evSs (Vk (k + 3)) fn_find_reason_b2) (evSs (Vk (k + 3)) .nil) (rangeL 0 (l + 1)) ⟨[.val (dB b), .val (.int l), x, y], S⟩ = .ok (.rt d) s ∧ RetR b S d s := fun l x y hl => by
    rcases forL_ind (t := .nm 2) (body := evSs (Vk (k + 3)) fn_find_reason_b2) (els := evSs (Vk (k + 3)) .nil) (l := rangeL 0 (l + 1))
        (fun i st => ∃ x y, st = ⟨[.val (dB b), .val (.int l), x, y], S⟩ ∧ ∀ w f, f < i → ¬ isReason b w f l) (RetR b S) (fun i d st hd hi => by
      obtain ⟨x, y, rfl, no⟩ := hi
      obtain ⟨hi, rfl⟩ := rangeL_at hd
      have e0 : (0 : Int) + (i : Int) = (i : Int) := by omega
      refine ⟨⟨[.val (dB b), .val (.int l), .val (.int i), y], S⟩, by rw [e0]; rfl, ?_⟩
      have ev : evSs (Vk (k + 3)) fn_find_reason_b2 ⟨[.val (dB b), .val (.int l), .val (.int i), y], S⟩ = forL (.nm 3) (evSs (Vk (k + 3)) fn_find_reason_b1) (evSs (Vk (k + 3)) .nil) [dW true, dW false] ⟨[.val (dB b), .val (.int l), .val (.int i), y], S⟩ := by
        simp [fn_find_reason_b2, dW]
      rw [ev]
      rcases words i l y (by omega) hl with ⟨y', e, n1, n2⟩ | ⟨d, s, e, r⟩
      · refine .inl ⟨_, e, _, y', rfl, fun w f hf => ?_⟩
        by_cases z : f = i
        · subst z; cases w; exact n2; exact n1
        · exact no w f (by omega)
      · exact .inr ⟨d, s, e, r⟩) (st := ⟨[.val (dB b), .val (.int l), x, y], S⟩) ⟨x, y, rfl, fun w f h => by omega⟩ with ⟨s2, e, x', y', rfl, no⟩ | ⟨d, s, e, r⟩
    · rw [rangeL_len] at no
      exact .inl ⟨x', y', e, fun w f hf => no w f (by omega)⟩
    · exact .inr ⟨d, s, e, r⟩
  have all := forL_ind (t := .nm 1) (body := evSs (Vk (k + 3)) fn_find_reason_b3) (els := evSs (Vk (k + 3)) .nil) (l := rangeL 0 b.ps.length)
        (fun i st => ∃ z x y, st = ⟨[.val (dB b), z, x, y], S⟩ ∧ ∀ w f l, l < i → f ≤ l → ¬ isReason b w f l) (RetR b S) (fun i d st hd hi => by
      obtain ⟨z, x, y, rfl, no⟩ := hi
      obtain ⟨hi, rfl⟩ := rangeL_at hd
      have e0 : (0 : Int) + (i : Int) = (i : Int) := by omega
      refine ⟨⟨[.val (dB b), .val (.int i), x, y], S⟩, by rw [e0]; rfl, ?_⟩
      have hr := rng1_succ (n := i) (by omega)
      have ev : evSs (Vk (k + 3)) fn_find_reason_b3 ⟨[.val (dB b), .val (.int i), x, y], S⟩ = forL (.nm 2) (evSs (Vk (k + 3)) fn_find_reason_b2) (evSs (Vk (k + 3)) .nil) (rangeL 0 (i + 1)) ⟨[.val (dB b), .val (.int i), x, y], S⟩ := by
        simp [fn_find_reason_b3, hr]
      rw [ev]
      rcases firsts i x y hi with ⟨x', y', e, n⟩ | ⟨d, s, e, r⟩
      · refine .inl ⟨_, e, _, x', y', rfl, fun w f l hl hf => ?_⟩
        by_cases z : l = i
        · subst z; exact n w f hf
        · exact no w f l (by omega) hf
      · exact .inr ⟨d, s, e, r⟩) (st := ⟨[.val (dB b), .non, .non, .non], S⟩) ⟨.non, .non, .non, rfl, fun w f l h => by omega⟩
  have hr := rng1_nat (n := b.ps.length) (by omega)
  have len1 : ixD (dB b) (.int 1) = some (.tup (b.ps.map dP)) := by simp [dB]
  rcases all with ⟨s2, e, z, x, y, rfl, no⟩ | ⟨d, s, e, r⟩
  · rw [rangeL_len] at no
    refine ⟨.non, ?_, .inl ⟨rfl, fun w f l hf hl => no w f l hl hf⟩⟩
    simp [fn_find_reason, argsEnv, len1, hr, e]
  · obtain ⟨r1, w, f, l, rfl, h2, h3, h4⟩ := r
    refine ⟨_, ?_, .inr ⟨w, f, l, rfl, h2, h3, h4⟩⟩
    simp [fn_find_reason, argsEnv, len1, hr, e, r1]
end FW

/-! PlK32: reasons found. -/
namespace FW
open PySem L2
variable {k : Nat} {S : Store}
/-! ### what plans can reach -/
def reachFrom : Int → Int → List Per → Option (Int × Int)
  | lo, hi, [] => some (lo, hi)
  | lo, hi, p :: ps => if min p.keep.last (hi + p.buy.last - p.want) < max p.keep.lo (lo + p.buy.lo - p.want) then none else reachFrom (max p.keep.lo (lo + p.buy.lo - p.want)) (min p.keep.last (hi + p.buy.last - p.want)) ps
def dR (r : Option (Int × Int)) : D := match r with
  | none => .non
  | some (l, h) => .tup [.int l, .int h]
/-! ### the law's own word for a reason -/
theorem whole_ok {i : Int} : call (k + 1) 45 [.int i] S = .ok (.bl true) ⟨[], S⟩ := by
  rw [call_def fn_law_whole rfl rfl]
  simp [fn_law_whole, argsEnv, isiD, D.tn, D.isTy]
end FW

/-! PlK32b: a plan fits exactly if there is no reason. -/
namespace FW
open PySem L2
def tm (b : Book) (w : Bool) (t : Nat) : Int := match b.ps[t]? with
  | some p => endOf w p.buy - p.want
  | none => 0
def kend (b : Book) (w : Bool) (t : Nat) : Int := match b.ps[t]? with
  | some p => endOf w p.keep
  | none => 0
def hiAt (b : Book) : Nat → Int
  | 0 => b.begin_
  | t + 1 => min (kend b true t) (hiAt b t + tm b true t)
def loAt (b : Book) : Nat → Int
  | 0 => b.begin_
  | t + 1 => max (kend b false t) (loAt b t + tm b false t)
variable {b : Book}
theorem sum_self {w : Bool} {t : Nat} (ht : t < b.ps.length) : sumFT w b.ps t t = tm b w t := by
  unfold sumFT slc tm
  rw [show t + 1 - t = 0 + 1 by omega, List.take_succ]
  simp [List.getElem?_eq_getElem ht]
theorem sum_succ {w : Bool} {f t : Nat} (hf : f ≤ t) (ht : t + 1 < b.ps.length) : sumFT w b.ps f (t + 1) = sumFT w b.ps f t + tm b w (t + 1) := by
  unfold sumFT slc tm
  rw [show t + 1 + 1 - f = (t + 1 - f) + 1 by omega, List.take_succ, List.getElem?_drop, show f + (t + 1 - f) = t + 1 by omega, List.getElem?_eq_getElem ht]
  simp [List.sum_append]
theorem entry_succ {w : Bool} {t : Nat} : entry b w (t + 1) = kend b w t := by
  have h : entry b w (t + 1) = (match b.ps[t]? with
    | some p => endOf w p.keep
    | none => 0) := if_neg (by omega)
  refine h.trans ?_
  show _ = (match b.ps[t]? with
    | some p => endOf w p.keep
    | none => 0)
  cases b.ps[t]? <;> rfl
theorem entry_zero {w : Bool} : entry b w 0 = b.begin_ := rfl
theorem hi_le : ∀ (t f : Nat), t < b.ps.length → f ≤ t → hiAt b (t + 1) ≤ over b true f t
  | 0, f, ht, hf => by
    obtain rfl : f = 0 := by omega
    have e : hiAt b (0 + 1) = min (kend b true 0) (b.begin_ + tm b true 0) := rfl
    unfold over; rw [sum_self ht, entry_zero, e]
    exact Int.min_le_right ..
  | t + 1, f, ht, hf => by
    have e : hiAt b (t + 1 + 1) = min (kend b true (t + 1)) (hiAt b (t + 1) + tm b true (t + 1)) := rfl
    by_cases h : f = t + 1
    · subst h
      unfold over; rw [sum_self ht, entry_succ, e]
      have : hiAt b (t + 1) ≤ kend b true t := Int.min_le_left ..
      omega
    · have ih := hi_le t f (by omega) (by omega)
      unfold over at ih ⊢
      rw [sum_succ (by omega) ht, e]
      omega
theorem hi_at : ∀ (t : Nat), t < b.ps.length → hiAt b (t + 1) = kend b true t ∨ ∃ f, f ≤ t ∧ hiAt b (t + 1) = over b true f t
  | 0, ht => by
    have e : hiAt b (0 + 1) = min (kend b true 0) (b.begin_ + tm b true 0) := rfl
    have o : over b true 0 0 = b.begin_ + tm b true 0 := by unfold over; rw [sum_self ht, entry_zero]
    by_cases h : kend b true 0 ≤ b.begin_ + tm b true 0
    · exact .inl (by omega)
    · exact .inr ⟨0, by omega, by omega⟩
  | t + 1, ht => by
    have e : hiAt b (t + 1 + 1) = min (kend b true (t + 1)) (hiAt b (t + 1) + tm b true (t + 1)) := rfl
    by_cases h : kend b true (t + 1) ≤ hiAt b (t + 1) + tm b true (t + 1)
    · exact .inl (by omega)
    · rcases hi_at t (by omega) with q | ⟨f, hf, q⟩
      · refine .inr ⟨t + 1, by omega, ?_⟩
        unfold over; rw [sum_self ht, entry_succ, e, ← q]; omega
      · refine .inr ⟨f, by omega, ?_⟩
        have o : over b true f (t + 1) = over b true f t + tm b true (t + 1) := by unfold over; rw [sum_succ hf ht]; omega
        rw [o, e, ← q]; omega
theorem lo_ge : ∀ (t f : Nat), t < b.ps.length → f ≤ t → over b false f t ≤ loAt b (t + 1)
  | 0, f, ht, hf => by
    obtain rfl : f = 0 := by omega
    have e : loAt b (0 + 1) = max (kend b false 0) (b.begin_ + tm b false 0) := rfl
    unfold over; rw [sum_self ht, entry_zero, e]
    exact Int.le_max_right ..
  | t + 1, f, ht, hf => by
    have e : loAt b (t + 1 + 1) = max (kend b false (t + 1)) (loAt b (t + 1) + tm b false (t + 1)) := rfl
    by_cases h : f = t + 1
    · subst h
      unfold over; rw [sum_self ht, entry_succ, e]
      have : kend b false t ≤ loAt b (t + 1) := Int.le_max_left ..
      omega
    · have ih := lo_ge t f (by omega) (by omega)
      unfold over at ih ⊢
      rw [sum_succ (by omega) ht, e]
      omega
theorem lo_at : ∀ (t : Nat), t < b.ps.length → loAt b (t + 1) = kend b false t ∨ ∃ f, f ≤ t ∧ loAt b (t + 1) = over b false f t
  | 0, ht => by
    have e : loAt b (0 + 1) = max (kend b false 0) (b.begin_ + tm b false 0) := rfl
    have o : over b false 0 0 = b.begin_ + tm b false 0 := by unfold over; rw [sum_self ht, entry_zero]
    by_cases h : b.begin_ + tm b false 0 ≤ kend b false 0
    · exact .inl (by omega)
    · exact .inr ⟨0, by omega, by omega⟩
  | t + 1, ht => by
    have e : loAt b (t + 1 + 1) = max (kend b false (t + 1)) (loAt b (t + 1) + tm b false (t + 1)) := rfl
    by_cases h : loAt b (t + 1) + tm b false (t + 1) ≤ kend b false (t + 1)
    · exact .inl (by omega)
    · rcases lo_at t (by omega) with q | ⟨f, hf, q⟩
      · refine .inr ⟨t + 1, by omega, ?_⟩
        unfold over; rw [sum_self ht, entry_succ, e, ← q]; omega
      · refine .inr ⟨f, by omega, ?_⟩
        have o : over b false f (t + 1) = over b false f t + tm b false (t + 1) := by unfold over; rw [sum_succ hf ht]; omega
        rw [o, e, ← q]; omega
theorem reach_none : ∀ (m t : Nat), t + m = b.ps.length → (reachFrom (loAt b t) (hiAt b t) (b.ps.drop t) = none ↔ ∃ s, t ≤ s ∧ s < b.ps.length ∧ hiAt b (s + 1) < loAt b (s + 1) ∧ ∀ r, t ≤ r → r < s → loAt b (r + 1) ≤ hiAt b (r + 1))
  | 0, t, h => by
    rw [List.drop_eq_nil_of_le (by omega)]
    simp only [reachFrom]
    constructor
    · intro z; cases z
    · rintro ⟨s, h1, h2, _⟩; omega
  | m + 1, t, h => by
    have ht : t < b.ps.length := by omega
    have gt := List.getElem?_eq_getElem ht
    rw [List.drop_eq_getElem_cons ht]
    have e1 : min b.ps[t].keep.last (hiAt b t + b.ps[t].buy.last - b.ps[t].want) = hiAt b (t + 1) := by
      show _ = min (kend b true t) (hiAt b t + tm b true t)
      unfold kend tm; rw [gt]; simp only [endOf, if_true]; congr 1; omega
    have e2 : max b.ps[t].keep.lo (loAt b t + b.ps[t].buy.lo - b.ps[t].want) = loAt b (t + 1) := by
      show _ = max (kend b false t) (loAt b t + tm b false t)
      unfold kend tm; rw [gt]; simp only [endOf]; simp; congr 1; omega
    simp only [reachFrom, e1, e2]
    by_cases hc : hiAt b (t + 1) < loAt b (t + 1)
    · rw [if_pos hc]
      exact ⟨fun _ => ⟨t, Nat.le_refl _, ht, hc, fun r h1 h2 => by omega⟩, fun _ => rfl⟩
    · rw [if_neg hc, reach_none m (t + 1) (by omega)]
      constructor
      · rintro ⟨s, h1, h2, h3, h4⟩
        refine ⟨s, by omega, h2, h3, fun r h5 h6 => ?_⟩
        by_cases z : r = t
        · subst z; omega
        · exact h4 r (by omega) h6
      · rintro ⟨s, h1, h2, h3, h4⟩
        have : s ≠ t := fun z => by subst z; exact hc h3
        exact ⟨s, by omega, h2, h3, fun r h5 h6 => h4 r (by omega) h6⟩
theorem least {p : Nat → Prop} : ∀ n, p n → ∃ m, m ≤ n ∧ p m ∧ ∀ r, r < m → ¬ p r := by
  intro n
  induction n using Nat.strongRecOn with
  | ind n ih =>
    intro h
    by_cases q : ∃ r, r < n ∧ p r
    · obtain ⟨r, h1, h2⟩ := q
      obtain ⟨m, h3, h4, h5⟩ := ih r h1 h2
      exact ⟨m, by omega, h4, h5⟩
    · exact ⟨n, Nat.le_refl _, h, fun r hr hp => q ⟨r, hr, hp⟩⟩
/-- counts are not negative -/
def Nn (b : Book) : Prop := ∀ p ∈ b.ps, 0 ≤ units p.buy.st ∧ 0 ≤ units p.keep.st
theorem reason_true {f l : Nat} (hl : l < b.ps.length) : isReason b true f l ↔ over b true f l < kend b false l := by
  unfold isReason kend; rw [List.getElem?_eq_getElem hl]; simp [endOf]
theorem reason_false {f l : Nat} (hl : l < b.ps.length) : isReason b false f l ↔ kend b true l < over b false f l := by
  unfold isReason kend; rw [List.getElem?_eq_getElem hl]; simp [endOf]
theorem reach_iff (hn : Nn b) : reachFrom b.begin_ b.begin_ b.ps = none ↔ ∃ w f l, f ≤ l ∧ l < b.ps.length ∧ isReason b w f l := by
  have h := reach_none (b := b) b.ps.length 0 (by omega)
  rw [List.drop_zero] at h
  have h : reachFrom b.begin_ b.begin_ b.ps = none ↔ _ := h
  rw [h]
  constructor
  · rintro ⟨s, _, hs, hlt, before⟩
    have hk : kend b false s ≤ kend b true s := by
      unfold kend; rw [List.getElem?_eq_getElem hs]
      have := (hn _ (List.getElem_mem hs)).2
      simp [endOf, Crv.last]; omega
    have hb : tm b false s ≤ tm b true s := by
      unfold tm; rw [List.getElem?_eq_getElem hs]
      have := (hn _ (List.getElem_mem hs)).1
      simp [endOf, Crv.last]; omega
    have hprev : loAt b s ≤ hiAt b s := by
      cases s with
      | zero => exact Int.le_refl _
      | succ r => exact before r (by omega) (by omega)
    have e1 : hiAt b (s + 1) = min (kend b true s) (hiAt b s + tm b true s) := rfl
    have e2 : loAt b (s + 1) = max (kend b false s) (loAt b s + tm b false s) := rfl
    by_cases c1 : kend b true s ≤ hiAt b s + tm b true s
    · by_cases c2 : loAt b s + tm b false s ≤ kend b false s
      · omega
      · rcases lo_at s hs with q | ⟨f, hf, q⟩
        · omega
        · exact ⟨false, f, s, hf, hs, (reason_false hs).mpr (by omega)⟩
    · by_cases c2 : loAt b s + tm b false s ≤ kend b false s
      · rcases hi_at s hs with q | ⟨f, hf, q⟩
        · omega
        · exact ⟨true, f, s, hf, hs, (reason_true hs).mpr (by omega)⟩
      · omega
  · rintro ⟨w, f, l, hf, hl, hr⟩
    have bad : hiAt b (l + 1) < loAt b (l + 1) := by
      have a1 := hi_le (b := b) l f hl hf
      have a2 := lo_ge (b := b) l f hl hf
      have e1 : hiAt b (l + 1) ≤ kend b true l := Int.min_le_left ..
      have e2 : kend b false l ≤ loAt b (l + 1) := Int.le_max_left ..
      cases w with
      | true => have := (reason_true hl).mp hr; omega
      | false => have := (reason_false hl).mp hr; omega
    obtain ⟨s, h1, h2, h3⟩ := least (p := fun s => hiAt b (s + 1) < loAt b (s + 1)) l bad
    exact ⟨s, Nat.zero_le _, by omega, h2, fun r _ hr => by have := h3 r hr; omega⟩
end FW

/-! PlDP2: least costs: bounds and the program's words. -/
namespace FW
open PySem L2
variable {k : Nat} {S : Store} {c : Crv} {p : Per}
/-- a period as the laws' books have it -/
structure PB (p : Per) : Prop where
  buy : Cn p.buy
  keep : Cn p.keep
  bl : p.buy.st.length ≤ 4
  kl : p.keep.st.length ≤ 3
  bp : ∀ s ∈ p.buy.st, -10 ^ 6 ≤ s.2 ∧ s.2 ≤ 10 ^ 6
  kp : ∀ s ∈ p.keep.st, -10 ^ 6 ≤ s.2 ∧ s.2 ≤ 10 ^ 6
  bo : -10 ^ 12 ≤ p.buy.lo ∧ p.buy.last ≤ 10 ^ 12
  ko : -10 ^ 12 ≤ p.keep.lo ∧ p.keep.last ≤ 10 ^ 12
  w : -10 ^ 12 ≤ p.want ∧ p.want ≤ 10 ^ 12
theorem PB.cn (h : PB p) : PCn p := ⟨h.buy, h.keep⟩
theorem PB.buyW (h : PB p) : Wk 4 p.buy := by
  have n := h.buy.nn; have o := h.bo
  have e : p.buy.last = p.buy.lo + units p.buy.st := rfl
  exact ⟨h.bl, h.buy.pos, h.buy.rise, fun s hs => by have := h.bp s hs; omega, ⟨by omega, by omega⟩, by omega⟩
theorem PB.keepW (h : PB p) : Wk 3 p.keep := by
  have n := h.keep.nn; have o := h.ko
  have e : p.keep.last = p.keep.lo + units p.keep.st := rfl
  exact ⟨h.kl, h.keep.pos, h.keep.rise, fun s hs => by have := h.kp s hs; omega, ⟨by omega, by omega⟩, by omega⟩
/-- a curve of least costs after i periods -/
structure FB (i : Nat) (c : Crv) : Prop where
  cn : Cn c
  len : c.st.length ≤ 10 * i
  pr : ∀ s ∈ c.st, -(2 * 10 ^ 6 * (i : Int)) ≤ s.2 ∧ s.2 ≤ 2 * 10 ^ 6 * (i : Int)
  o : -10 ^ 12 ≤ c.lo ∧ c.last ≤ 10 ^ 12
theorem FB.un {i : Nat} (h : FB i c) : units c.st ≤ 2 * 10 ^ 12 := by
  have := h.o
  have e : c.last = c.lo + units c.st := rfl
  omega
theorem fb_pt {s : Int} (h : -10 ^ 12 ≤ s ∧ s ≤ 10 ^ 12) : FB 0 (pt s) := ⟨pt_cn s, by simp [pt], by simp [pt], ⟨h.1, by show s + 0 ≤ _; omega⟩⟩
theorem FB.wk {i : Nat} (h : FB i c) (hi : i ≤ 20) : Wk (10 * i) c := by
  have := h.o; have := h.un; have n := h.cn.nn
  have e : c.last = c.lo + units c.st := rfl
  exact ⟨h.len, h.cn.pos, h.cn.rise, fun s hs => by have := h.pr s hs; omega, ⟨by omega, by omega⟩, by omega⟩
theorem mid_pr {i : Nat} (h : FB i c) (hp : PB p) : ∀ s ∈ (mid c p).st, -(2 * 10 ^ 6 * (i : Int) + 10 ^ 6) ≤ s.2 ∧ s.2 ≤ 2 * 10 ^ 6 * (i : Int) + 10 ^ 6 :=
  share_prices (P := fun x => -(2 * 10 ^ 6 * (i : Int) + 10 ^ 6) ≤ x ∧ x ≤ 2 * 10 ^ 6 * (i : Int) + 10 ^ 6) h.cn.pos hp.buy.pos (fun s hs => by have := h.pr s hs; omega) (fun s hs => by have := hp.bp s hs; omega)
theorem mid_len {i : Nat} (h : FB i c) (hp : PB p) : (mid c p).st.length ≤ 10 * i + 4 := by
  have l := share_len c p.buy
  have := h.len; have := hp.bl
  show (shareC c p.buy).st.length ≤ _
  omega
theorem mid_wk {i : Nat} (h : FB i c) (hp : PB p) (hi : i ≤ 20) : Wk (10 * i + 4) (mid c p) := by
  have m := mid_cn h.cn hp.cn
  have u := share_units h.cn.pos hp.buy.pos
  have u2 := hp.buyW.un; have u1 := h.un
  have := h.o; have := hp.bo; have := hp.w
  have n1 := h.cn.nn; have n2 := hp.buy.nn
  have e1 : c.last = c.lo + units c.st := rfl
  have e2 : p.buy.last = p.buy.lo + units p.buy.st := rfl
  have ul : units (mid c p).st = units (shareC c p.buy).st := rfl
  have el : (mid c p).lo = c.lo + p.buy.lo + (0 - p.want) := rfl
  exact ⟨mid_len h hp, m.pos, m.rise, fun s hs => by have := mid_pr h hp s hs; omega, by rw [el]; omega, by rw [ul, u]; omega⟩
theorem stp_fb {i : Nat} (h : FB i c) (hp : PB p) (o : ovl (mid c p) p.keep) : FB (i + 1) (stp c p) := by
  have m := mid_cn h.cn hp.cn
  have cn := stp_cn h.cn hp.cn o
  have l := sum_len m hp.keep o
  have ml := mid_len h hp; have kl := hp.kl
  have ko := hp.ko
  have e1 : (stp c p).lo = max (mid c p).lo p.keep.lo := rfl
  have e2 : (stp c p).last = min (mid c p).last p.keep.last := sum_last m hp.keep o
  refine ⟨cn, by show (sumC (mid c p) p.keep).st.length ≤ _; omega, fun s hs => ?_, ⟨by omega, by omega⟩⟩
  have := sum_pr m hp.keep o (mid_pr h hp) hp.kp s hs
  omega
def farL : Crv → List Per → List Crv
  | c, [] => [c]
  | c, p :: ps => c :: farL (stp c p) ps
theorem farL_ne : ∀ (ps : List Per) (c : Crv), farL c ps ≠ []
  | [], _ => by simp [farL]
  | _ :: _, _ => by simp [farL]
theorem farL_last : ∀ (ps : List Per) (c : Crv), (farL c ps).getLast? = some (far c ps)
  | [], _ => rfl
  | p :: ps, c => by
    show (c :: farL (stp c p) ps).getLast? = _
    rw [List.getLast?_cons_of_ne_nil (farL_ne ps _)]
    exact farL_last ps _
theorem farL_len : ∀ (ps : List Per) (c : Crv), (farL c ps).length = ps.length + 1
  | [], _ => rfl
  | p :: ps, c => by
    show (farL (stp c p) ps).length + 1 = _
    rw [farL_len ps]; rfl
theorem far_fb : ∀ {ps : List Per} {c : Crv} {i : Nat}, FB i c → (∀ p ∈ ps, PB p) → Way c ps → FB (i + ps.length) (far c ps)
  | [], c, i, h, _, _ => h
  | p :: ps, c, i, h, hp, ⟨o, w⟩ => by
    have := far_fb (ps := ps) (stp_fb h (hp p (by simp)) o) (fun q hq => hp q (by simp [hq])) w
    rw [show i + (p :: ps).length = i + 1 + ps.length by simp; omega]
    exact this
theorem costs_for {k : Nat} {S : Store} {B b Ps : D} : ∀ (ps : List Per) (c : Crv) (i : Nat) (acc : List Crv) (x y z : Slot), FB i c → i + ps.length ≤ 6 → (∀ p ∈ ps, PB p) → Way c ps → acc.length + ps.length < 1000 →
    ∃ x' y' z', forL (.tup [.nm 4, .nm 5, .nm 6]) (evSs (Vk (k + 3)) fn_costs_so_far_b1) (evSs (Vk (k + 3)) .nil) (ps.map dP) ⟨[.val B, .own ((acc ++ [c]).map dC), .val b, .val Ps, x, y, z], S⟩ = .ok .nx ⟨[.val B, .own ((acc ++ farL c ps).map dC), .val b, .val Ps, x', y', z'], S⟩
  | [], c, i, acc, x, y, z, _, _, _, _, _ => ⟨x, y, z, by simp [forL, farL]⟩
  | p :: ps, c, i, acc, x, y, z, h, hi, hp, ⟨o, w⟩, hz => by
    simp only [List.length_cons] at hi hz
    have pp := hp p (by simp)
    obtain ⟨x', y', z', e⟩ := costs_for ps (stp c p) (i + 1) (acc ++ [c]) (.val (dC p.buy)) (.val (.int p.want)) (.val (dC p.keep)) (stp_fb h pp o) (by omega) (fun q hq => hp q (by simp [hq])) w (by simp; omega)
    refine ⟨x', y', z', ?_⟩
    have hat : atI ((acc ++ [c]).map dC) (-1) = some (dC c) := atI_neg1 (by simp)
    have hz2 : (acc ++ [c]).length < 16777216 := by simp; omega
    have sh := sharing_ok (k := k + 1) (S := S) (a := c) (b := p.buy) (by have := h.len; have := pp.bl; omega)
    have mv := moved_by_ok (k := k + 2) (S := S) (c := shareC c p.buy) (x := 0 - p.want)
    have sm := sum_of_okW (k := k + 1) (S := S) (n := 10 * i + 4) (m := 3) (by omega) (mid_wk h pp (by omega)) pp.keepW o
    have mv : call (k + 3) 17 [dC (shareC c p.buy), .int (0 - p.want)] S = .ok (dC (mid c p)) ⟨[], S⟩ := mv
    have sm : call (k + 3) 15 [dC (mid c p), dC p.keep] S = .ok (dC (stp c p)) ⟨[], S⟩ := sm
    rw [List.map_cons, forL_cons (s1 := ⟨[.val B, .own ((acc ++ [c]).map dC), .val b, .val Ps, .val (dC p.buy), .val (.int p.want), .val (dC p.keep)], S⟩) (by simp [dP, asg, asgs]) (s2 := ⟨[.val B, .own ((acc ++ [c] ++ [stp c p]).map dC), .val b, .val Ps, .val (dC p.buy), .val (.int p.want), .val (dC p.keep)], S⟩) ?_, e]
    · rw [farL]; simp
    · generalize acc ++ [c] = m at hat hz2
      generalize shareC c p.buy = u at sh mv
      generalize mid c p = u2 at mv sm
      generalize stp c p = u3 at sm
      simp only [Int.zero_sub] at mv
      simp [fn_costs_so_far_b1, hat, hz2, sh, mv, sm]
structure BB (n : Nat) (b : Book) : Prop where
  len : b.ps.length ≤ n
  pos : 1 ≤ b.ps.length
  beg : -10 ^ 12 ≤ b.begin_ ∧ b.begin_ ≤ 10 ^ 12
  per : ∀ p ∈ b.ps, PB p
theorem BB.fit {n : Nat} {b : Book} (h : BB n b) (hn : n ≤ 6) : Fit b := by
  have := h.len
  exact ⟨by omega, fun p hp => by have q := h.per p hp; have := q.bl; have := q.kl; omega⟩
theorem BB.cn {n : Nat} {b : Book} (h : BB n b) : ∀ p ∈ b.ps, PCn p := fun p hp => (h.per p hp).cn
theorem pt_dC (s : Int) : dC (pt s) = .tup [.int s, .int 0, .tup []] := rfl
theorem costs_so_far_ok {n : Nat} {b : Book} (h : BB n b) (hn : n ≤ 6) (w : Way (pt b.begin_) b.ps) : call (k + 4) 32 [dB b] S = .ok (.lst ((farL (pt b.begin_) b.ps).map dC)) ⟨[], S⟩ := by
  rw [call_def fn_costs_so_far rfl rfl]
  have hl := h.len
  obtain ⟨x', y', z', e⟩ := costs_for (k := k) (S := S) (B := dB b) (b := .int b.begin_) (Ps := .tup (b.ps.map dP)) b.ps (pt b.begin_) 0 [] .non .non .non (fb_pt h.beg) (by omega) h.per w (by simp; omega)
  have db : dB b = .tup [.int b.begin_, .tup (b.ps.map dP)] := rfl
  rw [db] at e
  simp only [List.nil_append, List.map_cons, List.map_nil, pt_dC] at e
  generalize hq : farL (pt b.begin_) b.ps = q at e
  generalize b.ps.map dP = ps at *
  rw [db]
  simp [fn_costs_so_far, argsEnv, asg, asgs, e, ev_frz, cFrz]
theorem lowest_ok {n : Nat} {b : Book} (h : BB n b) (hn : n ≤ 6) (w : Way (pt b.begin_) b.ps) : call (k + 5) 33 [dB b] S = .ok (.int (leastC b.begin_ b.ps)) ⟨[], S⟩ := by
  rw [call_def fn_lowest_cost rfl rfl]
  have c1 := costs_so_far_ok (k := k) (S := S) h hn w
  have hl := h.len
  have hat : atI ((farL (pt b.begin_) b.ps).map dC) (-1) = some (dC (far (pt b.begin_) b.ps)) := atI_neg1 (by rw [List.getLast?_map, farL_last]; rfl)
  have fb := far_fb (fb_pt h.beg) h.per w
  have fw := fb.wk (by omega)
  have fs := fw.sane (by omega)
  have g := gain_of_ok (k := k + 2) (S := S) (c := far (pt b.begin_) b.ps) (pr := 0) fs fw.rises (by decide) fw.pl
  have lg : leastC b.begin_ b.ps = 0 - (far (pt b.begin_) b.ps).gain 0 := rfl
  rw [lg]
  generalize (farL (pt b.begin_) b.ps).map dC = q at c1 hat
  generalize far (pt b.begin_) b.ps = f at *
  simp [fn_lowest_cost, argsEnv, c1, hat, g]
/-! ### reasons and ways -/
theorem reach_way : ∀ {ps : List Per} {c : Crv}, Cn c → (∀ p ∈ ps, PCn p) → (reachFrom c.lo c.last ps = none ↔ ¬ Way c ps)
  | [], c, _, _ => ⟨(fun h => by cases h), fun h => absurd trivial h⟩
  | p :: ps, c, hc, hp => by
    have pp := hp p (by simp)
    have m := mid_cn hc pp
    have e1 : (mid c p).lo = c.lo + p.buy.lo + (0 - p.want) := rfl
    have e2 : (mid c p).last = c.last + p.buy.last + (0 - p.want) := by unfold mid; rw [mov_last, share_last hc pp.buy]
    have oi : ovl (mid c p) p.keep ↔ max (mid c p).lo p.keep.lo ≤ min (mid c p).last p.keep.last := Iff.rfl
    rw [reachFrom]
    by_cases z : min p.keep.last (c.last + p.buy.last - p.want) < max p.keep.lo (c.lo + p.buy.lo - p.want)
    · rw [if_pos z]
      refine ⟨fun _ q => ?_, fun _ => rfl⟩
      have := oi.mp q.1
      omega
    · rw [if_neg z]
      have o : ovl (mid c p) p.keep := oi.mpr (by omega)
      have l1 : (stp c p).lo = max (mid c p).lo p.keep.lo := rfl
      have l2 : (stp c p).last = min (mid c p).last p.keep.last := sum_last m pp.keep o
      have ih := reach_way (ps := ps) (stp_cn hc pp o) (fun q hq => hp q (by simp [hq]))
      rw [l1, l2, show max (mid c p).lo p.keep.lo = max p.keep.lo (c.lo + p.buy.lo - p.want) by omega, show min (mid c p).last p.keep.last = min p.keep.last (c.last + p.buy.last - p.want) by omega] at ih
      rw [ih]
      exact ⟨fun q r => q r.2, fun q r => q ⟨o, r⟩⟩
theorem reason_ok {n : Nat} {b : Book} (h : BB n b) (hn : n ≤ 6) : ∃ d, call (k + 4) 28 [dB b] S = .ok d ⟨[], S⟩ ∧ ((d = .non ∧ Way (pt b.begin_) b.ps) ∨ (d.isN = false ∧ ¬ Way (pt b.begin_) b.ps)) := by
  obtain ⟨d, e, hd⟩ := find_reason_ok (k := k) (S := S) (h.fit hn)
  have nn : Nn b := fun p hp => ⟨(h.per p hp).buy.nn, (h.per p hp).keep.nn⟩
  have ri := reach_iff nn
  have rw' := reach_way (pt_cn b.begin_) h.cn
  have e1 : (pt b.begin_).last = b.begin_ := by show b.begin_ + 0 = b.begin_; omega
  have e2 : (pt b.begin_).lo = b.begin_ := rfl
  rw [e1, e2, ri] at rw'
  refine ⟨d, e, ?_⟩
  rcases hd with ⟨rfl, q⟩ | ⟨w, f, l, rfl, h1, h2, h3⟩
  · refine .inl ⟨rfl, ?_⟩
    by_cases z : Way (pt b.begin_) b.ps
    · exact z
    · obtain ⟨w, f, l, h1, h2, h3⟩ := rw'.mpr z
      exact absurd h3 (q w f l h1 h2)
  · exact .inr ⟨rfl, rw'.mp ⟨w, f, l, h1, h2, h3⟩⟩
theorem reason_none {n : Nat} {b : Book} (h : BB n b) (hn : n ≤ 6) (w : Way (pt b.begin_) b.ps) : call (k + 4) 28 [dB b] S = .ok .non ⟨[], S⟩ := by
  obtain ⟨d, e, hd⟩ := reason_ok (k := k) (S := S) h hn
  rcases hd with ⟨rfl, _⟩ | ⟨_, q⟩
  · exact e
  · exact absurd w q
theorem check_way_ok {n : Nat} {b : Book} (h : BB n b) (hn : n ≤ 6) (w : Way (pt b.begin_) b.ps) : call (k + 5) 29 [dB b] S = .ok .non ⟨[], S⟩ := by
  rw [call_def fn_check_way rfl rfl]
  have r := reason_none (k := k) (S := S) h hn w
  simp [fn_check_way, argsEnv, r, D.isN]
theorem least_ok {n : Nat} {b : Book} (h : BB n b) (hn : n ≤ 6) (w : Way (pt b.begin_) b.ps) : call (k + 6) 34 [dB b] S = .ok (.int (leastC b.begin_ b.ps)) ⟨[], S⟩ := by
  rw [call_def fn_least_cost rfl rfl]
  have r := check_way_ok (k := k) (S := S) h hn w
  have l := lowest_ok (k := k) (S := S) h hn w
  simp [fn_least_cost, argsEnv, r, l]
end FW

/-! PlK87: the least cost as a curve of one want; a market beside a period. -/
namespace FW
open PySem L2
variable {k : Nat} {S : Store} {p : Per} {pre post : List Per} {s w : Int}
def atW (p : Per) (w : Int) : Per := ⟨p.buy, w, p.keep⟩
theorem toGo_w (p : Per) (w : Int) (ps : List Per) : toGo (atW p w) ps = toGo p ps := by cases ps <;> rfl
theorem wayB_w (p : Per) (w : Int) (ps : List Per) : WayB (atW p w) ps ↔ WayB p ps := by cases ps <;> exact Iff.rfl
def wC (s : Int) (pre : List Per) (p : Per) (post : List Per) : Crv := shareC (shareC (far (pt s) pre) p.buy) (mirC (toGo p post))
structure Cut (s : Int) (pre : List Per) (p : Per) (post : List Per) : Prop where
  hpre : ∀ q ∈ pre, PCn q
  hp : PCn p
  hpost : ∀ q ∈ post, PCn q
  way : Way (pt s) pre
  wayB : WayB p post
theorem Cut.farCn (h : Cut s pre p post) : Cn (far (pt s) pre) := far_cn (pt_cn s) h.hpre h.way
theorem Cut.goCn (h : Cut s pre p post) : Cn (toGo p post) := toGo_cn h.hp h.hpost h.wayB
theorem Cut.uCn (h : Cut s pre p post) : Cn (shareC (far (pt s) pre) p.buy) := share_cn h.farCn h.hp.buy
theorem Cut.cn (h : Cut s pre p post) : Cn (wC s pre p post) := share_cn h.uCn (mir_cn h.goCn)
theorem share_in {a b : Crv} (ha : Cn a) (hb : Cn b) {x y : Int} (h1 : In a x) (h2 : In b y) : In (shareC a b) (x + y) := by
  have e : (shareC a b).lo = a.lo + b.lo := rfl
  have e2 := share_last ha hb
  unfold In at *
  omega
/-- the cut of a book that some plan fits -/
theorem cut_of {us : List Int} (h1 : ∀ q ∈ pre, PCn q) (h2 : PCn p) (h3 : ∀ q ∈ post, PCn q) (f : fits s (pre ++ p :: post) us) : Cut s pre p post := by
  obtain ⟨u1, u2, e, f1, x, r, e2, a1, a2, a3, a4, f2⟩ := fits_app.mp f
  exact ⟨h1, h2, h3, far_way (pt_cn s) h1 (pt_in.mpr rfl) f1, (toGo_le h2 h3 ⟨a3, a4⟩ f2).1⟩
theorem val_le (h : Cut s pre p post) {us : List Int} (f : fits s (pre ++ atW p w :: post) us) : In (wC s pre p post) w ∧ (wC s pre p post).costAt w ≤ pcost s (pre ++ atW p w :: post) us := by
  obtain ⟨u1, u2, rfl, f1, x, r, rfl, a1, a2, a3, a4, f2⟩ := fits_app.mp f
  have a1 : p.buy.lo ≤ x := a1
  have a2 : x ≤ p.buy.last := a2
  have a3 : p.keep.lo ≤ stockAt s pre u1 + x - w := a3
  have a4 : stockAt s pre u1 + x - w ≤ p.keep.last := a4
  have f2 : fits (stockAt s pre u1 + x - w) post r := f2
  have pc := pcost_app (qs := atW p w :: post) (u2 := x :: r) f1
  obtain ⟨i1, l1⟩ := far_le (pt_cn s) h.hpre (pt_in.mpr rfl) f1
  rw [pt_cost] at l1
  have e2 : pcost (stockAt s pre u1) (atW p w :: post) (x :: r) = p.buy.costAt x + p.keep.costAt (stockAt s pre u1 + x - w) + pcost (stockAt s pre u1 + x - w) post r := rfl
  obtain ⟨_, i2, l2⟩ := toGo_le h.hp h.hpost ⟨a3, a4⟩ f2
  generalize stockAt s pre u1 = t at *
  have iu := share_in h.farCn h.hp.buy i1 ⟨a1, a2⟩
  have lu := share_le h.farCn h.hp.buy i1.1 i1.2 a1 a2
  have im : In (mirC (toGo p post)) (0 - (t + x - w)) := mir_in.mpr i2
  have iw := share_in h.uCn (mir_cn h.goCn) iu im
  have lw := share_le h.uCn (mir_cn h.goCn) iu.1 iu.2 im.1 im.2
  rw [mir_cost h.goCn.rises, show t + x + (0 - (t + x - w)) = w by omega] at lw
  rw [show t + x + (0 - (t + x - w)) = w by omega] at iw
  refine ⟨iw, ?_⟩
  show (shareC (shareC (far (pt s) pre) p.buy) (mirC (toGo p post))).costAt w ≤ _
  omega
theorem val_ex (h : Cut s pre p post) (hw : In (wC s pre p post) w) : ∃ us, fits s (pre ++ atW p w :: post) us ∧ pcost s (pre ++ atW p w :: post) us = (wC s pre p post).costAt w := by
  obtain ⟨y, z, e, y0, y1, z0, z1, ec⟩ := share_split' h.uCn (mir_cn h.goCn) hw.1 hw.2
  obtain ⟨t, x, e2, t0, t1, x0, x1, ec2⟩ := share_split' h.farCn h.hp.buy y0 y1
  obtain ⟨s', u1, i1, f1, e3, c1⟩ := far_ex (pt_cn s) h.hpre h.way ⟨t0, t1⟩
  rw [pt_in] at i1
  subst i1
  rw [pt_cost] at c1
  have ig : In (toGo p post) (t + x - w) := mir_in.mp (by rw [show 0 - (t + x - w) = z by omega]; exact ⟨z0, z1⟩)
  have mc := mir_cost h.goCn.rises (t + x - w)
  rw [show 0 - (t + x - w) = z by omega] at mc
  obtain ⟨ik, r, f2, c2⟩ := toGo_ex h.hp h.hpost h.wayB ig
  subst e3
  refine ⟨u1 ++ x :: r, fits_app.mpr ⟨u1, x :: r, rfl, f1, x, r, rfl, x0, x1, ik.1, ik.2, f2⟩, ?_⟩
  rw [pcost_app f1]
  have e2 : pcost (stockAt s' pre u1) (atW p w :: post) (x :: r) = p.buy.costAt x + p.keep.costAt (stockAt s' pre u1 + x - w) + pcost (stockAt s' pre u1 + x - w) post r := rfl
  have ew : (wC s' pre p post).costAt w = (shareC (shareC (far (pt s') pre) p.buy) (mirC (toGo p post))).costAt w := rfl
  omega
theorem cn_all (h : Cut s pre p post) : ∀ q ∈ pre ++ atW p w :: post, PCn q := fun q hq => by
  rcases List.mem_append.mp hq with z | z
  · exact h.hpre q z
  · rcases List.mem_cons.mp z with rfl | z
    · exact ⟨h.hp.buy, h.hp.keep⟩
    · exact h.hpost q z
theorem way_w (h : Cut s pre p post) : Way (pt s) (pre ++ atW p w :: post) ↔ In (wC s pre p post) w := by
  constructor
  · intro q
    obtain ⟨us, f⟩ := way_ex (cn_all h) q
    exact (val_le h f).1
  · intro q
    obtain ⟨us, f, _⟩ := val_ex h q
    exact far_way (pt_cn s) (cn_all h) (pt_in.mpr rfl) f
theorem least_w (h : Cut s pre p post) (hw : In (wC s pre p post) w) : leastC s (pre ++ atW p w :: post) = (wC s pre p post).costAt w := by
  obtain ⟨us, f, e⟩ := val_ex h hw
  obtain ⟨vs, g, e2⟩ := least_ex (cn_all h) ((way_w h).mpr hw)
  have := least_le (cn_all h) f
  have := (val_le h g).2
  omega
/-! ### convexity -/
def PrOk (c : Crv) (w q : Int) : Prop := (In c (w - 1) → c.costAt w - c.costAt (w - 1) ≤ q) ∧ (In c (w + 1) → q ≤ c.costAt (w + 1) - c.costAt w)
instance {c : Crv} {x : Int} : Decidable (In c x) := by unfold In; infer_instance
theorem prOk_all {c : Crv} (h : Cn c) {q : Int} (hw : In c w) (o : PrOk c w q) {y : Int} (hy : In c y) : c.costAt w ≤ c.costAt y + q * (w - y) := by
  have g := gain_hereC h (p := q) hw.1 hw.2 (fun l hl => by
    by_cases z : c.lo < w
    · rw [before_someC h z hw.2] at hl
      cases hl
      exact o.1 ⟨by omega, by have := hw.2; omega⟩
    · rw [before_none (by omega)] at hl; cases hl) (fun t ht => by
    by_cases z : w < c.last
    · rw [after_someC h hw.1 z] at ht
      cases ht
      exact o.2 ⟨by have := hw.1; omega, by omega⟩
    · rw [after_noneC h (by omega)] at ht; cases ht)
  have l := gain_ge h (p := q) hy.1 hy.2
  rw [g] at l
  rw [Int.mul_sub]
  omega
def lowO (c : Crv) (w : Int) : Option Int := if In c (w - 1) then some (c.costAt w - c.costAt (w - 1)) else none
def highO (c : Crv) (w : Int) : Option Int := if In c (w + 1) then some (c.costAt (w + 1) - c.costAt w) else none
theorem low_le_high {c : Crv} (h : Cn c) (hw : In c w) {l t : Int} (e1 : lowO c w = some l) (e2 : highO c w = some t) : l ≤ t := by
  unfold lowO at e1
  unfold highO at e2
  split at e1
  case isTrue z1 =>
    split at e2
    case isTrue z2 =>
      cases e1; cases e2
      have b := before_someC h (x := w) (by have := z1.1; omega) hw.2
      have a := after_someC h (x := w) hw.1 (by have := z2.2; omega)
      have r := sup_some h hw.1 hw.2
      obtain ⟨q, sq, _⟩ := r
      obtain ⟨g, _⟩ := sup_gain h sq
      have l1 := gain_ge h (p := q) z1.1 z1.2
      have l2 := gain_ge h (p := q) z2.1 z2.2
      rw [g] at l1 l2
      rw [Int.mul_sub] at l1
      rw [Int.mul_add] at l2
      omega
    case isFalse => cases e2
  case isFalse => cases e1
theorem prOk_iff {c : Crv} {q : Int} : PrOk c w q ↔ (∀ l, lowO c w = some l → l ≤ q) ∧ (∀ t, highO c w = some t → q ≤ t) := by
  unfold PrOk lowO highO
  constructor
  · rintro ⟨h1, h2⟩
    refine ⟨fun l hl => ?_, fun t ht => ?_⟩
    · split at hl
      case isTrue z => cases hl; exact h1 z
      case isFalse => cases hl
    · split at ht
      case isTrue z => cases ht; exact h2 z
      case isFalse => cases ht
  · rintro ⟨h1, h2⟩
    exact ⟨fun z => h1 _ (if_pos z), fun z => h2 _ (if_pos z)⟩
/-! ### a market -/
def mkC (q : Int) : Crv := ⟨-9, -9 * q, [(18, q)]⟩
theorem mk_cn (q : Int) : Cn (mkC q) := ⟨fun t ht => by rw [List.mem_singleton.mp ht]; show (0 : Int) < 18; decide, List.pairwise_singleton _ _⟩
theorem mk_in {q x : Int} : In (mkC q) x ↔ -9 ≤ x ∧ x ≤ 9 := by
  have e1 : (mkC q).lo = -9 := rfl
  have e2 : (mkC q).last = 9 := by show -9 + units [(18, q)] = 9; simp [units]
  unfold In
  rw [e1, e2]
theorem mk_cost {q x : Int} (h : -9 ≤ x ∧ x ≤ 9) : (mkC q).costAt x = q * x := by
  show -9 * q + rise [(18, q)] (x - -9) = q * x
  simp only [rise]
  rw [show max 0 (min (18 : Int) (x - -9)) = x + 9 by omega, Int.mul_add]
  omega
def withM (p : Per) (q : Int) : Per := ⟨shareC p.buy (mkC q), p.want, p.keep⟩
theorem withM_cn (h : PCn p) (q : Int) : PCn (withM p q) := ⟨share_cn h.buy (mk_cn q), h.keep⟩
theorem mk_all (h : Cut s pre p post) (q : Int) : ∀ x ∈ pre ++ withM p q :: post, PCn x := fun x hx => by
  rcases List.mem_append.mp hx with z | z
  · exact h.hpre x z
  · rcases List.mem_cons.mp z with rfl | z
    · exact withM_cn h.hp q
    · exact h.hpost x z
theorem mk_le (h : Cut s pre p post) {q m : Int} (hm : -9 ≤ m ∧ m ≤ 9) (hw : In (wC s pre p post) (p.want - m)) : ∃ us, fits s (pre ++ withM p q :: post) us ∧ pcost s (pre ++ withM p q :: post) us ≤ (wC s pre p post).costAt (p.want - m) + q * m := by
  obtain ⟨us, f, e⟩ := val_ex h hw
  obtain ⟨u1, u2, rfl, f1, x, r, rfl, a1, a2, a3, a4, f2⟩ := fits_app.mp f
  have a1 : p.buy.lo ≤ x := a1
  have a2 : x ≤ p.buy.last := a2
  have a3 : p.keep.lo ≤ stockAt s pre u1 + x - (p.want - m) := a3
  have a4 : stockAt s pre u1 + x - (p.want - m) ≤ p.keep.last := a4
  have f2 : fits (stockAt s pre u1 + x - (p.want - m)) post r := f2
  have im : In (mkC q) m := mk_in.mpr hm
  have ib := share_in h.hp.buy (mk_cn q) ⟨a1, a2⟩ im
  have lb := share_le h.hp.buy (mk_cn q) a1 a2 im.1 im.2
  rw [mk_cost hm] at lb
  have et : stockAt s pre u1 + x - (p.want - m) = stockAt s pre u1 + (x + m) - p.want := by omega
  have e2 : pcost (stockAt s pre u1) (atW p (p.want - m) :: post) (x :: r) = p.buy.costAt x + p.keep.costAt (stockAt s pre u1 + x - (p.want - m)) + pcost (stockAt s pre u1 + x - (p.want - m)) post r := rfl
  rw [pcost_app f1, e2] at e
  rw [et] at a3 a4 f2 e
  refine ⟨u1 ++ (x + m) :: r, fits_app.mpr ⟨u1, (x + m) :: r, rfl, f1, x + m, r, rfl, ib.1, ib.2, a3, a4, f2⟩, ?_⟩
  rw [pcost_app f1]
  have e3 : pcost (stockAt s pre u1) (withM p q :: post) ((x + m) :: r) = (shareC p.buy (mkC q)).costAt (x + m) + p.keep.costAt (stockAt s pre u1 + (x + m) - p.want) + pcost (stockAt s pre u1 + (x + m) - p.want) post r := rfl
  omega
theorem mk_ge (h : Cut s pre p post) {q : Int} {us : List Int} (f : fits s (pre ++ withM p q :: post) us) : ∃ m, (-9 ≤ m ∧ m ≤ 9) ∧ In (wC s pre p post) (p.want - m) ∧ (wC s pre p post).costAt (p.want - m) + q * m ≤ pcost s (pre ++ withM p q :: post) us := by
  obtain ⟨u1, u2, rfl, f1, y, r, rfl, a1, a2, a3, a4, f2⟩ := fits_app.mp f
  have a1 : (shareC p.buy (mkC q)).lo ≤ y := a1
  have a2 : y ≤ (shareC p.buy (mkC q)).last := a2
  have a3 : p.keep.lo ≤ stockAt s pre u1 + y - p.want := a3
  have a4 : stockAt s pre u1 + y - p.want ≤ p.keep.last := a4
  have f2 : fits (stockAt s pre u1 + y - p.want) post r := f2
  obtain ⟨x, m, rfl, x0, x1, m0, m1, ec⟩ := share_split' h.hp.buy (mk_cn q) a1 a2
  have hm := mk_in.mp ⟨m0, m1⟩
  rw [mk_cost hm] at ec
  have et : stockAt s pre u1 + (x + m) - p.want = stockAt s pre u1 + x - (p.want - m) := by omega
  have e3 : pcost (stockAt s pre u1) (withM p q :: post) ((x + m) :: r) = (shareC p.buy (mkC q)).costAt (x + m) + p.keep.costAt (stockAt s pre u1 + (x + m) - p.want) + pcost (stockAt s pre u1 + (x + m) - p.want) post r := rfl
  rw [pcost_app f1, e3]
  rw [et] at a3 a4 f2 ⊢
  have fw : fits s (pre ++ atW p (p.want - m) :: post) (u1 ++ x :: r) := fits_app.mpr ⟨u1, x :: r, rfl, f1, x, r, rfl, x0, x1, a3, a4, f2⟩
  obtain ⟨iw, lw⟩ := val_le h fw
  have e2 : pcost (stockAt s pre u1) (atW p (p.want - m) :: post) (x :: r) = p.buy.costAt x + p.keep.costAt (stockAt s pre u1 + x - (p.want - m)) + pcost (stockAt s pre u1 + x - (p.want - m)) post r := rfl
  rw [pcost_app f1, e2] at lw
  exact ⟨m, hm, iw, by omega⟩
theorem market (h : Cut s pre p post) (q : Int) (hw : In (wC s pre p post) p.want) :
    Way (pt s) (pre ++ withM p q :: post) ∧ leastC s (pre ++ withM p q :: post) ≤ (wC s pre p post).costAt p.want ∧ (leastC s (pre ++ withM p q :: post) = (wC s pre p post).costAt p.want ↔ PrOk (wC s pre p post) p.want q) := by
  have all := mk_all h q
  obtain ⟨us0, f0, l0⟩ := mk_le h (q := q) (m := 0) (by decide) (by rw [Int.sub_zero]; exact hw)
  rw [Int.sub_zero, Int.mul_zero] at l0
  have way := far_way (pt_cn s) all (pt_in.mpr rfl) f0
  have le0 := least_le all f0
  refine ⟨way, by omega, fun e => ⟨fun z => ?_, fun z => ?_⟩, fun o => ?_⟩
  · obtain ⟨us, f, l⟩ := mk_le h (q := q) (m := 1) (by decide) z
    have := least_le all f
    omega
  · obtain ⟨us, f, l⟩ := mk_le h (q := q) (m := -1) (by decide) (by rw [show p.want - -1 = p.want + 1 by omega]; exact z)
    rw [show p.want - -1 = p.want + 1 by omega] at l
    have := least_le all f
    omega
  · obtain ⟨us, f, e⟩ := least_ex all way
    obtain ⟨m, hm, im, l⟩ := mk_ge h f
    have := prOk_all h.cn hw o im
    rw [show p.want - (p.want - m) = m by omega] at this
    omega
/-! ### bounds of prices -/
theorem far_pr {M : Int} (hM : 0 ≤ M) : ∀ {ps : List Per} {c : Crv} {A : Int}, 0 ≤ A → Cn c → (∀ p ∈ ps, PCn p) → (∀ p ∈ ps, (∀ t ∈ p.buy.st, -M ≤ t.2 ∧ t.2 ≤ M) ∧ ∀ t ∈ p.keep.st, -M ≤ t.2 ∧ t.2 ≤ M) → Way c ps → (∀ t ∈ c.st, -A ≤ t.2 ∧ t.2 ≤ A) → ∀ t ∈ (far c ps).st, -(A + 2 * (M * ps.length)) ≤ t.2 ∧ t.2 ≤ A + 2 * (M * ps.length)
  | [], c, A, hA, _, _, _, _, h, t, ht => by have := h t ht; simp; omega
  | p :: ps, c, A, hA, hc, hp, hq, ⟨o, w⟩, h, t, ht => by
    have pp := hp p (by simp)
    have pm : ∀ t ∈ (mid c p).st, -(A + M) ≤ t.2 ∧ t.2 ≤ A + M := share_prices (P := fun x => -(A + M) ≤ x ∧ x ≤ A + M) hc.pos pp.buy.pos (fun s hs => by have := h s hs; omega) (fun s hs => by have := (hq p (by simp)).1 s hs; omega)
    have := far_pr hM (ps := ps) (c := stp c p) (A := A + M + M) (by omega) (stp_cn hc pp o) (fun q z => hp q (by simp [z])) (fun q z => hq q (by simp [z])) w (sum_pr (mid_cn hc pp) pp.keep o pm (hq p (by simp)).2) t ht
    have e : M * ((p :: ps).length : Nat) = M * ps.length + M := by
      rw [List.length_cons, show ((ps.length + 1 : Nat) : Int) = (ps.length : Int) + 1 by omega, Int.mul_add, Int.mul_one]
    rw [e]
    omega
theorem mir_prM {M : Int} {c : Crv} (h : ∀ t ∈ c.st, -M ≤ t.2 ∧ t.2 ≤ M) : ∀ t ∈ (mirC c).st, -M ≤ t.2 ∧ t.2 ≤ M := fun t ht => by
  obtain ⟨u, hu, rfl⟩ := List.mem_map.mp ht
  have := h u (List.mem_reverse.mp hu)
  show -M ≤ 0 - u.2 ∧ 0 - u.2 ≤ M
  omega
theorem toGo_pr {M : Int} (hM : 0 ≤ M) : ∀ {ps : List Per} {p : Per}, PCn p → (∀ p ∈ ps, PCn p) → (∀ t ∈ p.keep.st, -M ≤ t.2 ∧ t.2 ≤ M) → (∀ p ∈ ps, (∀ t ∈ p.buy.st, -M ≤ t.2 ∧ t.2 ≤ M) ∧ ∀ t ∈ p.keep.st, -M ≤ t.2 ∧ t.2 ≤ M) → WayB p ps → ∀ t ∈ (toGo p ps).st, -(M + M * ps.length) ≤ t.2 ∧ t.2 ≤ M + M * ps.length
  | [], p, _, _, h, _, _, t, ht => by have := h t ht; simp; omega
  | q :: ps, p, hp, hq, h, hb, ⟨w, o⟩, t, ht => by
    have pq := hq q (by simp)
    have hq' : ∀ x ∈ ps, PCn x := fun x hx => hq x (by simp [hx])
    have ih := toGo_pr hM pq hq' (hb q (by simp)).2 (fun x hx => hb x (by simp [hx])) w
    have cn := toGo_cn pq hq' w
    have nn : 0 ≤ M * (ps.length : Int) := Int.mul_nonneg hM (by omega)
    have l : ∀ t ∈ (laterOf (toGo q ps) q).st, -(M + M * ps.length) ≤ t.2 ∧ t.2 ≤ M + M * ps.length := share_prices (P := fun x => -(M + M * ps.length) ≤ x ∧ x ≤ M + M * ps.length) (mov_cn cn q.want).pos (mir_cn pq.buy).pos ih (fun s hs => by have := mir_prM (hb q (by simp)).1 s hs; omega)
    have := sum_pr hp.keep (later_cn cn pq) o h l t ht
    have e : M * ((q :: ps).length : Nat) = M * ps.length + M := by
      rw [List.length_cons, show ((ps.length + 1 : Nat) : Int) = (ps.length : Int) + 1 by omega, Int.mul_add, Int.mul_one]
    rw [e]
    omega
theorem price_bd {M : Int} (hM : 0 ≤ M) (h : Cut s pre p post) (hb : ∀ p' ∈ pre ++ p :: post, (∀ t ∈ p'.buy.st, -M ≤ t.2 ∧ t.2 ≤ M) ∧ ∀ t ∈ p'.keep.st, -M ≤ t.2 ∧ t.2 ≤ M) : ∀ t ∈ (wC s pre p post).st, -(2 * M + 2 * (M * pre.length) + M * post.length) ≤ t.2 ∧ t.2 ≤ 2 * M + 2 * (M * pre.length) + M * post.length := by
  have n1 : 0 ≤ M * (pre.length : Int) := Int.mul_nonneg hM (by omega)
  have n2 : 0 ≤ M * (post.length : Int) := Int.mul_nonneg hM (by omega)
  have f := far_pr hM (ps := pre) (c := pt s) (A := 0) (by omega) (pt_cn s) h.hpre (fun q z => hb q (by simp [z])) h.way (fun t ht => absurd ht List.not_mem_nil)
  have g := toGo_pr hM h.hp h.hpost (hb p (by simp)).2 (fun q z => hb q (by simp [z])) h.wayB
  generalize M * (pre.length : Int) = X at *
  generalize M * (post.length : Int) = Y at *
  have u := share_prices (P := fun x => -(2 * M + 2 * X + Y) ≤ x ∧ x ≤ 2 * M + 2 * X + Y) h.farCn.pos h.hp.buy.pos (fun s hs => by have := f s hs; omega) (fun s hs => by have := (hb p (by simp)).1 s hs; omega)
  exact share_prices (P := fun x => -(2 * M + 2 * X + Y) ≤ x ∧ x ≤ 2 * M + 2 * X + Y) h.uCn.pos (mir_cn h.goCn).pos u (fun s hs => by have := mir_prM g s hs; omega)
theorem low_bd {c : Crv} (h : Cn c) (hw : In c w) {B l : Int} (hb : ∀ t ∈ c.st, -B ≤ t.2 ∧ t.2 ≤ B) (e : lowO c w = some l) : -B ≤ l ∧ l ≤ B := by
  unfold lowO at e
  split at e
  case isTrue z =>
    cases e
    obtain ⟨t, ht, e2⟩ := before_mem (before_someC h (x := w) (by have := z.1; omega) hw.2)
    rw [← e2]
    exact hb t ht
  case isFalse => cases e
theorem high_bd {c : Crv} (h : Cn c) (hw : In c w) {B l : Int} (hb : ∀ t ∈ c.st, -B ≤ t.2 ∧ t.2 ≤ B) (e : highO c w = some l) : -B ≤ l ∧ l ≤ B := by
  unfold highO at e
  split at e
  case isTrue z =>
    cases e
    obtain ⟨t, ht, e2⟩ := after_mem (after_someC h (x := w) hw.1 (by have := z.2; omega))
    rw [← e2]
    exact hb t ht
  case isFalse => cases e
end FW

/-! PlPlan: the first cheapest plan, the units of the cheapest plans. No program in sight. -/
namespace FW
open PySem L2
variable {s : Int} {p : Per} {pre post ps : List Per}
theorem sup0_iff {c : Crv} (h : Cn c) {x : Int} : (c.best 0 ≤ x ∧ x ≤ c.bestL 0) ↔ In c x ∧ ∀ y, In c y → c.costAt x ≤ c.costAt y := by
  constructor
  · intro q
    obtain ⟨g, i⟩ := sup_gain h (p := 0) (x := x) q
    refine ⟨i, fun y hy => ?_⟩
    have := gain_ge h (p := 0) hy.1 hy.2
    rw [g, Int.zero_mul, Int.zero_mul] at this
    omega
  · rintro ⟨i, m⟩
    obtain ⟨z, hz, e⟩ := (neg_gain h).2
    have := m z hz
    exact sup_of_gain h i.1 i.2 (by rw [Int.zero_mul]; omega)
theorem best_in {c : Crv} (h : Cn c) : In c (c.best 0) ∧ ∀ y, In c y → c.costAt (c.best 0) ≤ c.costAt y := (sup0_iff h).mp ⟨Int.le_refl _, (best_ge h 0).2.1⟩
theorem best_eq {a c : Crv} (ha : Cn a) (hc : Cn c) {t : Int} (hi : ∀ x, In a x ↔ In c x) (hv : ∀ x, In a x → a.costAt x = t + c.costAt x) : a.best 0 = c.best 0 := by
  have b1 := best_in ha
  have b2 := best_in hc
  have q1 : c.best 0 ≤ a.best 0 ∧ a.best 0 ≤ c.bestL 0 := (sup0_iff hc).mpr ⟨(hi _).mp b1.1, fun y hy => by
    have h1 := b1.2 y ((hi y).mpr hy)
    rw [hv _ b1.1, hv _ ((hi y).mpr hy)] at h1
    omega⟩
  have q2 : a.best 0 ≤ c.best 0 ∧ c.best 0 ≤ a.bestL 0 := (sup0_iff ha).mpr ⟨(hi _).mpr b2.1, fun y hy => by
    have h1 := b2.2 y ((hi y).mp hy)
    rw [hv _ ((hi _).mpr b2.1), hv _ hy]
    omega⟩
  omega
/-! ### from a stock -/
def hC (s : Int) (p : Per) (ps : List Per) : Crv := sumC p.buy (movC (toGo p ps) (p.want - s))
def hOv (s : Int) (p : Per) (ps : List Per) : Prop := ovl p.buy (movC (toGo p ps) (p.want - s))
theorem mov_in {r : Crv} {d x : Int} : In (movC r d) x ↔ In r (x - d) := by
  unfold In
  rw [mov_lo, mov_last]
  omega
theorem hOv_of (hp : PCn p) (hq : ∀ q ∈ ps, PCn q) {us : List Int} (f : fits s (p :: ps) us) : WayB p ps ∧ hOv s p ps := by
  obtain ⟨x, r, e, h1, h2, h3, h4, h5⟩ := f
  obtain ⟨w, i, _⟩ := toGo_le hp hq ⟨h3, h4⟩ h5
  have cn := toGo_cn hp hq w
  refine ⟨w, (ovl_iff hp.buy.nn (mov_cn cn _).nn).mpr ⟨x, ⟨h1, h2⟩, mov_in.mpr ?_⟩⟩
  rw [show x - (p.want - s) = s + x - p.want by omega]; exact i
structure HOk (s : Int) (p : Per) (ps : List Per) : Prop where
  hp : PCn p
  hq : ∀ q ∈ ps, PCn q
  w : WayB p ps
  o : hOv s p ps
theorem HOk.cn (h : HOk s p ps) : Cn (hC s p ps) := sum_cn h.hp.buy (mov_cn (toGo_cn h.hp h.hq h.w) _) h.o
theorem hC_in (h : HOk s p ps) {x : Int} : In (hC s p ps) x ↔ In p.buy x ∧ In (toGo p ps) (s + x - p.want) := by
  unfold hC
  rw [sum_in h.hp.buy (mov_cn (toGo_cn h.hp h.hq h.w) _) h.o, mov_in, show x - (p.want - s) = s + x - p.want by omega]
theorem hC_cost (h : HOk s p ps) {x : Int} (hx : In (hC s p ps) x) : (hC s p ps).costAt x = p.buy.costAt x + (toGo p ps).costAt (s + x - p.want) := by
  obtain ⟨h1, h2⟩ := (hC_in h).mp hx
  unfold hC
  rw [sum_costI h.hp.buy (mov_cn (toGo_cn h.hp h.hq h.w) _) h1 (mov_in.mpr (by rw [show x - (p.want - s) = s + x - p.want by omega]; exact h2)), mov_cost, show x - (p.want - s) = s + x - p.want by omega]
theorem hC_le (h : HOk s p ps) {x : Int} {r : List Int} (f : fits s (p :: ps) (x :: r)) : In (hC s p ps) x ∧ (hC s p ps).costAt x ≤ pcost s (p :: ps) (x :: r) := by
  obtain ⟨x', r', e, h1, h2, h3, h4, h5⟩ := f
  cases e
  obtain ⟨w, i, l⟩ := toGo_le h.hp h.hq ⟨h3, h4⟩ h5
  have hx := (hC_in h).mpr ⟨⟨h1, h2⟩, i⟩
  refine ⟨hx, ?_⟩
  rw [hC_cost h hx]
  show _ ≤ p.buy.costAt x + p.keep.costAt (s + x - p.want) + pcost (s + x - p.want) ps r
  omega
theorem hC_ex (h : HOk s p ps) {x : Int} (hx : In (hC s p ps) x) : ∃ r, fits s (p :: ps) (x :: r) ∧ pcost s (p :: ps) (x :: r) = (hC s p ps).costAt x := by
  obtain ⟨h1, h2⟩ := (hC_in h).mp hx
  obtain ⟨ik, r, f, e⟩ := toGo_ex h.hp h.hq h.w h2
  refine ⟨r, ⟨x, r, rfl, h1.1, h1.2, ik.1, ik.2, f⟩, ?_⟩
  rw [hC_cost h hx]
  show p.buy.costAt x + p.keep.costAt (s + x - p.want) + pcost (s + x - p.want) ps r = _
  omega
/-- the first cheapest plan -/
def bpl : Int → List Per → List Int
  | _, [] => []
  | s, p :: ps => (hC s p ps).best 0 :: bpl (s + (hC s p ps).best 0 - p.want) ps
theorem bpl_ok : ∀ {ps : List Per} {s : Int}, (∀ q ∈ ps, PCn q) → (∃ us, fits s ps us) → fits s ps (bpl s ps) ∧ ∀ us, fits s ps us → pcost s ps (bpl s ps) ≤ pcost s ps us
  | [], s, _, _ => ⟨rfl, fun us h => by
    have h : us = [] := h
    subst h
    exact Int.le_refl _⟩
  | p :: ps, s, hc, ⟨us, f⟩ => by
    have hp := hc p (by simp)
    have hq : ∀ q ∈ ps, PCn q := fun q z => hc q (by simp [z])
    obtain ⟨w, o⟩ := hOv_of hp hq f
    have h : HOk s p ps := ⟨hp, hq, w, o⟩
    obtain ⟨bi, bm⟩ := best_in h.cn
    obtain ⟨r, ⟨x', r', e, h1, h2, h3, h4, h5⟩, ec⟩ := hC_ex h bi
    cases e
    obtain ⟨i1, i2⟩ := bpl_ok (ps := ps) (s := s + (hC s p ps).best 0 - p.want) hq ⟨_, h5⟩
    refine ⟨⟨_, _, rfl, h1, h2, h3, h4, i1⟩, fun vs g => ?_⟩
    have l1 := i2 _ h5
    obtain ⟨y, t, rfl, _⟩ := id g
    obtain ⟨yi, yl⟩ := hC_le h g
    have := bm y yi
    have e1 : pcost s (p :: ps) (bpl s (p :: ps)) = p.buy.costAt ((hC s p ps).best 0) + p.keep.costAt (s + (hC s p ps).best 0 - p.want) + pcost (s + (hC s p ps).best 0 - p.want) ps (bpl (s + (hC s p ps).best 0 - p.want) ps) := rfl
    have e2 : pcost s (p :: ps) ((hC s p ps).best 0 :: r) = p.buy.costAt ((hC s p ps).best 0) + p.keep.costAt (s + (hC s p ps).best 0 - p.want) + pcost (s + (hC s p ps).best 0 - p.want) ps r := rfl
    omega
theorem bpl_cost (hc : ∀ q ∈ ps, PCn q) (h : ∃ us, fits s ps us) : pcost s ps (bpl s ps) = leastC s ps := by
  obtain ⟨f, m⟩ := bpl_ok hc h
  obtain ⟨us, g⟩ := h
  obtain ⟨vs, g2, e⟩ := least_ex hc (far_way (pt_cn s) hc (pt_in.mpr rfl) g)
  have := m vs g2
  have := least_le hc f
  omega
theorem bpl_len : ∀ (ps : List Per) (s : Int), (bpl s ps).length = ps.length
  | [], _ => rfl
  | p :: ps, s => by
    show (bpl _ ps).length + 1 = _
    rw [bpl_len ps]; rfl
/-! ### units of the cheapest plans -/
def othC (s : Int) (pre : List Per) (p : Per) (post : List Per) : Crv := shareC (movC (toGo p post) p.want) (mirC (far (pt s) pre))
def gC (s : Int) (pre : List Per) (p : Per) (post : List Per) : Crv := sumC p.buy (othC s pre p post)
def gOv (s : Int) (pre : List Per) (p : Per) (post : List Per) : Prop := ovl p.buy (othC s pre p post)
def fakeP (s : Int) (pre : List Per) (p : Per) : Per := ⟨far (pt s) pre, p.want, p.keep⟩
theorem Cut.fake (c : Cut s pre p post) : PCn (fakeP s pre p) := ⟨c.farCn, c.hp.keep⟩
theorem oth_cn (c : Cut s pre p post) : Cn (othC s pre p post) := share_cn (mov_cn c.goCn _) (mir_cn c.farCn)
theorem oth_le (c : Cut s pre p post) {x t : Int} (h1 : In (far (pt s) pre) t) (h2 : In (toGo p post) (t + x - p.want)) : In (othC s pre p post) x ∧ (othC s pre p post).costAt x ≤ (far (pt s) pre).costAt t + (toGo p post).costAt (t + x - p.want) := by
  have := later_le (p := fakeP s pre p) (s := x) (x := t) c.goCn c.fake h1 (by show In _ (x + t - p.want); rw [show x + t - p.want = t + x - p.want by omega]; exact h2)
  have e : (fakeP s pre p).want = p.want := rfl
  rw [e, show x + t - p.want = t + x - p.want by omega] at this
  exact this
theorem oth_ex (c : Cut s pre p post) {x : Int} (h : In (othC s pre p post) x) : ∃ t, In (far (pt s) pre) t ∧ In (toGo p post) (t + x - p.want) ∧ (othC s pre p post).costAt x = (far (pt s) pre).costAt t + (toGo p post).costAt (t + x - p.want) := by
  obtain ⟨t, h1, h2, e⟩ := later_ex (p := fakeP s pre p) (s := x) c.goCn c.fake h
  have ew : (fakeP s pre p).want = p.want := rfl
  rw [ew, show x + t - p.want = t + x - p.want by omega] at h2 e
  exact ⟨t, h1, h2, e⟩
structure GOk (s : Int) (pre : List Per) (p : Per) (post : List Per) : Prop where
  c : Cut s pre p post
  o : gOv s pre p post
theorem gOk_of {us : List Int} (h1 : ∀ q ∈ pre, PCn q) (h2 : PCn p) (h3 : ∀ q ∈ post, PCn q) (f : fits s (pre ++ p :: post) us) : GOk s pre p post := by
  have c := cut_of h1 h2 h3 f
  obtain ⟨u1, u2, e, f1, x, r, e2, a1, a2, a3, a4, f2⟩ := fits_app.mp f
  obtain ⟨i1, _⟩ := far_le (pt_cn s) h1 (pt_in.mpr rfl) f1
  obtain ⟨_, i2, _⟩ := toGo_le h2 h3 ⟨a3, a4⟩ f2
  exact ⟨c, (ovl_iff h2.buy.nn (oth_cn c).nn).mpr ⟨x, ⟨a1, a2⟩, (oth_le c i1 i2).1⟩⟩
theorem GOk.cn (h : GOk s pre p post) : Cn (gC s pre p post) := sum_cn h.c.hp.buy (oth_cn h.c) h.o
theorem g_le (h : GOk s pre p post) {u1 r : List Int} {x : Int} (f1 : fits s pre u1) (f : fits (stockAt s pre u1) (p :: post) (x :: r)) : In (gC s pre p post) x ∧ (gC s pre p post).costAt x ≤ pcost s (pre ++ p :: post) (u1 ++ x :: r) := by
  obtain ⟨x', r', e, a1, a2, a3, a4, f2⟩ := f
  cases e
  obtain ⟨i1, l1⟩ := far_le (pt_cn s) h.c.hpre (pt_in.mpr rfl) f1
  rw [pt_cost] at l1
  obtain ⟨_, i2, l2⟩ := toGo_le h.c.hp h.c.hpost ⟨a3, a4⟩ f2
  obtain ⟨i3, l3⟩ := oth_le h.c i1 i2
  have ix : In (gC s pre p post) x := (sum_in h.c.hp.buy (oth_cn h.c) h.o).mpr ⟨⟨a1, a2⟩, i3⟩
  have e := sum_costI h.c.hp.buy (oth_cn h.c) ⟨a1, a2⟩ i3
  refine ⟨ix, ?_⟩
  rw [pcost_app f1]
  have e2 : pcost (stockAt s pre u1) (p :: post) (x :: r) = p.buy.costAt x + p.keep.costAt (stockAt s pre u1 + x - p.want) + pcost (stockAt s pre u1 + x - p.want) post r := rfl
  show (sumC p.buy (othC s pre p post)).costAt x ≤ _
  omega
theorem g_ex (h : GOk s pre p post) {x : Int} (hx : In (gC s pre p post) x) : ∃ u1 r, fits s pre u1 ∧ fits (stockAt s pre u1) (p :: post) (x :: r) ∧ pcost s (pre ++ p :: post) (u1 ++ x :: r) = (gC s pre p post).costAt x := by
  obtain ⟨h1, h2⟩ := (sum_in h.c.hp.buy (oth_cn h.c) h.o).mp hx
  obtain ⟨t, i1, i2, e⟩ := oth_ex h.c h2
  obtain ⟨s', u1, i3, f1, e3, c1⟩ := far_ex (pt_cn s) h.c.hpre h.c.way i1
  rw [pt_in] at i3
  subst i3
  rw [pt_cost] at c1
  subst e3
  obtain ⟨ik, r, f2, c2⟩ := toGo_ex h.c.hp h.c.hpost h.c.wayB i2
  refine ⟨u1, r, f1, ⟨x, r, rfl, h1.1, h1.2, ik.1, ik.2, f2⟩, ?_⟩
  rw [pcost_app f1]
  have e2 : pcost (stockAt s' pre u1) (p :: post) (x :: r) = p.buy.costAt x + p.keep.costAt (stockAt s' pre u1 + x - p.want) + pcost (stockAt s' pre u1 + x - p.want) post r := rfl
  have e4 := sum_costI h.c.hp.buy (oth_cn h.c) h1 h2
  show _ = (sumC p.buy (othC s' pre p post)).costAt x
  omega
theorem g_all (h : GOk s pre p post) : ∀ q ∈ pre ++ p :: post, PCn q := fun q hq => by
  rcases List.mem_append.mp hq with z | z
  · exact h.c.hpre q z
  · rcases List.mem_cons.mp z with rfl | z
    · exact h.c.hp
    · exact h.c.hpost q z
/-- the least cost is the least one over the units -/
theorem g_least (h : GOk s pre p post) {x : Int} (hx : In (gC s pre p post) x) : leastC s (pre ++ p :: post) ≤ (gC s pre p post).costAt x ∧ ((gC s pre p post).costAt x = leastC s (pre ++ p :: post) ↔ (gC s pre p post).best 0 ≤ x ∧ x ≤ (gC s pre p post).bestL 0) := by
  have le : ∀ y, In (gC s pre p post) y → leastC s (pre ++ p :: post) ≤ (gC s pre p post).costAt y := fun y hy => by
    obtain ⟨u1, r, f1, f2, e⟩ := g_ex h hy
    have := least_le (g_all h) (fits_app.mpr ⟨u1, y :: r, rfl, f1, f2⟩)
    omega
  obtain ⟨u1, r, f1, f2, e⟩ := g_ex h hx
  obtain ⟨us, f, e2⟩ := least_ex (g_all h) (far_way (pt_cn s) (g_all h) (pt_in.mpr rfl) (fits_app.mpr ⟨u1, x :: r, rfl, f1, f2⟩))
  obtain ⟨v1, v2, rfl, g1, g2⟩ := fits_app.mp f
  obtain ⟨y, t, rfl, _⟩ := id g2
  obtain ⟨iy, ly⟩ := g_le h g1 g2
  have := le y iy
  refine ⟨le x hx, fun q => (sup0_iff h.cn).mpr ⟨hx, fun z hz => by have := le z hz; omega⟩, fun q => ?_⟩
  have := ((sup0_iff h.cn).mp q).2 y iy
  have := le x hx
  omega
/-! ### one period's units fixed -/
def fixP (p : Per) (u : Int) : Per := ⟨⟨u, p.buy.costAt u, []⟩, p.want, p.keep⟩
theorem fix_cn (h : PCn p) (u : Int) : PCn (fixP p u) := ⟨⟨fun _ q => absurd q List.not_mem_nil, List.Pairwise.nil⟩, h.keep⟩
theorem fix_last (p : Per) (u : Int) : (fixP p u).buy.last = u := by show u + 0 = u; omega
theorem fix_cost (p : Per) (u : Int) : (fixP p u).buy.costAt u = p.buy.costAt u := by
  show p.buy.costAt u + rise [] (u - u) = _
  simp [rise]
theorem fix_fits {u t : Int} (hu : In p.buy u) {vs : List Int} : fits t (fixP p u :: post) vs ↔ ∃ r, vs = u :: r ∧ fits t (p :: post) vs := by
  constructor
  · rintro ⟨x, r, rfl, h1, h2, h3, h4, h5⟩
    rw [fix_last] at h2
    have h1 : u ≤ x := h1
    have : x = u := by omega
    subst this
    exact ⟨r, rfl, x, r, rfl, hu.1, hu.2, h3, h4, h5⟩
  · rintro ⟨r, rfl, x, r', e, h1, h2, h3, h4, h5⟩
    cases e
    exact ⟨u, r, rfl, Int.le_refl _, by rw [fix_last]; exact Int.le_refl _, h3, h4, h5⟩
theorem fix_pcost {u t : Int} {r : List Int} : pcost t (fixP p u :: post) (u :: r) = pcost t (p :: post) (u :: r) := by
  show (fixP p u).buy.costAt u + p.keep.costAt (t + u - p.want) + pcost (t + u - p.want) post r = p.buy.costAt u + p.keep.costAt (t + u - p.want) + pcost (t + u - p.want) post r
  rw [fix_cost]
theorem fix_all (h : GOk s pre p post) (u : Int) : ∀ q ∈ pre ++ fixP p u :: post, PCn q := fun q hq => by
  rcases List.mem_append.mp hq with z | z
  · exact h.c.hpre q z
  · rcases List.mem_cons.mp z with rfl | z
    · exact fix_cn h.c.hp u
    · exact h.c.hpost q z
theorem fix_way (h : GOk s pre p post) {u : Int} (hu : In p.buy u) : Way (pt s) (pre ++ fixP p u :: post) ↔ In (gC s pre p post) u := by
  constructor
  · intro w
    obtain ⟨us, f⟩ := way_ex (fix_all h u) w
    obtain ⟨v1, v2, rfl, g1, g2⟩ := fits_app.mp f
    obtain ⟨r, rfl, g3⟩ := (fix_fits hu).mp g2
    exact (g_le h g1 g3).1
  · intro i
    obtain ⟨u1, r, f1, f2, _⟩ := g_ex h i
    exact far_way (pt_cn s) (fix_all h u) (pt_in.mpr rfl) (fits_app.mpr ⟨u1, u :: r, rfl, f1, (fix_fits hu).mpr ⟨r, rfl, f2⟩⟩)
theorem fix_least (h : GOk s pre p post) {u : Int} (hu : In (gC s pre p post) u) : leastC s (pre ++ fixP p u :: post) = (gC s pre p post).costAt u := by
  have hb : In p.buy u := ((sum_in h.c.hp.buy (oth_cn h.c) h.o).mp hu).1
  obtain ⟨u1, r, f1, f2, e⟩ := g_ex h hu
  have f : fits s (pre ++ fixP p u :: post) (u1 ++ u :: r) := fits_app.mpr ⟨u1, u :: r, rfl, f1, (fix_fits hb).mpr ⟨r, rfl, f2⟩⟩
  have l := least_le (fix_all h u) f
  rw [pcost_app f1, fix_pcost, ← pcost_app f1] at l
  obtain ⟨us, g, e2⟩ := least_ex (fix_all h u) ((fix_way h hb).mpr hu)
  obtain ⟨v1, v2, rfl, g1, g2⟩ := fits_app.mp g
  obtain ⟨t, rfl, g3⟩ := (fix_fits hb).mp g2
  have := (g_le h g1 g3).2
  rw [pcost_app g1, fix_pcost, ← pcost_app g1] at e2
  omega
/-! ### the chain of fixed periods -/
def fixL : List Per → List Int → List Per
  | p :: ps, u :: us => fixP p u :: fixL ps us
  | _, _ => []
theorem fixL_len : ∀ {ps : List Per} {us : List Int}, us.length = ps.length → (fixL ps us).length = ps.length
  | [], [], _ => rfl
  | p :: ps, u :: us, h => by show (fixL ps us).length + 1 = _; rw [fixL_len (by simpa using h)]; rfl
theorem fixL_fits : ∀ {ps : List Per} {us : List Int} {s : Int} {vs : List Int}, fits s ps us → (fits s (fixL ps us) vs ↔ vs = us)
  | [], us, s, vs, f => by
    have f : us = [] := f
    subst f
    exact Iff.rfl
  | p :: ps, _, s, vs, ⟨u, r, rfl, h1, h2, h3, h4, h5⟩ => by
    have ih := fixL_fits (vs := vs.tail) h5
    show fits s (fixP p u :: fixL ps r) vs ↔ _
    rw [fix_fits ⟨h1, h2⟩]
    constructor
    · rintro ⟨t, rfl, x, t', e, _, _, _, _, g⟩
      cases e
      rw [(fixL_fits h5).mp g]
    · rintro rfl
      exact ⟨r, rfl, u, r, rfl, h1, h2, h3, h4, (fixL_fits h5).mpr rfl⟩
theorem fixL_pcost : ∀ {ps : List Per} {us : List Int} {s : Int}, fits s ps us → pcost s (fixL ps us) us = pcost s ps us
  | [], us, s, f => by
    have f : us = [] := f
    subst f
    rfl
  | p :: ps, _, s, ⟨u, r, rfl, h1, h2, h3, h4, h5⟩ => by
    have ih := fixL_pcost h5
    show (fixP p u).buy.costAt u + p.keep.costAt (s + u - p.want) + pcost (s + u - p.want) (fixL ps r) r = p.buy.costAt u + p.keep.costAt (s + u - p.want) + pcost (s + u - p.want) ps r
    rw [ih, fix_cost]
theorem fixL_stock : ∀ {ps : List Per} {us : List Int} {s : Int}, fits s ps us → stockAt s (fixL ps us) us = stockAt s ps us
  | [], us, s, f => by
    have f : us = [] := f
    subst f
    rfl
  | p :: ps, _, s, ⟨u, r, rfl, h1, h2, h3, h4, h5⟩ => fixL_stock (ps := ps) (us := r) (s := s + u - p.want) h5
theorem fixL_cn : ∀ {ps : List Per} {us : List Int}, (∀ q ∈ ps, PCn q) → ∀ q ∈ fixL ps us, PCn q
  | [], _, _, q, hq => absurd hq (by simp [fixL])
  | p :: ps, [], _, q, hq => absurd hq (by simp [fixL])
  | p :: ps, u :: us, h, q, hq => by
    rcases List.mem_cons.mp hq with rfl | z
    · exact fix_cn (h p (by simp)) u
    · exact fixL_cn (fun x hx => h x (by simp [hx])) q z
/-- the first units of the chain's next period -/
theorem chain_next {u1 vs : List Int} (h1 : ∀ q ∈ pre, PCn q) (h2 : PCn p) (h3 : ∀ q ∈ post, PCn q) (f1 : fits s pre u1) (f2 : fits (stockAt s pre u1) (p :: post) vs) :
    GOk s (fixL pre u1) p post ∧ (gC s (fixL pre u1) p post).best 0 = (hC (stockAt s pre u1) p post).best 0 := by
  have fx : fits s (fixL pre u1) u1 := (fixL_fits f1).mpr rfl
  have st := fixL_stock f1
  have g : GOk s (fixL pre u1) p post := gOk_of (fixL_cn h1) h2 h3 (fits_app.mpr ⟨u1, vs, rfl, fx, by rw [st]; exact f2⟩)
  obtain ⟨w, o⟩ := hOv_of h2 h3 f2
  have h : HOk (stockAt s pre u1) p post := ⟨h2, h3, w, o⟩
  have key : ∀ x, In (gC s (fixL pre u1) p post) x → In (hC (stockAt s pre u1) p post) x ∧ pcost s (fixL pre u1) u1 + (hC (stockAt s pre u1) p post).costAt x ≤ (gC s (fixL pre u1) p post).costAt x := fun x hx => by
    obtain ⟨v1, r, a1, a2, e⟩ := g_ex g hx
    rw [(fixL_fits f1).mp a1] at a2 e
    rw [st] at a2
    obtain ⟨i, l⟩ := hC_le h a2
    rw [pcost_app fx, st] at e
    exact ⟨i, by omega⟩
  have key2 : ∀ x, In (hC (stockAt s pre u1) p post) x → In (gC s (fixL pre u1) p post) x ∧ (gC s (fixL pre u1) p post).costAt x ≤ pcost s (fixL pre u1) u1 + (hC (stockAt s pre u1) p post).costAt x := fun x hx => by
    obtain ⟨r, a, e⟩ := hC_ex h hx
    rw [← st] at a
    obtain ⟨i, l⟩ := g_le g fx a
    rw [pcost_app fx, st] at l
    exact ⟨i, by omega⟩
  refine ⟨g, best_eq g.cn h.cn (t := pcost s (fixL pre u1) u1) (fun x => ⟨fun q => (key x q).1, fun q => (key2 x q).1⟩) fun x hx => ?_⟩
  obtain ⟨i, l⟩ := key x hx
  have := (key2 x i).2
  omega
end FW

/-! PlK87b: the words about one period's want and its prices. -/
namespace FW
open PySem L2
variable {k : Nat} {S : Store} {p : Per} {pre post : List Per} {s w : Int}
theorem cutA (A B : List D) (x : D) : slD (.tup (A ++ x :: B)) none (some (A.length : Int)) = some (.tup A) := by
  show some (D.tup (cutL (A ++ x :: B) none (some (A.length : Int)))) = _
  rw [cut_take _ (by simp), List.take_left']
  rfl
theorem cutB (A B : List D) (x : D) : slD (.tup (A ++ x :: B)) (some ((A.length : Int) + 1)) none = some (.tup B) := by
  show some (D.tup (cutL (A ++ x :: B) (some ((A.length : Int) + 1)) none)) = _
  rw [show ((A.length : Int) + 1) = ((A.length + 1 : Nat) : Int) by omega, cut_drop _ (by simp)]
  congr 2
  rw [show A ++ x :: B = (A ++ [x]) ++ B by simp, List.drop_left' (by simp)]
theorem atA (A B : List D) (x : D) : ixD (.tup (A ++ x :: B)) (.int (A.length : Int)) = some x := by
  show atI (A ++ x :: B) (A.length : Int) = some x
  rw [atI_nat (by simp)]
  simp
theorem dB_app (s : Int) (pre post : List Per) (p : Per) : dB ⟨s, pre ++ p :: post⟩ = .tup [.int s, .tup (pre.map dP ++ dP p :: post.map dP)] := by
  unfold dB
  simp
theorem with_period_ok {q : Per} (h : pre.length + post.length < 1000) : call (k + 1) 562 [dB ⟨s, pre ++ p :: post⟩, .int (pre.length : Nat), dP q] S = .ok (dB ⟨s, pre ++ q :: post⟩) ⟨[], S⟩ := by
  rw [call_def fn_law_with_period rfl rfl, dB_app, dB_app]
  have e1 := cutA (pre.map dP) (post.map dP) (dP p)
  have e2 := cutB (pre.map dP) (post.map dP) (dP p)
  have z : (pre.map dP).length + ((post.map dP).length + 1) < 16777216 := by rw [List.length_map, List.length_map]; omega
  rw [List.length_map] at e1 e2
  generalize pre.map dP = A at *
  generalize post.map dP = B at *
  generalize (pre.length : Int) = i at *
  generalize dP p = x at *
  generalize dP q = y at *
  have a1 : addD (.tup A) (.tup [y]) = some (.tup (A ++ [y])) := by
    show gd _ _ = _
    rw [szOk_le (by simp; omega)]; rfl
  have a2 : addD (.tup (A ++ [y])) (.tup B) = some (.tup (A ++ y :: B)) := by
    show gd _ _ = _
    rw [szOk_le (by simp; omega)]
    show some (D.tup (A ++ [y] ++ B)) = _
    simp
  simp [-addD, fn_law_with_period, argsEnv, e1, e2, a1, a2]
structure Mk (p : Per) : Prop where
  b : PB p
  d : DatOk p.buy
  l : p.buy.st.length ≤ 3
  o : -10 ^ 11 ≤ p.buy.lo ∧ p.buy.last ≤ 10 ^ 11
  pr : (∀ t ∈ p.buy.st, -12 ≤ t.2 ∧ t.2 ≤ 12) ∧ ∀ t ∈ p.keep.st, -12 ≤ t.2 ∧ t.2 ≤ 12
  w : -10 ^ 11 ≤ p.want ∧ p.want ≤ 10 ^ 11
theorem mk_dat {q : Int} (hq : -10 ^ 6 ≤ q ∧ q ≤ 10 ^ 6) : DatOk (mkC q) :=
  ⟨by show (-10 ^ 12 : Int) ≤ -9 ∧ (-9 : Int) ≤ 10 ^ 12; decide, ⟨by show -10 ^ 12 ≤ -9 * q; omega, by show -9 * q ≤ 10 ^ 12; omega⟩, by show 1 ≤ 6; decide, fun t ht => by rw [List.mem_singleton.mp ht]; show (1 : Int) ≤ 18; decide, List.pairwise_singleton _ _, fun t ht => by rw [List.mem_singleton.mp ht]; exact hq, by show -9 + units [(18, q)] ≤ _; simp [units]⟩
theorem mk_pb {q : Int} (h : Mk p) (hq : -10 ^ 6 ≤ q ∧ q ≤ 10 ^ 6) : PB (withM p q) := by
  have m := mk_cn q
  have sl := share_len p.buy (mkC q)
  have e1 : (mkC q).st.length = 1 := rfl
  have l := h.l
  have b := h.b
  have ls := share_last b.buy m
  have e2 : (mkC q).last = 9 := by show -9 + units [(18, q)] = 9; simp [units]
  have e3 : (shareC p.buy (mkC q)).lo = p.buy.lo + -9 := rfl
  have o := h.o
  refine ⟨share_cn b.buy m, b.keep, by show (shareC p.buy (mkC q)).st.length ≤ 4; omega, b.kl, share_prices (P := fun x => -10 ^ 6 ≤ x ∧ x ≤ 10 ^ 6) b.buy.pos m.pos b.bp (fun t ht => by rw [List.mem_singleton.mp ht]; exact hq), b.kp, ⟨by show _ ≤ (shareC p.buy (mkC q)).lo; omega, by show (shareC p.buy (mkC q)).last ≤ _; omega⟩, b.ko, b.w⟩
/-! ### worths -/
def worthO (c : Crv) (w st : Int) : Option Int := if In c (w + st) then some (c.costAt (w + st) - c.costAt w) else none
theorem bb_w {n : Nat} (h : BB n ⟨s, pre ++ p :: post⟩) (hw : -10 ^ 12 ≤ w ∧ w ≤ 10 ^ 12) : BB n ⟨s, pre ++ atW p w :: post⟩ := by
  have l := h.len; have b := h.pos
  simp only [List.length_append, List.length_cons] at l
  refine ⟨by simp; omega, by simp; omega, h.beg, fun q hq => ?_⟩
  have per := h.per
  simp only at per hq
  rcases List.mem_append.mp hq with z | z
  · exact per q (List.mem_append.mpr (.inl z))
  · rcases List.mem_cons.mp z with rfl | z
    · have := per p (by simp)
      exact ⟨this.buy, this.keep, this.bl, this.kl, this.bp, this.kp, this.bo, this.ko, hw⟩
    · exact per q (by simp [z])
theorem bb_m {n : Nat} {q : Int} (h : BB n ⟨s, pre ++ p :: post⟩) (hp : Mk p) (hq : -10 ^ 6 ≤ q ∧ q ≤ 10 ^ 6) : BB n ⟨s, pre ++ withM p q :: post⟩ := by
  have l := h.len; have b := h.pos
  simp only [List.length_append, List.length_cons] at l
  refine ⟨by simp; omega, by simp; omega, h.beg, fun x hx => ?_⟩
  have per := h.per
  simp only at per hx
  rcases List.mem_append.mp hx with z | z
  · exact per x (List.mem_append.mpr (.inl z))
  · rcases List.mem_cons.mp z with rfl | z
    · exact mk_pb hp hq
    · exact per x (by simp [z])
theorem atW_self (p : Per) : atW p p.want = p := rfl
theorem mk_of {g : Int} {m : Nat} {b : Book} (h : BookOk g m b) (hg : 1 ≤ g) (hg2 : g ≤ 10 ^ 10) (hm : m ≤ 6) : BB m b ∧ ∀ p ∈ b.ps, Mk p := by
  have per : ∀ p ∈ b.ps, Mk p := fun p hp => by
    have q := h.per p hp
    have b1 := q.blo; have w := q.want; have kl := q.klo
    have u1 := q.buy.st.le (by omega); have u2 := q.keep.st.le (by omega)
    have n1 := q.buy.st.nn; have n2 := q.keep.st.nn
    have l1 := q.buy.st.len; have l2 := q.keep.st.len
    have c1 := q.buy.cost
    have km : 10 * g * ((m : Int) + 2) ≤ 10 * g * 8 := Int.mul_le_mul_of_nonneg_left (by omega) (by omega)
    have cb : Cn p.buy := ⟨fun t ht => by have := (q.buy.st.cnt t ht).1; omega, q.buy.st.rise⟩
    have ck : Cn p.keep := ⟨fun t ht => by have := (q.keep.st.cnt t ht).1; omega, q.keep.st.rise⟩
    have p1 := q.buy.st.pr; have p2 := q.keep.st.pr
    have e1 : p.buy.last = p.buy.lo + units p.buy.st := rfl
    have e2 : p.keep.last = p.keep.lo + units p.keep.st := rfl
    have u1 : units p.buy.st ≤ g * 3 := u1
    have u2 : units p.keep.st ≤ g * 3 := u2
    refine ⟨⟨cb, ck, by omega, l2, fun t ht => by have := p1 t ht; omega, fun t ht => by have := p2 t ht; omega, by omega, by omega, by omega⟩, ⟨by omega, by omega, by omega, fun t ht => (q.buy.st.cnt t ht).1, q.buy.st.rise, fun t ht => by have := p1 t ht; omega, by omega⟩, l1, by omega, ⟨fun t ht => by have := p1 t ht; omega, fun t ht => by have := p2 t ht; omega⟩, by omega⟩
  have := h.beg
  exact ⟨⟨h.len, h.pos, by omega, fun p hp => (per p hp).b⟩, per⟩
end FW

/-! PlPlan2: costs to go, best plans, ranges: the program's words. -/
namespace FW
open PySem L2
variable {k : Nat} {S : Store} {s : Int} {p : Per} {pre post ps : List Per} {c : Crv}
/-- a curve of least costs from a stock on, j periods behind it -/
structure GB (j : Nat) (c : Crv) : Prop where
  cn : Cn c
  len : c.st.length ≤ 10 * j + 3
  pr : ∀ s ∈ c.st, -(2 * 10 ^ 6 * (j : Int) + 10 ^ 6) ≤ s.2 ∧ s.2 ≤ 2 * 10 ^ 6 * (j : Int) + 10 ^ 6
  o : -10 ^ 12 ≤ c.lo ∧ c.last ≤ 10 ^ 12
theorem GB.un {j : Nat} (h : GB j c) : units c.st ≤ 2 * 10 ^ 12 := by
  have := h.o
  have e : c.last = c.lo + units c.st := rfl
  omega
theorem GB.lo {j : Nat} (h : GB j c) : -10 ^ 12 ≤ c.lo ∧ c.lo ≤ 10 ^ 12 := by
  have := h.o; have := h.cn.nn
  have e : c.last = c.lo + units c.st := rfl
  omega
theorem gb_mov {j : Nat} (h : GB j c) (hj : j ≤ 20) {d : Int} (hd : -10 ^ 13 ≤ d ∧ d ≤ 10 ^ 13) : Wk (10 * j + 3) (movC c d) := by
  have := h.lo; have u := h.un
  exact ⟨h.len, h.cn.pos, h.cn.rise, fun s hs => by have := h.pr s hs; omega, ⟨by show _ ≤ c.lo + d; omega, by show c.lo + d ≤ _; omega⟩, by show units c.st ≤ _; omega⟩
theorem mir_len (c : Crv) : (mirC c).st.length = c.st.length := by
  show (c.st.reverse.map neP).length = _
  rw [List.length_map, List.length_reverse]
theorem later_wk {j : Nat} (h : GB j c) (hp : PB p) (hj : j ≤ 20) : Wk (10 * j + 7) (laterOf c p) := by
  have cn := later_cn (p := p) h.cn hp.cn
  have m := mov_cn h.cn p.want
  have r := mir_cn hp.buy
  have sl := share_len (movC c p.want) (mirC p.buy)
  have e1 : (movC c p.want).st.length = c.st.length := rfl
  have e2 := mir_len p.buy
  have l1 := h.len; have l2 := hp.bl
  have su := share_units m.pos r.pos
  have e3 : units (movC c p.want).st = units c.st := rfl
  have e4 := mir_units p.buy
  have u1 := h.un; have u2 := hp.buyW.un
  have o1 := h.lo; have o2 := hp.bo; have o3 := hp.w
  have n2 := hp.buy.nn
  have e5 : p.buy.last = p.buy.lo + units p.buy.st := rfl
  have sp := share_prices (P := fun x => -(2 * 10 ^ 6 * (j : Int) + 10 ^ 6) ≤ x ∧ x ≤ 2 * 10 ^ 6 * (j : Int) + 10 ^ 6) m.pos r.pos h.pr (fun t ht => by have := mir_prM hp.bp t ht; omega)
  have el : (laterOf c p).lo = c.lo + p.want + (0 - p.buy.last) := rfl
  exact ⟨by show (shareC (movC c p.want) (mirC p.buy)).st.length ≤ _; omega, cn.pos, cn.rise, fun t ht => by have := sp t ht; omega, by rw [el]; omega, by show units (shareC (movC c p.want) (mirC p.buy)).st ≤ _; omega⟩
theorem later_pr {j : Nat} (h : GB j c) (hp : PB p) : ∀ t ∈ (laterOf c p).st, -(2 * 10 ^ 6 * (j : Int) + 10 ^ 6) ≤ t.2 ∧ t.2 ≤ 2 * 10 ^ 6 * (j : Int) + 10 ^ 6 :=
  share_prices (P := fun x => -(2 * 10 ^ 6 * (j : Int) + 10 ^ 6) ≤ x ∧ x ≤ 2 * 10 ^ 6 * (j : Int) + 10 ^ 6) (mov_cn h.cn p.want).pos (mir_cn hp.buy).pos h.pr (fun t ht => by have := mir_prM hp.bp t ht; omega)
theorem toGo_gb : ∀ {ps : List Per} {p : Per}, PB p → (∀ q ∈ ps, PB q) → WayB p ps → ps.length ≤ 20 → GB ps.length (toGo p ps)
  | [], p, hp, _, _, _ => ⟨hp.keep, hp.kl, fun t ht => by have := hp.kp t ht; simp; omega, hp.ko⟩
  | q :: ps, p, hp, hq, ⟨w, o⟩, hl => by
    simp only [List.length_cons] at hl
    have pq := hq q (by simp)
    have hq' : ∀ x ∈ ps, PB x := fun x hx => hq x (by simp [hx])
    have g := toGo_gb pq hq' w (by omega)
    have lw := later_wk (p := q) g pq (by omega)
    have cn := sum_cn hp.keep lw.cn o
    have l := sum_len hp.keep lw.cn o
    have l1 := hp.kl; have l2 := lw.len
    have ko := hp.ko
    have e1 : (toGo p (q :: ps)).lo = max p.keep.lo (laterOf (toGo q ps) q).lo := rfl
    have e2 : (toGo p (q :: ps)).last = min p.keep.last (laterOf (toGo q ps) q).last := sum_last hp.keep lw.cn o
    refine ⟨cn, by show (sumC p.keep (laterOf (toGo q ps) q)).st.length ≤ _; rw [List.length_cons]; omega, fun t ht => ?_, by omega⟩
    have := sum_pr hp.keep lw.cn o hp.kp (later_pr g pq) t ht
    rw [List.length_cons]
    omega
def goL : List Per → List Crv
  | [] => []
  | p :: ps => toGo p ps :: goL ps
theorem goL_len : ∀ ps : List Per, (goL ps).length = ps.length
  | [] => rfl
  | p :: ps => by show (goL ps).length + 1 = _; rw [goL_len ps]; rfl
theorem goL_at : ∀ (pre : List Per) (p : Per) (post : List Per), (goL (pre ++ p :: post))[pre.length]? = some (toGo p post)
  | [], _, _ => rfl
  | q :: pre, p, post => goL_at pre p post
theorem farL_at : ∀ (pre : List Per) (c : Crv) (post : List Per), (farL c (pre ++ post))[pre.length]? = some (far c pre)
  | [], c, [] => rfl
  | [], c, _ :: _ => rfl
  | q :: pre, c, post => farL_at pre (stp c q) post
def laterD : List Per → D
  | [] => .non
  | q :: ps => dC (laterOf (toGo q ps) q)
def WayS : List Per → Prop
  | [] => True
  | q :: ps => WayB q ps
theorem wayS_suf : ∀ (a : List Per) {b : List Per}, WayS (a ++ b) → WayS b
  | [], _, h => h
  | [q], [], _ => trivial
  | [q], r :: b, h => h.1
  | q :: q2 :: a, b, h => wayS_suf (q2 :: a) h.1
theorem togo_for {k : Nat} {S : Store} {B : D} : ∀ (l suf : List Per) (x y z : Slot), (∀ p ∈ l ++ suf, PB p) → WayS (l.reverse ++ suf) → l.length + suf.length ≤ 6 →
    ∃ x' y' z', forL (.tup [.nm 3, .nm 4, .nm 5]) (evSs (Vk (k + 2)) fn_costs_to_go_b1) (evSs (Vk (k + 2)) .nil) (l.map dP) ⟨[.val B, .own ((goL suf).reverse.map dC), .val (laterD suf), x, y, z], S⟩ = .ok .nx ⟨[.val B, .own ((goL (l.reverse ++ suf)).reverse.map dC), .val (laterD (l.reverse ++ suf)), x', y', z'], S⟩
  | [], suf, x, y, z, _, _, _ => ⟨x, y, z, by simp [forL]⟩
  | p :: l, suf, x, y, z, hp, w, hz => by
    simp only [List.length_cons] at hz
    have w2 : WayS (l.reverse ++ (p :: suf)) := by rw [List.reverse_cons, List.append_assoc] at w; exact w
    have ws := wayS_suf l.reverse w2
    have pp : PB p := hp p (by simp)
    have hs : ∀ q ∈ suf, PB q := fun q hq => hp q (by simp [hq])
    obtain ⟨x', y', z', e⟩ := togo_for (k := k) (S := S) (B := B) l (p :: suf) (.val (dC p.buy)) (.val (.int p.want)) (.val (dC p.keep)) (fun q hq => by
      rcases List.mem_append.mp hq with z | z
      · exact hp q (by simp [z])
      · rcases List.mem_cons.mp z with rfl | z
        · exact pp
        · exact hs q z) w2 (by simp; omega)
    refine ⟨x', y', z', ?_⟩
    have g := toGo_gb pp hs ws (by omega)
    have hat : atI ((goL (p :: suf)).reverse.map dC) (-1) = some (dC (toGo p suf)) := atI_neg1 (by rw [List.getLast?_map]; simp [goL])
    have er : (goL (p :: suf)).reverse.map dC = (goL suf).reverse.map dC ++ [dC (toGo p suf)] := by simp [goL]
    rw [er] at hat
    have hz2 : ((goL suf).reverse.map dC).length < 16777216 := by rw [List.length_map, List.length_reverse, goL_len]; omega
    have mv := moved_by_ok (k := k + 1) (S := S) (c := toGo p suf) (x := p.want)
    have mr := mirror_of_okW (k := k) (S := S) (n := 4) (by decide) pp.buyW
    have sh := sharing_ok (k := k) (S := S) (a := movC (toGo p suf) p.want) (b := mirC p.buy) (by have := g.len; have := pp.bl; have := mir_len p.buy; show (toGo p suf).st.length + _ < _; omega)
    have ld : laterD (p :: suf) = dC (shareC (movC (toGo p suf) p.want) (mirC p.buy)) := rfl
    rw [List.map_cons, forL_cons (s1 := ⟨[.val B, .own ((goL suf).reverse.map dC), .val (laterD suf), .val (dC p.buy), .val (.int p.want), .val (dC p.keep)], S⟩) (by simp [dP, asg, asgs]) (s2 := ⟨[.val B, .own ((goL (p :: suf)).reverse.map dC), .val (laterD (p :: suf)), .val (dC p.buy), .val (.int p.want), .val (dC p.keep)], S⟩) ?_, e]
    · rw [List.reverse_cons, List.append_assoc]; rfl
    · rw [er, ld]
      cases suf with
      | nil =>
        simp only [show toGo p [] = p.keep from rfl] at hat er mv mr sh ⊢
        generalize shareC (movC p.keep p.want) (mirC p.buy) = u at *
        generalize movC p.keep p.want = u2 at *
        generalize mirC p.buy = u3 at *
        simp only [goL, List.reverse_nil, List.map_nil, List.nil_append] at *
        simp [fn_costs_to_go_b1, laterD, D.isN, hat, mv, mr, sh]
      | cons q suf =>
        have lw := later_wk (p := q) (toGo_gb (hs q (by simp)) (fun x hx => hs x (by simp [hx])) ws.1 (by simp at hz; omega)) (hs q (by simp)) (by simp at hz; omega)
        have sm := sum_of_okW (k := k) (S := S) (n := 3) (m := 10 * suf.length + 7) (by simp only [List.length_cons] at hz; omega) pp.keepW lw ws.2
        have sm : call (k + 2) 15 [dC p.keep, laterD (q :: suf)] S = .ok (dC (toGo p (q :: suf))) ⟨[], S⟩ := sm
        have nn : (laterD (q :: suf)).isN = false := rfl
        generalize laterD (q :: suf) = ld at *
        generalize toGo p (q :: suf) = u0 at *
        generalize (goL (q :: suf)).reverse.map dC = L at *
        generalize shareC (movC u0 p.want) (mirC p.buy) = u at *
        generalize movC u0 p.want = u2 at *
        generalize mirC p.buy = u3 at *
        simp [fn_costs_to_go_b1, nn, sm, hz2, hat, mv, mr, sh]
theorem costs_to_go_ok {n : Nat} {b : Book} (h : BB n b) (hn : n ≤ 6) (w : WayS b.ps) : call (k + 3) 294 [dB b] S = .ok (.lst ((goL b.ps).map dC)) ⟨[], S⟩ := by
  rw [call_def fn_costs_to_go rfl rfl]
  have hl := h.len
  obtain ⟨x', y', z', e⟩ := togo_for (k := k) (S := S) (B := dB b) b.ps.reverse [] .non .non .non (fun p hp => h.per p (by simpa using hp)) (by simpa using w) (by simp; omega)
  have i1 : ixD (dB b) (.int 1) = some (.tup (b.ps.map dP)) := rfl
  rw [List.reverse_reverse, List.append_nil, List.map_reverse] at e
  simp only [goL, List.reverse_nil, List.map_nil, laterD] at e
  have er : ((goL b.ps).reverse.map dC).reverse = (goL b.ps).map dC := by rw [List.map_reverse, List.reverse_reverse]
  rw [← er]
  generalize (goL b.ps).reverse.map dC = G at *
  generalize laterD b.ps = L at *
  generalize b.ps.map dP = M at *
  generalize dB b = B at *
  simp [fn_costs_to_go, argsEnv, i1, e, ev_frz, cFrz]
theorem wayS_of {us : List Int} (h : ∀ q ∈ ps, PCn q) (f : fits s ps us) : WayS ps := by
  cases ps with
  | nil => trivial
  | cons p post => exact (hOv_of (h p (by simp)) (fun q z => h q (by simp [z])) f).1
/-! ### plans -/
theorem best_of0 {c : Crv} : call (k + 1) 30 [dC c, .int 0] S = .ok (.tup [.int (c.best 0), .int (c.bestL 0)]) ⟨[], S⟩ := best_of_ok2
theorem units_at_ok {n : Nat} {x : Int} (h : BB n ⟨s, pre ++ p :: post⟩) (hn : n ≤ 6) (hk : HOk x p post) (hx : -10 ^ 12 ≤ x ∧ x ≤ 10 ^ 12) : call (k + 3) 295 [dB ⟨s, pre ++ p :: post⟩, .lst ((goL (pre ++ p :: post)).map dC), .int (pre.length : Nat), .int x] S = .ok (.tup [.int ((hC x p post).best 0), .int ((hC x p post).bestL 0)]) ⟨[], S⟩ := by
  rw [call_def fn_units_at rfl rfl]
  have l := h.len
  simp only [List.length_append, List.length_cons] at l
  have pp : PB p := h.per p (by simp)
  have hq : ∀ q ∈ post, PB q := fun q hq => h.per q (by simp [hq])
  have g := toGo_gb pp hq hk.w (by omega)
  have pw := pp.w
  have mw := gb_mov g (by omega) (d := p.want - x) (by omega)
  have mv := moved_by_ok (k := k + 1) (S := S) (c := toGo p post) (x := p.want - x)
  have sm := sum_of_okW (k := k) (S := S) (n := 4) (m := 10 * post.length + 3) (by omega) pp.buyW mw hk.o
  have sm : call (k + 2) 15 [dC p.buy, dC (movC (toGo p post) (p.want - x))] S = .ok (dC (hC x p post)) ⟨[], S⟩ := sm
  have e3 := atA (pre.map dP) (post.map dP) (dP p)
  rw [List.length_map] at e3
  have e0 := dB_app s pre post p
  have i1 : ixD (dB ⟨s, pre ++ p :: post⟩) (.int 1) = some (.tup (pre.map dP ++ dP p :: post.map dP)) := by rw [e0]; rfl
  have ep : dP p = .tup [dC p.buy, .int p.want, dC p.keep] := rfl
  have ga : ixD (.lst ((goL (pre ++ p :: post)).map dC)) (.int (pre.length : Nat)) = some (dC (toGo p post)) := by
    show atI _ _ = _
    have gl := goL_at pre p post
    have hlt : pre.length < ((goL (pre ++ p :: post)).map dC).length := by rw [List.length_map, goL_len]; simp
    rw [atI_nat hlt, List.getElem_map]
    have := List.getElem?_eq_some_iff.mp gl
    rw [this.2]
  have bo := best_of0 (k := k + 1) (S := S) (c := hC x p post)
  rw [ep] at e3 i1
  generalize dB ⟨s, pre ++ p :: post⟩ = B at *
  generalize (goL (pre ++ p :: post)).map dC = G at *
  generalize (pre.length : Int) = i at *
  generalize pre.map dP ++ .tup [dC p.buy, .int p.want, dC p.keep] :: post.map dP = L at *
  generalize hC x p post = H at *
  generalize movC (toGo p post) (p.want - x) = M at *
  generalize toGo p post = T at *
  simp [fn_units_at, argsEnv, asg, asgs, i1, e3, ga, mv, sm, bo]
def stocksL : Int → List Per → List Int → List Int
  | s, p :: ps, u :: us => (s + u - p.want) :: stocksL (s + u - p.want) ps us
  | _, _, _ => []
theorem stocks_last : ∀ (ps : List Per) (us : List Int) (s : Int), (s :: stocksL s ps us).getLast? = some (stockAt s ps us)
  | [], us, s => by cases us <;> rfl
  | p :: ps, [], s => rfl
  | p :: ps, u :: us, s => by
    show (s :: (s + u - p.want) :: stocksL (s + u - p.want) ps us).getLast? = _
    rw [List.getLast?_cons_cons]
    exact stocks_last ps us _
theorem stocks_len : ∀ (ps : List Per) (us : List Int) (s : Int), (stocksL s ps us).length ≤ ps.length
  | [], us, s => by cases us <;> simp [stocksL]
  | p :: ps, [], s => by simp [stocksL]
  | p :: ps, u :: us, s => by simp [stocksL, stocks_len ps us]
theorem stocks_for {k : Nat} {S : Store} {B P : D} : ∀ (ps : List Per) (us : List Int) (acc : List Int) (x : Int) (a b c d : Slot), acc.length + ps.length < 1000 →
    ∃ a' b' c' d', forL (.tup [.nm 3, .tup [.nm 4, .nm 5, .nm 6]]) (evSs (Vk k) fn_stocks_after_b1) (evSs (Vk k) .nil) (zipL (us.map .int) (ps.map dP)) ⟨[.val B, .val P, .val (.tup ((acc ++ [x]).map .int)), a, b, c, d], S⟩ =
      .ok .nx ⟨[.val B, .val P, .val (.tup ((acc ++ x :: stocksL x ps us).map .int)), a', b', c', d'], S⟩
  | ps, [], acc, x, a, b, c, d, _ => ⟨a, b, c, d, by cases ps <;> rfl⟩
  | [], u :: us, acc, x, a, b, c, d, _ => ⟨a, b, c, d, rfl⟩
  | p :: ps, u :: us, acc, x, a, b, c, d, hz => by
    simp only [List.length_cons] at hz
    obtain ⟨a', b', c', d', e⟩ := stocks_for (k := k) (S := S) (B := B) (P := P) ps us (acc ++ [x]) (x + u - p.want) (.val (.int u)) (.val (dC p.buy)) (.val (.int p.want)) (.val (dC p.keep)) (by simp; omega)
    refine ⟨a', b', c', d', ?_⟩
    have hat : atI ((acc ++ [x]).map D.int) (-1) = some (.int x) := atI_neg1 (by simp)
    have zl : zipL ((u :: us).map D.int) ((p :: ps).map dP) = .tup [.int u, dP p] :: zipL (us.map .int) (ps.map dP) := rfl
    rw [zl, forL_cons (s1 := ⟨[.val B, .val P, .val (.tup ((acc ++ [x]).map .int)), .val (.int u), .val (dC p.buy), .val (.int p.want), .val (dC p.keep)], S⟩) (by simp [dP, asg, asgs]) (s2 := ⟨[.val B, .val P, .val (.tup ((acc ++ [x] ++ [x + u - p.want]).map .int)), .val (.int u), .val (dC p.buy), .val (.int p.want), .val (dC p.keep)], S⟩) ?_, e]
    · rw [stocksL, List.append_assoc]; rfl
    · have hz2 : szOk (((acc ++ [x]).map D.int).length + 1) = true := szOk_le (by simp; omega)
      rw [List.map_append (l₁ := acc ++ [x])]
      generalize (acc ++ [x]).map D.int = m at hat hz2
      simp [fn_stocks_after_b1, ev_star, cStar, hat, hz2]
theorem stocks_after_ok {n : Nat} {b : Book} {us : List Int} (h : BB n b) (hn : n ≤ 6) : call (k + 1) 24 [dB b, .tup (us.map .int)] S = .ok (.tup ((stocksL b.begin_ b.ps us).map .int)) ⟨[], S⟩ := by
  rw [call_def fn_stocks_after rfl rfl]
  have l := h.len
  obtain ⟨a', b', c', d', e⟩ := stocks_for (k := k) (S := S) (B := dB b) (P := .tup (us.map .int)) b.ps us [] b.begin_ .non .non .non .non (by simp; omega)
  have i0 : ixD (dB b) (.int 0) = some (.int b.begin_) := rfl
  have i1 : ixD (dB b) (.int 1) = some (.tup (b.ps.map dP)) := rfl
  simp only [List.nil_append, List.map_cons, List.map_nil] at e
  have sl : slD (.tup (.int b.begin_ :: (stocksL b.begin_ b.ps us).map D.int)) (some 1) none = some (.tup ((stocksL b.begin_ b.ps us).map .int)) := by
    show some (D.tup (cutL _ (some ((1 : Nat) : Int)) none)) = _
    rw [cut_drop _ (by simp)]
    rfl
  generalize (stocksL b.begin_ b.ps us).map D.int = T at *
  generalize b.ps.map dP = M at *
  generalize us.map D.int = U at *
  generalize dB b = B at *
  simp [fn_stocks_after, argsEnv, i0, i1, e, sl]
end FW

/-! PlPlan3: best plans and ranges of units: the program's words. -/
namespace FW
open PySem L2
variable {k : Nat} {S : Store} {s : Int} {p : Per} {pre post ps : List Per} {c : Crv}
theorem stock_pre {us : List Int} (f : fits s pre us) (post : List Per) : stockAt s (pre ++ post) us = stockAt s pre us := by
  have := stock_app (qs := post) (u2 := []) f
  rw [List.append_nil] at this
  rw [this]
  cases post <;> rfl
theorem stock_bd : ∀ {pre : List Per} {s : Int} {us : List Int}, (∀ q ∈ pre, PB q) → -10 ^ 12 ≤ s ∧ s ≤ 10 ^ 12 → fits s pre us → -10 ^ 12 ≤ stockAt s pre us ∧ stockAt s pre us ≤ 10 ^ 12
  | [], s, us, _, hs, f => by
    have f : us = [] := f
    subst f
    exact hs
  | p :: pre, s, _, h, hs, ⟨u, r, rfl, h1, h2, h3, h4, h5⟩ => by
    have := (h p (by simp)).ko
    exact stock_bd (pre := pre) (s := s + u - p.want) (us := r) (fun q z => h q (by simp [z])) (by omega) h5
theorem plan_for {k n : Nat} {S : Store} {Bg Ps : D} : ∀ (post pre : List Per) (us : List Int) (x4 x7 : Slot), BB n ⟨s, pre ++ post⟩ → n ≤ 6 → fits s pre us → (∃ vs, fits (stockAt s pre us) post vs) →
    ∃ y4 y7, forL (.nm 4) (evSs (Vk (k + 3)) fn_plan_from_b1) (evSs (Vk (k + 3)) .nil) (rangeL (pre.length : Nat) post.length) ⟨[.val (dB ⟨s, pre ++ post⟩), .val (.lst ((goL (pre ++ post)).map dC)), .val Bg, .val (.tup (us.map .int)), x4, .val (.int s), .val Ps, x7], S⟩ =
      .ok .nx ⟨[.val (dB ⟨s, pre ++ post⟩), .val (.lst ((goL (pre ++ post)).map dC)), .val Bg, .val (.tup ((us ++ bpl (stockAt s pre us) post).map .int)), y4, .val (.int s), .val Ps, y7], S⟩
  | [], pre, us, x4, x7, _, _, _, _ => ⟨x4, x7, by simp [rangeL, forL, bpl]⟩
  | p :: post, pre, us, x4, x7, h, hn, f, ⟨vs, g⟩ => by
    have cn := h.cn
    simp only at cn
    have hp : PCn p := cn p (by simp)
    have hq : ∀ q ∈ post, PCn q := fun q z => cn q (by simp [z])
    obtain ⟨w, o⟩ := hOv_of hp hq g
    have hk : HOk (stockAt s pre us) p post := ⟨hp, hq, w, o⟩
    obtain ⟨r, fr, _⟩ := hC_ex hk (best_in hk.cn).1
    obtain ⟨x', r', e, a1, a2, a3, a4, a5⟩ := id fr
    cases e
    have f2 : fits s (pre ++ [p]) (us ++ [(hC (stockAt s pre us) p post).best 0]) := fits_snoc f a1 a2 a3 a4
    have st := stockAt_snoc (p := p) (u := (hC (stockAt s pre us) p post).best 0) (s := s) (fits_len f).symm
    have bd := stock_bd (fun q z => h.per q (by simp [z])) h.beg f
    have e1 : pre ++ p :: post = (pre ++ [p]) ++ post := by simp
    obtain ⟨y4, y7, e⟩ := plan_for (k := k) (S := S) (Bg := Bg) (Ps := Ps) post (pre ++ [p]) (us ++ [(hC (stockAt s pre us) p post).best 0]) (.val (.int (pre.length : Nat))) (.val (.int (stockAt s pre us))) (by rw [← e1]; exact h) hn f2 ⟨r, by rw [st]; exact a5⟩
    rw [st] at e
    have hl := h.len
    simp only [List.length_append, List.length_cons] at hl
    have ul := fits_len f
    have sa := stocks_after_ok (k := k + 2) (S := S) (us := us) h hn
    have sl := stocks_last (pre ++ p :: post) us s
    rw [stock_pre f] at sl
    have hat : atI (.int s :: (stocksL s (pre ++ p :: post) us).map D.int) (-1) = some (.int (stockAt s pre us)) := atI_neg1 (by rw [← List.map_cons, List.getLast?_map, sl]; rfl)
    have sz : ((stocksL s (pre ++ p :: post) us).map D.int).length < 1000 := by
      have := stocks_len (pre ++ p :: post) us s
      rw [List.length_append, List.length_cons] at this
      rw [List.length_map]; omega
    have ua := units_at_ok (k := k) (S := S) h hn hk bd
    have el : ((pre ++ [p]).length : Nat) = pre.length + 1 := by simp
    have rl : rangeL ((pre.length : Nat) : Int) (p :: post).length = .int (pre.length : Nat) :: rangeL (((pre ++ [p]).length : Nat) : Int) post.length := by
      rw [el]; rfl
    refine ⟨y4, y7, ?_⟩
    have eb : bpl (stockAt s pre us) (p :: post) = (hC (stockAt s pre us) p post).best 0 :: bpl (stockAt s pre us + (hC (stockAt s pre us) p post).best 0 - p.want) post := rfl
    have uz : ((us.map D.int).length) < 1000 := by rw [List.length_map]; omega
    rw [rl, eb, forL_cons (s1 := ⟨[.val (dB ⟨s, pre ++ p :: post⟩), .val (.lst ((goL (pre ++ p :: post)).map dC)), .val Bg, .val (.tup (us.map .int)), .val (.int (pre.length : Nat)), .val (.int s), .val Ps, x7], S⟩) rfl (s2 := ⟨[.val (dB ⟨s, pre ++ p :: post⟩), .val (.lst ((goL (pre ++ p :: post)).map dC)), .val Bg, .val (.tup ((us ++ [(hC (stockAt s pre us) p post).best 0]).map .int)), .val (.int (pre.length : Nat)), .val (.int s), .val Ps, .val (.int (stockAt s pre us))], S⟩) ?_]
    · rw [e1, e]
      simp
    · rw [List.map_append]
      simp only at sa
      generalize (hC (stockAt s pre us) p post).best 0 = b0 at *
      generalize (hC (stockAt s pre us) p post).bestL 0 = b1 at *
      generalize stockAt s pre us = x at *
      generalize (stocksL s (pre ++ p :: post) us).map D.int = T at *
      generalize dB ⟨s, pre ++ p :: post⟩ = B at *
      generalize (goL (pre ++ p :: post)).map dC = G at *
      generalize us.map D.int = U at *
      generalize ((pre.length : Nat) : Int) = i at *
      have z1 : szOk (T.length + 1) = true := szOk_le (by omega)
      have z2 : szOk (U.length + 1) = true := szOk_le (by omega)
      simp [fn_plan_from_b1, ev_star, cStar, sa, z1, z2, hat, ua]
theorem plan_from_ok {n : Nat} {us : List Int} (h : BB n ⟨s, pre ++ post⟩) (hn : n ≤ 6) (f : fits s pre us) (g : ∃ vs, fits (stockAt s pre us) post vs) :
    call (k + 4) 296 [dB ⟨s, pre ++ post⟩, .lst ((goL (pre ++ post)).map dC), .tup (us.map .int)] S = .ok (.tup ((us ++ bpl (stockAt s pre us) post).map .int)) ⟨[], S⟩ := by
  rw [call_def fn_plan_from rfl rfl]
  obtain ⟨y4, y7, e⟩ := plan_for (k := k) (S := S) (Bg := .tup (us.map .int)) (Ps := .tup ((pre ++ post).map dP)) post pre us .non .non h hn f g
  have hl := h.len
  simp only [List.length_append] at hl
  have l1 : lenD [.tup (us.map .int)] = some (.int (pre.length : Nat)) := by
    have : (us.map D.int).length = pre.length := by rw [List.length_map, fits_len f]
    rw [← this]; rfl
  have l2 : lenD [.tup ((pre ++ post).map dP)] = some (.int (pre.length + post.length : Nat)) := by
    have : ((pre ++ post).map dP).length = pre.length + post.length := by simp
    rw [← this]; rfl
  have hr : rng2 [.int (pre.length : Nat), .int (pre.length + post.length : Nat)] = some (rangeL (pre.length : Nat) post.length) := by
    rw [rng2_ok (by omega) (by omega) (by omega) (by omega)]
    congr 2
    omega
  have db : dB ⟨s, pre ++ post⟩ = .tup [.int s, .tup ((pre ++ post).map dP)] := rfl
  rw [db] at e ⊢
  generalize (us ++ bpl (stockAt s pre us) post).map D.int = R at *
  generalize (goL (pre ++ post)).map dC = G at *
  generalize us.map D.int = U at *
  generalize (pre ++ post).map dP = L at *
  generalize ((pre.length + post.length : Nat) : Int) = m at *
  generalize ((pre.length : Nat) : Int) = i at *
  simp [fn_plan_from, argsEnv, asg, asgs, l1, l2, hr, e]
theorem best_plan_ok {n : Nat} {b : Book} {us : List Int} (h : BB n b) (hn : n ≤ 6) (f : fits b.begin_ b.ps us) : call (k + 6) 297 [dB b] S = .ok (.tup ((bpl b.begin_ b.ps).map .int)) ⟨[], S⟩ := by
  rw [call_def fn_best_plan rfl rfl]
  have way := far_way (pt_cn b.begin_) h.cn (pt_in.mpr rfl) f
  have cw := check_way_ok (k := k) (S := S) h hn way
  have tg := costs_to_go_ok (k := k + 2) (S := S) h hn (wayS_of h.cn f)
  have pf := plan_from_ok (k := k + 1) (S := S) (pre := []) (post := b.ps) (us := []) h hn rfl ⟨us, f⟩
  simp only [List.nil_append, List.map_nil] at pf
  have tg : call (k + 5) 294 [dB b] S = _ := tg
  have pf : call (k + 5) 296 [dB b, .lst ((goL b.ps).map dC), .tup []] S = .ok (.tup ((bpl b.begin_ b.ps).map .int)) ⟨[], S⟩ := pf
  generalize (bpl b.begin_ b.ps).map D.int = R at *
  generalize (goL b.ps).map dC = G at *
  generalize dB b = B at *
  simp [fn_best_plan, argsEnv, cw, tg, pf]
/-! ### ranges -/
def rgD (c : Crv) : D := .tup [.int (c.best 0), .int (c.bestL 0)]
def rgL (s : Int) : List Per → List Per → List D
  | _, [] => []
  | pre, p :: post => rgD (gC s pre p post) :: rgL s (pre ++ [p]) post
theorem oth_wk {i j : Nat} {n : Nat} (c : Cut s pre p post) (hf : FB i (far (pt s) pre)) (hg : GB j (toGo p post)) (hp : PB p) (hi : i ≤ 20) (hj : j ≤ 20) : Wk (10 * j + 3 + 10 * i) (othC s pre p post) := by
  have cn := oth_cn c
  have m := mov_cn hg.cn p.want
  have r := mir_cn hf.cn
  have sl := share_len (movC (toGo p post) p.want) (mirC (far (pt s) pre))
  have e1 : (movC (toGo p post) p.want).st.length = (toGo p post).st.length := rfl
  have e2 := mir_len (far (pt s) pre)
  have l1 := hg.len; have l2 := hf.len
  have su := share_units m.pos r.pos
  have e3 : units (movC (toGo p post) p.want).st = units (toGo p post).st := rfl
  have e4 := mir_units (far (pt s) pre)
  have u1 := hg.un; have u2 := hf.un
  have o1 := hg.lo; have o2 := hf.o; have o3 := hp.w
  have n2 := hf.cn.nn
  have e5 : (far (pt s) pre).last = (far (pt s) pre).lo + units (far (pt s) pre).st := rfl
  have sp := share_prices (P := fun x => -10 ^ 9 ≤ x ∧ x ≤ 10 ^ 9) m.pos r.pos (fun t ht => by have := hg.pr t ht; omega) (fun t ht => by have := mir_prM (M := 2 * 10 ^ 6 * (i : Int)) hf.pr t ht; omega)
  have el : (othC s pre p post).lo = (toGo p post).lo + p.want + (0 - (far (pt s) pre).last) := rfl
  exact ⟨by show (shareC (movC (toGo p post) p.want) (mirC (far (pt s) pre))).st.length ≤ _; omega, cn.pos, cn.rise, sp, by rw [el]; omega, by show units (shareC (movC (toGo p post) p.want) (mirC (far (pt s) pre))).st ≤ _; omega⟩
theorem ranges_for {k n : Nat} {S : Store} {us : List Int} : ∀ (post pre : List Per) (acc : List D) (x4 x5 x6 x7 x8 : Slot), BB n ⟨s, pre ++ post⟩ → n ≤ 6 → fits s (pre ++ post) us → acc.length + post.length < 1000 →
    ∃ y4 y5 y6 y7 y8, forL (.tup [.nm 4, .tup [.nm 6, .nm 7, .nm 8]]) (evSs (Vk (k + 2)) fn_plan_ranges_b1) (evSs (Vk (k + 2)) .nil) (enumL pre.length (post.map dP)) ⟨[.val (dB ⟨s, pre ++ post⟩), .val (.lst ((farL (pt s) (pre ++ post)).map dC)), .val (.lst ((goL (pre ++ post)).map dC)), .own acc, x4, x5, x6, x7, x8], S⟩ =
      .ok .nx ⟨[.val (dB ⟨s, pre ++ post⟩), .val (.lst ((farL (pt s) (pre ++ post)).map dC)), .val (.lst ((goL (pre ++ post)).map dC)), .own (acc ++ rgL s pre post), y4, y5, y6, y7, y8], S⟩
  | [], pre, acc, x4, x5, x6, x7, x8, _, _, _, _ => ⟨x4, x5, x6, x7, x8, by simp [enumL, forL, rgL]⟩
  | p :: post, pre, acc, x4, x5, x6, x7, x8, h, hn, f, hz => by
    simp only [List.length_cons] at hz
    have cn := h.cn
    simp only at cn
    have g : GOk s pre p post := gOk_of (fun q z => cn q (by simp [z])) (cn p (by simp)) (fun q z => cn q (by simp [z])) f
    have e1 : pre ++ p :: post = (pre ++ [p]) ++ post := by simp
    obtain ⟨y4, y5, y6, y7, y8, e⟩ := ranges_for (k := k) (S := S) (us := us) post (pre ++ [p]) (acc ++ [rgD (gC s pre p post)]) (.val (.int (pre.length : Nat))) (.val (dC (othC s pre p post))) (.val (dC p.buy)) (.val (.int p.want)) (.val (dC p.keep)) (by rw [← e1]; exact h) hn (by rw [← e1]; exact f) (by simp; omega)
    have hl := h.len
    simp only [List.length_append, List.length_cons] at hl
    have pp : PB p := h.per p (by simp)
    have hpre : ∀ q ∈ pre, PB q := fun q z => h.per q (by simp [z])
    have hpost : ∀ q ∈ post, PB q := fun q z => h.per q (by simp [z])
    have fb : FB (0 + pre.length) (far (pt s) pre) := far_fb (fb_pt h.beg) hpre g.c.way
    rw [Nat.zero_add] at fb
    have gb := toGo_gb pp hpost g.c.wayB (by omega)
    have ow := oth_wk (n := n) g.c fb gb pp (by omega) (by omega)
    have fw := fb.wk (by omega)
    have mv := moved_by_ok (k := k + 1) (S := S) (c := toGo p post) (x := p.want)
    have mr := mirror_of_okW (k := k) (S := S) (n := 10 * pre.length) (by omega) fw
    have sh := sharing_ok (k := k) (S := S) (a := movC (toGo p post) p.want) (b := mirC (far (pt s) pre)) (by have := gb.len; have := fb.len; have := mir_len (far (pt s) pre); show (toGo p post).st.length + _ < _; omega)
    have sm := sum_of_okW (k := k) (S := S) (n := 4) (m := 10 * post.length + 3 + 10 * pre.length) (by omega) pp.buyW ow g.o
    have sm : call (k + 2) 15 [dC p.buy, dC (othC s pre p post)] S = .ok (dC (gC s pre p post)) ⟨[], S⟩ := sm
    have sh : call (k + 2) 12 [dC (movC (toGo p post) p.want), dC (mirC (far (pt s) pre))] S = .ok (dC (othC s pre p post)) ⟨[], S⟩ := sh
    have bo := best_of0 (k := k + 1) (S := S) (c := gC s pre p post)
    have ga : ixD (.lst ((goL (pre ++ p :: post)).map dC)) (.int (pre.length : Nat)) = some (dC (toGo p post)) := by
      show atI _ _ = _
      have gl := goL_at pre p post
      have hlt : pre.length < ((goL (pre ++ p :: post)).map dC).length := by rw [List.length_map, goL_len]; simp
      rw [atI_nat hlt, List.getElem_map]
      have := List.getElem?_eq_some_iff.mp gl
      rw [this.2]
    have fa : ixD (.lst ((farL (pt s) (pre ++ p :: post)).map dC)) (.int (pre.length : Nat)) = some (dC (far (pt s) pre)) := by
      show atI _ _ = _
      have gl := farL_at pre (pt s) (p :: post)
      have hlt : pre.length < ((farL (pt s) (pre ++ p :: post)).map dC).length := by rw [List.length_map, farL_len]; simp; omega
      rw [atI_nat hlt, List.getElem_map]
      have := List.getElem?_eq_some_iff.mp gl
      rw [this.2]
    refine ⟨y4, y5, y6, y7, y8, ?_⟩
    have el : (pre ++ [p]).length = pre.length + 1 := by simp
    have en : enumL pre.length ((p :: post).map dP) = .tup [.int (pre.length : Nat), dP p] :: enumL (pre ++ [p]).length (post.map dP) := by rw [el]; rfl
    have er : rgL s pre (p :: post) = rgD (gC s pre p post) :: rgL s (pre ++ [p]) post := rfl
    rw [en, er, forL_cons (s1 := ⟨[.val (dB ⟨s, pre ++ p :: post⟩), .val (.lst ((farL (pt s) (pre ++ p :: post)).map dC)), .val (.lst ((goL (pre ++ p :: post)).map dC)), .own acc, .val (.int (pre.length : Nat)), x5, .val (dC p.buy), .val (.int p.want), .val (dC p.keep)], S⟩) (by simp [dP, asg, asgs]) (s2 := ⟨[.val (dB ⟨s, pre ++ p :: post⟩), .val (.lst ((farL (pt s) (pre ++ p :: post)).map dC)), .val (.lst ((goL (pre ++ p :: post)).map dC)), .own (acc ++ [rgD (gC s pre p post)]), .val (.int (pre.length : Nat)), .val (dC (othC s pre p post)), .val (dC p.buy), .val (.int p.want), .val (dC p.keep)], S⟩) ?_]
    · rw [e1, e]
      simp
    · have er2 : rgD (gC s pre p post) = .tup [.int ((gC s pre p post).best 0), .int ((gC s pre p post).bestL 0)] := rfl
      rw [er2]
      generalize gC s pre p post = G0 at *
      generalize othC s pre p post = O0 at *
      generalize movC (toGo p post) p.want = M0 at *
      generalize mirC (far (pt s) pre) = R0 at *
      generalize toGo p post = T0 at *
      generalize far (pt s) pre = F0 at *
      generalize dB ⟨s, pre ++ p :: post⟩ = B at *
      generalize (goL (pre ++ p :: post)).map dC = G at *
      generalize (farL (pt s) (pre ++ p :: post)).map dC = F at *
      generalize ((pre.length : Nat) : Int) = i at *
      have z1 : acc.length < 16777216 := by omega
      simp [fn_plan_ranges_b1, ga, fa, mv, mr, sh, sm, bo, z1]
theorem ranges_ok {n : Nat} {b : Book} {us : List Int} (h : BB n b) (hn : n ≤ 6) (f : fits b.begin_ b.ps us) : call (k + 6) 340 [dB b] S = .ok (.tup (rgL b.begin_ [] b.ps)) ⟨[], S⟩ := by
  rw [call_def fn_plan_ranges rfl rfl]
  have way := far_way (pt_cn b.begin_) h.cn (pt_in.mpr rfl) f
  have cw := check_way_ok (k := k) (S := S) h hn way
  have tg := costs_to_go_ok (k := k + 2) (S := S) h hn (wayS_of h.cn f)
  have sf := costs_so_far_ok (k := k + 1) (S := S) h hn way
  have hl := h.len
  obtain ⟨y4, y5, y6, y7, y8, e⟩ := ranges_for (k := k + 3) (S := S) (us := us) b.ps [] [] .non .non .non .non .non h hn f (by simp; omega)
  simp only [List.nil_append, List.length_nil] at e
  have i1 : ixD (dB b) (.int 1) = some (.tup (b.ps.map dP)) := rfl
  have tg : call (k + 5) 294 [dB b] S = _ := tg
  have sf : call (k + 5) 32 [dB b] S = _ := sf
  have e : forL (.tup [.nm 4, .tup [.nm 6, .nm 7, .nm 8]]) (evSs (Vk (k + 5)) fn_plan_ranges_b1) (evSs (Vk (k + 5)) .nil) (enumL 0 (b.ps.map dP)) ⟨[.val (dB b), .val (.lst ((farL (pt b.begin_) b.ps).map dC)), .val (.lst ((goL b.ps).map dC)), .own [], .non, .non, .non, .non, .non], S⟩ = .ok .nx ⟨[.val (dB b), .val (.lst ((farL (pt b.begin_) b.ps).map dC)), .val (.lst ((goL b.ps).map dC)), .own (rgL b.begin_ [] b.ps), y4, y5, y6, y7, y8], S⟩ := e
  generalize rgL b.begin_ [] b.ps = R at *
  generalize (goL b.ps).map dC = G at *
  generalize (farL (pt b.begin_) b.ps).map dC = F at *
  generalize b.ps.map dP = L at *
  generalize dB b = B at *
  simp [fn_plan_ranges, argsEnv, cw, tg, sf, i1, hideFrom, e]
end FW

/-! PlFind: steep prices, the line or the place found. -/
namespace FW
open PySem L2
variable {k : Nat} {S : Store}
def maxL : List Int → Int
  | [] => 0
  | m :: r => maxI m r
theorem maxL_le {l : List Int} : ∀ y ∈ l, y ≤ maxL l := fun y hy => by
  cases l with
  | nil => cases hy
  | cons m r => exact maxI_le m r y hy
theorem maxL_mem {l : List Int} (h : l ≠ []) : maxL l ∈ l := by
  cases l with
  | nil => exact absurd rfl h
  | cons m r => exact maxI_mem m r
theorem max_maxL {l : List Int} (h : l ≠ []) : max2D [.lst (l.map .int)] = some (.int (maxL l)) := max_list (maxL_mem h) maxL_le
def lastP (st : List (Int × Int)) : List Int := match st.getLast? with
  | some s => [s.2]
  | none => []
def headNP (st : List (Int × Int)) : List Int := match st.head? with
  | some s => [0 - s.2]
  | none => []
def needOf (a b : Crv) : Int := a.costAt a.last + b.costAt b.lo
def steepL (a b : Crv) : List Int := lastP a.st ++ headNP b.st ++ [0, 0 - needOf a b / (b.lo - a.last)]
def steepP (a b : Crv) : Int := maxL (steepL a b)
def optL {α : Type} (f : α → D) : Option α → List D
  | some s => [f s]
  | none => []
theorem cut_last {α : Type} (f : α → D) (l : List α) : cutL (l.map f) (some (-1)) none = optL f l.getLast? := by
  rcases List.eq_nil_or_concat l with rfl | ⟨i, a, rfl⟩
  · rfl
  · rw [List.concat_eq_append]
    unfold cutL
    have e1 : HT.sIx ((i ++ [a]).map f).length 0 (some (-1)) = i.length := by
      show (if (-1 : Int) < 0 then ((-1 : Int) + (((i ++ [a]).map f).length : Int)).toNat else min (-1 : Int).toNat ((i ++ [a]).map f).length) = _
      rw [if_pos (by decide), List.length_map, List.length_append, List.length_singleton]
      omega
    have e2 : HT.sIx ((i ++ [a]).map f).length ((i ++ [a]).map f).length none = i.length + 1 := by simp [HT.sIx]
    rw [e1, e2]
    simp [optL]
theorem cut_head {α : Type} (f : α → D) (l : List α) : cutL (l.map f) none (some 1) = optL f l.head? := by
  cases l with
  | nil => rfl
  | cons a l =>
    have := cut_take ((a :: l).map f) (i := 1) (by simp)
    simp only [show ((1 : Nat) : Int) = 1 from rfl] at this
    rw [this]; simp [optL]
theorem mem_last {st : List (Int × Int)} {s : Int × Int} (h : st.getLast? = some s) : s.2 ∈ lastP st := by unfold lastP; rw [h]; simp
theorem mem_head {st : List (Int × Int)} {s : Int × Int} (h : st.head? = some s) : 0 - s.2 ∈ headNP st := by unfold headNP; rw [h]; simp
theorem last_before {st : List (Int × Int)} {l : Int} (hn : ∀ s ∈ st, 0 < s.1) (h : pBefore st (units st) = some l) : ∃ s, st.getLast? = some s ∧ s.2 = l := by
  induction st with
  | nil => cases h
  | cons s r ih =>
    obtain ⟨n, p⟩ := s
    have hn0 : 0 < n := hn (n, p) (by simp)
    have hr : ∀ s ∈ r, 0 < s.1 := fun s hs => hn s (by simp [hs])
    have hu : units ((n, p) :: r) = n + units r := by simp [units]
    have u0 := units_nn (st := r) fun s hs => by have := hr s hs; omega
    rw [pBefore, hu, if_pos (by omega), show n + units r - n = units r by omega] at h
    cases r with
    | nil =>
      simp [units, pBefore] at h
      exact ⟨(n, p), rfl, h⟩
    | cons t r =>
      obtain ⟨q, hq⟩ : ∃ q, pBefore (t :: r) (units (t :: r)) = some q := by
        obtain ⟨m, x⟩ := t
        have hm : 0 < m := hr (m, x) (by simp)
        have hu2 : units ((m, x) :: r) = m + units r := by simp [units]
        have u1 := units_nn (st := r) fun s hs => by have := hr s (by simp [hs]); omega
        rw [pBefore_eq hr (by omega) (Int.le_refl _)]
        exact pAfter_some (by omega) (by omega)
      rw [hq] at h
      obtain ⟨s, e1, e2⟩ := ih hr (by rw [hq]; exact h)
      exact ⟨s, by rw [List.getLast?_cons_cons]; exact e1, e2⟩
theorem head_after {st : List (Int × Int)} {l : Int} (hn : ∀ s ∈ st, 0 < s.1) (h : pAfter st 0 = some l) : ∃ s, st.head? = some s ∧ s.2 = l := by
  cases st with
  | nil => cases h
  | cons s r =>
    obtain ⟨n, p⟩ := s
    have hn0 : 0 < n := hn (n, p) (by simp)
    rw [pAfter, if_pos hn0] at h
    exact ⟨(n, p), rfl, Option.some.inj h⟩
/-- the steep price separates curves with a gap between them -/
theorem steep_line {a b : Crv} (ha : VOk a) (hb : VOk b) (h : a.last < b.lo) : a.gain (steepP a b) + b.gain (0 - steepP a b) ≤ 0 := by
  have top : ∀ y ∈ steepL a b, y ≤ steepP a b := maxL_le
  have e1 : a.last = a.lo + units a.st := rfl
  have e2 : b.last = b.lo + units b.st := rfl
  have na := ha.nn; have nb := hb.nn
  generalize steepP a b = p at *
  have g1 := gain_here ha (p := p) (x := a.last) (by omega) (Int.le_refl _) (fun l e => by
    have e : pBefore a.st (a.last - a.lo) = some l := e
    rw [show a.last - a.lo = units a.st by omega] at e
    obtain ⟨s, q1, rfl⟩ := last_before ha.pos e
    exact top _ (List.mem_append_left _ (List.mem_append_left _ (mem_last q1)))) (fun t e => by rw [after_none ha (Int.le_refl _)] at e; cases e)
  have g2 := gain_here hb (p := 0 - p) (x := b.lo) (Int.le_refl _) (by omega) (fun l e => by rw [before_none (Int.le_refl _)] at e; cases e) (fun t e => by
    have e : pAfter b.st (b.lo - b.lo) = some t := e
    rw [Int.sub_self] at e
    obtain ⟨s, q1, rfl⟩ := head_after hb.pos e
    have := top _ (List.mem_append_left _ (List.mem_append_right _ (mem_head q1)) : 0 - s.2 ∈ steepL a b)
    omega)
  have q := top (0 - needOf a b / (b.lo - a.last)) (by unfold steepL; simp)
  rw [g1, g2]
  have hd : 0 < b.lo - a.last := by omega
  have m1 : needOf a b / (b.lo - a.last) * (b.lo - a.last) ≤ needOf a b := Int.ediv_mul_le _ (by omega)
  have m2 : (0 - needOf a b / (b.lo - a.last)) * (b.lo - a.last) ≤ p * (b.lo - a.last) := Int.mul_le_mul_of_nonneg_right q (by omega)
  rw [Int.sub_mul, Int.zero_mul] at m2
  have e3 : p * (b.lo - a.last) = p * b.lo - p * a.last := Int.mul_sub ..
  have e4 : (0 - p) * b.lo = 0 - p * b.lo := by rw [Int.sub_mul, Int.zero_mul]
  have e5 : needOf a b = a.costAt a.last + b.costAt b.lo := rfl
  rw [e4]
  omega
/-! ### the line or the place -/
def sepP (a b : Crv) : Int := if a.last < b.lo then steepP a b else if b.last < a.lo then 0 - steepP b a else meetP a b
def lineD (a b : Crv) : D := if lowOf a b ≤ highOf a b ∧ a.costAt (meetX a b) + b.costAt (meetX a b) < 0 then .tup [.str "place", .int (meetX a b)] else .tup [.str "line", .tup [.int (sepP a b), .int (a.gain (sepP a b))]]
/-- the price found separates -/
theorem sep_line {a b : Crv} (ha : VOk a) (hb : VOk b) (hm : VOk (mirC b)) (h : ¬ (lowOf a b ≤ highOf a b ∧ a.costAt (meetX a b) + b.costAt (meetX a b) < 0)) : a.gain (sepP a b) + b.gain (0 - sepP a b) ≤ 0 := by
  unfold sepP
  by_cases h1 : a.last < b.lo
  · rw [if_pos h1]; exact steep_line ha hb h1
  · rw [if_neg h1]
    by_cases h2 : b.last < a.lo
    · rw [if_pos h2]
      have := steep_line hb ha h2
      rw [show (0 : Int) - (0 - steepP b a) = steepP b a by omega]; omega
    · rw [if_neg h2]
      have hl : lowOf a b ≤ highOf a b := by
        show max a.lo b.lo ≤ min a.last b.last
        have na := ha.nn; have nb := hb.nn
        have e1 : a.last = a.lo + units a.st := rfl
        have e2 : b.last = b.lo + units b.st := rfl
        omega
      rw [meet_line ha hb hm hl]
      by_cases z : a.costAt (meetX a b) + b.costAt (meetX a b) < 0
      · exact absurd ⟨hl, z⟩ h
      · omega
end FW

/-! PlK13: bounds; the law's words for lines. -/
namespace FW
open PySem L2
variable {k : Nat} {S : Store}
theorem mul_bd {p t M n : Int} (h1 : -M ≤ p) (h2 : p ≤ M) (h3 : 0 ≤ t) (h4 : t ≤ n) (hM : 0 ≤ M) : -(M * n) ≤ p * t ∧ p * t ≤ M * n := by
  have a := Int.mul_le_mul_of_nonneg_right h2 h3
  have b := Int.mul_le_mul_of_nonneg_right h1 h3
  have c := Int.mul_le_mul_of_nonneg_left h4 hM
  rw [Int.neg_mul] at b
  omega
theorem rise_bd : ∀ (st : List (Int × Int)) (u : Int), (∀ s ∈ st, 0 ≤ s.1) → (∀ s ∈ st, -10 ^ 6 ≤ s.2 ∧ s.2 ≤ 10 ^ 6) → -(1000000 * units st) ≤ rise st u ∧ rise st u ≤ 1000000 * units st
  | [], u, _, _ => by simp [rise, units]
  | (n, p) :: r, u, hn, hp => by
    have hn0 : 0 ≤ n := hn (n, p) (by simp)
    have hp0 := hp (n, p) (by simp)
    simp only at hp0
    have hu : units ((n, p) :: r) = n + units r := by simp [units]
    have ih := rise_bd r (u - n) (fun s hs => hn s (by simp [hs])) (fun s hs => hp s (by simp [hs]))
    have m := mul_bd (p := p) (t := max 0 (min n u)) (M := 1000000) (n := n) (by omega) (by omega) (by omega) (by omega) (by decide)
    rw [rise, hu]
    omega
structure LOk (c : Crv) : Prop where
  v : VOk c
  m : VOk (mirC c)
  d : DatOk c
  un : units c.st ≤ 10 ^ 12
theorem LOk.cost {c : Crv} (h : LOk c) (x : Int) : -(2 * 10 ^ 19) ≤ c.costAt x ∧ c.costAt x ≤ 2 * 10 ^ 19 := by
  have b := rise_bd c.st (x - c.lo) h.v.rises.cnt h.v.pr
  have u := h.v.un; have n := h.v.nn; have q := h.d.cost
  unfold Crv.costAt
  omega
/-- sane, its mirror too -/
structure QOk (c : Crv) : Prop where
  v : VOk c
  m : VOk (mirC c)
  cost : ∀ x, -(2 * 10 ^ 19) ≤ c.costAt x ∧ c.costAt x ≤ 2 * 10 ^ 19
theorem LOk.q {c : Crv} (h : LOk c) : QOk c := ⟨h.v, h.m, h.cost⟩
theorem before_pr {c : Crv} (h : VOk c) {x l : Int} (h0 : x ≤ c.last) (e : c.before x = some l) : -10 ^ 6 ≤ l ∧ l ≤ 10 ^ 6 := by
  by_cases z : c.lo < x
  · have e2 : pBefore c.st (x - c.lo) = some l := e
    have e1 : c.last = c.lo + units c.st := rfl
    rw [pBefore_eq h.pos (by omega) (by omega)] at e2
    obtain ⟨s, q, rfl⟩ := pAfter_mem e2
    exact h.pr s q
  · rw [before_none (by omega)] at e; cases e
theorem after_pr {c : Crv} (h : VOk c) {x l : Int} (e : c.after x = some l) : -10 ^ 6 ≤ l ∧ l ≤ 10 ^ 6 := by
  have e2 : pAfter c.st (x - c.lo) = some l := e
  obtain ⟨s, q, rfl⟩ := pAfter_mem e2
  exact h.pr s q
theorem commonP_bd {l1 h1 l2 h2 : Option Int} {M : Int} (hM : 0 ≤ M) (a : ∀ v, (l1 = some v ∨ h1 = some v ∨ l2 = some v ∨ h2 = some v) → -M ≤ v ∧ v ≤ M) : -M ≤ commonP l1 h1 l2 h2 ∧ commonP l1 h1 l2 h2 ≤ M := by
  cases l1 with
  | some x =>
    have := a x (.inl rfl)
    cases l2 with
    | some y =>
      have := a y (.inr (.inr (.inl rfl)))
      have e : commonP (some x) h1 (some y) h2 = if y > x then y else x := by cases h1 <;> cases h2 <;> rfl
      rw [e]; split <;> omega
    | none =>
      have e : commonP (some x) h1 none h2 = x := by cases h1 <;> cases h2 <;> rfl
      rw [e]; omega
  | none =>
    cases l2 with
    | some y =>
      have := a y (.inr (.inr (.inl rfl)))
      have e : commonP none h1 (some y) h2 = y := by cases h1 <;> cases h2 <;> rfl
      rw [e]; omega
    | none =>
      cases h1 with
      | some x =>
        have := a x (.inr (.inl rfl))
        cases h2 with
        | some y =>
          have := a y (.inr (.inr (.inr rfl)))
          have e : commonP none (some x) none (some y) = if y < x then y else x := rfl
          rw [e]; split <;> omega
        | none =>
          have e : commonP none (some x) none none = x := rfl
          rw [e]; omega
      | none =>
        cases h2 with
        | some y =>
          have := a y (.inr (.inr (.inr rfl)))
          have e : commonP none none none (some y) = y := rfl
          rw [e]; omega
        | none =>
          have e : commonP none none none none = 0 := rfl
          rw [e]; omega
theorem steep_bdQ {a b : Crv} (ha : QOk a) (hb : QOk b) : -(4 * 10 ^ 19) ≤ steepP a b ∧ steepP a b ≤ 4 * 10 ^ 19 := by
  have hm : steepP a b ∈ steepL a b := maxL_mem (by unfold steepL; simp)
  generalize steepP a b = p at *
  unfold steepL at hm
  rcases List.mem_append.mp hm with hm | hm
  · rcases List.mem_append.mp hm with hm | hm
    · unfold lastP at hm
      cases e : a.st.getLast? with
      | none => rw [e] at hm; cases hm
      | some s =>
        rw [e] at hm
        have := ha.v.pr s (List.mem_of_getLast? e)
        rw [List.mem_singleton.mp hm]; omega
    · unfold headNP at hm
      cases e : b.st.head? with
      | none => rw [e] at hm; cases hm
      | some s =>
        rw [e] at hm
        have := hb.v.pr s (List.mem_of_head? e)
        rw [List.mem_singleton.mp hm]; omega
  · simp only [List.mem_cons, List.not_mem_nil, or_false] at hm
    rcases hm with rfl | rfl
    · omega
    · have c1 := ha.cost a.last
      have c2 := hb.cost b.lo
      have n := Int.natAbs_ediv_le_natAbs (needOf a b) (b.lo - a.last)
      have e : needOf a b = a.costAt a.last + b.costAt b.lo := rfl
      omega
theorem steep_bd {a b : Crv} (ha : LOk a) (hb : LOk b) : -(4 * 10 ^ 19) ≤ steepP a b ∧ steepP a b ≤ 4 * 10 ^ 19 := steep_bdQ ha.q hb.q
theorem meet_in {a b : Crv} (ha : VOk a) (hb : VOk b) (h : lowOf a b ≤ highOf a b) : max a.lo b.lo ≤ meetX a b ∧ meetX a b ≤ min a.last b.last := (sBends_mem.mp (sum_least ha hb h).1).2
theorem sep_bdQ {a b : Crv} (ha : QOk a) (hb : QOk b) : -(4 * 10 ^ 19) ≤ sepP a b ∧ sepP a b ≤ 4 * 10 ^ 19 := by
  unfold sepP
  split
  · exact steep_bdQ ha hb
  · split
    · have := steep_bdQ hb ha; omega
    · have na := ha.v.nn; have nb := hb.v.nn
      have e1 : a.last = a.lo + units a.st := rfl
      have e2 : b.last = b.lo + units b.st := rfl
      have hl : lowOf a b ≤ highOf a b := by show max a.lo b.lo ≤ min a.last b.last; omega
      obtain ⟨r1, r2⟩ := meet_in ha.v hb.v hl
      have ml : (mirC b).last = 0 - b.lo := by
        show (0 - b.last) + units (mirC b).st = _
        rw [mir_units]; omega
      have := commonP_bd (l1 := a.before (meetX a b)) (h1 := a.after (meetX a b)) (l2 := (mirC b).before (0 - meetX a b)) (h2 := (mirC b).after (0 - meetX a b)) (M := 10 ^ 6) (by decide) fun v hv => by
        rcases hv with hv | hv | hv | hv
        · exact before_pr ha.v (by omega) hv
        · exact after_pr ha.v hv
        · exact before_pr hb.m (by omega) hv
        · exact after_pr hb.m hv
      unfold meetP
      omega
theorem sep_bd {a b : Crv} (ha : LOk a) (hb : LOk b) : -(4 * 10 ^ 19) ≤ sepP a b ∧ sepP a b ≤ 4 * 10 ^ 19 := sep_bdQ ha.q hb.q
theorem gain_bdQ {a : Crv} (ha : QOk a) {p : Int} (hp : p.natAbs ≤ 4 * 10 ^ 19) : (a.gain p).natAbs < 10 ^ 60 := by
  have f := firstF_nn (pr := p) a.st ha.v.rises.cnt
  have lo := ha.v.lo; have un := ha.v.un
  have hb : (a.best p).natAbs ≤ 2 * 10 ^ 13 := by unfold Crv.best; omega
  have c := ha.cost (a.best p)
  have m : (p * a.best p).natAbs ≤ 4 * 10 ^ 19 * (2 * 10 ^ 13) := by rw [Int.natAbs_mul]; exact Nat.mul_le_mul hp hb
  show (p * a.best p - a.costAt (a.best p)).natAbs < _
  omega
theorem gain_bd {a : Crv} (ha : LOk a) {p : Int} (hp : p.natAbs ≤ 4 * 10 ^ 19) : (a.gain p).natAbs < 10 ^ 60 := gain_bdQ ha.q hp
/-! ### the law's least sum -/
def placesL (a b : Crv) : List Int := (bendsF a.lo a.st ++ bendsF b.lo b.st).filter fun x => decide (lowOf a b ≤ x ∧ x ≤ highOf a b)
def rowOf (a b : Crv) (x : Int) : Int × Int := (a.costAt x + b.costAt x, x)
def leastD (a b : Crv) : D := match isortP ((placesL a b).map (rowOf a b)) with
  | s :: _ => dSt s
  | [] => .non
theorem bendsF_lo (c : Crv) : c.lo ∈ bendsF c.lo c.st := by cases c.st with
  | nil => simp [bendsF]
  | cons s r => obtain ⟨n, p⟩ := s; simp [bendsF]
theorem bendsF_end : ∀ (st : List (Int × Int)) (b : Int), b + units st ∈ bendsF b st
  | [], b => by simp [bendsF, units]
  | (n, p) :: r, b => by
    have hu : units ((n, p) :: r) = n + units r := by simp [units]
    rw [bendsF, hu, ← Int.add_assoc]
    exact List.mem_cons_of_mem _ (bendsF_end r (b + n))
theorem least_in {a b : Crv} (ha : VOk a) (hb : VOk b) (h : lowOf a b ≤ highOf a b) : ∃ x, leastD a b = .tup [.int (a.costAt (meetX a b) + b.costAt (meetX a b)), .int x] := by
  obtain ⟨m1, m2⟩ := sum_least ha hb h
  obtain ⟨q, r1, r2⟩ := sBends_mem.mp m1
  have q : meetX a b ∈ bendsF a.lo a.st ∨ meetX a b ∈ bendsF b.lo b.st := by
    have la := bendsF_lo a; have lb := bendsF_lo b
    have ea := bendsF_end a.st a.lo; have eb := bendsF_end b.st b.lo
    rcases q with q | q | q | q
    · exact .inl q
    · exact .inr q
    · have q : meetX a b = max a.lo b.lo := q
      rw [q]
      rcases Int.le_total a.lo b.lo with z | z
      · rw [show max a.lo b.lo = b.lo by omega]; exact .inr lb
      · rw [show max a.lo b.lo = a.lo by omega]; exact .inl la
    · have q : meetX a b = min (a.lo + units a.st) (b.lo + units b.st) := q
      rw [q]
      rcases Int.le_total (a.lo + units a.st) (b.lo + units b.st) with z | z
      · rw [show min (a.lo + units a.st) (b.lo + units b.st) = a.lo + units a.st by omega]; exact .inl ea
      · rw [show min (a.lo + units a.st) (b.lo + units b.st) = b.lo + units b.st by omega]; exact .inr eb
  have mp : meetX a b ∈ placesL a b := List.mem_filter.mpr ⟨List.mem_append.mpr q, decide_eq_true ⟨r1, r2⟩⟩
  have mr : rowOf a b (meetX a b) ∈ isortP ((placesL a b).map (rowOf a b)) := (isortP_perm _).mem_iff.mpr (List.mem_map.mpr ⟨_, mp, rfl⟩)
  have sorted := isortP_le ((placesL a b).map (rowOf a b))
  have back : ∀ s ∈ isortP ((placesL a b).map (rowOf a b)), ∃ x ∈ placesL a b, s = rowOf a b x := fun s hs => by
    obtain ⟨x, hx, e⟩ := List.mem_map.mp ((isortP_perm _).mem_iff.mp hs)
    exact ⟨x, hx, e.symm⟩
  unfold leastD
  cases e : isortP ((placesL a b).map (rowOf a b)) with
  | nil => rw [e] at mr; cases mr
  | cons s r =>
    rw [e] at mr sorted back
    obtain ⟨x, hx, rfl⟩ := back s (by simp)
    obtain ⟨x1, x2⟩ := of_decide_eq_true (List.mem_filter.mp hx).2
    have low := m2 x x1 x2
    have ex : (sumC a b).best 0 = meetX a b := rfl
    rw [ex] at low
    have up : a.costAt x + b.costAt x ≤ a.costAt (meetX a b) + b.costAt (meetX a b) := by
      rcases List.mem_cons.mp mr with e | e
      · have := congrArg Prod.fst e
        simp only [rowOf] at this
        omega
      · have := (List.pairwise_cons.mp sorted).1 _ e
        have this : (rowOf a b x).1 < (rowOf a b (meetX a b)).1 ∨ ((rowOf a b x).1 = (rowOf a b (meetX a b)).1 ∧ (rowOf a b x).2 ≤ (rowOf a b (meetX a b)).2) := of_decide_eq_true this
        simp only [rowOf] at this
        omega
    exact ⟨x, by show D.tup [.int (a.costAt x + b.costAt x), .int x] = _; rw [Int.le_antisymm up low]⟩
theorem least_out {a b : Crv} (h : ¬ lowOf a b ≤ highOf a b) : leastD a b = .non := by
  have e : placesL a b = [] := by
    unfold placesL
    rw [List.filter_eq_nil_iff]
    intro x _ z
    have := of_decide_eq_true z
    omega
  unfold leastD
  rw [e]
  simp [isortP]
end FW

/-! PlK13b: lines found, the law. -/
namespace FW
open PySem L2
variable {k : Nat} {S : Store}
theorem is_place_ok {c : Crv} {x : Int} (h : VOk c) : call (k + 3) 62 [dC c, .int x] S = .ok (.bl (decide (c.lo ≤ x ∧ x ≤ c.last))) ⟨[], S⟩ := by
  rw [call_def fn_law_is_place rfl rfl]
  have hl := h.len
  have w := whole_any (k := k + 1) (S := S) (b := x.natAbs) (n := 0) (d := .int x) (by simp [th])
  have l := last_ok (k := k) (S := S) (c := c) (by omega)
  have i0 : ixD (dC c) (.int 0) = some (.int c.lo) := rfl
  simp only [D.isI] at w
  by_cases q : c.lo ≤ x <;> simp [fn_law_is_place, argsEnv, w, l, i0, q]
theorem lineD_ok (a b : Crv) : okD 3 (lineD a b) = true ∧ smD (lineD a b) = true := by
  unfold lineD
  have s1 : PyData.strOk "place" = true := by decide +kernel
  have s2 : PyData.strOk "line" = true := by decide +kernel
  split
  · exact ⟨by simp [okD, okDs, s1], by simp [smD, smDs]⟩
  · exact ⟨by simp [okD, okDs, s2], by simp [smD, smDs]⟩
/-! ### the pairs of the law -/
theorem lok_of {c : Crv} (h : DatOk c) (hp : ∀ s ∈ c.st, -10 ^ 6 ≤ s.2 ∧ s.2 ≤ 10 ^ 6) (hu : units c.st ≤ 10 ^ 12) : LOk c := by
  have hpos : PosC c := fun s hs => by have := h.cnt s hs; omega
  have lo := h.lo; have la := h.last; have ln := h.len
  have v : VOk c := ⟨by omega, hpos, h.rise, hp, by omega, by omega⟩
  have e : c.last = c.lo + units c.st := rfl
  exact ⟨v, mirC_vok v ⟨by omega, by omega⟩, h, hu⟩
theorem PairC.lok {c : Crv} (h : PairC c) : LOk c := lok_of h.dat (fun s hs => by have := h.pr s hs; omega) (by
  have u := units_most (fun s hs => (h.cnt s hs).2) h.len (by decide)
  omega)
theorem lok_small {lo c n p : Int} (h1 : -10 ^ 12 ≤ c ∧ c ≤ 10 ^ 12) (h2 : -10 ≤ lo ∧ lo ≤ 10) (h3 : 1 ≤ n ∧ n ≤ 10) (h4 : -10 ^ 6 ≤ p ∧ p ≤ 10 ^ 6) : LOk ⟨lo, c, [(n, p)]⟩ := by
  have u : units [(n, p)] = n := by simp [units]
  refine lok_of ⟨by show -10 ^ 12 ≤ lo ∧ lo ≤ 10 ^ 12; omega, h1, by simp, fun s hs => ?_, by simp, fun s hs => ?_, by show lo + units [(n, p)] ≤ _; omega⟩ (fun s hs => ?_) (by show units [(n, p)] ≤ _; omega)
  · rw [List.mem_singleton.mp hs]; exact h3.1
  · rw [List.mem_singleton.mp hs]; exact h4
  · rw [List.mem_singleton.mp hs]; exact h4
theorem lok_nil {c : Int} (h1 : -10 ^ 12 ≤ c ∧ c ≤ 10 ^ 12) : LOk ⟨0, c, []⟩ :=
  lok_of ⟨by show -10 ^ 12 ≤ (0 : Int) ∧ (0 : Int) ≤ 10 ^ 12; omega, h1, by simp, by simp, by simp, by simp, by show (0 : Int) + units [] ≤ _; simp [units]⟩ (by simp) (by simp [units])
end FW

/-! PlK81: numbers between, fixed periods. -/
namespace FW
open PySem L2
variable {k : Nat} {S : Store} {s : Int} {p : Per} {pre post ps : List Per} {c : Crv}
theorem PB.buyV (h : PB p) : VOk p.buy := by
  have b := h.bl; have o := h.bo; have n := h.buy.nn
  have e : p.buy.last = p.buy.lo + units p.buy.st := rfl
  exact ⟨by omega, h.buy.pos, h.buy.rise, h.bp, ⟨by omega, by omega⟩, by omega⟩
theorem fix_pb (h : PB p) {u : Int} (hu : In p.buy u) : PB (fixP p u) := by
  have o := h.bo
  have := hu.1; have := hu.2
  exact ⟨⟨fun _ q => absurd q List.not_mem_nil, List.Pairwise.nil⟩, h.keep, by simp [fixP], h.kl, by simp [fixP], h.kp, ⟨by show _ ≤ u; omega, by rw [fix_last]; omega⟩, h.ko, h.w⟩
theorem bb_fix {n : Nat} {u : Int} (h : BB n ⟨s, pre ++ p :: post⟩) (hu : In p.buy u) : BB n ⟨s, pre ++ fixP p u :: post⟩ := by
  have l := h.len; have b := h.pos
  simp only [List.length_append, List.length_cons] at l
  refine ⟨by simp; omega, by simp; omega, h.beg, fun x hx => ?_⟩
  have per := h.per
  simp only at per hx
  rcases List.mem_append.mp hx with z | z
  · exact per x (List.mem_append.mpr (.inl z))
  · rcases List.mem_cons.mp z with rfl | z
    · exact fix_pb (per p (by simp)) hu
    · exact per x (by simp [z])
theorem law_fixed_ok {u : Int} (h : pre.length + post.length < 1000) (hp : PB p) : call (k + 2) 570 [dB ⟨s, pre ++ p :: post⟩, .int (pre.length : Nat), .int u] S = .ok (dB ⟨s, pre ++ fixP p u :: post⟩) ⟨[], S⟩ := by
  rw [call_def fn_law_fixed_v3 rfl rfl]
  have wp := with_period_ok (k := k) (S := S) (s := s) (p := p) (q := fixP p u) h
  have wp : call (k + 1) 562 [dB ⟨s, pre ++ p :: post⟩, .int (pre.length : Nat), .tup [.tup [.int u, .int (p.buy.costAt u), .tup []], .int p.want, dC p.keep]] S = .ok (dB ⟨s, pre ++ fixP p u :: post⟩) ⟨[], S⟩ := wp
  have lc := law_cost_ok (k := k) (S := S) (x := u) (hp.buyW.sane (by decide))
  have e3 := atA (pre.map dP) (post.map dP) (dP p)
  rw [List.length_map] at e3
  have e0 := dB_app s pre post p
  have i1 : ixD (dB ⟨s, pre ++ p :: post⟩) (.int 1) = some (.tup (pre.map dP ++ dP p :: post.map dP)) := by rw [e0]; rfl
  have ep : dP p = .tup [dC p.buy, .int p.want, dC p.keep] := rfl
  rw [ep] at e3 i1
  generalize dB ⟨s, pre ++ p :: post⟩ = B at *
  generalize dB ⟨s, pre ++ fixP p u :: post⟩ = B2 at *
  generalize (pre.length : Int) = i at *
  generalize pre.map dP ++ .tup [dC p.buy, .int p.want, dC p.keep] :: post.map dP = L at *
  simp [fn_law_fixed_v3, argsEnv, asg, asgs, i1, e3, lc, wp]
theorem dearer_ok {n : Nat} {u : Int} (h : BB n ⟨s, pre ++ p :: post⟩) (hn : n ≤ 6) (g : GOk s pre p post) (hu : ¬ ((gC s pre p post).best 0 ≤ u ∧ u ≤ (gC s pre p post).bestL 0)) :
    call (k + 7) 571 [dB ⟨s, pre ++ p :: post⟩, .int (pre.length : Nat), .int u, .int (leastC s (pre ++ p :: post))] S = .ok (.bl true) ⟨[], S⟩ := by
  rw [call_def fn_law_is_dearer rfl rfl]
  have l := h.len
  simp only [List.length_append, List.length_cons] at l
  have pp : PB p := h.per p (by simp)
  have ip : call (k + 6) 62 [dC p.buy, .int u] S = .ok (.bl (decide (In p.buy u))) ⟨[], S⟩ := is_place_ok (k := k + 3) (S := S) (x := u) pp.buyV
  have e3 := atA (pre.map dP) (post.map dP) (dP p)
  rw [List.length_map] at e3
  have e0 := dB_app s pre post p
  have i1 : ixD (dB ⟨s, pre ++ p :: post⟩) (.int 1) = some (.tup (pre.map dP ++ dP p :: post.map dP)) := by rw [e0]; rfl
  have ep : ixD (dP p) (.int 0) = some (dC p.buy) := rfl
  have lf := law_fixed_ok (k := k + 4) (S := S) (s := s) (pre := pre) (post := post) (u := u) (by omega) pp
  by_cases z : In p.buy u
  · rw [decide_eq_true z] at ip
    have b2 := bb_fix h z
    obtain ⟨d, r, hd⟩ := reason_ok (k := k + 2) (S := S) b2 hn
    have fw := fix_way g z
    rcases hd with ⟨rfl, way⟩ | ⟨hd, _⟩
    · have ig := fw.mp way
      have lo := least_ok (k := k) (S := S) b2 hn way
      simp only at lo
      rw [fix_least g ig] at lo
      obtain ⟨q1, q2⟩ := g_least g ig
      have lt : leastC s (pre ++ p :: post) < (gC s pre p post).costAt u := by
        by_cases e : (gC s pre p post).costAt u = leastC s (pre ++ p :: post)
        · exact absurd (q2.mp e) hu
        · omega
      generalize leastC s (pre ++ p :: post) = v at *
      generalize (gC s pre p post).costAt u = v2 at *
      generalize dB ⟨s, pre ++ p :: post⟩ = B at *
      generalize dB ⟨s, pre ++ fixP p u :: post⟩ = B2 at *
      generalize (pre.length : Int) = i at *
      generalize pre.map dP ++ dP p :: post.map dP = L at *
      generalize dP p = P0 at *
      simp [fn_law_is_dearer, argsEnv, i1, e3, ep, ip, lf, r, D.isN, lo, lt]
    · generalize leastC s (pre ++ p :: post) = v at *
      generalize dB ⟨s, pre ++ p :: post⟩ = B at *
      generalize dB ⟨s, pre ++ fixP p u :: post⟩ = B2 at *
      generalize (pre.length : Int) = i at *
      generalize pre.map dP ++ dP p :: post.map dP = L at *
      generalize dP p = P0 at *
      simp [fn_law_is_dearer, argsEnv, i1, e3, ep, ip, lf, r, hd]
  · rw [decide_eq_false z] at ip
    generalize leastC s (pre ++ p :: post) = v at *
    generalize dB ⟨s, pre ++ p :: post⟩ = B at *
    generalize (pre.length : Int) = i at *
    generalize pre.map dP ++ dP p :: post.map dP = L at *
    generalize dP p = P0 at *
    simp [fn_law_is_dearer, argsEnv, i1, e3, ep, ip]
theorem fits_at {u : Int} (hu : In p.buy u) {us : List Int} (f : fits s (pre ++ fixP p u :: post) us) : us[pre.length]? = some u := by
  obtain ⟨v1, v2, rfl, g1, g2⟩ := fits_app.mp f
  obtain ⟨t, rfl, _⟩ := (fix_fits hu).mp g2
  have := fits_len g1
  rw [← this]
  simp
theorem item81 {n : Nat} {u : Int} {s0 s1 s2 s4 s7 s9 s10 x11 : Slot} (h : BB n ⟨s, pre ++ p :: post⟩) (hn : n ≤ 6) (g : GOk s pre p post) (hu : (gC s pre p post).best 0 ≤ u ∧ u ≤ (gC s pre p post).bestL 0) :
    evSs (Vk (k + 7)) fn_law_k81_b1 ⟨[s0, s1, s2, .val (dB ⟨s, pre ++ p :: post⟩), s4, .val (.int (pre.length : Nat)), .val (.int (leastC s (pre ++ p :: post))), s7, .val (.int u), s9, s10, x11], S⟩ =
      .ok .nx ⟨[s0, s1, s2, .val (dB ⟨s, pre ++ p :: post⟩), s4, .val (.int (pre.length : Nat)), .val (.int (leastC s (pre ++ p :: post))), s7, .val (.int u), s9, s10, .val (dB ⟨s, pre ++ fixP p u :: post⟩)], S⟩ := by
  have l := h.len
  simp only [List.length_append, List.length_cons] at l
  have pp : PB p := h.per p (by simp)
  have lf := law_fixed_ok (k := k + 5) (S := S) (s := s) (pre := pre) (post := post) (u := u) (by omega) pp
  have ig := ((sup0_iff g.cn).mp hu).1
  have z : In p.buy u := ((sum_in g.c.hp.buy (oth_cn g.c) g.o).mp ig).1
  have b2 := bb_fix h z
  have way := (fix_way g z).mpr ig
  have r := reason_none (k := k + 3) (S := S) b2 hn way
  have lo := least_ok (k := k + 1) (S := S) b2 hn way
  simp only at lo
  rw [fix_least g ig, (g_least g ig).2.mpr hu] at lo
  obtain ⟨us, f⟩ := way_ex b2.cn way
  have bp := best_plan_ok (k := k + 1) (S := S) b2 hn f
  simp only at bp
  obtain ⟨bf, _⟩ := bpl_ok b2.cn ⟨us, f⟩
  have at1 := fits_at z bf
  have bi : ixD (.tup ((bpl s (pre ++ fixP p u :: post)).map .int)) (.int (pre.length : Nat)) = some (.int u) := by
    show atI _ _ = _
    have hlt : pre.length < ((bpl s (pre ++ fixP p u :: post)).map D.int).length := by rw [List.length_map]; exact (List.getElem?_eq_some_iff.mp at1).1
    rw [atI_nat hlt, List.getElem_map]
    rw [(List.getElem?_eq_some_iff.mp at1).2]
  have lf : call (k + 7) 570 [dB ⟨s, pre ++ p :: post⟩, .int (pre.length : Nat), .int u] S = _ := lf
  have r : call (k + 7) 28 [dB ⟨s, pre ++ fixP p u :: post⟩] S = _ := r
  have lo : call (k + 7) 34 [dB ⟨s, pre ++ fixP p u :: post⟩] S = _ := lo
  have bp : call (k + 7) 297 [dB ⟨s, pre ++ fixP p u :: post⟩] S = _ := bp
  generalize leastC s (pre ++ p :: post) = v at *
  generalize (bpl s (pre ++ fixP p u :: post)).map D.int = bl at *
  generalize dB ⟨s, pre ++ p :: post⟩ = B at *
  generalize dB ⟨s, pre ++ fixP p u :: post⟩ = B2 at *
  generalize (pre.length : Int) = i at *
  simp [fn_law_k81_b1, lf, r, D.isN, lo, bp, bi]
theorem rgL_at : ∀ (pre pre0 : List Per) (p : Per) (post : List Per), (rgL s pre0 (pre ++ p :: post))[pre.length]? = some (rgD (gC s (pre0 ++ pre) p post))
  | [], pre0, p, post => by simp [rgL]
  | q :: pre, pre0, p, post => by
    have := rgL_at pre (pre0 ++ [q]) p post
    rw [List.append_assoc] at this
    exact this
theorem rgL_len : ∀ (ps pre : List Per), (rgL s pre ps).length = ps.length
  | [], _ => rfl
  | p :: ps, pre => by show (rgL s (pre ++ [p]) ps).length + 1 = _; rw [rgL_len ps]; rfl
theorem period81 {n cn : Nat} {s0 s2 s4 s7 x8 x11 : Slot} (hd : Deck cn S) (hc : cn + 1 < 2 ^ 60) (h : BB n ⟨s, pre ++ p :: post⟩) (hn : n ≤ 6) (g : GOk s pre p post) :
    ∃ y8 y11 S', evSs (Vk (k + 7)) fn_law_k81_b2 ⟨[s0, .val (.ref 1), s2, .val (dB ⟨s, pre ++ p :: post⟩), s4, .val (.int (pre.length : Nat)), .val (.int (leastC s (pre ++ p :: post))), s7, x8, .val (.int ((gC s pre p post).best 0)), .val (.int ((gC s pre p post).bestL 0)), x11], S⟩ =
      .ok .nx ⟨[s0, .val (.ref 1), s2, .val (dB ⟨s, pre ++ p :: post⟩), s4, .val (.int (pre.length : Nat)), .val (.int (leastC s (pre ++ p :: post))), s7, y8, .val (.int ((gC s pre p post).best 0)), .val (.int ((gC s pre p post).bestL 0)), y11], S'⟩ ∧ Deck (cn + 1) S' := by
  have bg := best_ge g.cn 0
  have pp : PB p := h.per p (by simp)
  have hb : ∀ u, ((gC s pre p post).best 0 ≤ u ∧ u ≤ (gC s pre p post).bestL 0) → -10 ^ 12 ≤ u ∧ u ≤ 10 ^ 12 := fun u hu => by
    have ig := ((sup0_iff g.cn).mp hu).1
    have z := ((sum_in g.c.hp.buy (oth_cn g.c) g.o).mp ig).1
    have := z.1; have := z.2; have := pp.bo
    omega
  have b1 := hb _ ⟨Int.le_refl _, bg.2.1⟩
  have b2 := hb _ ⟨bg.2.1, Int.le_refl _⟩
  obtain ⟨r, S1, h1, a1, a2, d1⟩ := next_ok (k := k + 6) hd (m := (gC s pre p post).bestL 0 - (gC s pre p post).best 0 + 1) (by omega) (by omega) (by omega)
  have it := fun (u : Int) (hu : (gC s pre p post).best 0 ≤ u ∧ u ≤ (gC s pre p post).bestL 0) (x11 : Slot) => item81 (k := k) (S := S1) (u := u) (s0 := s0) (s1 := .val (.ref 1)) (s2 := s2) (s4 := s4) (s7 := s7) (s9 := .val (.int ((gC s pre p post).best 0))) (s10 := .val (.int ((gC s pre p post).bestL 0))) (x11 := x11) h hn g hu
  have q1 := dearer_ok (k := k) (S := S1) (u := (gC s pre p post).best 0 - 1) h hn g (by omega)
  have q2 := dearer_ok (k := k) (S := S1) (u := (gC s pre p post).bestL 0 + 1) h hn g (by omega)
  have le := bg.2.1
  generalize leastC s (pre ++ p :: post) = v at *
  generalize (gC s pre p post).best 0 = lo at *
  generalize (gC s pre p post).bestL 0 = hi at *
  have fd : fdivD (.int (hi - lo)) (.int 2) = some (.int ((hi - lo) / 2)) := fdiv_ii (by decide) (by omega)
  have i1 := it lo (by omega) x11
  have i2 := it hi (by omega) (.val (dB ⟨s, pre ++ fixP p lo :: post⟩))
  have i3 := it (lo + (hi - lo) / 2) (by omega) (.val (dB ⟨s, pre ++ fixP p hi :: post⟩))
  have i4 := it (lo + r) (by omega) (.val (dB ⟨s, pre ++ fixP p (lo + (hi - lo) / 2) :: post⟩))
  generalize dB ⟨s, pre ++ fixP p lo :: post⟩ = B1 at *
  generalize dB ⟨s, pre ++ fixP p hi :: post⟩ = B2 at *
  generalize dB ⟨s, pre ++ fixP p (lo + (hi - lo) / 2) :: post⟩ = B3 at *
  generalize dB ⟨s, pre ++ fixP p (lo + r) :: post⟩ = B4 at *
  generalize dB ⟨s, pre ++ p :: post⟩ = B at *
  generalize (pre.length : Int) = i at *
  generalize (hi - lo) / 2 = hf at *
  clear it hb
  refine ⟨.val (.int (lo + r)), .val B4, S1, ?_, d1⟩
  simp [fn_law_k81_b2, fd, h1, forL, asg, i1, i2, i3, i4, q1, q2]
/-! ### the chain -/
theorem bpl_take : ∀ {pre : List Per} {s : Int} {post : List Per}, (bpl s (pre ++ post)).drop pre.length = bpl (stockAt s pre ((bpl s (pre ++ post)).take pre.length)) post
  | [], s, post => by
    have : stockAt s [] ((bpl s ([] ++ post)).take ([] : List Per).length) = s := by simp [stockAt]
    rw [this]; rfl
  | p :: pre, s, post => bpl_take (pre := pre) (s := s + (hC s p (pre ++ post)).best 0 - p.want) (post := post)
theorem fixL_pb : ∀ {ps : List Per} {us : List Int} {s : Int}, (∀ q ∈ ps, PB q) → fits s ps us → ∀ q ∈ fixL ps us, PB q
  | [], us, s, _, f, q, hq => absurd hq (by
    have f : us = [] := f
    subst f
    simp [fixL])
  | p :: ps, _, s, h, ⟨u, r, rfl, h1, h2, h3, h4, h5⟩, q, hq => by
    rcases List.mem_cons.mp hq with rfl | z
    · exact fix_pb (h p (by simp)) ⟨h1, h2⟩
    · exact fixL_pb (fun x hx => h x (by simp [hx])) h5 q z
theorem fixL_snoc : ∀ {ps : List Per} {us : List Int} {p : Per} {u : Int}, us.length = ps.length → fixL (ps ++ [p]) (us ++ [u]) = fixL ps us ++ [fixP p u]
  | [], [], _, _, _ => rfl
  | [], _ :: _, _, _, h => by simp at h
  | _ :: _, [], _, _, h => by simp at h
  | q :: ps, v :: us, p, u, h => by
    show fixP q v :: fixL (ps ++ [p]) (us ++ [u]) = fixP q v :: (fixL ps us ++ [fixP p u])
    rw [fixL_snoc (by simpa using h)]
/-- the chain behind j fixed periods -/
def chL (s : Int) (ps : List Per) (j : Nat) : List Per := fixL (ps.take j) ((bpl s ps).take j) ++ ps.drop j
theorem chain_step {n : Nat} {j : Nat} {s0 s1 s2 s3 s6 s7 s8 s9 s10 s11 : Slot} (h : BB n ⟨s, ps⟩) (hn : n ≤ 6) (f : ∃ us, fits s ps us) (hj : j < ps.length) :
    evSs (Vk (k + 7)) fn_law_k81_b3 ⟨[s0, s1, s2, s3, .val (dB ⟨s, chL s ps j⟩), .val (.int (j : Nat)), s6, s7, s8, s9, s10, s11], S⟩ =
      .ok .nx ⟨[s0, s1, s2, s3, .val (dB ⟨s, chL s ps (j + 1)⟩), .val (.int (j : Nat)), s6, s7, s8, s9, s10, s11], S⟩ := by
  obtain ⟨bf, _⟩ := bpl_ok h.cn f
  simp only at bf
  have hl := h.len; have per := h.per; have beg := h.beg
  simp only at hl per beg
  have hs : ps = ps.take j ++ ps[j] :: ps.drop (j + 1) := by rw [← List.drop_eq_getElem_cons hj, List.take_append_drop]
  have hlen : (ps.take j).length = j := by rw [List.length_take]; omega
  have b1 := bpl_take (pre := ps.take j) (s := s) (post := ps.drop j)
  rw [List.take_append_drop, hlen] at b1
  have bl := bpl_len ps s
  have e1 : chL s ps j = fixL (ps.take j) ((bpl s ps).take j) ++ ps[j] :: ps.drop (j + 1) := by unfold chL; rw [List.drop_eq_getElem_cons hj]
  have sp : fits s (ps.take j) ((bpl s ps).take j) ∧ fits (stockAt s (ps.take j) ((bpl s ps).take j)) (ps.drop j) ((bpl s ps).drop j) := by
    have := bf
    rw [← List.take_append_drop j ps] at this
    obtain ⟨u1, u2, e, q1, q2⟩ := fits_app.mp this
    rw [List.take_append_drop] at e
    have l1 := fits_len q1
    rw [hlen] at l1
    have t1 : (bpl s ps).take j = u1 := by rw [e, List.take_left' l1]
    have t2 : (bpl s ps).drop j = u2 := by rw [e, List.drop_left' l1]
    rw [t1, t2]
    exact ⟨q1, q2⟩
  obtain ⟨f1, f2⟩ := sp
  have e2 : chL s ps (j + 1) = fixL (ps.take j) ((bpl s ps).take j) ++ fixP ps[j] ((hC (stockAt s (ps.take j) ((bpl s ps).take j)) ps[j] (ps.drop (j + 1))).best 0) :: ps.drop (j + 1) := by
    unfold chL
    have hjb : j < (bpl s ps).length := by omega
    rw [List.take_succ_eq_append_getElem hj, List.take_succ_eq_append_getElem hjb, fixL_snoc (by rw [List.length_take, List.length_take]; omega), List.append_assoc]
    have : (bpl s ps)[j] = (hC (stockAt s (ps.take j) ((bpl s ps).take j)) ps[j] (ps.drop (j + 1))).best 0 := by
      rw [List.drop_eq_getElem_cons hjb, List.drop_eq_getElem_cons hj] at b1
      have := List.cons.inj b1
      exact this.1
    rw [this]; rfl
  rw [List.drop_eq_getElem_cons hj] at f2
  have m1 : ∀ q ∈ ps.take j, PB q := fun q hq => per q (List.mem_of_mem_take hq)
  have m2 : PB ps[j] := per _ (List.getElem_mem hj)
  have m3 : ∀ q ∈ ps.drop (j + 1), PB q := fun q hq => per q (List.mem_of_mem_drop hq)
  have l3 : (ps.drop (j + 1)).length = ps.length - (j + 1) := List.length_drop
  rw [e1, e2]
  have ul : ((bpl s ps).take j).length = j := by rw [List.length_take]; omega
  have fl : (fixL (ps.take j) ((bpl s ps).take j)).length = j := by rw [fixL_len (by rw [ul, hlen]), hlen]
  generalize ps[j] = p at *
  generalize ps.drop (j + 1) = post at *
  generalize ps.take j = pre at *
  generalize (bpl s ps).take j = u1 at *
  have fx : fits s (fixL pre u1) u1 := (fixL_fits f1).mpr rfl
  have st := fixL_stock f1
  obtain ⟨g, eb⟩ := chain_next (fun q hq => (m1 q hq).cn) m2.cn (fun q hq => (m3 q hq).cn) f1 f2
  have pb := fixL_pb m1 f1
  generalize fixL pre u1 = F at *
  have bb : BB n ⟨s, F ++ p :: post⟩ := ⟨by simp; omega, by simp; omega, beg, fun q hq => by
    rcases List.mem_append.mp hq with z | z
    · exact pb q z
    · rcases List.mem_cons.mp z with rfl | z
      · exact m2
      · exact m3 q z⟩
  have ra := ranges_ok (k := k + 1) (S := S) bb hn (us := u1 ++ (bpl s ps).drop j) (fits_app.mpr ⟨u1, _, rfl, fx, by rw [st]; exact f2⟩)
  have ra : call (k + 7) 340 [dB ⟨s, F ++ p :: post⟩] S = .ok (.tup (rgL s [] (F ++ p :: post))) ⟨[], S⟩ := ra
  have at1 := rgL_at (s := s) F [] p post
  have ix1 : ixD (.tup (rgL s [] (F ++ p :: post))) (.int (j : Nat)) = some (.tup [.int ((gC s F p post).best 0), .int ((gC s F p post).bestL 0)]) := by
    show atI _ _ = _
    have hlt : j < (rgL s [] (F ++ p :: post)).length := by rw [rgL_len]; simp; omega
    rw [atI_nat hlt]
    rw [fl] at at1
    rw [(List.getElem?_eq_some_iff.mp at1).2]; rfl
  have lf := law_fixed_ok (k := k + 5) (S := S) (s := s) (pre := F) (post := post) (u := (gC s F p post).best 0) (by omega) m2
  have lf : call (k + 7) 570 [dB ⟨s, F ++ p :: post⟩, .int (F.length : Nat), .int ((gC s F p post).best 0)] S = _ := lf
  rw [fl] at lf
  rw [← eb]
  generalize (gC s F p post).best 0 = b0 at *
  generalize (gC s F p post).bestL 0 = b2 at *
  generalize rgL s [] (F ++ p :: post) = R at *
  generalize dB ⟨s, F ++ p :: post⟩ = B at *
  generalize dB ⟨s, F ++ fixP p b0 :: post⟩ = B2 at *
  generalize (j : Int) = i at *
  simp [fn_law_k81_b3, ra, ix1, lf]
theorem chain_end {n : Nat} (h : BB n ⟨s, ps⟩) (f : ∃ us, fits s ps us) : BB n ⟨s, chL s ps ps.length⟩ ∧ fits s (chL s ps ps.length) (bpl s ps) ∧ bpl s (chL s ps ps.length) = bpl s ps ∧ leastC s (chL s ps ps.length) = leastC s ps := by
  obtain ⟨bf, _⟩ := bpl_ok h.cn f
  simp only at bf
  have bl := bpl_len ps s
  have e : chL s ps ps.length = fixL ps (bpl s ps) := by
    unfold chL
    rw [List.take_length, List.drop_length, List.append_nil, List.take_of_length_le (by omega)]
  rw [e]
  have hl := h.len; have hp := h.pos
  simp only at hl hp
  have bb : BB n ⟨s, fixL ps (bpl s ps)⟩ := ⟨by show (fixL ps (bpl s ps)).length ≤ n; rw [fixL_len bl]; exact hl, by show 1 ≤ (fixL ps (bpl s ps)).length; rw [fixL_len bl]; exact hp, h.beg, fixL_pb h.per bf⟩
  have fx : fits s (fixL ps (bpl s ps)) (bpl s ps) := (fixL_fits bf).mpr rfl
  obtain ⟨cf, _⟩ := bpl_ok bb.cn ⟨_, fx⟩
  have e2 := (fixL_fits bf).mp cf
  simp only at e2
  refine ⟨bb, fx, e2, ?_⟩
  have c1 := bpl_cost bb.cn ⟨_, fx⟩
  have c2 := bpl_cost h.cn f
  simp only at c1 c2
  rw [← c1, ← c2, e2, fixL_pcost bf]
end FW

/-! PlK81b: the law of k81. -/
namespace FW
open PySem L2
variable {k : Nat} {S : Store} {s : Int} {p : Per} {pre post ps : List Per} {c : Crv}
theorem chL_0 (s : Int) (ps : List Per) : chL s ps 0 = ps := by
  unfold chL
  rw [List.take_zero, List.drop_zero]; rfl
theorem ne_tup2 (a b : Int) : neD (.tup [.int a, .int b]) (.tup [.int a, .int b]) = some (.bl false) := by
  rw [ne_ok (by simp [okD, okDs]) (by simp [okD, okDs]), eqv_self _ (by simp [D.pure, D.pures])]
  rfl
theorem ne_tupI (l : List Int) : neD (.tup (l.map .int)) (.tup (l.map .int)) = some (.bl false) := by
  have pi : ∀ l : List Int, D.pures (l.map .int) = true := fun l => by
    induction l with
    | nil => rfl
    | cons a l ih => simp [D.pures, D.pure, ih]
  rw [ne_ok (by simp [okD]) (by simp [okD]), eqv_self _ (by simp [D.pure, pi])]
  rfl
def cn_ (n : Nat) : Nat := n + 400
theorem turn81 {cn i : Nat} {s0 x3 x4 x5 x6 x7 x8 x9 x10 x11 : Slot} (hd : Deck cn S) (hc : cn + 1000 < 2 ^ 60) :
    ∃ y3 y4 y5 y6 y7 y8 y9 y10 y11 S', evSs (Vk (k + 7)) fn_law_k81_b4 ⟨[s0, .val (.ref 1), .val (.int (i : Int)), x3, x4, x5, x6, x7, x8, x9, x10, x11], S⟩ =
      .ok .nx ⟨[s0, .val (.ref 1), .val (.int (i : Int)), y3, y4, y5, y6, y7, y8, y9, y10, y11], S'⟩ ∧ Deck (cn + 1000) S' := by
  obtain ⟨g, S1, h1, g1, g2, d1⟩ := great_ok (k := k + 5) hd (by omega)
  obtain ⟨b, S2, h2, bk, sf, d2⟩ := book_ok (k := k + 3) (m := 5) (safe := true) d1 (by omega) g1 (by omega) (by decide) (by decide)
  have h1 : call (k + 7) 48 [.ref 1] S = .ok (.int g) ⟨[], S1⟩ := h1
  have h2 : call (k + 7) 256 [.ref 1, .int g, .int 5, .bl true] S1 = .ok (dB b) ⟨[], S2⟩ := h2
  obtain ⟨bb, mk⟩ := mk_of bk g1 g2 (by decide)
  obtain ⟨us, fu⟩ := sf rfl
  obtain ⟨s, ps⟩ := b
  simp only at fu
  have cns := bb.cn
  simp only at cns
  have hl := bb.len; have hp := bb.pos
  simp only at hl hp
  have way : Way (pt s) ps := far_way (pt_cn s) cns (pt_in.mpr rfl) fu
  have lo := fun S => least_ok (k := k + 1) (S := S) bb (by decide) way
  have lo : ∀ S, call (k + 7) 34 [dB ⟨s, ps⟩] S = .ok (.int (leastC s ps)) ⟨[], S⟩ := lo
  have ra := ranges_ok (k := k + 1) (S := S2) bb (by decide) fu
  have ra : call (k + 7) 340 [dB ⟨s, ps⟩] S2 = .ok (.tup (rgL s [] ps)) ⟨[], S2⟩ := ra
  obtain ⟨s6, e6, y5, y8, y9, y10, y11, S6, rfl, d6⟩ := forL_all (t := .tup [.nm 5, .tup [.nm 9, .nm 10]]) (body := evSs (Vk (k + 7)) fn_law_k81_b2) (els := evSs (Vk (k + 7)) .nil) (l := enumL 0 (rgL s [] ps))
    (fun j st => ∃ y5 y8 y9 y10 y11 S6, st = ⟨[s0, .val (.ref 1), .val (.int (i : Int)), .val (dB ⟨s, ps⟩), x4, y5, .val (.int (leastC s ps)), .val (.tup (rgL s [] ps)), y8, y9, y10, y11], S6⟩ ∧ Deck (cn_ cn + j) S6)
    (fun j d st hj ⟨y5, y8, y9, y10, y11, S6, hst, d6⟩ => by
      subst hst
      obtain ⟨a, ha, rfl⟩ := enumL_get 0 _ _ _ hj
      have hjl : j < ps.length := by
        have := (List.getElem?_eq_some_iff.mp ha).1
        rw [rgL_len] at this
        exact this
      clear hj
      have hs : ps = ps.take j ++ ps[j] :: ps.drop (j + 1) := by
        rw [← List.drop_eq_getElem_cons hjl, List.take_append_drop]
      have hlen : (ps.take j).length = j := by rw [List.length_take]; omega
      generalize ps.take j = pre at *
      generalize ps[j] = p at *
      generalize ps.drop (j + 1) = post at *
      subst hs
      have at1 := rgL_at (s := s) pre [] p post
      rw [hlen, ha] at at1
      cases at1
      have g := gOk_of (fun q z => cns q (by simp [z])) (cns p (by simp)) (fun q z => cns q (by simp [z])) fu
      obtain ⟨z8, z11, S7, e7, d7⟩ := period81 (k := k) (S := S6) (s0 := s0) (s2 := .val (.int (i : Int))) (s4 := x4) (s7 := .val (.tup (rgL s [] (pre ++ p :: post)))) (x8 := y8) (x11 := y11) d6 (by unfold cn_; omega) bb (by decide) g
      rw [hlen] at e7
      rw [show ((0 + j : Nat) : Int) = (j : Int) by omega]
      exact ⟨_, _, rfl, e7, _, _, _, _, _, _, rfl, d7⟩) (st := ⟨[s0, .val (.ref 1), .val (.int (i : Int)), .val (dB ⟨s, ps⟩), x4, x5, .val (.int (leastC s ps)), .val (.tup (rgL s [] ps)), x8, x9, x10, x11], S2⟩) ⟨_, _, _, _, _, _, rfl, d2.mono (by unfold cn_; omega)⟩
  rw [enumL_len, rgL_len] at d6
  have bp := best_plan_ok (k := k + 1) (S := S6) bb (by decide) fu
  have bp : call (k + 7) 297 [dB ⟨s, ps⟩] S6 = .ok (.tup ((bpl s ps).map .int)) ⟨[], S6⟩ := bp
  obtain ⟨f0, hf0⟩ : ∃ x : Int, ixD (.tup ((bpl s ps).map .int)) (.int 0) = some (.int x) ∧ ∃ hi : Int, ixD (.tup (rgL s [] ps)) (.int 0) = some (.tup [.int x, .int hi]) := by
    cases ps with
    | nil => simp at hp
    | cons p post =>
      obtain ⟨_, e⟩ := chain_next (s := s) (pre := []) (u1 := []) (by simp) (cns p (by simp)) (fun q z => cns q (by simp [z])) rfl fu
      have e : (gC s [] p post).best 0 = (hC s p post).best 0 := e
      refine ⟨(hC s p post).best 0, ?_, (gC s [] p post).bestL 0, ?_⟩
      · show atI ((bpl s (p :: post)).map D.int) 0 = _
        rw [bpl, List.map_cons, atI_0]
      · rw [← e]
        show atI (rgL s [] (p :: post)) 0 = _
        rw [rgL, atI_0]; rfl
  obtain ⟨ib, hi, ir⟩ := hf0
  have hrn := rng1_nat (n := ps.length) (by omega)
  have i1 : ixD (dB ⟨s, ps⟩) (.int 1) = some (.tup (ps.map dP)) := rfl
  have ln : lenD [.tup (ps.map dP)] = some (.int (ps.length : Nat)) := by
    have : (ps.map dP).length = ps.length := by simp
    rw [← this]; rfl
  obtain ⟨s7, e7, z5, rfl⟩ := forL_all (t := .nm 5) (body := evSs (Vk (k + 7)) fn_law_k81_b3) (els := evSs (Vk (k + 7)) .nil) (l := rangeL 0 ps.length)
    (fun j st => ∃ z5, st = ⟨[s0, .val (.ref 1), .val (.int (i : Int)), .val (dB ⟨s, ps⟩), .val (dB ⟨s, chL s ps j⟩), z5, .val (.int (leastC s ps)), .val (.tup (rgL s [] ps)), y8, y9, y10, y11], S6⟩)
    (fun j d st hj ⟨z5, hst⟩ => by
      subst hst
      obtain ⟨hj', rfl⟩ := rangeL_at hj
      rw [Int.zero_add]
      exact ⟨_, _, rfl, chain_step bb (by decide) ⟨us, fu⟩ hj', _, rfl⟩) (st := ⟨[s0, .val (.ref 1), .val (.int (i : Int)), .val (dB ⟨s, ps⟩), .val (dB ⟨s, chL s ps 0⟩), y5, .val (.int (leastC s ps)), .val (.tup (rgL s [] ps)), y8, y9, y10, y11], S6⟩) ⟨_, rfl⟩
  rw [rangeL_len] at e7
  rw [chL_0] at e7
  obtain ⟨cb, cf, c1, c2⟩ := chain_end bb ⟨us, fu⟩
  have cw : Way (pt s) (chL s ps ps.length) := far_way (pt_cn s) cb.cn (pt_in.mpr rfl) cf
  have bp2 := best_plan_ok (k := k + 1) (S := S6) cb (by decide) cf
  have bp2 : call (k + 7) 297 [dB ⟨s, chL s ps ps.length⟩] S6 = .ok (.tup ((bpl s (chL s ps ps.length)).map .int)) ⟨[], S6⟩ := bp2
  have lo2 := least_ok (k := k + 1) (S := S6) cb (by decide) cw
  have lo2 : call (k + 7) 34 [dB ⟨s, chL s ps ps.length⟩] S6 = .ok (.int (leastC s (chL s ps ps.length))) ⟨[], S6⟩ := lo2
  rw [c1] at bp2
  rw [c2] at lo2
  have n1 := ne_tup2 f0 hi
  have n2 := ne_tupI (bpl s ps)
  have lo1 := lo S2
  refine ⟨.val (dB ⟨s, ps⟩), .val (dB ⟨s, chL s ps ps.length⟩), z5, .val (.int (leastC s ps)), .val (.tup (rgL s [] ps)), y8, y9, y10, y11, S6, ?_, d6.mono (by unfold cn_; omega)⟩
  generalize leastC s ps = v at *
  generalize (bpl s ps).map D.int = bl at *
  generalize rgL s [] ps = R at *
  generalize ps.map dP = L at *
  generalize dB ⟨s, chL s ps ps.length⟩ = B2 at *
  generalize dB ⟨s, ps⟩ = B at *
  have it : ∀ a b : Int, ixD (.tup [.int a, .int b]) (.int 1) = some (.int b) := fun _ _ => rfl
  simp [-ix_t, fn_law_k81_b4, h1, h2, lo1, ra, e6, ir, bp, ib, it, n1, i1, ln, hrn, e7, bp2, n2, lo2]
theorem law_plain {k : Nat} {ns : List Int} (hn : ns.length ≤ 63) : ∃ s, callF P gv WF cls (k + 8) 572 [.scr (ns.map .int)] [] = .ok (.bl true) s := by
  suffices h : ∃ s, call (k + 8) 572 [.scr (ns.map .int)] [] = .ok (.bl true) s by
    obtain ⟨s, h⟩ := h
    unfold call at h
    cases e : callF P gv WF cls (k + 8) 572 [.scr (ns.map .int)] [] with
    | ok d s' => rw [e] at h; cases h; exact ⟨_, rfl⟩
    | exc _ _ => rw [e] at h; cases h
    | bad => rw [e] at h; cases h
  rw [call_def fn_law_k81 rfl rfl]
  obtain ⟨S0, h0, d0⟩ := deck1_ok (k := k + 6) hn
  have hr := rng1_nat (n := 5) (by decide)
  simp only [show ((5 : Nat) : Int) = 5 from rfl] at hr
  obtain ⟨s3, e3, x2, x3, x4, x5, x6, x7, x8, x9, x10, x11, S', rfl, d3⟩ := forL_all (t := .nm 2) (body := evSs (Vk (k + 7)) fn_law_k81_b4) (els := evSs (Vk (k + 7)) .nil) (l := rangeL 0 5)
    (fun i st => ∃ x2 x3 x4 x5 x6 x7 x8 x9 x10 x11 S', st = ⟨[.val (.scr (ns.map .int)), .val (.ref 1), x2, x3, x4, x5, x6, x7, x8, x9, x10, x11], S'⟩ ∧ Deck (1000 * i) S')
    (fun i d st hd' ⟨x2, x3, x4, x5, x6, x7, x8, x9, x10, x11, S', hst, d3⟩ => by
      subst hst
      obtain ⟨hi, rfl⟩ := rangeL_at hd'
      obtain ⟨y3, y4, y5, y6, y7, y8, y9, y10, y11, S6, e, d6⟩ := turn81 (k := k) (i := i) (s0 := .val (.scr (ns.map .int))) (x3 := x3) (x4 := x4) (x5 := x5) (x6 := x6) (x7 := x7) (x8 := x8) (x9 := x9) (x10 := x10) (x11 := x11) d3 (by omega)
      rw [Int.zero_add]
      exact ⟨_, _, rfl, e, _, _, _, _, _, _, _, _, _, _, _, rfl, d6.mono (by omega)⟩)
    (st := ⟨[.val (.scr (ns.map .int)), .val (.ref 1), .non, .non, .non, .non, .non, .non, .non, .non, .non, .non], S0⟩) ⟨_, _, _, _, _, _, _, _, _, _, _, rfl, d0.mono (by omega)⟩
  exact ⟨⟨[], S'⟩, by simp [fn_law_k81, argsEnv, h0, hr, e3]⟩
end FW

namespace FW
theorem plain : ∀ ns : List Int, ns.length ≤ 63 → ∃ s, callF P gv 1000000 cls 8 572 [.scr (ns.map .int)] [] = .ok (.bl true) s := fun ns h => law_plain (k := 0) h
end FW
open PySem PySem.W PySem.Calls PyProof.Rows
set_option maxRecDepth 100000 in
set_option maxHeartbeats 0 in
theorem PySem.Challenge.cw_dearcurves_k81_whole_numbers_between_holds : PySem.Challenge.rw_dearcurves_k81_whole_numbers_between.Holds := by
  w_on; o_law
  refine HandSHeadRun.head_any (r := OpenLaw.row PySem.Challenge.rw_dearcurves_k81_whole_numbers_between) (q := view (OpenLaw.row PySem.Challenge.rw_dearcurves_k81_whole_numbers_between).prog [50]) (H := FW.hk) (ob := FW.ob) (M := 6000) (loose := FW.loose) (d := HandSHeadRun.topDef (OpenLaw.row PySem.Challenge.rw_dearcurves_k81_whole_numbers_between).prog 50) (kwd := []) FW.ob_eq
    (by kernel_rfl) (fun s => by kernel_rfl) FW.run (by kernel_rfl) (by kernel_rfl) (by kernel_rfl) (by rfl) (by first | assumption | decide +kernel) (by decide +kernel) ⟨rfl, rfl, rfl, rfl, rfl, by decide +kernel⟩ ?hw ?hc
  case hw => w_witness2
  case hc =>
    refine FW.walk_G (l := PySem.Challenge.rw_dearcurves_k81_whole_numbers_between) (n := 63) (k := 8) (i := 572) (x := "_law_script") (P := FW.P) (tx := FW.tx) (tb := FW.tb) (gv := FW.gv) (wf := 1000000) (T := FW.mkT FW.tb) (f := FW.fn_law_k81) rfl (by decide) (by kernel_rfl) ⟨⟨rfl, by decide, by decide⟩, rfl⟩ (by kernel_rfl) (by kernel_rfl) rfl (by kernel_rfl) ?F FW.plain
    intro w mg h Y G
    obtain ⟨K, KX, c⟩ := Y
    exact ⟨K, KX, FW.prg_of KX G (by kernel_rfl) FW.ck FW.ct (congrArg (fun z : FW.Al => z.1) c) (congrArg (fun z : FW.Al => z.2) c)⟩
